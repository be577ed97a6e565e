import PyProof.Rows.All
import HandS.ForMost
import HandS.IsInst
import HandS.Deep
import HandS.Conv
import HandS.Zip
import KE.KDictKeyed
import HandS.Exc
import HandS.ExcOwn
import HandS.ExcIs
import HandS.ExcInit
import KE.KExcIs
import KE.KTryMore
import HandS.Ends
import HandS.Words
import HandS.TupAny
import HandS.TupMul
import HandS.More
import HandS.Strs
import HandS.TupLen
import KE.KDictCopyH
import PyProof.ListStr
import PyProof.TupleOfStr
import HandS.Set
import HandS.SetFor
import KE.GoesEnum
import KE.SortData
import PyProof.ReprRoads
import PyProof.ReprReads
import KE.KDictZip
import KE.GoesZip
import PyProof.IsRules
import KE.KDictDisplayH
import PyProof.RowDictHeap
import HandS.NoneIn
import PyProof.FactsAll.dict
import PyProof.NeKinds
import HandS.Style
import HandS.ExcValue
import KE.RegKTryMore
import PyProof.Rows.CountFlat
import HandS.Text
import HandS.TupSets
import KE.KIndexOf
import KE.LtSeq
import KE.LtData
import HandS.Flow
import PyProof.P3In
import KE.KRevSl
import KE.GoesMore
import PySem.Challenge.RW_delaygates_k51_times_told
import PyProof.Rows.StrJoinMade
set_option Elab.async false
set_option linter.all false
set_option maxRecDepth 100000
namespace Dv
open PySem PySem.Spec L2
def kD : Key → PyData
 | .inl i => .int i
 | .inr x => .str x
mutual
def plK : NestedKey → Bool
 | .none => true
 | .num _ => true
 | .text _ => false
 | .tup ks => plKs ks
def plKs : List NestedKey → Bool
 | [] => true
 | k :: ks => plK k && plKs ks
end
structure KOk (k : NestedKey) : Prop where
 wi : ∀ w w' : World, k.hash w = k.hash w'
 dep : k.depth ≤ 8
 pl : plK k = true
abbrev NX := NestedKey × Addr × V
def NRel (x : NX) (y : NestedKey × Addr × Value) : Prop := x.1 = y.1 ∧ x.2.1 = y.2.1 ∧ RelV x.2.2 y.2.2
def DNp (w : World) (a : Addr) (xs : List NX) (h : Heap) : Prop := ∃ (ys : List (NestedKey × Addr × Value)) (o : Obj) (es : Array DictEntry) (ep : Nat), Paired NRel xs ys ∧ h.get? a = some o ∧ o.ExactDict ∧ o.data = .dict es ep ∧ es.toList = ys.map fun y => ⟨y.1.hash w, .ref y.2.1, y.2.2⟩
def DN (w : World) (a : Addr) (xs : List NX) : HO := .ext fun h => DNp w a xs h ∧ (a == sysModules) = false ∧ (xs.map (·.1)).Nodup ∧ xs.length ≤ sizeLine
def excNames : List Str := ["DelayError", "NoFit", "NotSound", "NoPut", "NoWire", "NoBeat", "NoName", "NoText", "NoRow", "NoNet", "NoMove", "Clash"]
def isSub (n m : Str) : Bool := n == m || m == "DelayError"
structure ClsN (K : PySem.W.Frag) (n : Str) (D : Addr) : Prop where
 ns : PySem.W.nsIn K mainGlobals n = some (some (.ref D))
 ec : ExcC K D
 kt : ∀ T ∈ ["str", "int", "bool", "list", "tuple"], PySem.W.kitOne K (.ref D) (.type T) = some false
 sub : ∀ m ∈ excNames, ∀ C, PySem.W.nsIn K mainGlobals m = some (some (.ref C)) → PySem.W.kitOne K (.ref D) (.ref C) = some (isSub n m) ∧ PySem.W.exmOne K (.ref D) (.ref C) = some (isSub n m)
 ve : PySem.W.kitOne K (.ref D) (.type "ValueError") = some true
def ExH (D : Addr) (d : Option Addr) (a : Addr) : HO := .ext fun h => ∃ oe vs, h.get? a = some oe ∧ Zc (.ref D) d oe ∧ oe.data = .fields vs
def ExF (F : Hp) : Option Addr → List (Str × V) → Prop
 | none, fs => fs = []
 | some dx, fs => Rd F dx (.xd fs)
mutual
inductive Rep (K : PySem.W.Frag) (F : Hp) : V → PyData → Prop
 | non : Rep K F .non .none
 | bl (b : Bool) : Rep K F (.bl b) (.bool b)
 | int (i : Int) : Rep K F (.int i) (.int i)
 | str (x : Str) : Rep K F (.str x) (.str x)
 | lst {a : Addr} {xs : List V} {ds : List PyData} : SqL K F a xs → RepAll K F xs ds → Rep K F (.ref a) (.list ds)
 | tup {a : Addr} {xs : List V} {ds : List PyData} : SqT K F a xs → RepAll K F xs ds → Rep K F (.ref a) (.tuple ds)
 | dct {a : Addr} {kvs : List (Key × V)} {ds : List (PyData × PyData)} : Rd F a (.dK kvs) → RepKV K F kvs ds → Rep K F (.ref a) (.dict ds)
 | dcn {a : Addr} {w : World} {xs : List NX} {ds : List (PyData × PyData)} : xs ≠ [] → Rd F a (DN w a xs) → RepNK K F xs ds → Rep K F (.ref a) (.dict ds)
 | exc {a D : Addr} {d : Option Addr} {n : Str} {fs : List (Str × V)} {ds : List (PyData × PyData)} : Rd F a (ExH D d a) → ClsN K n D → ExF F d fs → RepFs K F fs ds → Rep K F (.ref a) (.dict ((.bool true, .str n) :: ds))
inductive RepFs (K : PySem.W.Frag) (F : Hp) : List (Str × V) → List (PyData × PyData) → Prop
 | nil : RepFs K F [] []
 | cons {x : Str} {v : V} {vs : List (Str × V)} {d : PyData} {ds : List (PyData × PyData)} : Rep K F v d → RepFs K F vs ds → RepFs K F ((x, v) :: vs) ((.tuple [.str x], d) :: ds)
inductive RepAll (K : PySem.W.Frag) (F : Hp) : List V → List PyData → Prop
 | nil : RepAll K F [] []
 | cons {v : V} {vs : List V} {d : PyData} {ds : List PyData} : Rep K F v d → RepAll K F vs ds → RepAll K F (v :: vs) (d :: ds)
inductive RepKV (K : PySem.W.Frag) (F : Hp) : List (Key × V) → List (PyData × PyData) → Prop
 | nil : RepKV K F [] []
 | cons {k : Key} {v : V} {vs : List (Key × V)} {d : PyData} {ds : List (PyData × PyData)} : Rep K F v d → RepKV K F vs ds → RepKV K F ((k, v) :: vs) ((kD k, d) :: ds)
inductive RepNK (K : PySem.W.Frag) (F : Hp) : List NX → List (PyData × PyData) → Prop
 | nil : RepNK K F [] []
 | cons {k : NestedKey} {b : Addr} {v : V} {vs : List NX} {d : PyData} {ds : List (PyData × PyData)} : KOk k → Rep K F (.ref b) k.data → Rep K F v d → RepNK K F vs ds → RepNK K F ((k, b, v) :: vs) ((k.data, d) :: ds)
end
section
variable {K : PySem.W.Frag} {F F' H H' : Hp}
theorem sqL_mono {a : Addr} {xs : List V} (e : Same F F') (h : SqL K F a xs) : SqL K F' a xs := e.seq h
theorem rd_mono {a : Addr} {u : HO} (e : Same F F') (h : Rd F a u) : Rd F' a u := by
 rcases h with h | ⟨o, h⟩
 ·exact .inl (e _ _ h)
 ·exact .inr ⟨o, e _ _ h⟩
theorem sqT_mono {a : Addr} {xs : List V} (e : Same F F') (h : SqT K F a xs) : SqT K F' a xs := by
 rcases h with (h | ⟨o, h⟩) | h
 ·exact .inl (.inl (e _ _ h))
 ·exact .inl (.inr ⟨o, e _ _ h⟩)
 ·exact .inr h
theorem exF_mono (e : Same F F') : ∀ {d : Option Addr} {fs : List (Str × V)}, ExF F d fs → ExF F' d fs
 | none, _, h => h
 | some _, _, h => rd_mono e h
mutual
theorem Rep.mono (e : Same F F') : ∀ {v : V} {d : PyData}, Rep K F v d → Rep K F' v d
 | _, _, .non => .non
 | _, _, .bl b => .bl b
 | _, _, .int i => .int i
 | _, _, .str x => .str x
 | _, _, .lst h r => .lst (sqL_mono e h) (RepAll.mono e r)
 | _, _, .tup h r => .tup (sqT_mono e h) (RepAll.mono e r)
 | _, _, .dct h r => .dct (rd_mono e h) (RepKV.mono e r)
 | _, _, .dcn n h r => .dcn n (rd_mono e h) (RepNK.mono e r)
 | _, _, .exc h c x r => .exc (rd_mono e h) c (exF_mono e x) (RepFs.mono e r)
theorem RepFs.mono (e : Same F F') : ∀ {vs : List (Str × V)} {ds : List (PyData × PyData)}, RepFs K F vs ds → RepFs K F' vs ds
 | _, _, .nil => .nil
 | _, _, .cons h r => .cons (Rep.mono e h) (RepFs.mono e r)
theorem RepAll.mono (e : Same F F') : ∀ {vs : List V} {ds : List PyData}, RepAll K F vs ds → RepAll K F' vs ds
 | _, _, .nil => .nil
 | _, _, .cons h r => .cons (Rep.mono e h) (RepAll.mono e r)
theorem RepKV.mono (e : Same F F') : ∀ {vs : List (Key × V)} {ds : List (PyData × PyData)}, RepKV K F vs ds → RepKV K F' vs ds
 | _, _, .nil => .nil
 | _, _, .cons h r => .cons (Rep.mono e h) (RepKV.mono e r)
theorem RepNK.mono (e : Same F F') : ∀ {vs : List NX} {ds : List (PyData × PyData)}, RepNK K F vs ds → RepNK K F' vs ds
 | _, _, .nil => .nil
 | _, _, .cons c k h r => .cons c (Rep.mono e k) (Rep.mono e h) (RepNK.mono e r)
end
theorem RepAll.length : ∀ {vs : List V} {ds : List PyData}, RepAll K F vs ds → vs.length = ds.length
 | _, _, .nil => rfl
 | _, _, .cons _ r => by simp [RepAll.length r]
theorem RepAll.get : ∀ {vs : List V} {ds : List PyData} {i : Nat} {d : PyData}, RepAll K F vs ds → ds[i]? = some d → ∃ v, vs[i]? = some v ∧ Rep K F v d
 | _, _, _, _, .nil, e => by simp at e
 | _, _, 0, _, .cons r _, e => by simp at e; subst e; exact ⟨_, rfl, r⟩
 | _, _, i + 1, x, .cons _ t, e => by
  obtain ⟨u, h1, h2⟩ := RepAll.get (i := i) (d := x) t (by simpa using e)
  exact ⟨u, by simpa using h1, h2⟩
theorem RepAll.append : ∀ {xs ys : List V} {us ws : List PyData}, RepAll K F xs us → RepAll K F ys ws → RepAll K F (xs ++ ys) (us ++ ws)
 | _, _, _, _, .nil, s => s
 | _, _, _, _, .cons r t, s => .cons r (RepAll.append t s)
theorem RepAll.take : ∀ {xs : List V} {us : List PyData} (n : Nat), RepAll K F xs us → RepAll K F (xs.take n) (us.take n)
 | _, _, 0, _ => .nil
 | _, _, _ + 1, .nil => .nil
 | _, _, n + 1, .cons r t => .cons r (RepAll.take n t)
theorem RepAll.drop : ∀ {xs : List V} {us : List PyData} (n : Nat), RepAll K F xs us → RepAll K F (xs.drop n) (us.drop n)
 | _, _, 0, r => r
 | _, _, _ + 1, .nil => .nil
 | _, _, n + 1, .cons _ t => RepAll.drop n t
theorem RepAll.set {x : V} {u : PyData} (r : Rep K F x u) : ∀ {xs : List V} {us : List PyData} (i : Nat), RepAll K F xs us → RepAll K F (xs.set i x) (us.set i u)
 | _, _, _, .nil => .nil
 | _, _, 0, .cons _ t => .cons r t
 | _, _, i + 1, .cons q t => .cons q (RepAll.set r i t)
theorem RepAll.dropLast {xs : List V} {us : List PyData} (h : RepAll K F xs us) : RepAll K F xs.dropLast us.dropLast := by
 rw [List.dropLast_eq_take, List.dropLast_eq_take, h.length]; exact h.take _
theorem RepAll.strs : ∀ {vs : List V} {ns : List Str}, RepAll K F vs (ns.map PyData.str) → vs = ns.map V.str
 | _, [], .nil => rfl
 | _, n :: ns, h => by
  cases h with
  | cons r t => cases r; rw [List.map_cons, RepAll.strs t]
theorem RepAll.bls : ∀ {vs : List V} {ns : List Bool}, RepAll K F vs (ns.map PyData.bool) → vs = ns.map V.bl
 | _, [], .nil => rfl
 | _, n :: ns, h => by
  cases h with
  | cons r t => cases r; rw [List.map_cons, RepAll.bls t]
theorem repAll_ints : ∀ (ns : List Int), RepAll K F (ns.map V.int) (ns.map PyData.int)
 | [] => .nil
 | n :: ns => .cons (.int n) (repAll_ints ns)
end
structure Gr (F H F' H' : Hp) : Prop where
 f : Same F F'
 h : Same H H'
 s : Same F' H'
 n : ∀ b, F' b ≠ none → F b ≠ none ∨ H b = none
theorem Gr.refl {F H : Hp} (s : Same F H) : Gr F H F H := ⟨Same.refl F, Same.refl H, s, fun _ h => .inl h⟩
theorem Gr.trans {F H F1 H1 F2 H2 : Hp} (a : Gr F H F1 H1) (b : Gr F1 H1 F2 H2) : Gr F H F2 H2 :=
 ⟨a.f.trans b.f, a.h.trans b.h, b.s, fun c h => by
  rcases b.n c h with z | z
  ·exact a.n c z
  ·exact .inr (a.h.free z)⟩
theorem same_upd {H : Hp} {p : Addr} {o : HO} (h : H p = none) : Same H (upd H p o) := fun b x e => by
 rw [upd_ne (ne_of_none e h)]
 exact e
theorem same_upd2 {F H : Hp} {p : Addr} {o : HO} (s : Same F H) : Same (upd F p o) (upd H p o) := fun b x e => by
 by_cases hb : b = p
 ·subst hb; rw [upd_same] at e ⊢; exact e
 ·rw [upd_ne hb] at e ⊢; exact s b x e
theorem Gr.new {F H : Hp} {p : Addr} {o : HO} (s : Same F H) (h : H p = none) : Gr F H (upd F p o) (upd H p o) :=
 ⟨same_upd (s.free h), same_upd h, same_upd2 s, fun b e => by
  by_cases hb : b = p
  ·subst hb; exact .inr h
  ·rw [upd_ne hb] at e; exact .inl e⟩
inductive SV where
 | frz (d : PyData)
 | own (d : PyData)
 | own2 (d : PyData)
abbrev DEnv := List (Option SV)
inductive Opd where
 | val (d : PyData)
 | slot (i : Nat)
def Own (K : PySem.W.Frag) (F H : Hp) (a : Addr) : PyData → Prop
 | .list ds => ∃ xs, H a = some (.lst xs) ∧ RepAll K F xs ds
 | .dict ds => (∃ kvs, H a = some (.dK kvs) ∧ RepKV K F kvs ds) ∨ ∃ w xs, xs ≠ [] ∧ H a = some (DN w a xs) ∧ RepNK K F xs ds
 | _ => False
theorem Own.there {K : PySem.W.Frag} {F H : Hp} {a : Addr} {d : PyData} (h : Own K F H a d) : ∃ o, H a = some o := by
 cases d with
 | list ds => obtain ⟨xs, e, _⟩ := h; exact ⟨_, e⟩
 | dict ds => rcases h with ⟨xs, e, _⟩ | ⟨w, xs, _, e, _⟩ <;> exact ⟨_, e⟩
 | _ => exact h.elim
theorem Own.mono {K : PySem.W.Frag} {F H F' H' : Hp} {a : Addr} {d : PyData} (f : Same F F') (hh : ∀ o, H a = some o → H' a = some o) (h : Own K F H a d) : Own K F' H' a d := by
 cases d with
 | list ds => obtain ⟨xs, e, r⟩ := h; exact ⟨xs, hh _ e, r.mono f⟩
 | dict ds =>
  rcases h with ⟨xs, e, r⟩ | ⟨w, xs, n, e, r⟩
  ·exact .inl ⟨xs, hh _ e, r.mono f⟩
  ·exact .inr ⟨w, xs, n, hh _ e, r.mono f⟩
 | _ => exact h.elim
structure FC where
 F0 : Hp
 H0 : Hp
 pa : List (Option Addr)
 pn : Hp
def FC.isP (C : FC) (i : Nat) : Prop := ∃ a, C.pa[i]? = some (some a)
def Inner (H : Hp) (a b : Addr) : Prop := (∃ xs, H a = some (.lst xs) ∧ V.ref b ∈ xs) ∨ ∃ kvs, H a = some (.dK kvs) ∧ ∃ k, (k, V.ref b) ∈ kvs
def InFoot (H : Hp) (ρ : DEnv) (σ : St) (b : Addr) : Prop := ∃ (i : Nat) (d : PyData) (a : Addr), ρ[i]? = some (some (.own2 d)) ∧ σ[i]? = some (some (.ref a)) ∧ (b = a ∨ Inner H a b)
def Loose (C : FC) (F H : Hp) (ρ : DEnv) (σ : St) (b : Addr) : Prop := H b ≠ none ∧ F b = none ∧ C.H0 b = none ∧ C.pn b = none ∧ ∀ (j : Nat) (e : PyData), ρ[j]? = some (some (.own e)) → σ[j]? ≠ some (some (.ref b))
inductive OwnAll (K : PySem.W.Frag) (F H : Hp) : List Addr → List PyData → Prop
 | nil : OwnAll K F H [] []
 | cons {b : Addr} {bs : List Addr} {d : PyData} {ds : List PyData} : Own K F H b d → OwnAll K F H bs ds → OwnAll K F H (b :: bs) (d :: ds)
def Deep (K : PySem.W.Frag) (F H : Hp) (a : Addr) (bs : List Addr) : PyData → Prop
 | .list ds => H a = some (.lst (bs.map V.ref)) ∧ OwnAll K F H bs ds
 | .dict kvs => ∃ (ks : List Key) (ds : List PyData), ks.length = bs.length ∧ kvs = List.zip (ks.map kD) ds ∧ H a = some (.dK (List.zip ks (bs.map V.ref))) ∧ OwnAll K F H bs ds
 | _ => False
def DpOk (K : PySem.W.Frag) (C : FC) (F H : Hp) (ρ : DEnv) (σ : St) : Prop := ∀ (i : Nat) (d : PyData), ρ[i]? = some (some (.own2 d)) → ∃ (a : Addr) (bs : List Addr), σ[i]? = some (some (.ref a)) ∧ (a :: bs).Nodup ∧ (∀ b ∈ a :: bs, Loose C F H ρ σ b) ∧ Deep K F H a bs d ∧ ∀ (j : Nat) (e : PyData), ρ[j]? = some (some (.own2 e)) → j = i
theorem OwnAll.mono {K : PySem.W.Frag} {F H F' H' : Hp} (f : Same F F') : ∀ {bs : List Addr} {ds : List PyData}, (∀ b ∈ bs, ∀ o, H b = some o → H' b = some o) → OwnAll K F H bs ds → OwnAll K F' H' bs ds
 | _, _, _, .nil => .nil
 | _, _, h, .cons x t => .cons (x.mono f (h _ List.mem_cons_self)) (OwnAll.mono f (fun b hb => h b (List.mem_cons_of_mem _ hb)) t)
theorem OwnAll.length {K : PySem.W.Frag} {F H : Hp} : ∀ {bs : List Addr} {ds : List PyData}, OwnAll K F H bs ds → bs.length = ds.length
 | _, _, .nil => rfl
 | _, _, .cons _ t => by simp [OwnAll.length t]
theorem Deep.mono {K : PySem.W.Frag} {F H F' H' : Hp} {a : Addr} {bs : List Addr} {d : PyData} (f : Same F F') (h : ∀ b ∈ a :: bs, ∀ o, H b = some o → H' b = some o) (D : Deep K F H a bs d) : Deep K F' H' a bs d := by
 cases d with
 | list ds => exact ⟨h _ List.mem_cons_self _ D.1, D.2.mono f fun b hb => h b (List.mem_cons_of_mem _ hb)⟩
 | dict kvs =>
  obtain ⟨ks, ds, h1, h2, h3, h4⟩ := D
  exact ⟨ks, ds, h1, h2, h _ List.mem_cons_self _ h3, h4.mono f fun b hb => h b (List.mem_cons_of_mem _ hb)⟩
 | _ => exact D.elim
theorem Deep.inner {K : PySem.W.Frag} {F H : Hp} {a b : Addr} {bs : List Addr} {d : PyData} (D : Deep K F H a bs d) : Inner H a b ↔ b ∈ bs := by
 cases d with
 | list ds =>
  have h := D.1
  constructor
  ·rintro (⟨xs, e, m⟩ | ⟨kvs, e, _⟩)
   ·rw [h] at e; cases e
    obtain ⟨c, hc, e⟩ := List.mem_map.mp m
    cases e; exact hc
   ·rw [h] at e; cases e
  ·exact fun m => .inl ⟨_, h, List.mem_map.mpr ⟨b, m, rfl⟩⟩
 | dict kvs =>
  obtain ⟨ks, ds, h1, h2, h3, h4⟩ := D
  constructor
  ·rintro (⟨xs, e, m⟩ | ⟨kvs, e, k, m⟩)
   ·rw [h3] at e; cases e
   ·rw [h3] at e; cases e
    have := (List.of_mem_zip m).2
    obtain ⟨c, hc, e⟩ := List.mem_map.mp this
    cases e; exact hc
  ·intro m
   obtain ⟨n, hn, e⟩ := List.getElem_of_mem m
   refine .inr ⟨_, h3, ks[n]'(by omega), ?_⟩
   have : (List.zip ks (bs.map V.ref))[n]'(by simp; omega) = (ks[n]'(by omega), V.ref b) := by simp [e]
   rw [← this]
   exact List.getElem_mem _
 | _ => exact D.elim
theorem OwnAll.map {K : PySem.W.Frag} {F H F' H' : Hp} : ∀ {bs : List Addr} {ds : List PyData}, (∀ b ∈ bs, ∀ d, Own K F H b d → Own K F' H' b d) → OwnAll K F H bs ds → OwnAll K F' H' bs ds
 | _, _, _, .nil => .nil
 | _, _, h, .cons x t => .cons (h _ List.mem_cons_self _ x) (OwnAll.map (fun b hb => h b (List.mem_cons_of_mem _ hb)) t)
theorem Deep.map {K : PySem.W.Frag} {F H F' H' : Hp} {a : Addr} {bs : List Addr} {d : PyData} (ha : ∀ o, H a = some o → H' a = some o) (h : ∀ b ∈ bs, ∀ d, Own K F H b d → Own K F' H' b d) (D : Deep K F H a bs d) : Deep K F' H' a bs d := by
 cases d with
 | list ds => exact ⟨ha _ D.1, D.2.map h⟩
 | dict kvs =>
  obtain ⟨ks, ds, h1, h2, h3, h4⟩ := D
  exact ⟨ks, ds, h1, h2, ha _ h3, h4.map h⟩
 | _ => exact D.elim
theorem DpOk.keepG {K : PySem.W.Frag} {C C' : FC} {F H F' H' : Hp} {ρ ρ' : DEnv} {σ σ' : St} (D : DpOk K C F H ρ σ) (h2 : ∀ (i : Nat) (d : PyData), ρ'[i]? = some (some (.own2 d)) → ρ[i]? = some (some (.own2 d)) ∧ σ'[i]? = σ[i]?)
  (hk : ∀ b, InFoot H ρ σ b → Loose C F H ρ σ b → (∀ o, H b = some o → H' b = some o) ∧ Loose C' F' H' ρ' σ' b) (hO : ∀ b, InFoot H ρ σ b → Loose C F H ρ σ b → ∀ d, Own K F H b d → Own K F' H' b d) : DpOk K C' F' H' ρ' σ' := fun i d e => by
 obtain ⟨q1, q2⟩ := h2 i d e
 obtain ⟨a, bs, h3, h4, h5, h6, h7⟩ := D i d q1
 have inF : ∀ b ∈ a :: bs, InFoot H ρ σ b := fun b hb => ⟨i, d, a, q1, h3, by
  rcases List.mem_cons.mp hb with z | z
  ·exact .inl z
  ·exact .inr (h6.inner.mpr z)⟩
 refine ⟨a, bs, by rw [q2]; exact h3, h4, fun b hb => (hk b (inF b hb) (h5 b hb)).2, h6.map (hk a (inF a List.mem_cons_self) (h5 a List.mem_cons_self)).1 fun b hb d ho => hO b (inF b (List.mem_cons_of_mem _ hb)) (h5 b (List.mem_cons_of_mem _ hb)) d ho, fun j e' z => h7 j e' (h2 j e' z).1⟩
theorem DpOk.keep {K : PySem.W.Frag} {C C' : FC} {F H F' H' : Hp} {ρ ρ' : DEnv} {σ σ' : St} (D : DpOk K C F H ρ σ) (f : Same F F') (h2 : ∀ (i : Nat) (d : PyData), ρ'[i]? = some (some (.own2 d)) → ρ[i]? = some (some (.own2 d)) ∧ σ'[i]? = σ[i]?)
  (hk : ∀ b, InFoot H ρ σ b → Loose C F H ρ σ b → (∀ o, H b = some o → H' b = some o) ∧ Loose C' F' H' ρ' σ' b) : DpOk K C' F' H' ρ' σ' :=
 D.keepG h2 hk fun b hb hl d ho => ho.mono f (hk b hb hl).1
theorem InFoot.mono {H : Hp} {ρ ρ' : DEnv} {σ σ' : St} {b : Addr} (h2 : ∀ (i : Nat) (d : PyData), ρ'[i]? = some (some (.own2 d)) → ρ[i]? = some (some (.own2 d)) ∧ σ'[i]? = σ[i]?) (h : InFoot H ρ' σ' b) : InFoot H ρ σ b := by
 obtain ⟨i, d, a, h1, h3, h4⟩ := h
 obtain ⟨e1, e2⟩ := h2 i d h1
 exact ⟨i, d, a, e1, by rw [← e2]; exact h3, h4⟩
theorem DpOk.loose {K : PySem.W.Frag} {C : FC} {F H : Hp} {ρ : DEnv} {σ : St} (D : DpOk K C F H ρ σ) {b : Addr} (h : InFoot H ρ σ b) : Loose C F H ρ σ b := by
 obtain ⟨i, d, a, h1, h2, h3⟩ := h
 obtain ⟨a', bs, e1, e2, e3, e4, _⟩ := D i d h1
 rw [h2] at e1; cases e1
 rcases h3 with z | z
 ·exact e3 b (by rw [z]; exact List.mem_cons_self)
 ·exact e3 b (List.mem_cons_of_mem _ (e4.inner.mp z))
structure Sim (K : PySem.W.Frag) (C : FC) (F H : Hp) (ρ : DEnv) (σ : St) : Prop where
 len : ρ.length = σ.length
 sub : Same F H
 frz : ∀ (i : Nat) (d : PyData), ρ[i]? = some (some (.frz d)) → ∃ v, σ[i]? = some (some v) ∧ Rep K F v d
 own : ∀ (i : Nat) (d : PyData), ρ[i]? = some (some (.own d)) → ∃ a, σ[i]? = some (some (.ref a)) ∧ F a = none ∧ Own K F H a d ∧ (C.H0 a = none ∨ C.pa[i]? = some (some a))
 ne : ∀ (i j : Nat) (a : Addr) (d e : PyData), ρ[i]? = some (some (.own d)) → ρ[j]? = some (some (.own e)) → σ[i]? = some (some (.ref a)) → σ[j]? = some (some (.ref a)) → i = j
 par : ∀ (i : Nat) (a : Addr), C.pa[i]? = some (some a) → ∃ d, ρ[i]? = some (some (.own d)) ∧ σ[i]? = some (some (.ref a))
 f0 : Same C.F0 F
 h0 : ∀ b o, C.H0 b = some o → some b ∉ C.pa → H b = some o
 new : ∀ b, F b ≠ none → C.F0 b ≠ none ∨ C.H0 b = none
 pin : ∀ b o, C.pn b = some o → H b = some o ∧ F b = none ∧ ∀ (j : Nat) (e : PyData), ρ[j]? = some (some (.own e)) → σ[j]? ≠ some (some (.ref b))
 dp : DpOk K C F H ρ σ
section
variable {K : PySem.W.Frag} {C : FC} {F H F' H' : Hp} {ρ : DEnv} {σ : St}
theorem Sim.h0none (S : Sim K C F H ρ σ) {b : Addr} (h : H b = none) : C.H0 b = none := by
 cases e : C.H0 b with
 | none => rfl
 | some o =>
  by_cases hp : some b ∈ C.pa
  ·obtain ⟨i, hi⟩ := List.mem_iff_getElem?.mp hp
   obtain ⟨d, r, q⟩ := S.par i b hi
   obtain ⟨a, e1, _, ow, _⟩ := S.own i d r
   rw [q] at e1; cases e1
   obtain ⟨o', e2⟩ := ow.there
   rw [h] at e2; cases e2
  ·rw [S.h0 b o e hp] at h; cases h
theorem Sim.grow (S : Sim K C F H ρ σ) (g : Gr F H F' H') : Sim K C F' H' ρ σ where
 len := S.len
 sub := g.s
 frz := fun i d e => let ⟨v, h1, h2⟩ := S.frz i d e; ⟨v, h1, h2.mono g.f⟩
 own := fun i d e => by
  obtain ⟨a, h1, h2, h3, h4⟩ := S.own i d e
  refine ⟨a, h1, ?_, h3.mono g.f fun o q => g.h a o q, h4⟩
  cases q : F' a with
  | none => rfl
  | some o =>
   rcases g.n a (by rw [q]; intro z; cases z) with z | z
   ·exact absurd h2 z
   ·obtain ⟨o', e'⟩ := h3.there
    rw [z] at e'; cases e'
 ne := S.ne
 par := S.par
 f0 := S.f0.trans g.f
 h0 := fun b o e hb => g.h b o (S.h0 b o e hb)
 new := fun b e => by
  rcases g.n b e with z | z
  ·exact S.new b z
  ·exact .inr (S.h0none z)
 pin := fun b o e => by
  obtain ⟨h1, h2, h3⟩ := S.pin b o e
  refine ⟨g.h b o h1, ?_, h3⟩
  cases q : F' b with
  | none => rfl
  | some u =>
   rcases g.n b (by rw [q]; intro z; cases z) with z | z
   ·exact absurd h2 z
   ·rw [z] at h1; cases h1
 dp := S.dp.keep g.f (fun i d e => ⟨e, rfl⟩) fun b _ ⟨h1, h2, h3, h4, h5⟩ => by
  cases q : H b with
  | none => exact absurd q h1
  | some o =>
   refine ⟨fun o' e => g.h b o' (q ▸ e), ⟨fun z => ?_, ?_, h3, h4, h5⟩⟩
   ·rw [g.h b o q] at z; cases z
   cases q' : F' b with
   | none => rfl
   | some u =>
    rcases g.n b (by rw [q']; intro z; cases z) with z | z
    ·exact absurd h2 z
    ·rw [z] at q; cases q
theorem get_set {α : Type} {l : List α} {i j : Nat} {x : α} (h : i < l.length) : (l.set i x)[j]? = if j = i then some x else l[j]? := by
 by_cases e : j = i
 ·subst e; rw [if_pos rfl, List.getElem?_set_self h]
 ·rw [if_neg e, List.getElem?_set_ne (Ne.symm e)]
theorem Sim.setF (S : Sim K C F H ρ σ) {i : Nat} {v : V} {d : PyData} (hi : i < σ.length) (hp : ¬ C.isP i) (r : Rep K F v d) : Sim K C F H (ρ.set i (some (.frz d))) (σ.set i (some v)) where
 len := by simp [S.len]
 sub := S.sub
 frz := fun j e h => by
  rw [get_set (S.len ▸ hi)] at h
  rw [get_set hi]
  split at h
  ·rename_i q; cases h; rw [if_pos q]; exact ⟨v, rfl, r⟩
  ·rename_i q; rw [if_neg q]; exact S.frz j e h
 own := fun j e h => by
  rw [get_set (S.len ▸ hi)] at h
  rw [get_set hi]
  split at h
  ·cases h
  ·rename_i q; rw [if_neg q]; exact S.own j e h
 ne := fun j k a e e' h1 h2 h3 h4 => by
  rw [get_set (S.len ▸ hi)] at h1 h2
  split at h1
  ·cases h1
  ·rename_i q1
   split at h2
   ·cases h2
   ·rename_i q2
    rw [get_set hi, if_neg q1] at h3
    rw [get_set hi, if_neg q2] at h4
    exact S.ne j k a e e' h1 h2 h3 h4
 par := fun j a h => by
  have q : j ≠ i := fun z => hp ⟨a, z ▸ h⟩
  rw [get_set (S.len ▸ hi), get_set hi, if_neg q, if_neg q]
  exact S.par j a h
 f0 := S.f0
 h0 := S.h0
 new := S.new
 pin := fun b o e => by
  obtain ⟨h1, h2, h3⟩ := S.pin b o e
  refine ⟨h1, h2, fun j x h => ?_⟩
  rw [get_set (S.len ▸ hi)] at h
  split at h
  ·cases h
  ·rename_i q; rw [get_set hi, if_neg q]; exact h3 j x h
 dp := S.dp.keep (Same.refl F) (fun j e h => by
  rw [get_set (S.len ▸ hi)] at h
  split at h
  ·cases h
  ·rename_i q; rw [get_set hi, if_neg q]; exact ⟨h, rfl⟩) fun b _ ⟨h1, h2, h3, h4, h5⟩ => ⟨fun o e => e, h1, h2, h3, h4, fun j x h => by
  rw [get_set (S.len ▸ hi)] at h
  split at h
  ·cases h
  ·rename_i q; rw [get_set hi, if_neg q]; exact h5 j x h⟩
theorem Sim.setO (S : Sim K C F H ρ σ) {i : Nat} {a : Addr} {d : PyData} (hi : i < σ.length) (hp : ¬ C.isP i) (hF : F a = none) (hO : Own K F H a d) (h0 : C.H0 a = none) (hpn : C.pn a = none)
  (hn : ∀ (j : Nat) (e : PyData), ρ[j]? = some (some (.own e)) → σ[j]? ≠ some (some (.ref a))) (nf : ¬ InFoot H ρ σ a) : Sim K C F H (ρ.set i (some (.own d))) (σ.set i (some (.ref a))) where
 len := by simp [S.len]
 sub := S.sub
 frz := fun j e h => by
  rw [get_set (S.len ▸ hi)] at h
  rw [get_set hi]
  split at h
  ·cases h
  ·rename_i q; rw [if_neg q]; exact S.frz j e h
 own := fun j e h => by
  rw [get_set (S.len ▸ hi)] at h
  rw [get_set hi]
  split at h
  ·rename_i q; cases h; rw [if_pos q]; exact ⟨a, rfl, hF, hO, .inl h0⟩
  ·rename_i q; rw [if_neg q]; exact S.own j e h
 ne := fun j k b e e' h1 h2 h3 h4 => by
  rw [get_set (S.len ▸ hi)] at h1 h2
  rw [get_set hi] at h3 h4
  by_cases q1 : j = i
  ·by_cases q2 : k = i
   ·rw [q1, q2]
   ·rw [if_pos q1] at h3
    rw [if_neg q2] at h2 h4
    cases h3
    exact absurd h4 (hn k e' h2)
  ·by_cases q2 : k = i
   ·rw [if_pos q2] at h4
    rw [if_neg q1] at h1 h3
    cases h4
    exact absurd h3 (hn j e h1)
   ·rw [if_neg q1] at h1 h3
    rw [if_neg q2] at h2 h4
    exact S.ne j k b e e' h1 h2 h3 h4
 par := fun j b h => by
  have q : j ≠ i := fun z => hp ⟨b, z ▸ h⟩
  rw [get_set (S.len ▸ hi), get_set hi, if_neg q, if_neg q]
  exact S.par j b h
 f0 := S.f0
 h0 := S.h0
 new := S.new
 pin := fun b o e => by
  obtain ⟨h1, h2, h3⟩ := S.pin b o e
  refine ⟨h1, h2, fun j x h => ?_⟩
  rw [get_set (S.len ▸ hi)] at h
  rw [get_set hi]
  split at h
  ·rename_i q; rw [if_pos q]; intro z; cases z; rw [hpn] at e; cases e
  ·rename_i q; rw [if_neg q]; exact h3 j x h
 dp := S.dp.keep (Same.refl F) (fun j e h => by
  rw [get_set (S.len ▸ hi)] at h
  split at h
  ·cases h
  ·rename_i q; rw [get_set hi, if_neg q]; exact ⟨h, rfl⟩) fun b hb ⟨h1, h2, h3, h4, h5⟩ => ⟨fun o e => e, h1, h2, h3, h4, fun j x h => by
  rw [get_set (S.len ▸ hi)] at h
  rw [get_set hi]
  split at h
  ·rename_i q; rw [if_pos q]; intro z; cases z; exact nf hb
  ·rename_i q; rw [if_neg q]; exact h5 j x h⟩
theorem Sim.turn (S : Sim K C F H ρ σ) {i : Nat} {a : Addr} {d d' : PyData} {o : HO} (hi : ρ[i]? = some (some (.own d))) (ha : σ[i]? = some (some (.ref a))) (hO : Own K F (upd H a o) a d') :
  Sim K C F (upd H a o) (ρ.set i (some (.own d'))) σ := by
 obtain ⟨a', e1, hF, hOw, hor⟩ := S.own i d hi
 rw [ha] at e1; cases e1
 have hl : i < ρ.length := (List.getElem?_eq_some_iff.mp hi).1
 refine ⟨by simp [S.len], fun b x e => ?_, fun j e h => ?_, fun j e h => ?_, fun j k b e e' h1 h2 h3 h4 => ?_, fun j b h => ?_, S.f0, fun b x e hb => ?_, S.new, fun b x e => ?_, S.dp.keep (Same.refl F) (fun j e h => ?_) fun b hb ⟨h1, h2, h3, h4, h5⟩ => ?_⟩
 ·rw [upd_ne (ne_of_none e hF)]; exact S.sub b x e
 ·rw [get_set hl] at h
  split at h
  ·cases h
  ·exact S.frz j e h
 ·rw [get_set hl] at h
  split at h
  ·rename_i q; subst q; cases h; exact ⟨a, ha, hF, hO, hor⟩
  ·rename_i q
   obtain ⟨b, h1, h2, h3, h4⟩ := S.own j e h
   have nb : b ≠ a := fun z => q (S.ne j i b e d h hi h1 (z ▸ ha))
   exact ⟨b, h1, h2, h3.mono (Same.refl F) fun x y => by rw [upd_ne nb]; exact y, h4⟩
 ·have g : ∀ (m : Nat) (x : PyData), (ρ.set i (some (.own d')))[m]? = some (some (.own x)) → ∃ y, ρ[m]? = some (some (.own y)) := fun m x z => by
   rw [get_set hl] at z
   split at z
   ·rename_i q; subst q; exact ⟨d, hi⟩
   ·exact ⟨x, z⟩
  obtain ⟨y1, g1⟩ := g j e h1
  obtain ⟨y2, g2⟩ := g k e' h2
  exact S.ne j k b y1 y2 g1 g2 h3 h4
 ·obtain ⟨x, h1, h2⟩ := S.par j b h
  rw [get_set hl]
  by_cases q : j = i
  ·rw [if_pos q]; exact ⟨d', rfl, h2⟩
  ·rw [if_neg q]; exact ⟨x, h1, h2⟩
 ·have nb : b ≠ a := fun z => by
   subst z
   rcases hor with q | q
   ·rw [q] at e; cases e
   ·exact hb (List.mem_of_getElem? q)
  rw [upd_ne nb]; exact S.h0 b x e hb
 ·obtain ⟨h1, h2, h3⟩ := S.pin b x e
  have nb : b ≠ a := fun z => h3 i d hi (z ▸ ha)
  refine ⟨by rw [upd_ne nb]; exact h1, h2, fun j y h => ?_⟩
  rw [get_set hl] at h
  split at h
  ·rename_i q; subst q; exact h3 j d hi
  ·exact h3 j y h
 ·rw [get_set hl] at h
  split at h
  ·cases h
  ·exact ⟨h, rfl⟩
 ·have nb : b ≠ a := fun z => h5 i d hi (z ▸ ha)
  refine ⟨fun u e => by rw [upd_ne nb]; exact e, by rw [upd_ne nb]; exact h1, h2, h3, h4, fun j y h => ?_⟩
  rw [get_set hl] at h
  split at h
  ·rename_i q; subst q; exact h5 j d hi
  ·exact h5 j y h
theorem Sim.freeze (S : Sim K C F H ρ σ) {i : Nat} {a : Addr} {d : PyData} (hi : ρ[i]? = some (some (.own d))) (ha : σ[i]? = some (some (.ref a))) (hp : ¬ C.isP i) :
  ∃ F', Same F F' ∧ Rep K F' (.ref a) d ∧ Sim K C F' H (ρ.set i (some (.frz d))) σ := by
 obtain ⟨a', e1, hF, hOw, hor⟩ := S.own i d hi
 rw [ha] at e1; cases e1
 have hl : i < ρ.length := (List.getElem?_eq_some_iff.mp hi).1
 have h0 : C.H0 a = none := by
  rcases hor with q | q
  ·exact q
  ·exact absurd ⟨a, q⟩ hp
 obtain ⟨o, ho⟩ := hOw.there
 have sF : Same F (upd F a o) := same_upd hF
 have rp : Rep K (upd F a o) (.ref a) d := by
  cases d with
  | list ds =>
   obtain ⟨xs, e, r⟩ := hOw
   rw [ho] at e; cases e
   exact .lst (SqL.of upd_same) (r.mono sF)
  | dict ds =>
   rcases hOw with ⟨xs, e, r⟩ | ⟨w, xs, n, e, r⟩
   ·rw [ho] at e; cases e
    exact .dct (.inl upd_same) (r.mono sF)
   ·rw [ho] at e; cases e
    exact .dcn n (.inl upd_same) (r.mono sF)
  | _ => exact hOw.elim
 refine ⟨upd F a o, sF, rp, ⟨by simp [S.len], fun b x e => ?_, fun j e h => ?_, fun j e h => ?_, fun j k b e e' h1 h2 h3 h4 => ?_, fun j b h => ?_, S.f0.trans sF, S.h0, fun b e => ?_, fun b x e => ?_, S.dp.keep sF (fun j e h => ?_) fun b hb ⟨h1, h2, h3, h4, h5⟩ => ?_⟩⟩
 ·by_cases hb : b = a
  ·subst hb; rw [upd_same] at e; cases e; exact ho
  ·rw [upd_ne hb] at e; exact S.sub b x e
 ·rw [get_set hl] at h
  split at h
  ·rename_i q; subst q; cases h; exact ⟨_, ha, rp⟩
  ·obtain ⟨v, h1, h2⟩ := S.frz j e h
   exact ⟨v, h1, h2.mono sF⟩
 ·rw [get_set hl] at h
  split at h
  ·cases h
  ·rename_i q
   obtain ⟨b, h1, h2, h3, h4⟩ := S.own j e h
   have nb : b ≠ a := fun z => q (S.ne j i b e d h hi h1 (z ▸ ha))
   exact ⟨b, h1, by rw [upd_ne nb]; exact h2, h3.mono sF fun x y => y, h4⟩
 ·rw [get_set hl] at h1 h2
  split at h1
  ·cases h1
  ·split at h2
   ·cases h2
   ·exact S.ne j k b e e' h1 h2 h3 h4
 ·have q : j ≠ i := fun z => hp ⟨b, z ▸ h⟩
  rw [get_set hl, if_neg q]
  exact S.par j b h
 ·by_cases hb : b = a
  ·subst hb; exact .inr h0
  ·rw [upd_ne hb] at e; exact S.new b e
 ·obtain ⟨h1, h2, h3⟩ := S.pin b x e
  have nb : b ≠ a := fun z => h3 i d hi (z ▸ ha)
  refine ⟨h1, by rw [upd_ne nb]; exact h2, fun j y h => ?_⟩
  rw [get_set hl] at h
  split at h
  ·cases h
  ·exact h3 j y h
 ·rw [get_set hl] at h
  split at h
  ·cases h
  ·exact ⟨h, rfl⟩
 ·have nb : b ≠ a := fun z => h5 i d hi (z ▸ ha)
  refine ⟨fun u e => e, h1, by rw [upd_ne nb]; exact h2, h3, h4, fun j y h => ?_⟩
  rw [get_set hl] at h
  split at h
  ·cases h
  ·exact h5 j y h
theorem DpOk.upd (D : DpOk K C F H ρ σ) {p : Addr} {o : HO} (nf : ¬ InFoot H ρ σ p) : DpOk K C F (L2.upd H p o) ρ σ := D.keep (Same.refl F) (fun j e h => ⟨h, rfl⟩) fun b hb ⟨h1, h2, h3, h4, h5⟩ => by
 have nb : b ≠ p := fun z => nf (z ▸ hb)
 exact ⟨fun u e => by rw [upd_ne nb]; exact e, ⟨by rw [upd_ne nb]; exact h1, h2, h3, h4, h5⟩⟩
theorem DpOk.updF (D : DpOk K C F H ρ σ) {p : Addr} {o : HO} (nf : ¬ InFoot H ρ σ p) : ¬ InFoot (L2.upd H p o) ρ σ p := fun ⟨i, d, b, h1, h2, h3⟩ => by
 by_cases nb : b = p
 ·exact nf ⟨i, d, b, h1, h2, .inl nb.symm⟩
 ·refine nf ⟨i, d, b, h1, h2, ?_⟩
  rcases h3 with z | z
  ·exact .inl z
  ·right
   unfold Inner at z ⊢
   rw [upd_ne nb] at z
   exact z
end
end Dv
set_option Elab.async false
set_option linter.all false
set_option maxRecDepth 100000
namespace Dv
open PySem PySem.Spec L2
abbrev DE := DEnv → (Opd → DEnv → Prop) → Prop
abbrev DT := DEnv → (Bool → DEnv → Prop) → Prop
abbrev DA := DEnv → (List Opd → DEnv → Prop) → Prop
def Den (K : PySem.W.Frag) (F : Hp) (σ : L2.St) (v : V) : Opd → Prop
 | .val d => Rep K F v d
 | .slot i => σ[i]? = some (some v)
theorem Den.mono {K : PySem.W.Frag} {F F' : Hp} {σ : L2.St} {v : V} {o : Opd} (e : Same F F') (h : Den K F σ v o) : Den K F' σ v o := by
 cases o with
 | val d => exact Rep.mono e h
 | slot i => exact h
inductive DenAll (K : PySem.W.Frag) (F : Hp) (σ : L2.St) : List V → List Opd → Prop
 | nil : DenAll K F σ [] []
 | cons {v : V} {vs : List V} {o : Opd} {os : List Opd} : Den K F σ v o → DenAll K F σ vs os → DenAll K F σ (v :: vs) (o :: os)
theorem DenAll.mono {K : PySem.W.Frag} {F F' : Hp} {σ : L2.St} (e : Same F F') : ∀ {vs : List V} {os : List Opd}, DenAll K F σ vs os → DenAll K F' σ vs os
 | _, _, .nil => .nil
 | _, _, .cons h r => .cons (h.mono e) (DenAll.mono e r)
theorem DenAll.length {K : PySem.W.Frag} {F : Hp} {σ : L2.St} : ∀ {vs : List V} {os : List Opd}, DenAll K F σ vs os → vs.length = os.length
 | _, _, .nil => rfl
 | _, _, .cons _ r => by simp [DenAll.length r]
def withO (ρ : DEnv) (o : Opd) (k : PyData → Prop) : Prop :=
 match o with
 | .val d => k d
 | .slot i => match ρ[i]? with
  | some (some (.own d)) => k d
  | some (some (.frz d)) => k d
  | _ => False
def withAll (ρ : DEnv) : List Opd → (List PyData → Prop) → Prop
 | [], k => k []
 | o :: os, k => withO ρ o fun d => withAll ρ os fun ds => k (d :: ds)
@[simp] theorem withO_val {ρ : DEnv} {d : PyData} {k : PyData → Prop} : withO ρ (.val d) k = k d := rfl
def ExcV (K : PySem.W.Frag) (F : Hp) (a : Addr) (ds : List (PyData × PyData)) : Prop := ∃ D d n fs es, ds = (.bool true, .str n) :: es ∧ Rd F a (ExH D d a) ∧ ClsN K n D ∧ ExF F d fs ∧ RepFs K F fs es
theorem ExcV.mono {K : PySem.W.Frag} {F F' : Hp} {a : Addr} {ds : List (PyData × PyData)} (e : Same F F') (h : ExcV K F a ds) : ExcV K F' a ds := by
 obtain ⟨D, d, n, fs, es, q, h1, h2, h3, h4⟩ := h
 exact ⟨D, d, n, fs, es, q, rd_mono e h1, h2, exF_mono e h3, h4.mono e⟩
def noX : PyData → Bool
 | .dict ((.bool true, _) :: _) => false
 | _ => true
theorem ExcV.noX {K : PySem.W.Frag} {F : Hp} {a : Addr} {ds : List (PyData × PyData)} (h : ExcV K F a ds) : Dv.noX (.dict ds) = false := by
 obtain ⟨_, _, n, _, es, rfl, _⟩ := h
 rfl
def View (K : PySem.W.Frag) (F H : Hp) (v : V) : PyData → Prop
 | .list ds => ∃ a xs, v = .ref a ∧ SqL K H a xs ∧ RepAll K F xs ds
 | .dict ds => ∃ a, v = .ref a ∧ ((∃ kvs, Rd H a (.dK kvs) ∧ RepKV K F kvs ds) ∨ (∃ w xs, xs ≠ [] ∧ Rd H a (DN w a xs) ∧ RepNK K F xs ds) ∨ ExcV K F a ds)
 | d => Rep K F v d
theorem Rep.view {K : PySem.W.Frag} {F H : Hp} {v : V} {d : PyData} (s : Same F H) (h : Rep K F v d) : View K F H v d := by
 cases h with
 | non => exact .non
 | bl b => exact .bl b
 | int i => exact .int i
 | str x => exact .str x
 | lst h r => exact ⟨_, _, rfl, sqL_mono s h, r⟩
 | tup h r => exact .tup h r
 | dct h r => exact ⟨_, rfl, .inl ⟨_, rd_mono s h, r⟩⟩
 | dcn n h r => exact ⟨_, rfl, .inr (.inl ⟨_, _, n, rd_mono s h, r⟩)⟩
 | exc h c x r => exact ⟨_, rfl, .inr (.inr ⟨_, _, _, _, _, rfl, h, c, x, r⟩)⟩
inductive ViewAll (K : PySem.W.Frag) (F H : Hp) : List V → List PyData → Prop
 | nil : ViewAll K F H [] []
 | cons {v : V} {vs : List V} {d : PyData} {ds : List PyData} : View K F H v d → ViewAll K F H vs ds → ViewAll K F H (v :: vs) (d :: ds)
theorem ViewAll.length {K : PySem.W.Frag} {F H : Hp} : ∀ {vs : List V} {ds : List PyData}, ViewAll K F H vs ds → vs.length = ds.length
 | _, _, .nil => rfl
 | _, _, .cons _ r => by simp [ViewAll.length r]
section
variable {K : PySem.W.Frag} {C : FC} {F H : Hp} {ρ : DEnv} {σ : L2.St}
theorem Sim.see (S : Sim K C F H ρ σ) {v : V} {o : Opd} {k : PyData → Prop} (h : Den K F σ v o) (w : withO ρ o k) : ∃ d, View K F H v d ∧ k d := by
 cases o with
 | val d => exact ⟨d, Rep.view S.sub h, w⟩
 | slot i =>
  unfold withO at w
  dsimp only at w
  cases e : ρ[i]? with
  | none => rw [e] at w; exact w.elim
  | some x =>
   cases x with
   | none => rw [e] at w; exact w.elim
   | some y =>
    cases y with
    | frz d =>
     rw [e] at w
     obtain ⟨v', h1, h2⟩ := S.frz i d e
     have h' : σ[i]? = some (some v) := h
     rw [h1] at h'; cases h'
     exact ⟨d, Rep.view S.sub h2, w⟩
    | own2 d => rw [e] at w; exact w.elim
    | own d =>
     rw [e] at w
     obtain ⟨a, h1, h2, h3, _⟩ := S.own i d e
     have h' : σ[i]? = some (some v) := h
     rw [h1] at h'; cases h'
     refine ⟨d, ?_, w⟩
     cases d with
     | list ds => obtain ⟨xs, e1, r⟩ := h3; exact ⟨a, xs, rfl, SqL.of e1, r⟩
     | dict ds =>
      rcases h3 with ⟨xs, e1, r⟩ | ⟨w0, xs, n, e1, r⟩
      ·exact ⟨a, rfl, .inl ⟨xs, .inl e1, r⟩⟩
      ·exact ⟨a, rfl, .inr (.inl ⟨w0, xs, n, .inl e1, r⟩)⟩
     | _ => exact h3.elim
theorem Sim.seeAll (S : Sim K C F H ρ σ) : ∀ {vs : List V} {os : List Opd} {k : List PyData → Prop}, DenAll K F σ vs os → withAll ρ os k → ∃ ds, ViewAll K F H vs ds ∧ k ds
 | _, _, _, .nil, w => ⟨[], .nil, w⟩
 | _, _, _, .cons h r, w => by
  obtain ⟨d, v1, w1⟩ := S.see h w
  obtain ⟨ds, v2, w2⟩ := Sim.seeAll S r w1
  exact ⟨d :: ds, .cons v1 v2, w2⟩
end
def lE (K : PySem.W.Frag) (C : FC) (t : DE) : TE := fun σ H Q => ∃ F ρ q, Sim K C F H ρ σ ∧ t ρ q ∧ ∀ o ρ' F' H' v, q o ρ' → Sim K C F' H' ρ' σ → Same F F' → Den K F' σ v o → Q v H'
def lT (K : PySem.W.Frag) (C : FC) (t : DT) : TT := fun σ H Q => ∃ F ρ q, Sim K C F H ρ σ ∧ t ρ q ∧ ∀ b ρ' F' H', q b ρ' → Sim K C F' H' ρ' σ → Same F F' → Q b H'
def lA (K : PySem.W.Frag) (C : FC) (t : DA) : TA := fun σ H Q => ∃ F ρ q, Sim K C F H ρ σ ∧ t ρ q ∧ ∀ os ρ' F' H' vs, q os ρ' → Sim K C F' H' ρ' σ → Same F F' → DenAll K F' σ vs os → Q vs H'
structure QE (X : Cx) (C : FC) (e : Expr) (t : DE) : Prop where
 pe : PE X e (lE X.K C t)
structure QT (X : Cx) (C : FC) (e : Expr) (t : DT) : Prop where
 pt : PT X e (lT X.K C t)
structure QW (X : Cx) (C : FC) (e : Expr) (t : DT) : Prop where
 pw : PW X e (lT X.K C t)
structure QA (X : Cx) (C : FC) (es : List Expr) (t : DA) : Prop where
 pa : PA X es (lA X.K C t)
section
variable {X : Cx} {C : FC} {a b c e : Expr} {es : List Expr} {pos : Pos} {ta tb tc : DE}
theorem QE.of {t' : TE} {t : DE} (h : PE X e t') (w : ∀ σ H Q, lE X.K C t σ H Q → t' σ H Q) : QE X C e t := ⟨⟨fun pins s σ H Q I hq => h.run pins s σ H Q I (w σ H Q hq)⟩⟩
theorem QT.of {t' : TT} {t : DT} (h : PT X e t') (w : ∀ σ H Q, lT X.K C t σ H Q → t' σ H Q) : QT X C e t := ⟨⟨fun pins s σ H Q I hq => h.run pins s σ H Q I (w σ H Q hq)⟩⟩
theorem QW.of {t' : TT} {t : DT} (h : PW X e t') (w : ∀ σ H Q, lT X.K C t σ H Q → t' σ H Q) : QW X C e t := ⟨⟨fun wh pins s σ H Q I hq => h.run wh pins s σ H Q I (w σ H Q hq)⟩⟩
theorem QA.of {t' : TA} {t : DA} (h : PA X es t') (w : ∀ σ H Q, lA X.K C t σ H Q → t' σ H Q) : QA X C es t := ⟨⟨fun pos pins s σ H Q I hq => h.run pos pins s σ H Q I (w σ H Q hq)⟩⟩
def dVar (i : Nat) : DE := fun ρ Q => match ρ[i]? with
 | some (some (.frz d)) => Q (.val d) ρ
 | some (some (.own _)) => Q (.slot i) ρ
 | _ => False
def dC (d : PyData) : DE := fun ρ Q => Q (.val d) ρ
theorem q_var (i : Nat) {x : Str} (h : PE X (.Name x pos) (tVar i)) : QE X C (.Name x pos) (dVar i) := by
 refine QE.of h fun σ H Q hq => ?_
 obtain ⟨F, ρ, q, S, ht, k⟩ := hq
 unfold dVar at ht
 cases e : ρ[i]? with
 | none => rw [e] at ht; exact ht.elim
 | some y =>
  cases y with
  | none => rw [e] at ht; exact ht.elim
  | some z =>
   cases z with
   | frz d =>
    rw [e] at ht
    obtain ⟨v, h1, h2⟩ := S.frz i d e
    exact ⟨v, h1, k _ _ _ _ _ ht S (Same.refl F) h2⟩
   | own2 d => rw [e] at ht; exact ht.elim
   | own d =>
    rw [e] at ht
    obtain ⟨a, h1, _⟩ := S.own i d e
    exact ⟨.ref a, h1, k _ _ _ _ _ ht S (Same.refl F) h1⟩
theorem qv (i : Nat) {x : Str} {pos : Pos} (hN : X.N[i]? = some x := by rfl) (hv : Vis X.env.scope x := by first | exact Or.inl rfl | exact Or.inr (Or.inl rfl) | exact Or.inr (Or.inr rfl)) (hd : (x == ("__debug__" : Str)) = false := by decide)
  (hcd : (x == ("__classdict__" : Str)) = false := by decide) : QE X C (.Name x pos) (dVar i) := q_var i (pe_var hN hv hd hcd)
theorem q_const {v : V} {d : PyData} (h : PE X e (tC v)) (r : ∀ F, Rep X.K F v d) : QE X C e (dC d) := by
 refine QE.of h fun σ H Q hq => ?_
 obtain ⟨F, ρ, q, S, ht, k⟩ := hq
 exact k _ _ _ _ _ ht S (Same.refl F) (r F)
theorem q_int {i j pos} : QE X C (.Constant (.int i) j pos) (dC (.int i)) := q_const pe_int fun _ => .int i
theorem q_bl {i j pos} : QE X C (.Constant (.bool i) j pos) (dC (.bool i)) := q_const pe_bl fun _ => .bl i
theorem q_non {j pos} : QE X C (.Constant .none j pos) (dC .none) := q_const pe_non fun _ => .non
theorem q_str {x j pos} : QE X C (.Constant (.str x) j pos) (dC (.str x)) := q_const pe_str fun _ => .str x
abbrev Op2 := PyData → PyData → (PyData → Prop) → Prop
abbrev OpN := List PyData → (PyData → Prop) → Prop
def Kont (K : PySem.W.Frag) (F H : Hp) (q : PyData → Prop) (Q : VK) : Prop := ∀ g F' H' v, q g → Gr F H F' H' → Rep K F' v g → Q v H'
def OpOk (X : Cx) (r : R2) (f : Op2) : Prop := ∀ F H x y d e q Q, Same F H → View X.K F H x d → View X.K F H y e → f d e q → Kont X.K F H q Q → r x y H Q
def CallOk (X : Cx) (r : List V → Hp → VK → Prop) (f : OpN) : Prop := ∀ F H vs ds q Q, Same F H → ViewAll X.K F H vs ds → f ds q → Kont X.K F H q Q → r vs H Q
theorem kont_of {F F1 F2 H1 H2 : Hp} {ρ1 ρ2 : DEnv} {σ : L2.St} {q : Opd → DEnv → Prop} {Q : VK} (S2 : Sim X.K C F2 H2 ρ2 σ) (s : Same F F2) (k : ∀ o ρ' F' H' v, q o ρ' → Sim X.K C F' H' ρ' σ → Same F F' → Den X.K F' σ v o → Q v H') :
  Kont X.K F2 H2 (fun g => q (.val g) ρ2) Q := fun g F' H' v hq gr r => k _ _ _ _ _ hq (S2.grow gr) (s.trans gr.f) r
def dBin (f : Op2) (a b : DE) : DE := fun ρ Q => a ρ fun o1 ρ1 => b ρ1 fun o2 ρ2 => withO ρ2 o1 fun d => withO ρ2 o2 fun e => f d e fun g => Q (.val g) ρ2
theorem lE_op {r : R2} {f : Op2} (ok : OpOk X r f) {σ : L2.St} {H : Hp} {Q : VK} (h : lE X.K C (dBin f ta tb) σ H Q) : tOp r (lE X.K C ta) (lE X.K C tb) σ H Q := by
 obtain ⟨F, ρ, q, S, ht, k⟩ := h
 refine ⟨F, ρ, _, S, ht, fun o1 ρ1 F1 H1 x h1 S1 s1 d1 => ?_⟩
 refine ⟨F1, ρ1, _, S1, h1, fun o2 ρ2 F2 H2 y h2 S2 s2 d2 => ?_⟩
 obtain ⟨d, v1, w1⟩ := S2.see (d1.mono s2) h2
 obtain ⟨e, v2, w2⟩ := S2.see d2 w1
 exact ok F2 H2 x y d e _ Q S2.sub v1 v2 w2 (kont_of (ρ1 := ρ1) (F1 := F1) (H1 := H1) S2 (s1.trans s2) k)
theorem q_bin {op : Operator} {r : R2} {f : Op2} (ho : OpR X (binaryOp op) r) (ok : OpOk X r f) (ha : QE X C a ta) (hb : QE X C b tb) : QE X C (.BinOp a op b pos) (dBin f ta tb) :=
 QE.of (pe_op ho ha.pe hb.pe) fun _ _ _ h => lE_op ok h
theorem q_cmp {op : CmpOp} {r : R2} {f : Op2} (ho : OpR X (compareOp op) r) (ok : OpOk X r f) (ha : QE X C a ta) (hb : QE X C b tb) (hm : behindInMarks op b = false := by first | exact nomark _ | rfl) : QE X C (.Compare a [op] [b] pos) (dBin f ta tb) :=
 QE.of (pe_cmpR ho ha.pe hb.pe hm) fun _ _ _ h => lE_op ok h
theorem q_ix {r : R2} {f : Op2} (ho : IxR X r) (ok : OpOk X r f) (ha : QE X C a ta) (hb : QE X C b tb) (hs : PlainIx b := by exact fun _ _ => rfl) : QE X C (.Subscript a b pos) (dBin f ta tb) :=
 QE.of (pe_ix ho ha.pe hb.pe hs) fun _ _ _ h => lE_op ok h
def dTest (t : DE) : DT := fun ρ Q => t ρ fun o ρ' => match o with
 | .val (.bool b) => Q b ρ'
 | _ => False
theorem lT_test {t : DE} {σ : L2.St} {H : Hp} {Q : Bool → Hp → Prop} (h : lT X.K C (dTest t) σ H Q) : lE X.K C t σ H fun x H' => ∃ k, x = .bl k ∧ Q k H' := by
 obtain ⟨F, ρ, q, S, ht, k⟩ := h
 refine ⟨F, ρ, _, S, ht, fun o ρ1 F1 H1 v h1 S1 s1 d1 => ?_⟩
 cases o with
 | slot i => exact h1.elim
 | val d =>
  cases d with
  | bool b => cases (show Rep X.K F1 v (.bool b) from d1); exact ⟨b, rfl, k _ _ _ _ h1 S1 s1⟩
  | _ => exact h1.elim
theorem t_val {t : DE} (h : QE X C e t) (he : ∀ whole, isTrue e X.env whole = (do let v ← whole; standAt e.pos; holding [v] (truthy v)) := by intro _; rfl) : QT X C e (dTest t) :=
 QT.of (pt_val h.pe he) fun _ _ _ h => lT_test h
theorem t_cmp {op : CmpOp} {r : R2} {f : Op2} (ho : OpR X (compareOp op) r) (ok : OpOk X r f) (ha : QE X C a ta) (hb : QE X C b tb) (hm : behindInMarks op b = false := by first | exact nomark _ | rfl) : QT X C (.Compare a [op] [b] pos) (dTest (dBin f ta tb)) :=
 QT.of (pt_cmpR ho ha.pe hb.pe hm) fun σ H Q h => by
  obtain ⟨F, ρ, q, S, ht, k⟩ := lT_test h
  exact lE_op ok ⟨F, ρ, q, S, ht, k⟩
def by2 (c : Bool) (a b : Prop) : Prop := match c with
 | true => a
 | false => b
def dAnd (t u : DT) : DT := fun ρ Q => t ρ fun c ρ1 => by2 c (u ρ1 Q) (Q false ρ1)
def dOr (t u : DT) : DT := fun ρ Q => t ρ fun c ρ1 => by2 c (Q true ρ1) (u ρ1 Q)
def dNot (t : DT) : DT := fun ρ Q => t ρ fun c ρ1 => Q (!c) ρ1
variable {t u : DT} {rest : List Expr}
theorem w_and1 (h : QT X C a t) : QW X C (.BoolOp .And [a] pos) t := ⟨pw_and1 h.pt⟩
theorem w_or1 (h : QT X C a t) : QW X C (.BoolOp .Or [a] pos) t := ⟨pw_or1 h.pt⟩
theorem w_and (h : QT X C a t) (h2 : QW X C (.BoolOp .And (b :: rest) pos) u) : QW X C (.BoolOp .And (a :: b :: rest) pos) (dAnd t u) :=
 QW.of (pw_and h.pt h2.pw) fun σ H Q hq => by
  obtain ⟨F, ρ, q, S, ht, k⟩ := hq
  refine ⟨F, ρ, _, S, ht, fun c ρ1 F1 H1 h1 S1 s1 => ?_⟩
  cases c with
  | true => rw [if_pos rfl]; exact ⟨F1, ρ1, _, S1, h1, fun b' ρ2 F2 H2 h2 S2 s2 => k _ _ _ _ h2 S2 (s1.trans s2)⟩
  | false => rw [if_neg Bool.false_ne_true]; exact k _ _ _ _ h1 S1 s1
theorem w_or (h : QT X C a t) (h2 : QW X C (.BoolOp .Or (b :: rest) pos) u) : QW X C (.BoolOp .Or (a :: b :: rest) pos) (dOr t u) :=
 QW.of (pw_or h.pt h2.pw) fun σ H Q hq => by
  obtain ⟨F, ρ, q, S, ht, k⟩ := hq
  refine ⟨F, ρ, _, S, ht, fun c ρ1 F1 H1 h1 S1 s1 => ?_⟩
  cases c with
  | false => rw [if_neg Bool.false_ne_true]; exact ⟨F1, ρ1, _, S1, h1, fun b' ρ2 F2 H2 h2 S2 s2 => k _ _ _ _ h2 S2 (s1.trans s2)⟩
  | true => rw [if_pos rfl]; exact k _ _ _ _ h1 S1 s1
theorem t_w (h : QW X C e t) : QT X C e t := ⟨h.pw.pt⟩
theorem t_not (h : QT X C a t) : QT X C (.UnaryOp .Not a pos) (dNot t) :=
 QT.of (pt_not h.pt) fun σ H Q hq => by
  obtain ⟨F, ρ, q, S, ht, k⟩ := hq
  exact ⟨F, ρ, _, S, ht, fun c ρ1 F1 H1 h1 S1 s1 => k _ _ _ _ h1 S1 s1⟩
def dOrV (a b : DE) : DE := fun ρ Q => a ρ fun o ρ1 => match o with
 | .val (.bool c) => by2 c (Q (.val (.bool true)) ρ1) (b ρ1 Q)
 | _ => False
theorem q_one {op} (h : QE X C a ta) : QE X C (.BoolOp op [a] pos) ta := ⟨pe_one h.pe⟩
theorem q_or (h : QE X C a ta) (h2 : QE X C (.BoolOp .Or (b :: rest) pos) tb) : QE X C (.BoolOp .Or (a :: b :: rest) pos) (dOrV ta tb) :=
 QE.of (pe_or h.pe h2.pe) fun σ H Q hq => by
  obtain ⟨F, ρ, q, S, ht, k⟩ := hq
  refine ⟨F, ρ, _, S, ht, fun o ρ1 F1 H1 v h1 S1 s1 d1 => ?_⟩
  cases o with
  | slot i => exact h1.elim
  | val d =>
   cases d with
   | bool c =>
    cases (show Rep X.K F1 v (.bool c) from d1)
    refine ⟨c, rfl, ?_⟩
    cases c with
    | false => rw [if_neg Bool.false_ne_true]; exact ⟨F1, ρ1, q, S1, h1, fun o2 ρ2 F2 H2 v2 h2 S2 s2 d2 => k _ _ _ _ _ h2 S2 (s1.trans s2) d2⟩
    | true => rw [if_pos rfl]; exact k _ _ _ _ _ h1 S1 s1 (.bl true)
   | _ => exact h1.elim
def dChain (f g : Op2) (a b c : DE) : DE := fun ρ Q => a ρ fun o1 ρ1 => b ρ1 fun o2 ρ2 => withO ρ2 o1 fun d => withO ρ2 o2 fun e => f d e fun z => match z with
 | .bool b => by2 b (c ρ2 fun o3 ρ3 => withO ρ3 o2 fun e => withO ρ3 o3 fun d3 => g e d3 fun z => Q (.val z) ρ3) (Q (.val (.bool false)) ρ2)
 | _ => False
def dNil : DA := fun ρ Q => Q [] ρ
def dCons (a : DE) (r : DA) : DA := fun ρ Q => a ρ fun o ρ1 => r ρ1 fun os ρ2 => Q (o :: os) ρ2
theorem a_nil : QA X C [] dNil := QA.of pa_nil fun σ H Q hq => by
 obtain ⟨F, ρ, q, S, ht, k⟩ := hq
 exact k _ _ _ _ _ ht S (Same.refl F) .nil
theorem a_cons {r : DA} (h : QE X C e ta) (h2 : QA X C es r) (hs : starEach (e :: es) X.env = (false, eval e X.env) :: starEach es X.env := by rfl) : QA X C (e :: es) (dCons ta r) :=
 QA.of (pa_cons h.pe h2.pa hs) fun σ H Q hq => by
  obtain ⟨F, ρ, q, S, ht, k⟩ := hq
  refine ⟨F, ρ, _, S, ht, fun o ρ1 F1 H1 v h1 S1 s1 d1 => ?_⟩
  exact ⟨F1, ρ1, _, S1, h1, fun os ρ2 F2 H2 vs h2 S2 s2 d2 => k _ _ _ _ _ h2 S2 (s1.trans s2) (.cons (d1.mono s2) d2)⟩
end
end Dv
set_option Elab.async false
set_option linter.all false
set_option maxRecDepth 100000
namespace Dv
open PySem PySem.Spec L2
abbrev big : Nat := 16777216
theorem le_line {n : Nat} (h : n ≤ big) : n ≤ sizeLine := by rw [sizeLine_eq]; exact h
theorem lt_line {n : Nat} (h : n < big) : n < sizeLine := by rw [sizeLine_eq]; exact h
def FC.Tags (C : FC) (P : List Bool) : Prop := ∀ i, C.isP i → P[i]? = some true
def share (P : List Bool) (ρ : DEnv) (o : Opd) (k : PyData → DEnv → Prop) : Prop :=
 match o with
 | .val d => k d ρ
 | .slot i => match ρ[i]? with
  | some (some (.frz d)) => k d ρ
  | some (some (.own d)) => P[i]? ≠ some true ∧ k d (ρ.set i (some (.frz d)))
  | _ => False
def shareAll (P : List Bool) : DEnv → List Opd → (List PyData → DEnv → Prop) → Prop
 | ρ, [], k => k [] ρ
 | ρ, o :: os, k => share P ρ o fun d ρ1 => shareAll P ρ1 os fun ds ρ2 => k (d :: ds) ρ2
section
variable {K : PySem.W.Frag} {C : FC} {P : List Bool} {F H : Hp} {ρ : DEnv} {σ : L2.St}
theorem Sim.share (S : Sim K C F H ρ σ) (hP : C.Tags P) {v : V} {o : Opd} {k : PyData → DEnv → Prop} (h : Den K F σ v o) (w : share P ρ o k) :
  ∃ d ρ' F', k d ρ' ∧ Sim K C F' H ρ' σ ∧ Same F F' ∧ Rep K F' v d := by
 cases o with
 | val d => exact ⟨d, ρ, F, w, S, Same.refl F, h⟩
 | slot i =>
  unfold Dv.share at w
  dsimp only at w
  have h' : σ[i]? = some (some v) := h
  cases e : ρ[i]? with
  | none => rw [e] at w; exact w.elim
  | some x =>
   cases x with
   | none => rw [e] at w; exact w.elim
   | some y =>
    cases y with
    | frz d =>
     rw [e] at w
     obtain ⟨v', h1, h2⟩ := S.frz i d e
     rw [h1] at h'; cases h'
     exact ⟨d, ρ, F, w, S, Same.refl F, h2⟩
    | own2 d => rw [e] at w; exact w.elim
    | own d =>
     rw [e] at w
     obtain ⟨a, h1, _⟩ := S.own i d e
     rw [h1] at h'; cases h'
     obtain ⟨F', s, r, S'⟩ := S.freeze e h1 fun z => w.1 (hP i z)
     exact ⟨d, _, F', w.2, S', s, r⟩
theorem Sim.shareAll (hP : C.Tags P) : ∀ {vs : List V} {os : List Opd} {F : Hp} {ρ : DEnv} {k : List PyData → DEnv → Prop}, Sim K C F H ρ σ → DenAll K F σ vs os → shareAll P ρ os k →
  ∃ ds ρ' F', k ds ρ' ∧ Sim K C F' H ρ' σ ∧ Same F F' ∧ RepAll K F' vs ds
 | _, _, F, ρ, k, S, .nil, w => ⟨[], ρ, F, w, S, Same.refl F, .nil⟩
 | _, _, F, ρ, k, S, .cons h r, w => by
  obtain ⟨d, ρ1, F1, w1, S1, s1, r1⟩ := S.share hP h w
  obtain ⟨ds, ρ2, F2, w2, S2, s2, r2⟩ := Sim.shareAll hP S1 (r.mono s1) w1
  exact ⟨d :: ds, ρ2, F2, w2, S2, s1.trans s2, .cons (r1.mono s2) r2⟩
end
structure Fresh (K : PySem.W.Frag) (C : FC) (F H : Hp) (ρ : DEnv) (σ : L2.St) (a : Addr) (d : PyData) : Prop where
 f : F a = none
 o : Own K F H a d
 h0 : C.H0 a = none
 pn : C.pn a = none
 ne : ∀ (j : Nat) (e : PyData), ρ[j]? = some (some (.own e)) → σ[j]? ≠ some (some (.ref a))
 nf : ¬ InFoot H ρ σ a
abbrev DO := DEnv → (PyData → DEnv → Prop) → Prop
def lO (K : PySem.W.Frag) (C : FC) (t : DO) : TE := fun σ H Q => ∃ F ρ q, Sim K C F H ρ σ ∧ t ρ q ∧ ∀ d ρ' F' H' a, q d ρ' → Sim K C F' H' ρ' σ → Same F F' → Fresh K C F' H' ρ' σ a d → Q (.ref a) H'
structure QO (X : Cx) (C : FC) (e : Expr) (t : DO) : Prop where
 pe : PE X e (lO X.K C t)
theorem QO.of {X : Cx} {C : FC} {e : Expr} {t' : TE} {t : DO} (h : PE X e t') (w : ∀ σ H Q, lO X.K C t σ H Q → t' σ H Q) : QO X C e t := ⟨⟨fun pins s σ H Q I hq => h.run pins s σ H Q I (w σ H Q hq)⟩⟩
section
variable {K : PySem.W.Frag} {C : FC} {F H : Hp} {ρ : DEnv} {σ : L2.St}
theorem Sim.pnone (S : Sim K C F H ρ σ) {b : Addr} (h : H b = none) : C.pn b = none := by
 cases e : C.pn b with
 | none => rfl
 | some o => rw [(S.pin b o e).1] at h; cases h
theorem Sim.lay (S : Sim K C F H ρ σ) {p : Addr} (hp : H p = none) {o : HO} : Sim K C F (upd H p o) ρ σ ∧ F p = none ∧ C.H0 p = none ∧ C.pn p = none ∧ (∀ (j : Nat) (e : PyData), ρ[j]? = some (some (.own e)) → σ[j]? ≠ some (some (.ref p))) ∧ ¬ InFoot (upd H p o) ρ σ p := by
 have hF : F p = none := S.sub.free hp
 refine ⟨S.grow ⟨Same.refl F, Dv.same_upd hp, S.sub.trans (Dv.same_upd hp), fun _ h => .inl h⟩, hF, S.h0none hp, S.pnone hp, fun j e h1 h2 => ?_, fun z => ?_⟩
 ·obtain ⟨a, h3, _, h4, _⟩ := S.own j e h1
  rw [h3] at h2; cases h2
  obtain ⟨o, h5⟩ := h4.there
  rw [hp] at h5; cases h5
 ·obtain ⟨i, d, a, h1, h2, h3⟩ := z
  obtain ⟨a', bs, e1, e2, e3, e4, _⟩ := S.dp i d h1
  rw [h2] at e1; cases e1
  have na : a ≠ p := fun z => (e3 a List.mem_cons_self).1 (z ▸ hp)
  rcases h3 with z | z
  ·exact na z.symm
  ·have z' : Inner H a p := by
    unfold Inner at z ⊢
    rw [upd_ne na] at z
    exact z
   exact (e3 p (List.mem_cons_of_mem _ (e4.inner.mp z'))).1 hp
theorem Sim.layL (S : Sim K C F H ρ σ) {p : Addr} (hp : H p = none) {xs : List V} {ds : List PyData} (r : RepAll K F xs ds) : Sim K C F (upd H p (.lst xs)) ρ σ ∧ Fresh K C F (upd H p (.lst xs)) ρ σ p (.list ds) := by
 obtain ⟨a, b, c, c', d, f⟩ := S.lay hp (o := .lst xs)
 exact ⟨a, b, ⟨xs, upd_same, r⟩, c, c', d, f⟩
theorem Sim.layD (S : Sim K C F H ρ σ) {p : Addr} (hp : H p = none) {xs : List (Key × V)} {ds : List (PyData × PyData)} (r : RepKV K F xs ds) : Sim K C F (upd H p (.dK xs)) ρ σ ∧ Fresh K C F (upd H p (.dK xs)) ρ σ p (.dict ds) := by
 obtain ⟨a, b, c, c', d, f⟩ := S.lay hp (o := .dK xs)
 exact ⟨a, b, .inl ⟨xs, upd_same, r⟩, c, c', d, f⟩
theorem Sim.froze (S : Sim K C F H ρ σ) {a : Addr} {d : PyData} (fr : Fresh K C F H ρ σ a d) : ∃ F', Same F F' ∧ Sim K C F' H ρ σ ∧ Rep K F' (.ref a) d := by
 obtain ⟨o, ho⟩ := fr.o.there
 have sF : Same F (upd F a o) := Dv.same_upd fr.f
 refine ⟨upd F a o, sF, ⟨S.len, fun b x e => ?_, fun j e h => ?_, fun j e h => ?_, S.ne, S.par, S.f0.trans sF, S.h0, fun b e => ?_, fun b x e => ?_, S.dp.keep sF (fun j e h => ⟨h, rfl⟩) fun b hb ⟨h1, h2, h3, h4, h5⟩ => ?_⟩, ?_⟩
 ·by_cases hb : b = a
  ·subst hb; rw [upd_same] at e; cases e; exact ho
  ·rw [upd_ne hb] at e; exact S.sub b x e
 ·obtain ⟨v, h1, h2⟩ := S.frz j e h
  exact ⟨v, h1, h2.mono sF⟩
 ·obtain ⟨b, h1, h2, h3, h4⟩ := S.own j e h
  have nb : b ≠ a := fun z => fr.ne j e h (z ▸ h1)
  exact ⟨b, h1, by rw [upd_ne nb]; exact h2, h3.mono sF fun x y => y, h4⟩
 ·by_cases hb : b = a
  ·subst hb; exact .inr fr.h0
  ·rw [upd_ne hb] at e; exact S.new b e
 ·obtain ⟨h1, h2, h3⟩ := S.pin b x e
  have nb : b ≠ a := fun z => by
   subst z
   rw [fr.pn] at e; cases e
  exact ⟨h1, by rw [upd_ne nb]; exact h2, h3⟩
 ·have nb : b ≠ a := fun z => fr.nf (z ▸ hb)
  exact ⟨fun u e => e, ⟨h1, by rw [upd_ne nb]; exact h2, h3, h4, h5⟩⟩
 ·have hO := fr.o
  cases d with
  | list ds =>
   obtain ⟨xs, e, r⟩ := hO
   rw [ho] at e; cases e
   exact .lst (SqL.of upd_same) (r.mono sF)
  | dict ds =>
   rcases hO with ⟨xs, e, r⟩ | ⟨w, xs, n, e, r⟩
   ·rw [ho] at e; cases e
    exact .dct (.inl upd_same) (r.mono sF)
   ·rw [ho] at e; cases e
    exact .dcn n (.inl upd_same) (r.mono sF)
  | _ => exact hO.elim
end
section
variable {X : Cx} {C : FC} {P : List Bool} {a b c e : Expr} {es : List Expr} {pos : Pos} {ta tb tc : DE}
def dFroz (t : DO) : DE := fun ρ Q => t ρ fun d ρ' => Q (.val d) ρ'
theorem q_froz {t : DO} (h : QO X C e t) : QE X C e (dFroz t) := QE.of h.pe fun σ H Q hq => by
 obtain ⟨F, ρ, q, S, ht, k⟩ := hq
 refine ⟨F, ρ, _, S, ht, fun d ρ' F' H' a hq S' s' fr => ?_⟩
 obtain ⟨F2, s2, S2, r⟩ := S'.froze fr
 exact k _ _ _ _ _ hq S2 (s'.trans s2) r
def dTup (P : List Bool) (t : DA) : DE := fun ρ Q => t ρ fun os ρ1 => os.length ≤ big ∧ shareAll P ρ1 os fun ds ρ2 => Q (.val (.tuple ds)) ρ2
def dLst (P : List Bool) (t : DA) : DO := fun ρ Q => t ρ fun os ρ1 => os.length ≤ big ∧ shareAll P ρ1 os fun ds ρ2 => Q (.list ds) ρ2
theorem q_tup {t : DA} {x1} (hP : C.Tags P) (h : QA X C es t) : QE X C (.Tuple es x1 pos) (dTup P t) := QE.of (pe_tup h.pa) fun σ H Q hq => by
 obtain ⟨F, ρ, q, S, ht, k⟩ := hq
 refine ⟨F, ρ, _, S, ht, fun os ρ1 F1 H1 vs hq S1 s1 d1 => ⟨?_, fun p hp => ?_⟩⟩
 ·rw [d1.length]; exact le_line hq.1
 ·obtain ⟨ds, ρ2, F2, w, S2, s2, r⟩ := Sim.shareAll hP S1 d1 hq.2
  have g := Gr.new (o := .tup vs) S2.sub hp
  exact k _ _ _ _ _ w (S2.grow g) ((s1.trans s2).trans g.f) (.tup (SqT.of upd_same) (r.mono g.f))
theorem o_lst {t : DA} (hP : C.Tags P) (h : QA X C es t) : QO X C (.List es pos) (dLst P t) := QO.of (pe_lst h.pa) fun σ H Q hq => by
 obtain ⟨F, ρ, q, S, ht, k⟩ := hq
 refine ⟨F, ρ, _, S, ht, fun os ρ1 F1 H1 vs hq S1 s1 d1 => ⟨?_, fun p hp => ?_⟩⟩
 ·rw [d1.length]; exact le_line hq.1
 ·obtain ⟨ds, ρ2, F2, w, S2, s2, r⟩ := Sim.shareAll hP S1 d1 hq.2
  obtain ⟨S3, fr⟩ := S2.layL hp r
  exact k _ _ _ _ _ w S3 (s1.trans s2) fr
def dCB (f : OpN) (t : DA) : DE := fun ρ Q => t ρ fun os ρ1 => withAll ρ1 os fun ds => f ds fun g => Q (.val g) ρ1
theorem lE_call {r : List V → Hp → VK → Prop} {f : OpN} {t : DA} (ok : CallOk X r f) {σ : L2.St} {H : Hp} {Q : VK} (h : lE X.K C (dCB f t) σ H Q) : tCB r (lA X.K C t) σ H Q := by
 obtain ⟨F, ρ, q, S, ht, k⟩ := h
 refine ⟨F, ρ, _, S, ht, fun os ρ1 F1 H1 vs h1 S1 s1 d1 => ?_⟩
 obtain ⟨ds, v1, w1⟩ := S1.seeAll d1 h1
 exact ok F1 H1 vs ds _ Q S1.sub v1 w1 (kont_of (ρ1 := ρ1) (F1 := F1) (H1 := H1) S1 s1 k)
section
variable {id : String} {x : Str} {p : Pos} {T : String}
theorem q_callB {r : List V → Hp → VK → Prop} {f : OpN} {t : DA} (hc : CallR X (.builtin id) r) (ok : CallOk X r f) (hm : X.mg x = none) (hv : bootBuiltins x = some (.builtin id)) (ha : QA X C (e :: es) t) (hg : Gl X x := by rfl) (hn : x ≠ "__name__" := by decide) (hdb : (x == ("__debug__" : Str)) = false := by decide)
  (he : starEach (e :: es) X.env = (false, eval e X.env) :: starEach es X.env := by rfl) (hpl : (backTo pos (starEach es X.env)).any (·.1) = false := by rfl) : QE X C (.Call (.Name x p) (e :: es) [] pos) (dCB f t) :=
 QE.of (pe_callB hc hg hm hv ha.pa hn hdb he hpl) fun _ _ _ h => lE_call ok h
theorem q_callTy {r : List V → Hp → VK → Prop} {f : OpN} {t : DA} (hc : CallR X (.type T) r) (ok : CallOk X r f) (hm : X.mg x = none) (hv : bootBuiltins x = some (.type T)) (ha : QA X C (e :: es) t) (hg : Gl X x := by rfl) (hn : x ≠ "__name__" := by decide) (hdb : (x == ("__debug__" : Str)) = false := by decide)
  (he : starEach (e :: es) X.env = (false, eval e X.env) :: starEach es X.env := by rfl) (hpl : (backTo pos (starEach es X.env)).any (·.1) = false := by rfl) : QE X C (.Call (.Name x p) (e :: es) [] pos) (dCB f t) :=
 QE.of (pe_callTy hc hg hm hv ha.pa hn hdb he hpl) fun _ _ _ h => lE_call ok h
end
def KontL (K : PySem.W.Frag) (F H : Hp) (q : List PyData → Prop) (Q : VK) : Prop := ∀ ds xs p, q ds → H p = none → RepAll K F xs ds → Q (.ref p) (upd H p (.lst xs))
abbrev OpNL := List PyData → (List PyData → Prop) → Prop
def CallOkL (X : Cx) (r : List V → Hp → VK → Prop) (f : OpNL) : Prop := ∀ F H vs ds q Q, Same F H → ViewAll X.K F H vs ds → f ds q → KontL X.K F H q Q → r vs H Q
def dCBL (f : OpNL) (t : DA) : DO := fun ρ Q => t ρ fun os ρ1 => withAll ρ1 os fun ds => f ds fun g => Q (.list g) ρ1
theorem lO_call {r : List V → Hp → VK → Prop} {f : OpNL} {t : DA} (ok : CallOkL X r f) {σ : L2.St} {H : Hp} {Q : VK} (h : lO X.K C (dCBL f t) σ H Q) : tCB r (lA X.K C t) σ H Q := by
 obtain ⟨F, ρ, q, S, ht, k⟩ := h
 refine ⟨F, ρ, _, S, ht, fun os ρ1 F1 H1 vs h1 S1 s1 d1 => ?_⟩
 obtain ⟨ds, v1, w1⟩ := S1.seeAll d1 h1
 refine ok F1 H1 vs ds _ Q S1.sub v1 w1 fun g xs p hq hp hr => ?_
 obtain ⟨S3, fr⟩ := S1.layL hp hr
 exact k _ _ _ _ _ hq S3 s1 fr
section
variable {id : String} {x : Str} {p : Pos} {T : String}
theorem o_callTy {r : List V → Hp → VK → Prop} {f : OpNL} {t : DA} (hc : CallR X (.type T) r) (ok : CallOkL X r f) (hm : X.mg x = none) (hv : bootBuiltins x = some (.type T)) (ha : QA X C (e :: es) t) (hg : Gl X x := by rfl) (hn : x ≠ "__name__" := by decide) (hdb : (x == ("__debug__" : Str)) = false := by decide)
  (he : starEach (e :: es) X.env = (false, eval e X.env) :: starEach es X.env := by rfl) (hpl : (backTo pos (starEach es X.env)).any (·.1) = false := by rfl) : QO X C (.Call (.Name x p) (e :: es) [] pos) (dCBL f t) :=
 QO.of (pe_callTy hc hg hm hv ha.pa hn hdb he hpl) fun _ _ _ h => lO_call ok h
end
abbrev Op2L := PyData → PyData → (List PyData → Prop) → Prop
def OpOkL (X : Cx) (r : R2) (f : Op2L) : Prop := ∀ F H x y d e q Q, Same F H → View X.K F H x d → View X.K F H y e → f d e q → KontL X.K F H q Q → r x y H Q
def dBinL (f : Op2L) (a b : DE) : DO := fun ρ Q => a ρ fun o1 ρ1 => b ρ1 fun o2 ρ2 => withO ρ2 o1 fun d => withO ρ2 o2 fun e => f d e fun g => Q (.list g) ρ2
theorem o_bin {op : Operator} {r : R2} {f : Op2L} (ho : OpR X (binaryOp op) r) (ok : OpOkL X r f) (ha : QE X C a ta) (hb : QE X C b tb) : QO X C (.BinOp a op b pos) (dBinL f ta tb) :=
 QO.of (pe_op ho ha.pe hb.pe) fun σ H Q h => by
  obtain ⟨F, ρ, q, S, ht, k⟩ := h
  refine ⟨F, ρ, _, S, ht, fun o1 ρ1 F1 H1 x h1 S1 s1 d1 => ?_⟩
  refine ⟨F1, ρ1, _, S1, h1, fun o2 ρ2 F2 H2 y h2 S2 s2 d2 => ?_⟩
  obtain ⟨d, v1, w1⟩ := S2.see (d1.mono s2) h2
  obtain ⟨e, v2, w2⟩ := S2.see d2 w1
  refine ok F2 H2 x y d e _ Q S2.sub v1 v2 w2 fun g xs p hq hp hr => ?_
  obtain ⟨S3, fr⟩ := S2.layL hp hr
  exact k _ _ _ _ _ hq S3 (s1.trans s2) fr
end
end Dv
set_option Elab.async false
set_option linter.all false
set_option maxRecDepth 100000
namespace Dv
open PySem PySem.Spec L2
structure DEnds where
 nx : DEnv → Prop
 rt : SV → DEnv → Prop
 bk : DEnv → Prop := fun _ => False
 ct : DEnv → Prop := fun _ => False
abbrev DS := DEnds → DEnv → Prop
def TupX (K : PySem.W.Frag) (F : Hp) (v : V) (d : PyData) : Prop := ∃ (a : Addr) (xs : List V) (ds : List PyData) (o : Obj), v = .ref a ∧ d = .tuple ds ∧ F a = some (.frz o (.tup xs)) ∧ o.dict = none ∧ RepAll K F xs ds
theorem TupX.rep {K : PySem.W.Frag} {F : Hp} {v : V} {d : PyData} (h : TupX K F v d) : Rep K F v d := by
 obtain ⟨a, xs, ds, o, rfl, rfl, e, _, r⟩ := h
 exact .tup (.inl (.inr ⟨o, e⟩)) r
def RepR (K : PySem.W.Frag) (C : FC) (F H : Hp) (v : V) : SV → Prop
 | .frz d => Rep K F v d
 | .own d => ∃ a, v = .ref a ∧ F a = none ∧ Own K F H a d ∧ C.H0 a = none
 | .own2 d => TupX K F v d
structure EndsOk (K : PySem.W.Frag) (C : FC) (F : Hp) (E : DEnds) (D : Ends) : Prop where
 nx : ∀ ρ' F' H' σ', E.nx ρ' → Sim K C F' H' ρ' σ' → Same F F' → D.nx σ' H'
 rt : ∀ r ρ' F' H' σ' v, E.rt r ρ' → Sim K C F' H' ρ' σ' → Same F F' → RepR K C F' H' v r → D.rt v H'
 bk : ∀ ρ' F' H' σ', E.bk ρ' → Sim K C F' H' ρ' σ' → Same F F' → D.bk σ' H'
 ct : ∀ ρ' F' H' σ', E.ct ρ' → Sim K C F' H' ρ' σ' → Same F F' → D.ct σ' H'
theorem EndsOk.mono {K : PySem.W.Frag} {C : FC} {F F' : Hp} {E : DEnds} {D : Ends} (e : Same F F') (h : EndsOk K C F E D) : EndsOk K C F' E D :=
 ⟨fun _ _ _ _ a b c => h.nx _ _ _ _ a b (e.trans c), fun _ _ _ _ _ _ a b c d => h.rt _ _ _ _ _ _ a b (e.trans c) d, fun _ _ _ _ a b c => h.bk _ _ _ _ a b (e.trans c), fun _ _ _ _ a b c => h.ct _ _ _ _ a b (e.trans c)⟩
def lS (K : PySem.W.Frag) (C : FC) (t : DS) : TS := fun D σ H => ∃ F ρ E, Sim K C F H ρ σ ∧ t E ρ ∧ EndsOk K C F E D
structure QS (X : Cx) (C : FC) (s : Stmt) (t : DS) : Prop where
 ps : PS X s (lS X.K C t)
structure QSs (X : Cx) (C : FC) (s : List Stmt) (t : DS) : Prop where
 pss : PSs X s (lS X.K C t)
section
variable {X : Cx} {C : FC} {P : List Bool} {st : Stmt} {rest body : List Stmt} {a b c e : Expr} {es : List Expr} {pos : Pos} {ta tb tc : DE} {t u : DS}
theorem QS.of {t' : TS} (h : PS X st t') (w : ∀ D σ H, lS X.K C t D σ H → t' D σ H) : QS X C st t := ⟨⟨fun pins s σ H D I hq => h.run pins s σ H D I (w D σ H hq)⟩⟩
theorem QSs.of {t' : TS} (h : PSs X rest t') (w : ∀ D σ H, lS X.K C t D σ H → t' D σ H) : QSs X C rest t := ⟨⟨fun pins s σ H D I hq => h.run pins s σ H D I (w D σ H hq)⟩⟩
def dNext : DS := fun E ρ => E.nx ρ
def dSeq (t u : DS) : DS := fun E ρ => t { E with nx := u E } ρ
theorem s_nil : QSs X C [] dNext := QSs.of pss_nil fun D σ H ⟨F, ρ, E, S, ht, ok⟩ => ok.nx _ _ _ _ ht S (Same.refl F)
theorem lS_seq {D : Ends} {σ : L2.St} {H : Hp} (h : lS X.K C (dSeq t u) D σ H) : lS X.K C t { D with nx := lS X.K C u D } σ H := by
 obtain ⟨F, ρ, E, S, ht, ok⟩ := h
 exact ⟨F, ρ, _, S, ht, ⟨fun ρ' F' H' σ' h1 S1 s1 => ⟨F', ρ', E, S1, h1, ok.mono s1⟩, ok.rt, ok.bk, ok.ct⟩⟩
theorem s_cons (h1 : QS X C st t) (h2 : QSs X C rest u) : QSs X C (st :: rest) (dSeq t u) := QSs.of (pss_cons h1.ps h2.pss) fun _ _ _ h => lS_seq h
theorem s_one (h1 : QS X C st t) : QSs X C [st] t := ⟨pss_one h1.ps⟩
def dDrop (t : DE) : DS := fun E ρ => t ρ fun _ ρ' => E.nx ρ'
theorem s_expr (he : QE X C e ta) (hs : swapsWith e none pos.line X.env = pure false := by rfl) : QS X C (.Expr e pos) (dDrop ta) := QS.of (ps_expr he.pe hs) fun D σ H ⟨F, ρ, E, S, ht, ok⟩ =>
 ⟨F, ρ, _, S, ht, fun o ρ' F' H' v hq S' s' _ => ok.nx _ _ _ _ hq S' s'⟩
def dRet (P : List Bool) (t : DE) : DS := fun E ρ => t ρ fun o ρ' => match o with
 | .val d => E.rt (.frz d) ρ'
 | .slot i => match ρ'[i]? with
  | some (some (.own d)) => P[i]? ≠ some true ∧ E.rt (.own d) ρ'
  | _ => False
theorem s_ret (hP : C.Tags P) (he : QE X C e ta) : QS X C (.Return (some e) pos) (dRet P ta) := QS.of (ps_ret he.pe) fun D σ H ⟨F, ρ, E, S, ht, ok⟩ => by
 refine ⟨F, ρ, _, S, ht, fun o ρ' F' H' v hq S' s' d' => ?_⟩
 cases o with
 | val d => exact ok.rt _ _ _ _ _ _ hq S' s' d'
 | slot i =>
  dsimp only at hq
  cases q : ρ'[i]? with
  | none => rw [q] at hq; exact hq.elim
  | some x =>
   cases x with
   | none => rw [q] at hq; exact hq.elim
   | some y =>
    cases y with
    | frz d => rw [q] at hq; exact hq.elim
    | own2 d => rw [q] at hq; exact hq.elim
    | own d =>
     rw [q] at hq
     obtain ⟨a, h1, h2, h3, h4⟩ := S'.own i d q
     have d'' : σ[i]? = some (some v) := d'
     rw [h1] at d''; cases d''
     refine ok.rt _ _ _ _ _ _ hq.2 S' s' ⟨a, rfl, h2, h3, ?_⟩
     rcases h4 with z | z
     ·exact z
     ·exact absurd (hP i ⟨a, z⟩) hq.1
def dRetO (t : DO) : DS := fun E ρ => t ρ fun d ρ' => E.rt (.own d) ρ'
theorem s_retO {t : DO} (he : QO X C e t) : QS X C (.Return (some e) pos) (dRetO t) := QS.of (ps_ret he.pe) fun D σ H ⟨F, ρ, E, S, ht, ok⟩ =>
 ⟨F, ρ, _, S, ht, fun d ρ' F' H' a hq S' s' fr => ok.rt _ _ _ _ _ _ hq S' s' ⟨a, rfl, fr.f, fr.o, fr.h0⟩⟩
def dIf (c : DT) (t u : DS) : DS := fun E ρ => c ρ fun b ρ1 => by2 b (t E ρ1) (u E ρ1)
theorem s_if {tc : DT} (hc : QT X C c tc) (ha : QSs X C body t) (hb : QSs X C rest u) : QS X C (.If c body rest pos) (dIf tc t u) := QS.of (ps_if hc.pt ha.pss hb.pss) fun D σ H ⟨F, ρ, E, S, ht, ok⟩ => by
 refine ⟨F, ρ, _, S, ht, fun b ρ1 F1 H1 h1 S1 s1 => ?_⟩
 cases b with
 | true => rw [if_pos rfl]; exact ⟨F1, ρ1, E, S1, h1, ok.mono s1⟩
 | false => rw [if_neg Bool.false_ne_true]; exact ⟨F1, ρ1, E, S1, h1, ok.mono s1⟩
abbrev DG := PyData → DEnv → (DEnv → Prop) → Prop
abbrev DGs := List PyData → DEnv → (DEnv → Prop) → Prop
def lG (K : PySem.W.Frag) (C : FC) (t : DG) : TG := fun v σ H Q => ∃ F ρ d q, Sim K C F H ρ σ ∧ Rep K F v d ∧ t d ρ q ∧ ∀ ρ' F' H' σ', q ρ' → Sim K C F' H' ρ' σ' → Same F F' → Q σ' H'
def lGs (K : PySem.W.Frag) (C : FC) (t : DGs) : TGs := fun v σ H Q => ∃ F ρ d q, Sim K C F H ρ σ ∧ RepAll K F v d ∧ t d ρ q ∧ ∀ ρ' F' H' σ', q ρ' → Sim K C F' H' ρ' σ' → Same F F' → Q σ' H'
structure QG (X : Cx) (C : FC) (tg : Expr) (t : DG) : Prop where
 pg : PG X tg (lG X.K C t)
structure QGs (X : Cx) (C : FC) (tg : List Expr) (t : DGs) : Prop where
 pgs : PGs X tg (lGs X.K C t)
theorem QG.of {tg : Expr} {t' : TG} {t : DG} (h : PG X tg t') (w : ∀ v σ H Q, lG X.K C t v σ H Q → t' v σ H Q) : QG X C tg t := ⟨⟨fun pins s σ H v u Q I r hq => h.run pins s σ H v u Q I r (w v σ H Q hq)⟩⟩
theorem QGs.of {tg : List Expr} {t' : TGs} {t : DGs} (h : PGs X tg t') (w : ∀ v σ H Q, lGs X.K C t v σ H Q → t' v σ H Q) : QGs X C tg t := ⟨⟨fun pins s σ H v u Q I r hq => h.run pins s σ H v u Q I r (w v σ H Q hq)⟩⟩
theorem setF' {K : PySem.W.Frag} {F H : Hp} {ρ : DEnv} {σ : L2.St} (S : Sim K C F H ρ σ) {i : Nat} {v : V} {d : PyData} (hp : ¬ C.isP i) (r : Rep K F v d) : Sim K C F H (ρ.set i (some (.frz d))) (σ.set i (some v)) := by
 by_cases hi : i < σ.length
 ·exact S.setF hi hp r
 ·rw [List.set_eq_of_length_le (by rw [S.len]; omega), List.set_eq_of_length_le (by omega)]; exact S
theorem setO' {K : PySem.W.Frag} {F H : Hp} {ρ : DEnv} {σ : L2.St} (S : Sim K C F H ρ σ) {i : Nat} {a : Addr} {d : PyData} (hp : ¬ C.isP i) (fr : Fresh K C F H ρ σ a d) : Sim K C F H (ρ.set i (some (.own d))) (σ.set i (some (.ref a))) := by
 by_cases hi : i < σ.length
 ·exact S.setO hi hp fr.f fr.o fr.h0 fr.pn fr.ne fr.nf
 ·rw [List.set_eq_of_length_le (by rw [S.len]; omega), List.set_eq_of_length_le (by omega)]; exact S
theorem noP (hP : C.Tags P) {i : Nat} (h : P[i]? ≠ some true) : ¬ C.isP i := fun z => h (hP i z)
def gN (i : Nat) : DG := fun d ρ Q => Q (ρ.set i (some (.frz d)))
theorem g_name {i : Nat} {x : Str} (hP : C.Tags P) (hN : X.N.Nodup) (hi : X.N[i]? = some x := by rfl) (hx : Loc X.env.scope x := by first | exact .inl rfl | exact .inr rfl) (hp : P[i]? ≠ some true := by decide)
  (hf : X.fn x = true ∨ X.env.scope.names.lookup x = some .local := by first | exact .inl rfl | exact .inr rfl | assumption) : QG X C (.Name x pos) (gN i) :=
 QG.of (pg_name hN hi hx hf) fun v σ H Q ⟨F, ρ, d, q, S, r, ht, k⟩ => k _ _ _ _ ht (setF' S (noP hP hp) r) (Same.refl F)
def gNil' : DGs := fun ds ρ Q => match ds with
 | [] => Q ρ
 | _ => False
def gCons' (t : DG) (u : DGs) : DGs := fun ds ρ Q => match ds with
 | d :: r => t d ρ fun ρ' => u r ρ' Q
 | [] => False
theorem gs_nil : QGs X C [] gNil' := QGs.of pgs_nil fun v σ H Q ⟨F, ρ, d, q, S, r, ht, k⟩ => by
 cases r with
 | nil => exact ⟨rfl, k _ _ _ _ ht S (Same.refl F)⟩
 | cons _ _ => exact ht.elim
theorem gs_cons {tg : Expr} {tgs : List Expr} {t : DG} {u : DGs} (h1 : QG X C tg t) (h2 : QGs X C tgs u) (hs : (assignEach (tg :: tgs) X.env).map (·.2) = assign tg X.env :: (assignEach tgs X.env).map (·.2) := by rfl) : QGs X C (tg :: tgs) (gCons' t u) :=
 QGs.of (pgs_cons h1.pg h2.pgs hs) fun v σ H Q ⟨F, ρ, d, q, S, r, ht, k⟩ => by
  cases r with
  | nil => exact ht.elim
  | cons r1 r2 => exact ⟨_, _, rfl, F, ρ, _, _, S, r1, ht, fun ρ' F' H' σ' h1 S1 s1 => ⟨F', ρ', _, q, S1, r2.mono s1, h1, fun ρ2 F2 H2 σ2 h2 S2 s2 => k _ _ _ _ h2 S2 (s1.trans s2)⟩⟩
def gTup' (n : Nat) (t : DGs) : DG := fun d ρ Q => match d with
 | .tuple ds => ds.length = n ∧ t ds ρ Q
 | _ => False
theorem g_tup {tgs : List Expr} {k : Nat} {t : DGs} {n : Nat} (hc : X.calm = true) (h : QGs X C tgs t) (hn : (assignEach tgs X.env).length = n := by rfl) (hst : (assignEach tgs X.env).findIdx? (·.1) = none := by rfl) : QG X C (.Tuple tgs k pos) (gTup' n t) :=
 QG.of (pg_tup hc h.pgs hn hst) fun v σ H Q ⟨F, ρ, d, q, S, r, ht, k⟩ => by
  cases r with
  | tup hs hr => exact ⟨_, _, rfl, sqT_mono S.sub hs, by rw [hr.length]; exact ht.1, F, ρ, _, q, S, hr, ht.2, k⟩
  | _ => exact ht.elim
def dAsg (P : List Bool) (t : DE) (g : DG) : DS := fun E ρ => t ρ fun o ρ1 => share P ρ1 o fun d ρ2 => g d ρ2 E.nx
theorem s_asg {tg : Expr} {g : DG} (hP : C.Tags P) (he : QE X C e ta) (hg : QG X C tg g) (hs : swapsWithSole [tg] e pos.line X.env = pure false := by rfl) (hw : swappedStores [tg] e X.env = pure none := by rfl)
  (h1 : (assignEach [tg] X.env).map (·.2) = [assign tg X.env] := by rfl) : QS X C (.Assign [tg] e pos) (dAsg P ta g) :=
 QS.of (ps_asg he.pe hg.pg hs hw h1) fun D σ H ⟨F, ρ, E, S, ht, ok⟩ => by
  refine ⟨F, ρ, _, S, ht, fun o ρ1 F1 H1 v hq S1 s1 d1 => ?_⟩
  obtain ⟨d, ρ2, F2, w, S2, s2, r⟩ := S1.share hP d1 hq
  exact ⟨F2, ρ2, d, _, S2, r, w, fun ρ' F' H' σ' h' S' s' => ok.nx _ _ _ _ h' S' ((s1.trans s2).trans s')⟩
def dSet (P : List Bool) (i : Nat) (t : DE) : DS := fun E ρ => t ρ fun o ρ1 => share P ρ1 o fun d ρ2 => E.nx (ρ2.set i (some (.frz d)))
theorem s_set {i : Nat} {x : Str} {pos' : Pos} (hP : C.Tags P) (hN : X.N.Nodup) (he : QE X C e ta) (hi : X.N[i]? = some x := by rfl) (hx : Loc X.env.scope x := by first | exact .inl rfl | exact .inr rfl) (hp : P[i]? ≠ some true := by decide)
  (hs : swapsWith e (some (.Name x pos')) pos.line X.env = pure false := by rfl) (hf : X.fn x = true ∨ X.env.scope.names.lookup x = some .local := by first | exact .inl rfl | exact .inr rfl | assumption) :
  QS X C (.Assign [.Name x pos'] e pos) (dSet P i ta) := QS.of (ps_set hN hi hx he.pe hs hf) fun D σ H ⟨F, ρ, E, S, ht, ok⟩ => by
 refine ⟨F, ρ, _, S, ht, fun o ρ1 F1 H1 v hq S1 s1 d1 => ?_⟩
 obtain ⟨d, ρ2, F2, w, S2, s2, r⟩ := S1.share hP d1 hq
 exact ok.nx _ _ _ _ w (setF' S2 (noP hP hp) r) (s1.trans s2)
def dSetO (i : Nat) (t : DO) : DS := fun E ρ => t ρ fun d ρ1 => E.nx (ρ1.set i (some (.own d)))
theorem s_setO {i : Nat} {x : Str} {pos' : Pos} {t : DO} (hP : C.Tags P) (hN : X.N.Nodup) (he : QO X C e t) (hi : X.N[i]? = some x := by rfl) (hx : Loc X.env.scope x := by first | exact .inl rfl | exact .inr rfl) (hp : P[i]? ≠ some true := by decide)
  (hs : swapsWith e (some (.Name x pos')) pos.line X.env = pure false := by rfl) (hf : X.fn x = true ∨ X.env.scope.names.lookup x = some .local := by first | exact .inl rfl | exact .inr rfl | assumption) :
  QS X C (.Assign [.Name x pos'] e pos) (dSetO i t) := QS.of (ps_set hN hi hx he.pe hs hf) fun D σ H ⟨F, ρ, E, S, ht, ok⟩ =>
 ⟨F, ρ, _, S, ht, fun d ρ1 F1 H1 a hq S1 s1 fr => ok.nx _ _ _ _ hq (setO' S1 (noP hP hp) fr) s1⟩
def dWhile (c : DT) (b : DS) : DS := fun E ρ => ∃ W : Nat → DEnv → Prop, (∃ m, W m ρ) ∧ ∀ m ρ, W m ρ → c ρ fun x ρ1 => by2 x (b { E with nx := fun ρ' => ∃ m', m' < m ∧ W m' ρ', ct := fun ρ' => ∃ m', m' < m ∧ W m' ρ', bk := E.nx } ρ1) (E.nx ρ1)
theorem s_while {tc : DT} (hp : PassesOwn (model X.prog X.w) X.A X.env X.xe) (hc : QT X C c tc) (hb : QSs X C body t) : QS X C (.While c body [] pos) (dWhile tc t) := QS.of (ps_while hp hc.pt hb.pss) fun D σ H ⟨F, ρ, E, S, ⟨W, ⟨m0, w0⟩, turn⟩, ok⟩ => by
 refine ⟨fun m σ H => ∃ F' ρ', Sim X.K C F' H ρ' σ ∧ Same F F' ∧ W m ρ', ⟨m0, F, ρ, S, Same.refl F, w0⟩, fun m σ H ⟨F1, ρ1, S1, s1, w1⟩ => ?_⟩
 refine ⟨F1, ρ1, _, S1, turn m ρ1 w1, fun b ρ2 F2 H2 h2 S2 s2 => ?_⟩
 cases b with
 | true =>
  rw [if_pos rfl]
  refine ⟨fun σ' H' => ∃ m', m' < m ∧ ∃ F' ρ', Sim X.K C F' H' ρ' σ' ∧ Same F F' ∧ W m' ρ', fun σ' H' h => h, F2, ρ2, _, S2, h2, ⟨?_, ?_, ?_, ?_⟩⟩
  ·rintro ρ' F' H' σ' ⟨m', hm, w'⟩ S' s'
   exact ⟨m', hm, F', ρ', S', (s1.trans s2).trans s', w'⟩
  ·intro r ρ' F' H' σ' v h S' s' rr
   exact ok.rt _ _ _ _ _ _ h S' ((s1.trans s2).trans s') rr
  ·intro ρ' F' H' σ' h S' s'
   exact ok.nx _ _ _ _ h S' ((s1.trans s2).trans s')
  ·rintro ρ' F' H' σ' ⟨m', hm, w'⟩ S' s'
   exact ⟨m', hm, F', ρ', S', (s1.trans s2).trans s', w'⟩
 | false =>
  rw [if_neg Bool.false_ne_true]
  exact ok.nx _ _ _ _ h2 S2 (s1.trans s2)
def ItOk (K : PySem.W.Frag) (J : It) (F0 : Hp) (ds : List PyData) : Prop := ∀ F H, Same F0 F → Same F H → J.stop ds.length H ∧ ∀ (i : Nat) d, ds[i]? = some d → J.go i H ∧ ∀ x H', J.yld i H x H' → ∃ F', Gr F H F' H' ∧ Rep K F' x d
abbrev DI := DEnv → (List PyData → DEnv → Prop) → Prop
def lI (K : PySem.W.Frag) (C : FC) (t : DI) : TI := fun σ H R => ∃ F ρ q, Sim K C F H ρ σ ∧ t ρ q ∧ ∀ ds ρ' F' H' J, q ds ρ' → Sim K C F' H' ρ' σ → Same F F' → ItOk K J F' ds → R J H'
structure QI (X : Cx) (C : FC) (tg it : Expr) (t : DI) : Prop where
 pi : PI X tg it (lI X.K C t)
theorem QI.of {tg it : Expr} {t' : TI} {t : DI} (h : PI X tg it t') (w : ∀ σ H R, lI X.K C t σ H R → t' σ H R) : QI X C tg it t := ⟨⟨fun pins s σ H R I hq => h.run pins s σ H R I (w σ H R hq)⟩⟩
def dLoop (g : DG) (b : DS) (E : DEnds) : List PyData → DEnv → Prop
 | [], ρ => E.nx ρ
 | d :: ds, ρ => g d ρ fun ρ1 => b { E with nx := dLoop g b E ds, ct := dLoop g b E ds, bk := E.nx } ρ1
def dFor (it : DI) (g : DG) (b : DS) : DS := fun E ρ => it ρ fun ds ρ1 => dLoop g b E ds ρ1
theorem s_for {tg it : Expr} {ti : DI} {g : DG} (hp : PassesOwn (model X.prog X.w) X.A X.env X.xe) (hc : X.calm = true) (hi : QI X C tg it ti) (hg : QG X C tg g) (hb : QSs X C body t) (hs : ∀ x, foldedSetIterable it X.env x = pure x := by intro _; rfl) :
  QS X C (.For tg it body [] pos) (dFor ti g t) := QS.of (ps_for hp hc hi.pi hg.pg hb.pss hs) fun D σ H ⟨F, ρ, E, S, ht, ok⟩ => by
 refine ⟨F, ρ, _, S, ht, fun ds ρ1 F1 H1 J h1 S1 s1 iok => ?_⟩
 refine ⟨fun i m σ H => m + i = ds.length ∧ ∃ F' ρ', Sim X.K C F' H ρ' σ ∧ Same F1 F' ∧ dLoop g t E (ds.drop i) ρ', ⟨ds.length, rfl, F1, ρ1, S1, Same.refl F1, h1⟩, fun i m σ H ⟨hm, F2, ρ2, S2, s2, w2⟩ => ?_⟩
 obtain ⟨st, go⟩ := iok F2 H s2 S2.sub
 by_cases hi : i < ds.length
 ·rw [List.drop_eq_getElem_cons hi] at w2
  obtain ⟨g1, y1⟩ := go i ds[i] (List.getElem?_eq_getElem hi)
  refine .inr ⟨g1, fun σ' H' => ∃ F' ρ', Sim X.K C F' H' ρ' σ' ∧ Same F1 F' ∧ dLoop g t E (ds.drop (i + 1)) ρ', fun σ' H' h => ⟨m - 1, by omega, by omega, h⟩, fun x H' hy => ?_⟩
  obtain ⟨F3, gr, r⟩ := y1 x H' hy
  refine ⟨F3, ρ2, ds[i], _, S2.grow gr, r, w2, fun ρ4 F4 H4 σ4 h4 S4 s4 => ?_⟩
  have s14 := (s2.trans gr.f).trans s4
  refine ⟨F4, ρ4, _, S4, h4, ⟨?_, ?_, ?_, ?_⟩⟩
  ·intro ρ' F' H' σ' h S' s'
   exact ⟨F', ρ', S', s14.trans s', h⟩
  ·intro r ρ' F' H' σ' v h S' s' rr
   exact ok.rt _ _ _ _ _ _ h S' (s1.trans (s14.trans s')) rr
  ·intro ρ' F' H' σ' h S' s'
   exact ok.nx _ _ _ _ h S' (s1.trans (s14.trans s'))
  ·intro ρ' F' H' σ' h S' s'
   exact ⟨F', ρ', S', s14.trans s', h⟩
 ·rw [List.drop_eq_nil_of_le (by omega)] at w2
  have e : i = ds.length := by omega
  subst e
  exact .inl ⟨st, ok.nx _ _ _ _ w2 S2 (s1.trans s2)⟩
end
end Dv
set_option Elab.async false
set_option linter.all false
set_option maxRecDepth 100000
namespace Dv
open PySem PySem.Spec L2
open PyProof.Rows (AllBare)
structure RG (k : Nat) (A : Around) : Prop where
 r : Room k A
 g : A.guards = some []
theorem RG.mono {j k : Nat} {A : Around} (h : RG k A) (hjk : j ≤ k) : RG j A := ⟨h.r.mono hjk, h.g⟩
structure FnG (Pg : Program) (w : World) (K : PySem.W.Frag) (mg : Str → Option Value) (base : Heap) (k : Nat) (f : Addr) (fd : FuncData) (ps : List Str) (S : Sp) : Prop where
 len : ∀ {vs H Q E}, S vs H Q E → vs.length = ps.length
 go : ∀ {A : Around} {outer : List Env} {s : Shared} {H : Hp} {args : PySem.Args} {us : List Value} {vs : List V} {Q : VK} {E : XK}, RG k A → Env0 Pg w K mg base A outer s H → BindsTo s fd args (ps.zip us) → Vals vs us → S vs H Q E → codeAny (model Pg w) A (.call (.ref f) args) (CR CX0 outer Pg w H s Q E) s
section
variable {Pg : Program} {w : World} {K : PySem.W.Frag} {mg : Str → Option Value} {base : Heap} {j k : Nat} {f : Addr} {fd : FuncData} {ps : List Str} {S T : Sp}
theorem FnG.mono (h : FnG Pg w K mg base j f fd ps S) (hjk : j ≤ k) : FnG Pg w K mg base k f fd ps S := ⟨h.len, fun r => h.go (r.mono hjk)⟩
theorem FnG.imp (h : FnG Pg w K mg base k f fd ps S) (i : ∀ {vs H Q E}, T vs H Q E → S vs H Q E) : FnG Pg w K mg base k f fd ps T := ⟨fun t => h.len (i t), fun r e b v t => h.go r e b v (i t)⟩
end
theorem pe_callG {X : Cx} {k : Nat} {f : Addr} {fd : FuncData} {ps : List Str} {S : Sp} {x : Str} {p pos : Pos} {e : Expr} {es : List Expr} {t : TA} {E : XK} (h : FnG X.prog X.w X.K X.mg X.base k f fd ps S) (hr : RG k X.A) (hg : Gl X x) (hm : X.mg x = some (.ref f)) (hk : PySem.W.keepIn X.K (.ref f) = true) (hb : Binds X.K fd ps []) (hx : Passes CX0 X E)
  (ha : PA X (e :: es) t) (hdb : (x == ("__debug__" : Str)) = false) (he : starEach (e :: es) X.env = (false, eval e X.env) :: starEach es X.env) (hpl : (backTo pos (starEach es X.env)).any (·.1) = false) :
  PE X (.Call (.Name x p) (e :: es) [] pos) (tCall S [] E t) := by
 constructor
 intro pins s σ H Q I hq
 apply wpAny_Call_Name_kw
 apply ld_glob I hg hm _ hdb
 refine PySem.W.callWith_K (h₀ := X.base) I.ok.mod.kin hk (thn (ha.run pos pins s σ H _ I hq) ?_) he hpl
 rintro us s2 ⟨vs, H2, J, rv, hS⟩
 refine ⟨J.kIn, ?_⟩
 rw [List.append_nil] at hS
 have hl : us.length = ps.length := rv.length.symm.trans (h.len hS)
 have bind : BindsTo s2 fd ⟨us, []⟩ (ps.zip us) := by simpa using hb s2 us J.kIn (by simpa using hl)
 apply wpAny_call
 refine codeAny_mono (h.go hr J.env0 bind rv hS) ?_
 rintro (er | (_ | _ | _ | u)) s3 hc
 all_goals first | exact hx pins σ H2 s2 _ s3 J hc | exact J.after hc | exact hc.elim
theorem fnG_def {Pg : Program} {w : World} {K : PySem.W.Frag} {mg : Str → Option Value} {base : Heap} {x qual : Str} {st : Stmt} {f : Addr} {fd : FuncData} {N ps : List Str} {k : Nat} {S : Sp} (F : Fun K x qual st f fd) (Sc : FnScope N ps (defScope st)) (len : ∀ {vs H Q E}, S vs H Q E → vs.length = ps.length)
  (body : ∀ (cdv : Value) (A : Around) (outer : List Env) (s : Shared) (H : Hp) (vs : List V) (Q : VK) (E : XK), RG k (A.deeper (PyProof.Rows.envOfC qual (defScope st) s.heap.objs.size f cdv)) → S vs H Q E →
   ∃ t, PSs (cxOf CX0 Pg w K mg base N qual (defScope st) f cdv A outer s H E).nox (defBody st) t ∧ t { nx := fun _ H' => Q .non H', rt := Q } (start N vs) H) : FnG Pg w K mg base (k + 1) f fd ps S := by
 obtain ⟨oc, od, kV, doc, pm, an, cdv, ct, osl, rfl, lk, code⟩ := F.ex
 refine ⟨len, ?_⟩
 intro A outer s H args us vs Q E hr e0 hb rv hS
 have old : ∀ b o, base.get? b = some o → s.heap.get? b = some o := fun b o z => (e0.bs b o z).1
 have KX : K.In s.heap := e0.mod.kin.keeps old
 refine codeAny_call_function hr.r.depth (KX _ _ lk) rfl Sc.co Sc.gen rfl (PySem.W.codeRec_of KX code) (hb _ _ _ _ ?_)
 refine wpAny_newFunctionEnv_cells Sc.kind (fun y hy => ?_) ?_
 ·rcases Sc.par y.1 (List.of_mem_zip (show (y.1, y.2) ∈ ps.zip us from hy)).1 with z | z
  ·exact .inl z
  ·exact .inr ⟨z, PySem.W.cellsFrom_some _ _ _ (.inl z)⟩
 rintro _ rfl s1 hc
 refine ⟨(e0.mod.nolimit.keeps old).keeps hc.toInCall.keep, codeAny_func ?_⟩
 obtain ⟨t, ht, hq⟩ := body cdv A outer s H vs Q E ⟨hr.r.deeper _, hr.g⟩ hS
 have I : Inv (cxOf CX0 Pg w K mg base N qual (defScope st) f cdv A outer s H E) [] (start N vs) H s1 := inv_start Sc hr.r.hd e0 (len hS) rv hc
 refine wpAny_mono (ht.nox.run [] s1 (start N vs) H _ I hq) ?_ fun _ _ z => z
 rintro (_ | _ | _ | u) s2 hz
 ·obtain ⟨σ', H', J, z⟩ := hz
  exact ⟨.non, H', J.os, J.bare, J.base, J.hok, rfl, z⟩
 ·obtain ⟨_, _, _, z⟩ := hz
  exact z.elim
 ·obtain ⟨_, _, _, z⟩ := hz
  exact z.elim
 ·obtain ⟨v, σ', H', J, r, z⟩ := hz
  exact ⟨v, H', J.os, J.bare, J.base, J.hok, r, z⟩
theorem lawG {Pg : Program} {w : World} {K : PySem.W.Frag} {mg mb : Str → Option Value} {k : Nat} {fa a : Addr} {fd : FuncData} {x : Str} {S : Sp} {s : Shared} {vs : List Value} {ns : List Int}
  (KX : K.In s.heap) (gl : s.heap.Ns mainGlobals mg) (bl : s.heap.Ns builtinsNs mb) (boot : ∀ y : Str, y ≠ "__name__" → mb y = bootBuiltins y) (lim : s.heap.NoLimit) (gens : s.gens = #[])
  (ha : s.heap.get? a = some { cls := .type "list", data := .seq vs.toArray }) (hi : PyProof.Rows.IntsAre vs ns) (hl : ns.length ≤ sizeLine) (hr : RG k callerA)
  (F : ∀ base : Heap, K.In base → base.Ns mainGlobals mg → FnG Pg w K mg base k fa fd [x] S) (bind : ∀ (s : Shared) (u : Value), BindsTo s fd ⟨[u], []⟩ [(x, u)])
  (hS : ∀ H : Hp, SqL K H a (ns.map V.int) → S [.ref a] H (fun v _ => v = .bl true) fun _ _ _ => False) :
  codeAny (model Pg w) callerA (.call (.ref fa) ⟨[.ref a], []⟩) (fun r s' => r = .ok (.ret (.bool true)) ∧ OldK s.heap s'.heap ∧ s'.os = s.os ∧ AllBare s'.gens) s := by
 have rv := vals_ints hi
 have hvl := hi.length
 have main : ∀ H : Hp, (∀ b, H b = none ∨ (b = a ∧ K.lookup a = none ∧ ∃ o ys, H b = some (.frz o (.lst ys)))) → SqL K H a (ns.map V.int) → HOk Pg w H s.heap →
   codeAny (model Pg w) callerA (.call (.ref fa) ⟨[.ref a], []⟩) (fun r s' => r = .ok (.ret (.bool true)) ∧ OldK s.heap s'.heap ∧ s'.os = s.os ∧ AllBare s'.gens) s := by
  intro H only sq ok
  have stay : ∀ {b : Addr} {m : Str → Option Value}, s.heap.Ns b m → (hidT s.heap H).Ns b m := by
   rintro b m ⟨o, es, ep, e, d, z⟩
   refine ⟨o, es, ep, hidT_get e ?_, d, z⟩
   rcases only b with q | ⟨rfl, _⟩
   ·exact q
   ·rw [ha] at e
    cases e
    exact absurd d (by intro h; nomatch h)
  have kin : K.In (hidT s.heap H) := fun b o e => hidT_get (KX b o e) (by
   rcases only b with q | ⟨rfl, q, _⟩
   ·exact q
   ·rw [q] at e; cases e)
  obtain ⟨mc, l1, l2⟩ := lim
  have e0 : Env0 Pg w K mg (hidT s.heap H) callerA [] s H :=
   { frames := rfl, mod := ⟨kin, stay gl, ⟨mb, stay bl, boot⟩, ⟨mc, stay l1, l2⟩⟩, bs := fun _ _ e => of_hidT e, bsz := Nat.le_of_eq (hidT_size _ _), funs := trivial, frf := fun b z => (List.not_mem_nil z).elim, hok := ok, bare := .of_eq gens }
  refine codeAny_mono ((F _ kin (stay gl)).go (us := [.ref a]) (vs := [.ref a]) hr e0 (bind s (.ref a)) (.cons rfl .nil) (hS H sq)) ?_
  rintro (er | (_ | _ | _ | u)) s' hc
  ·exact hc.elim
  ·exact hc.elim
  ·exact hc.elim
  ·exact hc.elim
  ·obtain ⟨v, H', os, bare, un, ok', r, rfl⟩ := hc
   obtain rfl : u = Value.bool true := r
   refine ⟨rfl, OldK.of_keep fun b o e => ?_, os, bare⟩
   rcases only b with q | ⟨_, _, ob, ys, q⟩
   ·exact un.keep b o e q (fun z => (List.not_mem_nil z).elim) (by simp)
   ·have h1 := (ok b _ q).1
    have h2 := (ok' b _ (un.frzs b ob _ q)).1
    rw [e] at h1
    cases h1
    exact h2
 cases hk : K.lookup a with
 | some o =>
  have e := KX a o hk
  rw [ha] at e
  cases e
  refine main (fun _ => none) (fun _ => .inl rfl) (.inr ⟨_, vs.toArray, _, hk, rfl, rfl, rfl, ?_, ?_⟩) (fun b u z => by cases z)
  ·rw [List.size_toArray, hvl]; exact hl
  ·simpa using rv
 | none =>
  refine main (fun b => if b = a then some (.frz { cls := .type "list", data := .seq vs.toArray } (.lst (ns.map V.int))) else none) (fun b => ?_) (.inl (.inr ⟨{ cls := .type "list", data := .seq vs.toArray }, if_pos rfl⟩)) (fun b u z => ?_)
  ·by_cases h : b = a
   ·exact .inr ⟨h, hk, _, _, if_pos h⟩
   ·exact .inl (if_neg h)
  ·by_cases h : b = a
   ·have z2 := (if_pos h).symm.trans z
    cases z2
    subst h
    exact ⟨ha, by rw [List.length_map]; exact hl, vs, _, rv, ha⟩
   ·have z2 := (if_neg h).symm.trans z
    cases z2
theorem walkG {l : PySem.W.OpenLaw} {n k : Nat} {q : Program} {loose : List Str} {XP : (Str → Option Value) → Heap → Prop} {YP : World → Heap → Prop} {d : DefRec} {K : Params → PySem.W.Frag} {sp : World → Sp} {x : Str}
  (hn : l.most = some n) (hn2 : n ≤ sizeLine) (hdf : d.params.defaults = []) (hr : RG k callerA) (hY : ∀ (w : World) (h : Heap), YP w h → (K w.params).In h)
  (F : ∀ (w : World) (mg : Str → Option Value) (fa : Addr) (h : Heap), (K w.params).In h → h.Ns mainGlobals mg → mg d.name = some (.ref fa) →
   ∃ fd : FuncData, (∀ (s : Shared) (u : Value), BindsTo s fd ⟨[u], []⟩ [(x, u)]) ∧ ∀ base : Heap, (K w.params).In base → base.Ns mainGlobals mg → FnG l.prog w (K w.params) mg base k fa fd [x] (sp w))
  (hS : ∀ (w : World) (H : Hp) (a : Addr) (ns : List Int), ns.length ≤ n → SqL (K w.params) H a (ns.map V.int) → sp w [.ref a] H (fun v _ => v = .bl true) fun _ _ _ => False) :
  PySem.W.WalkO q loose XP YP l.row.toRowW d [] (fun f vs => PySem.call f vs) := by
 refine Att.attach_call hn hdf ?_
 intro w s0 s1 mg mb fa o pm cd doc a vs ns G Y ho hd hcd hmg hobj hints hlen hg
 obtain ⟨fd, hb, hF⟩ := F w mg fa _ (hY w _ Y) G.T.g hmg
 exact lawG (hY w _ Y) G.T.g G.T.b G.T.builtins G.T.nolimit hg hobj hints (Nat.le_trans hlen hn2) hr hF hb fun H sq => hS w H a ns hlen sq
end Dv
set_option Elab.async false
set_option linter.all false
set_option maxRecDepth 100000
set_option autoImplicit false
namespace Dv
open PySem PySem.Spec L2
abbrev Outs := List (Option PyData)
abbrev SpD := List PyData → (SV → Outs → Prop) → Prop
def SV.d : SV → PyData
 | .frz d => d
 | .own d => d
 | .own2 d => d
def isT : Option Bool → Bool
 | some true => true
 | _ => false
structure Args (K : PySem.W.Frag) (F H : Hp) (P : List Bool) (vs : List V) (ds : List PyData) : Prop where
 len : vs.length = ds.length
 lenP : P.length = ds.length
 frz : ∀ (i : Nat) (v : V) (d : PyData), vs[i]? = some v → ds[i]? = some d → P[i]? = some false → Rep K F v d
 own : ∀ (i : Nat) (v : V) (d : PyData), vs[i]? = some v → ds[i]? = some d → P[i]? = some true → ∃ a, v = .ref a ∧ F a = none ∧ Own K F H a d
 ne : ∀ (i j : Nat) (a : Addr), P[i]? = some true → P[j]? = some true → vs[i]? = some (.ref a) → vs[j]? = some (.ref a) → i = j
structure Post (K : PySem.W.Frag) (P : List Bool) (F H : Hp) (vs : List V) (F' H' : Hp) (outs : Outs) (r : SV) (v : V) : Prop where
 s : Same F' H'
 f : Same F F'
 n : ∀ b, F' b ≠ none → F b ≠ none ∨ H b = none
 h : ∀ b o, H b = some o → (∀ (i : Nat), P[i]? = some true → vs[i]? ≠ some (.ref b)) → H' b = some o
 o : ∀ (i : Nat) (a : Addr), P[i]? = some true → vs[i]? = some (.ref a) → ∃ d, outs[i]? = some (some d) ∧ F' a = none ∧ Own K F' H' a d
 oN : ∀ (i : Nat) (d : PyData), outs[i]? = some (some d) → P[i]? = some true
 res : match r with
  | .frz d => Rep K F' v d
  | .own d => ∃ a, v = .ref a ∧ F' a = none ∧ Own K F' H' a d ∧ H a = none
  | .own2 d => TupX K F' v d
def spOf (K : PySem.W.Frag) (P : List Bool) (S : SpD) : Sp := fun vs H Q _ => ∃ F ds q, Same F H ∧ Args K F H P vs ds ∧ S ds q ∧ ∀ r outs F' H' v, q r outs → Post K P F H vs F' H' outs r v → Q v H'
def startE (n : Nat) : List Bool → List PyData → DEnv
 | b :: P, d :: ds => some (if b then .own d else .frz d) :: startE (n - 1) P ds
 | _, _ => List.replicate n none
def outE : Bool → Option SV → Option PyData
 | true, some (.own d) => some d
 | _, _ => none
def outsOf : List Bool → DEnv → Outs
 | b :: P, x :: ρ => outE b x :: outsOf P ρ
 | _, _ => []
theorem outsOf_at : ∀ {P : List Bool} {ρ : DEnv} {i : Nat} {d : PyData}, P[i]? = some true → ρ[i]? = some (some (.own d)) → (outsOf P ρ)[i]? = some (some d)
 | [], _, _, _, h, _ => by simp at h
 | _ :: _, [], _, _, _, h => by simp at h
 | b :: P, x :: ρ, 0, d, h1, h2 => by
  simp at h1 h2
  subst h1 h2
  rfl
 | b :: P, x :: ρ, i + 1, d, h1, h2 => by
  have ih := outsOf_at (P := P) (ρ := ρ) (i := i) (d := d) (by simpa using h1) (by simpa using h2)
  simpa [outsOf] using ih
theorem outsOf_true : ∀ {P : List Bool} {ρ : DEnv} {i : Nat} {d : PyData}, (outsOf P ρ)[i]? = some (some d) → P[i]? = some true
 | [], _, _, _, h => by simp [outsOf] at h
 | _ :: _, [], _, _, h => by simp [outsOf] at h
 | b :: P, x :: ρ, 0, d, h => by
  simp [outsOf] at h
  cases b with
  | true => rfl
  | false => simp [outE] at h
 | b :: P, x :: ρ, i + 1, d, h => by
  simp [outsOf] at h
  simpa using outsOf_true h
theorem startE_get : ∀ {n : Nat} {P : List Bool} {ds : List PyData} {i : Nat}, P.length = ds.length → (startE n P ds)[i]? = match P[i]?, ds[i]? with
  | some b, some d => some (some (if b then .own d else .frz d))
  | _, _ => if i < ds.length + (n - ds.length) then some none else none
 | n, [], [], i, _ => by
  simp [startE, List.getElem?_replicate]
 | n, b :: P, d :: ds, 0, h => by simp [startE]
 | n, b :: P, d :: ds, i + 1, h => by
  have ih := startE_get (n := n - 1) (P := P) (ds := ds) (i := i) (by simpa using h)
  simp only [startE, List.getElem?_cons_succ, List.length_cons]
  rw [ih]
  have e : (i < ds.length + (n - 1 - ds.length)) = (i + 1 < ds.length + 1 + (n - (ds.length + 1))) := by
   rw [Nat.sub_sub, Nat.add_comm 1 ds.length]
   apply propext; constructor <;> intro <;> omega
  simp only [e]
 | n, [], _ :: _, _, h => by simp at h
 | n, _ :: _, [], _, h => by simp at h
theorem startE_length : ∀ {n : Nat} {P : List Bool} {ds : List PyData}, P.length = ds.length → ds.length ≤ n → (startE n P ds).length = n
 | n, [], [], _, _ => by simp [startE]
 | n, b :: P, d :: ds, h, hn => by
  simp only [startE, List.length_cons] at hn ⊢
  rw [startE_length (n := n - 1) (by simpa using h) (by omega)]
  omega
 | n, [], _ :: _, h, _ => by simp at h
 | n, _ :: _, [], h, _ => by simp at h
def paE : Bool → V → Option Addr
 | true, .ref a => some a
 | _, _ => none
def paOf : List Bool → List V → List (Option Addr)
 | b :: P, v :: vs => paE b v :: paOf P vs
 | _, _ => []
theorem paE_some {b : Bool} {v : V} {a : Addr} : paE b v = some a ↔ b = true ∧ v = .ref a := by
 cases b <;> cases v <;> simp [paE]
theorem paOf_get : ∀ {P : List Bool} {vs : List V} {i : Nat} {a : Addr}, (paOf P vs)[i]? = some (some a) ↔ P[i]? = some true ∧ vs[i]? = some (.ref a)
 | [], _, _, _ => by simp [paOf]
 | _ :: _, [], _, _ => by simp [paOf]
 | b :: P, v :: vs, 0, a => by simp [paOf, paE_some]
 | b :: P, v :: vs, i + 1, a => by simpa [paOf] using paOf_get
theorem start_get {N : List Str} {vs : List V} {i : Nat} {v : V} : (L2.start N vs)[i]? = some (some v) ↔ vs[i]? = some v := by
 unfold L2.start
 by_cases h : i < vs.length
 ·rw [List.getElem?_append_left (by simpa using h), List.getElem?_map, List.getElem?_eq_getElem h]; simp
 ·rw [List.getElem?_append_right (by simpa using h), List.getElem?_replicate, List.getElem?_eq_none (l := vs) (by omega)]
  constructor
  ·intro z; split at z <;> cases z
  ·intro z; cases z
section
variable {K : PySem.W.Frag} {F H : Hp} {P : List Bool} {vs : List V} {ds : List PyData} {N : List Str}
def fcOf (F H : Hp) (P : List Bool) (vs : List V) : FC := ⟨F, H, paOf P vs, fun _ => none⟩
theorem fc_tags : (fcOf F H P vs).Tags P := fun i ⟨a, h⟩ => (paOf_get.mp h).1
theorem sim_start (s : Same F H) (A : Args K F H P vs ds) (hN : ds.length ≤ N.length) : Sim K (fcOf F H P vs) F H (startE N.length P ds) (L2.start N vs) where
 len := by
  rw [startE_length A.lenP hN]; unfold L2.start
  have := A.len
  simp; omega
 sub := s
 frz := fun i d h => by
  rw [startE_get A.lenP] at h
  split at h
  ·rename_i b e h1 h2
   cases b with
   | true => cases h
   | false =>
    cases h
    have hl : i < vs.length := by rw [A.len]; exact (List.getElem?_eq_some_iff.mp h2).1
    exact ⟨vs[i], start_get.mpr (List.getElem?_eq_getElem hl), A.frz i _ _ (List.getElem?_eq_getElem hl) h2 h1⟩
  ·split at h <;> cases h
 own := fun i d h => by
  rw [startE_get A.lenP] at h
  split at h
  ·rename_i b e h1 h2
   cases b with
   | false => cases h
   | true =>
    cases h
    have hl : i < vs.length := by rw [A.len]; exact (List.getElem?_eq_some_iff.mp h2).1
    obtain ⟨a, e1, e2, e3⟩ := A.own i _ _ (List.getElem?_eq_getElem hl) h2 h1
    have hv : vs[i]? = some (.ref a) := by rw [List.getElem?_eq_getElem hl, e1]
    exact ⟨a, start_get.mpr hv, e2, e3, .inr (paOf_get.mpr ⟨h1, hv⟩)⟩
  ·split at h <;> cases h
 ne := fun i j a d e h1 h2 h3 h4 => by
  rw [startE_get A.lenP] at h1 h2
  split at h1
  ·rename_i b1 _ p1 _
   cases b1 with
   | false => cases h1
   | true =>
    split at h2
    ·rename_i b2 _ p2 _
     cases b2 with
     | false => cases h2
     | true => exact A.ne i j a p1 p2 (start_get.mp h3) (start_get.mp h4)
    ·split at h2 <;> cases h2
  ·split at h1 <;> cases h1
 par := fun i a h => by
  obtain ⟨h1, h2⟩ := paOf_get.mp h
  have hl : i < ds.length := by rw [← A.len]; exact (List.getElem?_eq_some_iff.mp h2).1
  refine ⟨ds[i], ?_, start_get.mpr h2⟩
  rw [startE_get A.lenP, h1, List.getElem?_eq_getElem hl]
  rfl
 f0 := Same.refl F
 h0 := fun b o e _ => e
 new := fun b e => .inl e
 pin := fun b o e => nomatch e
 dp := fun i d h => by
  rw [startE_get A.lenP] at h
  split at h
  ·rename_i b _ _ _
   cases b <;> cases h
  ·split at h <;> cases h
def endsOf (P : List Bool) (q : SV → Outs → Prop) : DEnds := { nx := fun ρ => q (.frz .none) (outsOf P ρ), rt := fun r ρ => q r (outsOf P ρ) }
theorem post_of {F' H' : Hp} {ρ' : DEnv} {σ' : L2.St} {r : SV} {v : V} (S : Sim K (fcOf F H P vs) F' H' ρ' σ') (rr : RepR K (fcOf F H P vs) F' H' v r) : Post K P F H vs F' H' (outsOf P ρ') r v where
 s := S.sub
 f := S.f0
 n := S.new
 h := fun b o e hb => S.h0 b o e fun z => by
  obtain ⟨i, hi⟩ := List.mem_iff_getElem?.mp z
  obtain ⟨h1, h2⟩ := paOf_get.mp hi
  exact hb i h1 h2
 o := fun i a h1 h2 => by
  obtain ⟨d, e1, e2⟩ := S.par i a (paOf_get.mpr ⟨h1, h2⟩)
  obtain ⟨a', e3, e4, e5, _⟩ := S.own i d e1
  rw [e2] at e3; cases e3
  exact ⟨d, outsOf_at h1 e1, e4, e5⟩
 oN := fun i d h => outsOf_true h
 res := by
  cases r with
  | frz d => exact rr
  | own2 d => exact rr
  | own d => obtain ⟨a, h1, h2, h3, h4⟩ := rr; exact ⟨a, h1, h2, h3, h4⟩
end
theorem fn_ok {Pg : Program} {w : World} {K : PySem.W.Frag} {mg : Str → Option Value} {base : Heap} {x qual : Str} {st : Stmt} {f : Addr} {fd : FuncData} {N ps : List Str} {k : Nat} {P : List Bool} {S : SpD} {g : DS}
  (F : Fun K x qual st f fd) (Sc : FnScope N ps (defScope st)) (hl : P.length = ps.length) (hN : ps.length ≤ N.length)
  (der : ∀ (cdv : Value) (A : Around) (outer : List Env) (s : Shared) (H : Hp) (E : XK) (C : FC), RG k (A.deeper (PyProof.Rows.envOfC qual (defScope st) s.heap.objs.size f cdv)) → C.Tags P → QSs (cxOf CX0 Pg w K mg base N qual (defScope st) f cdv A outer s H E).nox C (defBody st) g)
  (pure : ∀ ds q, S ds q → ds.length = P.length → g (endsOf P q) (startE N.length P ds)) : FnG Pg w K mg base (k + 1) f fd ps (spOf K P S) := by
 refine fnG_def F Sc (fun {vs H Q E} h => ?_) (fun cdv A outer s H vs Q E hr h => ?_)
 ·obtain ⟨F, ds, q, _, A, _⟩ := h
  rw [A.len, ← A.lenP, hl]
 ·obtain ⟨F1, ds, q, sF, Ar, hS, k1⟩ := h
  refine ⟨_, (der cdv A outer s H E (fcOf F1 H P vs) hr fc_tags).pss, F1, startE N.length P ds, endsOf P q, sim_start sF Ar (by rw [← Ar.lenP, hl]; exact hN), pure ds q hS Ar.lenP.symm, ⟨?_, ?_, ?_, ?_⟩⟩
  ·intro ρ' F' H' σ' h S' s'
   exact k1 _ _ _ _ _ h (post_of S' Rep.non)
  ·intro r ρ' F' H' σ' v h S' s' rr
   exact k1 _ _ _ _ _ h (post_of S' rr)
  ·intro _ _ _ _ h
   exact h.elim
  ·intro _ _ _ _ h
   exact h.elim
end Dv
set_option Elab.async false
set_option linter.all false
set_option maxRecDepth 100000
set_option autoImplicit false
namespace Dv
open PySem PySem.Spec L2
def shareSel (P : List Bool) : List Bool → DEnv → List Opd → (DEnv → Prop) → Prop
 | false :: ts, ρ, o :: os, k => share P ρ o fun _ ρ1 => shareSel P ts ρ1 os k
 | true :: ts, ρ, _ :: os, k => shareSel P ts ρ os k
 | _, ρ, _, k => k ρ
def selOk : List Bool → DEnv → List Opd → Prop
 | false :: ts, ρ, .val _ :: os => selOk ts ρ os
 | false :: ts, ρ, .slot i :: os => (match ρ[i]? with
  | some (some (.frz _)) => True
  | _ => False) ∧ selOk ts ρ os
 | true :: ts, ρ, .slot i :: os => (match ρ[i]? with
  | some (some (.own _)) => True
  | _ => False) ∧ selOk ts ρ os
 | [], _, [] => True
 | _, _, _ => False
def selSlots : List Bool → List Opd → List Nat
 | true :: ts, .slot i :: os => i :: selSlots ts os
 | _ :: ts, _ :: os => selSlots ts os
 | _, _ => []
def wb1 : Opd → Option PyData → DEnv → DEnv
 | .slot i, some d, ρ => ρ.set i (some (.own d))
 | _, _, ρ => ρ
def wb : List Opd → Outs → DEnv → DEnv
 | o :: os, x :: xs, ρ => wb os xs (wb1 o x ρ)
 | _, _, ρ => ρ
theorem wb1_length (o : Opd) (x : Option PyData) (ρ : DEnv) : (wb1 o x ρ).length = ρ.length := by
 cases o <;> cases x <;> simp [wb1]
theorem wb_length : ∀ (os : List Opd) (xs : Outs) (ρ : DEnv), (wb os xs ρ).length = ρ.length
 | [], _, _ => by simp [wb]
 | _ :: _, [], _ => by simp [wb]
 | o :: os, x :: xs, ρ => by rw [wb, wb_length os xs, wb1_length]
theorem wb_out : ∀ {os : List Opd} {xs : Outs} {ρ : DEnv} {i : Nat}, (∀ (j : Nat) d, os[j]? = some (.slot i) → xs[j]? ≠ some (some d)) → (wb os xs ρ)[i]? = ρ[i]?
 | [], _, _, _, _ => by simp [wb]
 | _ :: _, [], _, _, _ => by simp [wb]
 | o :: os, x :: xs, ρ, i, h => by
  rw [wb, wb_out (fun j d e => by simpa using h (j + 1) d (by simpa using e))]
  cases o with
  | val d => rfl
  | slot k =>
   cases x with
   | none => rfl
   | some d =>
    have : k ≠ i := fun z => h 0 d (by simp [z]) (by simp)
    simp [wb1, List.getElem?_set_ne this]
theorem selSlots_mem : ∀ {ts : List Bool} {os : List Opd} {i : Nat}, i ∈ selSlots ts os ↔ ∃ (j : Nat), ts[j]? = some true ∧ os[j]? = some (.slot i)
 | [], _, _ => by simp [selSlots]
 | t :: ts, [], _ => by cases t <;> simp [selSlots]
 | t :: ts, o :: os, i => by
  have ih := selSlots_mem (ts := ts) (os := os) (i := i)
  have shift : (∃ (j : Nat), (t :: ts)[j]? = some true ∧ (o :: os)[j]? = some (.slot i)) ↔ (t = true ∧ o = .slot i) ∨ ∃ (j : Nat), ts[j]? = some true ∧ os[j]? = some (.slot i) := by
   constructor
   ·rintro ⟨j, h1, h2⟩
    cases j with
    | zero => simp at h1 h2; exact .inl ⟨h1, h2⟩
    | succ j => simp at h1 h2; exact .inr ⟨j, h1, h2⟩
   ·rintro (⟨h1, h2⟩ | ⟨j, h1, h2⟩)
    ·exact ⟨0, by simp [h1], by simp [h2]⟩
    ·exact ⟨j + 1, by simpa using h1, by simpa using h2⟩
  rw [shift, ← ih]
  cases t <;> cases o <;> simp [selSlots, eq_comm]
theorem wb_in : ∀ {ts : List Bool} {os : List Opd} {xs : Outs} {ρ : DEnv} {i j : Nat} {d : PyData}, (selSlots ts os).Nodup → (∀ (j : Nat) d, xs[j]? = some (some d) → ts[j]? = some true) → i < ρ.length → ts[j]? = some true → os[j]? = some (.slot i) → xs[j]? = some (some d) →
  (wb os xs ρ)[i]? = some (some (.own d))
 | [], _, _, _, _, _, _, _, _, _, h, _, _ => by simp at h
 | _ :: _, [], _, _, _, _, _, _, _, _, _, h, _ => by simp at h
 | _ :: _, _ :: _, [], _, _, _, _, _, _, _, _, _, h => by simp at h
 | t :: ts, o :: os, x :: xs, ρ, i, 0, d, nd, ht, hl, h1, h2, h3 => by
  simp at h1 h2 h3
  subst h1 h2 h3
  simp only [selSlots, List.nodup_cons] at nd
  rw [wb, wb_out fun j d' e z => nd.1 (selSlots_mem.mpr ⟨j, by simpa using ht (j + 1) d' (by simpa using z), e⟩)]
  simp [wb1, List.getElem?_set_self hl]
 | t :: ts, o :: os, x :: xs, ρ, i, j + 1, d, nd, ht, hl, h1, h2, h3 => by
  rw [wb]
  refine wb_in (ts := ts) (j := j) ?_ (fun j d e => by simpa using ht (j + 1) d (by simpa using e)) (by rw [wb1_length]; exact hl) (by simpa using h1) (by simpa using h2) (by simpa using h3)
  cases t with
  | false => simpa [selSlots] using nd
  | true =>
   cases o with
   | val _ => simpa [selSlots] using nd
   | slot _ => simp only [selSlots, List.nodup_cons] at nd; exact nd.2
section
variable {K : PySem.W.Frag} {C : FC} {P : List Bool} {F H F' H' : Hp} {ρ ρ' : DEnv} {σ : L2.St}
theorem Sim.after (S : Sim K C F H ρ σ) (sl : List Nat) (f : Same F F') (s : Same F' H') (n : ∀ b, F' b ≠ none → F b ≠ none ∨ H b = none)
  (h : ∀ b o, H b = some o → (∀ i ∈ sl, σ[i]? ≠ some (some (.ref b))) → H' b = some o) (len : ρ'.length = ρ.length)
  (was : ∀ i ∈ sl, ∃ d, ρ[i]? = some (some (.own d))) (out : ∀ i, i ∉ sl → ρ'[i]? = ρ[i]?)
  (o : ∀ i ∈ sl, ∃ a d, σ[i]? = some (some (.ref a)) ∧ ρ'[i]? = some (some (.own d)) ∧ F' a = none ∧ Own K F' H' a d) : Sim K C F' H' ρ' σ := by
 have wasOwn : ∀ (i : Nat) d, ρ'[i]? = some (some (.own d)) → ∃ e, ρ[i]? = some (some (.own e)) := fun i d e => by
  by_cases hi : i ∈ sl
  ·exact was i hi
  ·exact ⟨d, by rw [← out i hi]; exact e⟩
 have keepF : ∀ b x, H b = some x → F b = none → F' b = none := fun b x e1 e2 => by
  cases q : F' b with
  | none => rfl
  | some u =>
   rcases n b (by rw [q]; intro z; cases z) with z | z
   ·exact absurd e2 z
   ·rw [z] at e1; cases e1
 refine ⟨by rw [len, S.len], s, fun i d e => ?_, fun i d e => ?_, fun i j a d e h1 h2 h3 h4 => ?_, fun i a e => ?_, S.f0.trans f, fun b x e hb => ?_, fun b e => ?_, fun b x e => ?_, S.dp.keep f (fun i d e => ?_) fun b hb ⟨h1, h2, h3, h4, h5⟩ => ?_⟩
 ·by_cases hi : i ∈ sl
  ·obtain ⟨_, _, _, z, _⟩ := o i hi
   rw [z] at e; cases e
  ·rw [out i hi] at e
   obtain ⟨v, h1, h2⟩ := S.frz i d e
   exact ⟨v, h1, h2.mono f⟩
 ·by_cases hi : i ∈ sl
  ·obtain ⟨a, d', h1, h2, h3, h4⟩ := o i hi
   rw [h2] at e; cases e
   obtain ⟨e0, he0⟩ := was i hi
   obtain ⟨a', g1, _, _, g4⟩ := S.own i e0 he0
   rw [h1] at g1; cases g1
   exact ⟨a, h1, h3, h4, g4⟩
  ·rw [out i hi] at e
   obtain ⟨a, h1, h2, h3, h4⟩ := S.own i d e
   obtain ⟨x, hx⟩ := h3.there
   have na : ∀ j ∈ sl, σ[j]? ≠ some (some (.ref a)) := fun j hj z => by
    obtain ⟨e0, he0⟩ := was j hj
    exact hi (S.ne j i a e0 d he0 e z h1 ▸ hj)
   exact ⟨a, h1, keepF a x hx h2, h3.mono f fun y hy => h a y hy na, h4⟩
 ·obtain ⟨x1, g1⟩ := wasOwn i d h1
  obtain ⟨x2, g2⟩ := wasOwn j e h2
  exact S.ne i j a x1 x2 g1 g2 h3 h4
 ·obtain ⟨d, h1, h2⟩ := S.par i a e
  by_cases hi : i ∈ sl
  ·obtain ⟨a', d', g1, g2, _⟩ := o i hi
   exact ⟨d', g2, h2⟩
  ·exact ⟨d, by rw [out i hi]; exact h1, h2⟩
 ·refine h b x (S.h0 b x e hb) fun i hi z => ?_
  obtain ⟨e0, he0⟩ := was i hi
  obtain ⟨a', g1, _, _, g4⟩ := S.own i e0 he0
  rw [z] at g1; cases g1
  rcases g4 with q | q
  ·rw [q] at e; cases e
  ·exact hb (List.mem_of_getElem? q)
 ·rcases n b e with z | z
  ·exact S.new b z
  ·exact .inr (S.h0none z)
 ·obtain ⟨h1, h2, h3⟩ := S.pin b x e
  refine ⟨h b x h1 fun i hi z => ?_, keepF b x h1 h2, fun j y hy => ?_⟩
  ·obtain ⟨e0, he0⟩ := was i hi
   exact h3 i e0 he0 z
  ·obtain ⟨x1, g1⟩ := wasOwn j y hy
   exact h3 j x1 g1
 ·by_cases hi : i ∈ sl
  ·obtain ⟨_, _, _, z, _⟩ := o i hi
   rw [z] at e; cases e
  ·rw [out i hi] at e; exact ⟨e, rfl⟩
 ·cases q : H b with
  | none => exact absurd q h1
  | some u =>
   have hH : H' b = some u := h b u q fun i hi z => by
    obtain ⟨e0, he0⟩ := was i hi
    exact h5 i e0 he0 z
   refine ⟨fun o' e => hH.trans e, ⟨fun z => ?_, keepF b u q h2, h3, h4, fun j y hy => ?_⟩⟩
   ·rw [hH] at z; cases z
   ·obtain ⟨x1, g1⟩ := wasOwn j y hy
    exact h5 j x1 g1
theorem Sim.footAfter (S : Sim K C F H ρ σ) (S' : Sim K C F' H' ρ' σ) {a : Addr} (hH : H a = none) (h : ∀ (i : Nat) (d : PyData), ρ'[i]? = some (some (.own2 d)) → ρ[i]? = some (some (.own2 d)) ∧ ∀ b, InFoot H ρ σ b → ∀ o, H b = some o → H' b = some o) : ¬ InFoot H' ρ' σ a := fun ⟨i, d, b, h1, h2, h3⟩ => by
 obtain ⟨g1, g2⟩ := h i d h1
 obtain ⟨a', bs, e1, e2, e3, e4, _⟩ := S.dp i d g1
 rw [h2] at e1; cases e1
 have fb : InFoot H ρ σ b := ⟨i, d, b, g1, h2, .inl rfl⟩
 rcases h3 with z | z
 ·subst z
  exact (e3 a List.mem_cons_self).1 hH
 ·have : Inner H b a := by
   cases q : H b with
   | none => exact absurd q (e3 b List.mem_cons_self).1
   | some o =>
    have q' := g2 b fb o q
    unfold Inner at z ⊢
    rw [q'] at z
    rw [q]
    exact z
  exact (e3 a (List.mem_cons_of_mem _ (e4.inner.mp this))).1 hH
theorem Sim.shareSel (hP : C.Tags P) : ∀ {ts : List Bool} {vs : List V} {os : List Opd} {F : Hp} {ρ : DEnv} {k : DEnv → Prop}, Sim K C F H ρ σ → DenAll K F σ vs os → shareSel P ts ρ os k → ∃ ρ' F', k ρ' ∧ Sim K C F' H ρ' σ ∧ Same F F'
 | [], _, _, F, ρ, k, S, _, w => by
  unfold Dv.shareSel at w
  exact ⟨ρ, F, w, S, Same.refl F⟩
 | t :: ts, _, _, F, ρ, k, S, .nil, w => by
  unfold Dv.shareSel at w
  cases t <;> exact ⟨ρ, F, w, S, Same.refl F⟩
 | true :: ts, _, _, F, ρ, k, S, .cons h r, w => Sim.shareSel hP S r (by unfold Dv.shareSel at w; exact w)
 | false :: ts, _, _, F, ρ, k, S, .cons h r, w => by
  unfold Dv.shareSel at w
  obtain ⟨d, ρ1, F1, w1, S1, s1, r1⟩ := S.share hP h w
  obtain ⟨ρ2, F2, w2, S2, s2⟩ := Sim.shareSel hP S1 (r.mono s1) w1
  exact ⟨ρ2, F2, w2, S2, s1.trans s2⟩
theorem selOk_at : ∀ {ts : List Bool} {ρ : DEnv} {os : List Opd} {i : Nat} {b : Bool} {o : Opd}, selOk ts ρ os → ts[i]? = some b → os[i]? = some o →
  match b, o with
  | false, .val _ => True
  | false, .slot j => ∃ d, ρ[j]? = some (some (.frz d))
  | true, .slot j => ∃ d, ρ[j]? = some (some (.own d))
  | true, .val _ => False
 | [], _, _, _, _, _, _, h, _ => by simp at h
 | _ :: _, _, [], _, _, _, _, _, h => by simp at h
 | t :: ts, ρ, o :: os, 0, b, o', h, h1, h2 => by
  simp at h1 h2
  subst h1 h2
  cases t <;> cases o
  ·trivial
  ·simp only [selOk] at h
   rename_i j
   cases q : ρ[j]? with
   | none => rw [q] at h; exact h.1.elim
   | some x =>
    cases x with
    | none => rw [q] at h; exact h.1.elim
    | some y =>
     cases y with
     | frz d => exact ⟨d, q⟩
     | own2 d => rw [q] at h; exact h.1.elim
     | own d => rw [q] at h; exact h.1.elim
  ·exact h
  ·simp only [selOk] at h
   rename_i j
   cases q : ρ[j]? with
   | none => rw [q] at h; exact h.1.elim
   | some x =>
    cases x with
    | none => rw [q] at h; exact h.1.elim
    | some y =>
     cases y with
     | own d => exact ⟨d, q⟩
     | own2 d => rw [q] at h; exact h.1.elim
     | frz d => rw [q] at h; exact h.1.elim
 | t :: ts, ρ, o :: os, i + 1, b, o', h, h1, h2 => by
  refine selOk_at (ts := ts) (ρ := ρ) (os := os) (i := i) ?_ (by simpa using h1) (by simpa using h2)
  cases t <;> cases o
  ·exact h
  ·exact h.2
  ·exact h.elim
  ·exact h.2
theorem selOk_len : ∀ {ts : List Bool} {ρ : DEnv} {os : List Opd}, selOk ts ρ os → ts.length = os.length
 | [], _, [], _ => rfl
 | [], _, _ :: _, h => h.elim
 | true :: _, _, [], h => h.elim
 | false :: _, _, [], h => h.elim
 | t :: ts, ρ, o :: os, h => by
  have : selOk ts ρ os := by
   cases t <;> cases o
   ·exact h
   ·exact h.2
   ·exact h.elim
   ·exact h.2
  simp [selOk_len this]
theorem withAll_get : ∀ {os : List Opd} {ρ : DEnv} {k : List PyData → Prop}, withAll ρ os k → ∃ ds, k ds ∧ ds.length = os.length ∧ ∀ (i : Nat) (o : Opd), os[i]? = some o → ∃ d, ds[i]? = some d ∧ withO ρ o fun e => e = d
 | [], ρ, k, h => ⟨[], h, rfl, fun i o e => by simp at e⟩
 | o :: os, ρ, k, h => by
  have h1 : withO ρ o fun d => withAll ρ os fun ds => k (d :: ds) := h
  have : ∃ d, (withO ρ o fun e => e = d) ∧ withAll ρ os fun ds => k (d :: ds) := by
   cases o with
   | val d => exact ⟨d, rfl, h1⟩
   | slot i =>
    unfold withO at h1 ⊢
    dsimp only at h1 ⊢
    cases q : ρ[i]? with
    | none => rw [q] at h1; exact h1.elim
    | some x =>
     cases x with
     | none => rw [q] at h1; exact h1.elim
     | some y =>
      cases y with
      | frz d => rw [q] at h1; exact ⟨d, rfl, h1⟩
      | own2 d => rw [q] at h1; exact h1.elim
      | own d => rw [q] at h1; exact ⟨d, rfl, h1⟩
  obtain ⟨d, w, h2⟩ := this
  obtain ⟨ds, k2, l2, g2⟩ := withAll_get h2
  refine ⟨d :: ds, k2, by simp [l2], fun i o' e => ?_⟩
  cases i with
  | zero => simp at e; subst e; exact ⟨d, rfl, w⟩
  | succ i => simp at e ⊢; exact g2 i o' e
theorem DenAll.get : ∀ {vs : List V} {os : List Opd} {i : Nat} {o : Opd}, DenAll K F σ vs os → os[i]? = some o → ∃ v, vs[i]? = some v ∧ Den K F σ v o
 | _, _, _, _, .nil, e => by simp at e
 | _, _, 0, _, .cons r _, e => by simp at e; subst e; exact ⟨_, rfl, r⟩
 | _, _, i + 1, o, .cons _ t, e => by
  obtain ⟨v, h1, h2⟩ := DenAll.get (i := i) (o := o) t (by simpa using e)
  exact ⟨v, by simpa using h1, h2⟩
end
def dCallS (P ts : List Bool) (S : SpD) (a : DA) (ρ : DEnv) (Q : SV → DEnv → Prop) : Prop := a ρ fun os ρ1 => shareSel P ts ρ1 os fun ρ2 => selOk ts ρ2 os ∧ (selSlots ts os).Nodup ∧ withAll ρ2 os fun ds => S ds fun r outs => Q r (wb os outs ρ2)
section
variable {X : Cx} {C : FC} {P ts : List Bool} {S : SpD} {ta : DA}
theorem call_low (hP : C.Tags P) {σ : L2.St} {H : Hp} {Q : VK} {F : Hp} {ρ : DEnv} {q : SV → DEnv → Prop} (Sm : Sim X.K C F H ρ σ) (h : dCallS P ts S ta ρ q)
  (k : ∀ r ρ' F' H' v, q r ρ' → Sim X.K C F' H' ρ' σ → Same F F' → (match r with
   | .frz d => Rep X.K F' v d
   | .own d => ∃ a, v = .ref a ∧ Fresh X.K C F' H' ρ' σ a d
   | .own2 d => TupX X.K F' v d) → Q v H') : tCall (spOf X.K ts S) [] E0 (lA X.K C ta) σ H Q := by
 refine ⟨F, ρ, _, Sm, h, fun os ρ1 F1 H1 vs h1 S1 s1 d1 => ?_⟩
 obtain ⟨ρ2, F2, ⟨sok, nd, h2⟩, S2, s2⟩ := Sim.shareSel hP S1 d1 h1
 obtain ⟨ds, hS, hl, hget⟩ := withAll_get h2
 have d2 := d1.mono s2
 have lts := selOk_len sok
 rw [List.append_nil]
 have osAt : ∀ (i : Nat) b, ts[i]? = some b → ∃ o, os[i]? = some o := fun i b e => by
  have : i < os.length := by rw [← lts]; exact (List.getElem?_eq_some_iff.mp e).1
  exact ⟨os[i], List.getElem?_eq_getElem this⟩
 have ownAt : ∀ (i : Nat), ts[i]? = some true → ∃ j e, os[i]? = some (.slot j) ∧ ρ2[j]? = some (some (.own e)) ∧ ds[i]? = some e ∧ vs[i]? = (σ[j]?).join := fun i e => by
  obtain ⟨o, ho⟩ := osAt i true e
  have z := selOk_at sok e ho
  cases o with
  | val _ => exact z.elim
  | slot j =>
   obtain ⟨x, hx⟩ := z
   obtain ⟨d, hd, wd⟩ := hget i _ ho
   unfold withO at wd
   dsimp only at wd
   rw [hx] at wd
   subst wd
   obtain ⟨v, hv, dv⟩ := d2.get ho
   have dv' : σ[j]? = some (some v) := dv
   exact ⟨j, _, ho, hx, hd, by rw [dv', hv]; rfl⟩
 refine ⟨F2, ds, _, S2.sub, ⟨by rw [d2.length, hl], by rw [lts, hl], fun i v d hv hd ht => ?_, fun i v d hv hd ht => ?_, fun i j a hi hj hvi hvj => ?_⟩, hS, fun r outs F' H' v hq post => ?_⟩
 ·obtain ⟨o, ho⟩ := osAt i false ht
  have z := selOk_at sok ht ho
  obtain ⟨d', hd', wd⟩ := hget i _ ho
  rw [hd] at hd'; cases hd'
  obtain ⟨v', hv', dv⟩ := d2.get ho
  rw [hv] at hv'; cases hv'
  cases o with
  | val e => have : e = d := wd; subst this; exact dv
  | slot j =>
   obtain ⟨x, hx⟩ := z
   unfold withO at wd
   dsimp only at wd
   rw [hx] at wd
   subst wd
   obtain ⟨v', g1, g2⟩ := S2.frz j _ hx
   have dv' : σ[j]? = some (some v) := dv
   rw [g1] at dv'; cases dv'
   exact g2
 ·obtain ⟨j, e, ho, hx, he, hvj⟩ := ownAt i ht
  rw [hd] at he; cases he
  obtain ⟨a, g1, g2, g3, _⟩ := S2.own j d hx
  rw [hv, g1] at hvj
  exact ⟨a, Option.some.inj hvj, g2, g3⟩
 ·obtain ⟨j1, e1, ho1, hx1, _, hv1⟩ := ownAt i hi
  obtain ⟨j2, e2, ho2, hx2, _, hv2⟩ := ownAt j hj
  obtain ⟨a1, g1, _⟩ := S2.own j1 e1 hx1
  obtain ⟨a2, g2, _⟩ := S2.own j2 e2 hx2
  rw [hvi, g1] at hv1
  rw [hvj, g2] at hv2
  have c1 : V.ref a = V.ref a1 := Option.some.inj hv1
  have c2 : V.ref a = V.ref a2 := Option.some.inj hv2
  cases c1; cases c2
  have ej := S2.ne j1 j2 a e1 e2 hx1 hx2 g1 g2
  subst ej
  have key : ∀ (ts : List Bool) (os : List Opd) (i j m : Nat), (selSlots ts os).Nodup → ts[i]? = some true → ts[j]? = some true → os[i]? = some (.slot m) → os[j]? = some (.slot m) → i = j := by
   intro ts
   induction ts with
   | nil => intro os i j m _ h; simp at h
   | cons t ts ih =>
    intro os i j m nd hi hj oi oj
    cases os with
    | nil => simp at oi
    | cons o os =>
     cases i with
     | zero =>
      cases j with
      | zero => rfl
      | succ j =>
       simp at hi hj oi oj
       subst hi oi
       simp only [selSlots, List.nodup_cons] at nd
       exact absurd (selSlots_mem.mpr ⟨j, hj, oj⟩) nd.1
     | succ i =>
      cases j with
      | zero =>
       simp at hi hj oi oj
       subst hj oj
       simp only [selSlots, List.nodup_cons] at nd
       exact absurd (selSlots_mem.mpr ⟨i, hi, oi⟩) nd.1
      | succ j =>
       simp at hi hj oi oj
       have nd' : (selSlots ts os).Nodup := by
        cases t with
        | false => simpa [selSlots] using nd
        | true =>
         cases o with
         | val _ => simpa [selSlots] using nd
         | slot _ => simp only [selSlots, List.nodup_cons] at nd; exact nd.2
       rw [ih os i j m nd' hi hj oi oj]
  exact key ts os i j j1 nd hi hj ho1 ho2
 ·have Sa : Sim X.K C F' H' (wb os outs ρ2) σ := by
   refine S2.after (selSlots ts os) post.f post.s post.n (fun b o e hb => post.h b o e fun i hi z => ?_) (wb_length os outs ρ2) (fun i hi => ?_) (fun i hi => ?_) (fun i hi => ?_)
   ·obtain ⟨j, e', ho, hx, _, hv⟩ := ownAt i hi
    obtain ⟨a, g1, _⟩ := S2.own j e' hx
    rw [z, g1] at hv
    have c : V.ref b = V.ref a := Option.some.inj hv
    cases c
    exact hb j (selSlots_mem.mpr ⟨i, hi, ho⟩) g1
   ·obtain ⟨j, ht, ho⟩ := selSlots_mem.mp hi
    obtain ⟨j1, e', ho', hx, _⟩ := ownAt j ht
    rw [ho] at ho'; cases ho'
    exact ⟨e', hx⟩
   ·exact wb_out fun j d ho hx => hi (selSlots_mem.mpr ⟨j, post.oN j d hx, ho⟩)
   ·obtain ⟨j, ht, ho⟩ := selSlots_mem.mp hi
    obtain ⟨j1, e', ho', hx, _, hv⟩ := ownAt j ht
    rw [ho] at ho'; cases ho'
    obtain ⟨a, g1, _⟩ := S2.own i e' hx
    rw [g1] at hv
    obtain ⟨d, p1, p2, p3⟩ := post.o j a ht hv
    exact ⟨a, d, g1, wb_in nd post.oN (List.getElem?_eq_some_iff.mp hx).1 ht ho p1, p2, p3⟩
  refine k r _ F' H' v hq Sa ((s1.trans s2).trans post.f) ?_
  have res := post.res
  cases r with
  | frz d => exact res
  | own2 d => exact res
  | own d =>
   obtain ⟨a, e1, e2, e3, e4⟩ := res
   refine ⟨a, e1, e2, e3, S2.h0none e4, S2.pnone e4, fun j y hy z => ?_, S2.footAfter Sa e4 fun j y hy => ?_⟩
   rotate_left
   ·by_cases hj : j ∈ selSlots ts os
    ·obtain ⟨m, ht, ho⟩ := selSlots_mem.mp hj
     obtain ⟨j1, e', ho', hx, _, hv⟩ := ownAt m ht
     rw [ho] at ho'; cases ho'
     obtain ⟨a, g1, _⟩ := S2.own j e' hx
     rw [g1] at hv
     obtain ⟨d, p1, p2, p3⟩ := post.o m a ht hv
     rw [wb_in nd post.oN (List.getElem?_eq_some_iff.mp hx).1 ht ho p1] at hy
     cases hy
    ·rw [wb_out fun m d ho hx => hj (selSlots_mem.mpr ⟨m, post.oN m d hx, ho⟩)] at hy
     exact ⟨hy, fun b hb o hH => post.h b o hH fun m hm z => by
      obtain ⟨j1, e', ho', hx, _, hv⟩ := ownAt m hm
      obtain ⟨a, g1, _⟩ := S2.own j1 e' hx
      rw [z, g1] at hv
      have c : V.ref b = V.ref a := Option.some.inj hv
      cases c
      exact (S2.dp.loose hb).2.2.2.2 j1 e' hx g1⟩
   obtain ⟨b, hb1, hb2, hb3, _⟩ := Sa.own j y hy
   rw [z] at hb1; cases hb1
   by_cases hj : j ∈ selSlots ts os
   ·obtain ⟨m, ht, ho⟩ := selSlots_mem.mp hj
    obtain ⟨j1, e', ho', hx, _⟩ := ownAt m ht
    rw [ho] at ho'; cases ho'
    obtain ⟨b', g1, _, g3, _⟩ := S2.own j e' hx
    rw [z] at g1; cases g1
    obtain ⟨o, ho2⟩ := g3.there
    rw [e4] at ho2; cases ho2
   ·rw [wb_out fun m d ho hx => hj (selSlots_mem.mpr ⟨m, post.oN m d hx, ho⟩)] at hy
    obtain ⟨b', g1, _, g3, _⟩ := S2.own j y hy
    rw [z] at g1; cases g1
    obtain ⟨o, ho2⟩ := g3.there
    rw [e4] at ho2; cases ho2
end
end Dv
set_option Elab.async false
set_option linter.all false
set_option maxRecDepth 100000
set_option autoImplicit false
namespace Dv
open PySem PySem.Spec L2
section
variable {X : Cx} {C : FC} {P ts : List Bool} {S : SpD} {ta : DA} {k : Nat} {f : Addr} {fd : FuncData} {ps : List Str} {x : Str} {p pos : Pos} {e : Expr} {es : List Expr}
def dCall (P ts : List Bool) (S : SpD) (a : DA) : DE := fun ρ Q => dCallS P ts S a ρ fun r ρ' => Q (.val r.d) ρ'
def dCallO (P ts : List Bool) (S : SpD) (a : DA) : DO := fun ρ Q => dCallS P ts S a ρ fun r ρ' => match r with
 | .own d => Q d ρ'
 | _ => False
theorem q_call (hP : C.Tags P) (F : FnG X.prog X.w X.K X.mg X.base k f fd ps (spOf X.K ts S)) (hr : RG k X.A) (hm : X.mg x = some (.ref f)) (hk : PySem.W.keepIn X.K (.ref f) = true) (hb : Binds X.K fd ps [])
  (ha : QA X C (e :: es) ta) (hg : Gl X x := by rfl) (hdb : (x == ("__debug__" : Str)) = false := by decide) (he : starEach (e :: es) X.env = (false, eval e X.env) :: starEach es X.env := by rfl) (hpl : (backTo pos (starEach es X.env)).any (·.1) = false := by rfl) :
  QE X C (.Call (.Name x p) (e :: es) [] pos) (dCall P ts S ta) :=
 QE.of (pe_callG F hr hg hm hk hb pass0 ha.pa hdb he hpl) fun σ H Q ⟨F1, ρ, q, Sm, ht, kk⟩ => by
  refine call_low hP Sm ht fun r ρ' F' H' v hq S' s' res => ?_
  cases r with
  | frz d => exact kk _ _ _ _ _ hq S' s' res
  | own2 d => exact kk _ _ _ _ _ hq S' s' res.rep
  | own d =>
   obtain ⟨a, e1, fr⟩ := res
   subst e1
   obtain ⟨F2, s2, S2, r2⟩ := S'.froze fr
   exact kk _ _ _ _ _ hq S2 (s'.trans s2) r2
theorem o_call (hP : C.Tags P) (F : FnG X.prog X.w X.K X.mg X.base k f fd ps (spOf X.K ts S)) (hr : RG k X.A) (hm : X.mg x = some (.ref f)) (hk : PySem.W.keepIn X.K (.ref f) = true) (hb : Binds X.K fd ps [])
  (ha : QA X C (e :: es) ta) (hg : Gl X x := by rfl) (hdb : (x == ("__debug__" : Str)) = false := by decide) (he : starEach (e :: es) X.env = (false, eval e X.env) :: starEach es X.env := by rfl) (hpl : (backTo pos (starEach es X.env)).any (·.1) = false := by rfl) :
  QO X C (.Call (.Name x p) (e :: es) [] pos) (dCallO P ts S ta) :=
 QO.of (pe_callG F hr hg hm hk hb pass0 ha.pa hdb he hpl) fun σ H Q ⟨F1, ρ, q, Sm, ht, kk⟩ => by
  refine call_low hP Sm ht fun r ρ' F' H' v hq S' s' res => ?_
  cases r with
  | frz d => exact hq.elim
  | own2 d => exact hq.elim
  | own d =>
   obtain ⟨a, e1, fr⟩ := res
   subst e1
   exact kk _ _ _ _ _ hq S' s' fr
open Classical in
open Classical in
end
end Dv
set_option Elab.async false
set_option linter.all false
set_option maxRecDepth 100000
set_option autoImplicit false
namespace Dv
open PySem PySem.Spec L2
def wipeE (ρ : DEnv) : List Nat → DEnv
 | [] => ρ
 | v :: vs => (wipeE ρ vs).set v none
def keepF : Option (Option SV) → Option SV
 | some (some (.frz d)) => some (.frz d)
 | _ => none
def restE (ρ' ρ : DEnv) : List Nat → DEnv
 | [] => ρ'
 | v :: vs => (restE ρ' ρ vs).set v (keepF ρ[v]?)
theorem restE_length (ρ' ρ : DEnv) : ∀ vs : List Nat, (restE ρ' ρ vs).length = ρ'.length
 | [] => rfl
 | v :: vs => by unfold restE; rw [List.length_set, restE_length ρ' ρ vs]
theorem restE_out {ρ' ρ : DEnv} {i : Nat} : ∀ {vs : List Nat}, i ∉ vs → (restE ρ' ρ vs)[i]? = ρ'[i]?
 | [], _ => rfl
 | v :: vs, h => by
  simp only [List.mem_cons, not_or] at h
  unfold restE
  rw [List.getElem?_set_ne (Ne.symm h.1), restE_out h.2]
theorem restE_in {ρ' ρ : DEnv} {i : Nat} {y : SV} : ∀ {vs : List Nat}, i ∈ vs → (restE ρ' ρ vs)[i]? = some (some y) → ∃ d, y = .frz d ∧ ρ[i]? = some (some (.frz d))
 | [], h, _ => by simp at h
 | v :: vs, h, e => by
  unfold restE at e
  by_cases hv : v = i
  ·subst hv
   by_cases hl : v < (restE ρ' ρ vs).length
   ·rw [List.getElem?_set_self hl] at e
    have e' := Option.some.inj e
    unfold keepF at e'
    split at e'
    ·rename_i d q; cases e'; exact ⟨d, rfl, q⟩
    ·cases e'
   ·rw [List.getElem?_eq_none (by simpa using hl)] at e; cases e
  ·rw [List.getElem?_set_ne hv] at e
   have h' : i ∈ vs := by
    rcases List.mem_cons.mp h with z | z
    ·exact absurd z.symm hv
    ·exact z
   exact restE_in h' e
section
variable {K : PySem.W.Frag} {C : FC} {P : List Bool} {F H F' H' : Hp} {ρ ρ' : DEnv} {σ σ2 : L2.St}
theorem Sim.setN (S : Sim K C F H ρ σ) {i : Nat} (hp : ¬ C.isP i) : Sim K C F H (ρ.set i none) (σ.set i none) := by
 by_cases hi : i < σ.length
 ·have hr : i < ρ.length := by rw [S.len]; exact hi
  refine ⟨by simp [S.len], S.sub, fun j d e => ?_, fun j d e => ?_, fun j k a d e h1 h2 h3 h4 => ?_, fun j a e => ?_, S.f0, S.h0, S.new, fun b o e => ?_, S.dp.keep (Same.refl F) (fun j d e => ?_) fun b hb ⟨h1, h2, h3, h4, h5⟩ => ⟨fun o e => e, ⟨h1, h2, h3, h4, fun j x h => ?_⟩⟩⟩
  ·rw [get_set hr] at e
   split at e
   ·cases e
   ·rename_i q; rw [get_set hi, if_neg q]; exact S.frz j d e
  ·rw [get_set hr] at e
   split at e
   ·cases e
   ·rename_i q; rw [get_set hi, if_neg q]; exact S.own j d e
  ·rw [get_set hr] at h1 h2
   split at h1
   ·cases h1
   ·rename_i q1
    split at h2
    ·cases h2
    ·rename_i q2
     rw [get_set hi, if_neg q1] at h3
     rw [get_set hi, if_neg q2] at h4
     exact S.ne j k a d e h1 h2 h3 h4
  ·have q : j ≠ i := fun z => hp ⟨a, z ▸ e⟩
   rw [get_set hr, get_set hi, if_neg q, if_neg q]
   exact S.par j a e
  ·obtain ⟨h1, h2, h3⟩ := S.pin b o e
   refine ⟨h1, h2, fun j x h => ?_⟩
   rw [get_set hr] at h
   split at h
   ·cases h
   ·rename_i q; rw [get_set hi, if_neg q]; exact h3 j x h
  ·rw [get_set hr] at e
   split at e
   ·cases e
   ·rename_i q; rw [get_set hi, if_neg q]; exact ⟨e, rfl⟩
  ·rw [get_set hr] at h
   split at h
   ·cases h
   ·rename_i q; rw [get_set hi, if_neg q]; exact h5 j x h
 ·rw [List.set_eq_of_length_le (by rw [S.len]; omega), List.set_eq_of_length_le (by omega)]; exact S
theorem Sim.wipe (S : Sim K C F H ρ σ) : ∀ {vs : List Nat}, (∀ v ∈ vs, ¬ C.isP v) → Sim K C F H (wipeE ρ vs) (L2.wipe σ vs)
 | [], _ => S
 | v :: vs, h => (Sim.wipe S fun u hu => h u (List.mem_cons_of_mem _ hu)).setN (h v List.mem_cons_self)
theorem Sim.unwipe (S : Sim K C F H ρ σ) {vs : List Nat} (hv : ∀ v ∈ vs, ¬ C.isP v) (S2 : Sim K C F' H' ρ' σ2) (hw : L2.wipe σ2 vs = L2.wipe σ vs) (f : Same F F') : Sim K C F' H' (restE ρ' ρ vs) σ := by
 have hl : σ2.length = σ.length := by rw [← wipe_length σ2 vs, hw, wipe_length]
 have ho : ∀ i, i ∉ vs → σ2[i]? = σ[i]? := fun i hi => by rw [← wipe_out (σ := σ2) hi, hw, wipe_out hi]
 have ow : ∀ (i : Nat) d, (restE ρ' ρ vs)[i]? = some (some (.own d)) → i ∉ vs ∧ ρ'[i]? = some (some (.own d)) := fun i d e => by
  by_cases hi : i ∈ vs
  ·obtain ⟨_, z, _⟩ := restE_in hi e
   cases z
  ·rw [restE_out hi] at e; exact ⟨hi, e⟩
 refine ⟨by rw [restE_length, S2.len, hl], S2.sub, fun i d e => ?_, fun i d e => ?_, fun i j a d e h1 h2 h3 h4 => ?_, fun i a e => ?_, S2.f0, S2.h0, S2.new, fun b o e => ?_, S2.dp.keep (Same.refl _) (fun i d e => ?_) fun b hb ⟨h1, h2, h3, h4, h5⟩ => ⟨fun o e => e, ⟨h1, h2, h3, h4, fun j x h => ?_⟩⟩⟩
 ·by_cases hi : i ∈ vs
  ·obtain ⟨d', z, q⟩ := restE_in hi e
   cases z
   obtain ⟨v, h1, h2⟩ := S.frz i d q
   exact ⟨v, h1, h2.mono f⟩
  ·rw [restE_out hi] at e
   obtain ⟨v, h1, h2⟩ := S2.frz i d e
   exact ⟨v, by rw [← ho i hi]; exact h1, h2⟩
 ·obtain ⟨hi, e'⟩ := ow i d e
  obtain ⟨a, h1, h2, h3, h4⟩ := S2.own i d e'
  exact ⟨a, by rw [← ho i hi]; exact h1, h2, h3, h4⟩
 ·obtain ⟨hi, h1'⟩ := ow i d h1
  obtain ⟨hj, h2'⟩ := ow j e h2
  exact S2.ne i j a d e h1' h2' (by rw [ho i hi]; exact h3) (by rw [ho j hj]; exact h4)
 ·have hi : i ∉ vs := fun z => hv i z ⟨a, e⟩
  obtain ⟨d, h1, h2⟩ := S2.par i a e
  exact ⟨d, by rw [restE_out hi]; exact h1, by rw [← ho i hi]; exact h2⟩
 ·obtain ⟨h1, h2, h3⟩ := S2.pin b o e
  refine ⟨h1, h2, fun j x h => ?_⟩
  obtain ⟨hj, h'⟩ := ow j x h
  rw [← ho j hj]; exact h3 j x h'
 ·by_cases hi : i ∈ vs
  ·obtain ⟨_, z, _⟩ := restE_in hi e
   cases z
  ·rw [restE_out hi] at e; exact ⟨e, (ho i hi).symm⟩
 ·obtain ⟨hj, h'⟩ := ow j x h
  rw [← ho j hj]; exact h5 j x h'
def FC.pin (C : FC) (D : Addr) (o : HO) : FC := { C with pn := upd C.pn D o }
theorem FC.pin_tags {D : Addr} {o : HO} (h : C.Tags P) : (C.pin D o).Tags P := h
theorem Sim.pinned (S : Sim K C F H ρ σ) {D : Addr} {o : HO} (h1 : H D = some o) (h2 : F D = none) (h3 : ∀ (j : Nat) (e : PyData), ρ[j]? = some (some (.own e)) → σ[j]? ≠ some (some (.ref D))) (h4 : ¬ InFoot H ρ σ D) : Sim K (C.pin D o) F H ρ σ :=
 ⟨S.len, S.sub, S.frz, S.own, S.ne, S.par, S.f0, S.h0, S.new, fun b u e => by
  by_cases hb : b = D
  ·subst hb
   have e' : upd C.pn b o b = some u := e
   rw [upd_same] at e'; cases e'
   exact ⟨h1, h2, h3⟩
  ·have e' : upd C.pn D o b = some u := e
   rw [upd_ne hb] at e'
   exact S.pin b u e', S.dp.keep (Same.refl F) (fun j e h => ⟨h, rfl⟩) fun b hb ⟨g1, g2, g3, g4, g5⟩ => ⟨fun o e => e, ⟨g1, g2, g3, by
   show upd C.pn D o b = none
   rw [upd_ne (show b ≠ D from fun z => h4 (z ▸ hb))]
   exact g4, g5⟩⟩⟩
theorem Sim.unpinned {D : Addr} {o : HO} (hD : C.pn D = none) (S : Sim K (C.pin D o) F H ρ σ) : Sim K C F H ρ σ ∧ H D = some o ∧ F D = none ∧ (∀ (j : Nat) (e : PyData), ρ[j]? = some (some (.own e)) → σ[j]? ≠ some (some (.ref D))) ∧ ¬ InFoot H ρ σ D := by
 have nf : ¬ InFoot H ρ σ D := fun z => by
  have q : upd C.pn D o D = none := (S.dp.loose z).2.2.2.1
  rw [upd_same] at q; cases q
 obtain ⟨p1, p2, p3⟩ := S.pin D o (show upd C.pn D o D = some o from upd_same)
 exact ⟨⟨S.len, S.sub, S.frz, S.own, S.ne, S.par, S.f0, S.h0, S.new, fun b u e => S.pin b u (by
  have nb : b ≠ D := fun z => by
   rw [z, hD] at e; cases e
  show upd C.pn D o b = some u
  rw [upd_ne nb]
  exact e), S.dp.keep (Same.refl F) (fun j e h => ⟨h, rfl⟩) fun b hb ⟨g1, g2, g3, g4, g5⟩ => ⟨fun o e => e, ⟨g1, g2, g3, by
   have q : upd C.pn D o b = none := g4
   rw [upd_ne (show b ≠ D from fun z => nf (z ▸ hb))] at q
   exact q, g5⟩⟩⟩, p1, p2, p3, nf⟩
end
def TgtOk (K : PySem.W.Frag) (P : List Bool) (vs : List Nat) (g : TG) (gd : DG) : Prop := ∀ (C : FC) (F H : Hp) (ρ : DEnv) (σ : L2.St) (v : V) (d : PyData) (q : DEnv → Prop), C.Tags P → Sim K C F H ρ σ → Rep K F v d → gd d ρ q →
 ∃ σ' ρ', q ρ' ∧ Sim K C F H ρ' σ' ∧ (∀ Q : L2.St → Hp → Prop, Q σ' H → g v σ H Q) ∧ L2.wipe σ' vs = L2.wipe σ vs
theorem wipe_set {σ : L2.St} {i : Nat} {x : Option V} {vs : List Nat} (h : i ∈ vs) : L2.wipe (σ.set i x) vs = L2.wipe σ vs := by
 apply List.ext_getElem?
 intro j
 by_cases hj : j ∈ vs
 ·have : ∀ (σ : L2.St) (vs : List Nat), j ∈ vs → (L2.wipe σ vs)[j]? = if j < σ.length then some none else none := by
   intro σ vs
   induction vs with
   | nil => intro h; simp at h
   | cons v vs ih =>
    intro h
    unfold L2.wipe
    by_cases hv : v = j
    ·subst hv
     by_cases hl : v < σ.length
     ·rw [List.getElem?_set_self (by rw [wipe_length]; exact hl), if_pos hl]
     ·rw [List.getElem?_eq_none (by rw [List.length_set, wipe_length]; omega), if_neg hl]
    ·rw [List.getElem?_set_ne hv]
     rcases List.mem_cons.mp h with z | z
     ·exact absurd z.symm hv
     ·exact ih z
  rw [this _ _ hj, this _ _ hj, List.length_set]
 ·rw [wipe_out hj, wipe_out hj, List.getElem?_set_ne]
  rintro rfl
  exact hj h
theorem tgt_name {K : PySem.W.Frag} {P : List Bool} {vs : List Nat} {i : Nat} (hi : i ∈ vs) (hp : P[i]? ≠ some true) : TgtOk K P vs (gName i) (gN i) := fun C F H ρ σ v d q hP S r hq =>
 ⟨σ.set i (some v), ρ.set i (some (.frz d)), hq, setF' S (noP hP hp) r, fun Q h => h, wipe_set hi⟩
def gNs : List Nat → TGs
 | [] => gNil
 | i :: r => gCons (gName i) (gNs r)
def gNs' : List Nat → DGs
 | [] => gNil'
 | i :: r => gCons' (gN i) (gNs' r)
theorem tgt_names {K : PySem.W.Frag} {P : List Bool} {vs : List Nat} {C : FC} {F H : Hp} (hP : C.Tags P) : ∀ {is : List Nat} {ρ : DEnv} {σ : L2.St} {xs : List V} {ds : List PyData} {q : DEnv → Prop}, (∀ i ∈ is, i ∈ vs ∧ P[i]? ≠ some true) → Sim K C F H ρ σ → RepAll K F xs ds → gNs' is ds ρ q →
  ∃ σ' ρ', q ρ' ∧ Sim K C F H ρ' σ' ∧ (∀ Q : L2.St → Hp → Prop, Q σ' H → gNs is xs σ H Q) ∧ L2.wipe σ' vs = L2.wipe σ vs
 | [], ρ, σ, xs, ds, q, _, S, r, h => by
  cases r with
  | nil => exact ⟨σ, ρ, h, S, fun Q h => ⟨rfl, h⟩, rfl⟩
  | cons _ _ => exact h.elim
 | i :: is, ρ, σ, xs, ds, q, hi, S, r, h => by
  cases r with
  | nil => exact h.elim
  | cons r1 r2 =>
   obtain ⟨h1, h2⟩ := hi i List.mem_cons_self
   obtain ⟨σ', ρ', q', S', k', w'⟩ := tgt_names hP (fun j hj => hi j (List.mem_cons_of_mem _ hj)) (setF' S (noP hP h2) r1) r2 h
   exact ⟨σ', ρ', q', S', fun Q z => ⟨_, _, rfl, k' Q z⟩, w'.trans (wipe_set h1)⟩
theorem tgt_tup {K : PySem.W.Frag} {P : List Bool} {vs is : List Nat} {n : Nat} (hi : ∀ i ∈ is, i ∈ vs ∧ P[i]? ≠ some true) : TgtOk K P vs (gTup K n (gNs is)) (gTup' n (gNs' is)) := fun C F H ρ σ v d q hP S r hq => by
 cases r with
 | tup hs hr =>
  obtain ⟨σ', ρ', q', S', k', w'⟩ := tgt_names hP hi S hr hq.2
  exact ⟨σ', ρ', q', S', fun Q z => ⟨_, _, rfl, sqT_mono S.sub hs, by rw [hr.length]; exact hq.1, k' Q z⟩, w'⟩
 | _ => exact hq.elim
def lE' (K : PySem.W.Frag) (P : List Bool) (t : DE) : TE := fun σ H Q => ∃ C : FC, C.Tags P ∧ lE K C t σ H Q
def lT' (K : PySem.W.Frag) (P : List Bool) (t : DT) : TT := fun σ H Q => ∃ C : FC, C.Tags P ∧ lT K C t σ H Q
theorem pe' {X : Cx} {P : List Bool} {e : Expr} {t : DE} (h : ∀ C : FC, C.Tags P → QE X C e t) : PE X e (lE' X.K P t) := ⟨fun pins s σ H Q I ⟨C, hP, hq⟩ => (h C hP).pe.run pins s σ H Q I hq⟩
def dYes : DT := fun ρ Q => Q true ρ
structure QTs (X : Cx) (C : FC) (ifs : List Expr) (t : DT) : Prop where
 pts : PTs X ifs (lT X.K C t)
theorem ts_nil {X : Cx} {C : FC} : QTs X C [] dYes := ⟨⟨fun pins s σ H Q I ⟨F, ρ, q, S, ht, k⟩ => pts_nil.run pins s σ H Q I (k _ _ _ _ ht S (Same.refl F))⟩⟩
theorem ts_one {X : Cx} {C : FC} {c : Expr} {t : DT} (h : QT X C c t) : QTs X C [c] t := ⟨pts_one h.pt⟩
theorem pts' {X : Cx} {P : List Bool} {e : List Expr} {t : DT} (h : ∀ C : FC, C.Tags P → QTs X C e t) : PTs X e (lT' X.K P t) := ⟨fun pins s σ H Q I ⟨C, hP, hq⟩ => (h C hP).pts.run pins s σ H Q I hq⟩
def dLcL (P : List Bool) (g : DG) (tt : DT) (te : DE) (vs : List Nat) (Q : PyData → DEnv → Prop) : List PyData → List PyData → DEnv → Prop
 | [], acc, ρ => Q (.list acc) ρ
 | d :: ds, acc, ρ => g d (wipeE ρ vs) fun ρ2 => tt ρ2 fun b ρ3 => by2 b (te ρ3 fun o ρ4 => share P ρ4 o fun e ρ5 => acc.length < big ∧ dLcL P g tt te vs Q ds (acc ++ [e]) (restE ρ5 ρ vs)) (dLcL P g tt te vs Q ds acc (restE ρ3 ρ vs))
def dLc (P : List Bool) (ti : DI) (g : DG) (tt : DT) (te : DE) (vs : List Nat) : DO := fun ρ Q => ti ρ fun ds ρ1 => dLcL P g tt te vs Q ds [] ρ1
section
variable {X : Cx} {C : FC} {P : List Bool}
def lcBody (g : TG) (tt : TT) (te : TE) (vs : List Nat) (σ : L2.St) (Q : VK) (J : It) (H1 : Hp) : Prop := ∀ D, H1 D = none → ∃ W : Nat → Nat → Hp → Prop, (∃ m, W 0 m (upd H1 D (.lst []))) ∧ ∀ i m H, W i m H →
 (J.stop i H ∧ Q (.ref D) H) ∨ (J.go i H ∧ ∃ Nx : Hp → Prop, (∀ H', Nx H' → ∃ m', m' < m ∧ W (i + 1) m' H') ∧ ∀ x H', J.yld i H x H' → g x (L2.wipe σ vs) H' fun σ2 H2 => L2.wipe σ2 vs = L2.wipe σ vs ∧ tt σ2 H2 fun b H3 =>
  if b = true then te σ2 H3 fun y H4 => ∃ acc, H4 D = some (.lst acc) ∧ acc.length < sizeLine ∧ Nx (upd H4 D (.lst (acc ++ [y]))) else Nx H3)
theorem lc_bodyG {g : TG} {gd : DG} {tt : DT} {te : DE} {vs : List Nat} (hP : C.Tags P) (tg : TgtOk X.K P vs g gd) (hvs : ∀ v ∈ vs, P[v]? ≠ some true) {σ : L2.St} {Q : VK} {F F1 H1 : Hp} {ρ1 : DEnv} {ds : List PyData} {J : It} {q : PyData → DEnv → Prop}
  (s1 : Same F F1) (S1 : Sim X.K C F1 H1 ρ1 σ) (iok : ∀ F2 H2 ρ2, Same F1 F2 → Sim X.K C F2 H2 ρ2 σ → J.stop ds.length H2 ∧ ∀ (i : Nat) d, ds[i]? = some d → J.go i H2 ∧ ∀ x H3, J.yld i H2 x H3 → ∃ F3, Gr F2 H2 F3 H3 ∧ Rep X.K F3 x d) (h1 : dLcL P gd tt te vs q ds [] ρ1) (k : ∀ d ρ' F' H' a, q d ρ' → Sim X.K C F' H' ρ' σ → Same F F' → Fresh X.K C F' H' ρ' σ a d → Q (.ref a) H') :
  lcBody g (lT' X.K P tt) (lE' X.K P te) vs σ Q J H1 := by
 have nP : ∀ v ∈ vs, ¬ C.isP v := fun v hv => noP hP (hvs v hv)
 intro D hD
 have pnD : C.pn D = none := S1.pnone hD
 refine ⟨fun i m H => m + i = ds.length ∧ ∃ F' ρ' acc xs, Sim X.K (C.pin D (.lst xs)) F' H ρ' σ ∧ RepAll X.K F' xs acc ∧ C.H0 D = none ∧ Same F1 F' ∧ dLcL P gd tt te vs q (ds.drop i) acc ρ', ⟨ds.length, rfl, F1, ρ1, [], [], ?_, .nil, S1.h0none hD, Same.refl F1, h1⟩, fun i m H ⟨hm, F2, ρ2, acc, xs, S2, rA, h0D, s2, w2⟩ => ?_⟩
 ·obtain ⟨a, b, c, c', d, f⟩ := S1.lay hD (o := .lst [])
  exact a.pinned upd_same b d f
 obtain ⟨S2', hD2, fD2, oD2, nD2⟩ := Sim.unpinned pnD S2
 obtain ⟨st, go⟩ := iok F2 H ρ2 s2 S2'
 by_cases hi : i < ds.length
 ·rw [List.drop_eq_getElem_cons hi] at w2
  obtain ⟨g1, y1⟩ := go i ds[i] (List.getElem?_eq_getElem hi)
  refine .inr ⟨g1, fun H' => ∃ F' ρ' acc xs, Sim X.K (C.pin D (.lst xs)) F' H' ρ' σ ∧ RepAll X.K F' xs acc ∧ C.H0 D = none ∧ Same F1 F' ∧ dLcL P gd tt te vs q (ds.drop (i + 1)) acc ρ', fun H' h => ⟨m - 1, by omega, by omega, h⟩, fun x H' hy => ?_⟩
  obtain ⟨F3, gr, r⟩ := y1 x H' hy
  have S3 := S2.grow gr
  have nP' : ∀ v ∈ vs, ¬ (C.pin D (.lst xs)).isP v := nP
  obtain ⟨σ4, ρ4, w4, S4, k4, wp⟩ := tg (C.pin D (.lst xs)) F3 H' _ _ x ds[i] _ (FC.pin_tags hP) (S3.wipe nP') r w2
  refine k4 _ ⟨by rw [wp]; exact wipe_wipe, C.pin D (.lst xs), FC.pin_tags hP, F3, ρ4, _, S4, w4, fun b ρ5 F5 H5 h5 S5 s5 => ?_⟩
  have wp' : L2.wipe σ4 vs = L2.wipe σ vs := by rw [wp]; exact wipe_wipe
  cases b with
  | false =>
   dsimp only
   rw [if_neg Bool.false_ne_true]
   exact ⟨F5, _, acc, xs, S3.unwipe nP' S5 wp' s5, rA.mono (gr.f.trans s5), h0D, (s2.trans gr.f).trans s5, h5⟩
  | true =>
   dsimp only
   rw [if_pos rfl]
   refine ⟨C.pin D (.lst xs), FC.pin_tags hP, F5, ρ5, _, S5, h5, fun o ρ6 F6 H6 v h6 S6 s6 d6 => ?_⟩
   obtain ⟨e, ρ7, F7, ⟨hlen, w7⟩, S7, s7, r7⟩ := S6.share (FC.pin_tags hP) d6 h6
   obtain ⟨S7', hD7, fD7, oD7⟩ := Sim.unpinned pnD S7
   have fx : Same F2 F7 := ((gr.f.trans s5).trans s6).trans s7
   refine ⟨xs, hD7, ?_, ?_⟩
   ·rw [rA.length]; exact lt_line hlen
   ·have S8 := S3.unwipe nP' S7 wp' ((s5.trans s6).trans s7)
    obtain ⟨S8', hD8, fD8, oD8, nD8⟩ := Sim.unpinned pnD S8
    have S9 : Sim X.K (C.pin D (.lst (xs ++ [v]))) F7 (upd H6 D (.lst (xs ++ [v]))) (restE ρ7 ρ2 vs) σ := by
     refine Sim.pinned (C := C) ⟨S8'.len, fun b o e => ?_, S8'.frz, fun j e' hj => ?_, S8'.ne, S8'.par, S8'.f0, fun b o e hb => ?_, S8'.new, fun b o e => ?_, S8'.dp.upd nD8⟩ upd_same fD8 oD8 (S8'.dp.updF nD8)
     ·rw [upd_ne (ne_of_none e fD8)]; exact S8'.sub b o e
     ·obtain ⟨b, g1, g2, g3, g4⟩ := S8'.own j e' hj
      have nb : b ≠ D := fun z => oD8 j e' hj (z ▸ g1)
      exact ⟨b, g1, g2, g3.mono (Same.refl _) fun o ho => by rw [upd_ne nb]; exact ho, g4⟩
     ·have nb : b ≠ D := fun z => by rw [z, h0D] at e; cases e
      rw [upd_ne nb]; exact S8'.h0 b o e hb
     ·obtain ⟨g1, g2, g3⟩ := S8'.pin b o e
      have nb : b ≠ D := fun z => by rw [z, pnD] at e; cases e
      exact ⟨by rw [upd_ne nb]; exact g1, g2, g3⟩
    exact ⟨F7, _, acc ++ [e], xs ++ [v], S9, (rA.mono fx).append (.cons r7 .nil), h0D, s2.trans fx, w7⟩
 ·rw [List.drop_eq_nil_of_le (by omega)] at w2
  have e : i = ds.length := by omega
  subst e
  exact .inl ⟨st, k _ _ _ _ _ w2 S2' (s1.trans s2) ⟨fD2, ⟨xs, hD2, rA⟩, h0D, pnD, oD2, nD2⟩⟩
where
 wipe_wipe {σ : L2.St} {vs : List Nat} : L2.wipe (L2.wipe σ vs) vs = L2.wipe σ vs := by
  apply List.ext_getElem?
  intro j
  by_cases hj : j ∈ vs
  ·have : ∀ (σ : L2.St) (vs : List Nat), j ∈ vs → (L2.wipe σ vs)[j]? = if j < σ.length then some none else none := by
    intro σ vs
    induction vs with
    | nil => intro h; simp at h
    | cons v vs ih =>
     intro h
     unfold L2.wipe
     by_cases hv : v = j
     ·subst hv
      by_cases hl : v < σ.length
      ·rw [List.getElem?_set_self (by rw [wipe_length]; exact hl), if_pos hl]
      ·rw [List.getElem?_eq_none (by rw [List.length_set, wipe_length]; omega), if_neg hl]
     ·rw [List.getElem?_set_ne hv]
      rcases List.mem_cons.mp h with z | z
      ·exact absurd z.symm hv
      ·exact ih z
   rw [this _ _ hj, this _ _ hj, wipe_length]
  ·rw [wipe_out hj]
theorem lc_body {g : TG} {gd : DG} {tt : DT} {te : DE} {vs : List Nat} (hP : C.Tags P) (tg : TgtOk X.K P vs g gd) (hvs : ∀ v ∈ vs, P[v]? ≠ some true) {σ : L2.St} {Q : VK} {F F1 H1 : Hp} {ρ1 : DEnv} {ds : List PyData} {J : It} {q : PyData → DEnv → Prop}
  (s1 : Same F F1) (S1 : Sim X.K C F1 H1 ρ1 σ) (iok : ItOk X.K J F1 ds) (h1 : dLcL P gd tt te vs q ds [] ρ1) (k : ∀ d ρ' F' H' a, q d ρ' → Sim X.K C F' H' ρ' σ → Same F F' → Fresh X.K C F' H' ρ' σ a d → Q (.ref a) H') :
  lcBody g (lT' X.K P tt) (lE' X.K P te) vs σ Q J H1 :=
 lc_bodyG hP tg hvs s1 S1 (fun F2 H2 ρ2 s S => iok F2 H2 s S.sub) h1 k
theorem lc_low {g : TG} {gd : DG} {ti : DI} {tt : DT} {te : DE} {vs : List Nat} (hP : C.Tags P) (tg : TgtOk X.K P vs g gd) (hvs : ∀ v ∈ vs, P[v]? ≠ some true) {σ : L2.St} {H : Hp} {Q : VK} (h : lO X.K C (dLc P ti gd tt te vs) σ H Q) :
  tLc (lI X.K C ti) g (lT' X.K P tt) (lE' X.K P te) vs σ H Q := by
 obtain ⟨F, ρ, q, S, ht, k⟩ := h
 exact ⟨F, ρ, _, S, ht, fun ds ρ1 F1 H1 J h1 S1 s1 iok => lc_body hP tg hvs s1 S1 iok h1 k⟩
variable {tg it elt : Expr} {ifs : List Expr} {scope : Scope} {own : List (Str × Nat)} {pos spos : Pos} {ti : DI} {g : TG} {gd : DG} {tt : DT} {te : DE}
theorem o_lc (hP : C.Tags P) (hc : X.calm = true) (hN : X.N.Nodup) (hi : QI X C tg it ti) (ok : BlkOk X.N X.env.scope scope own)
  (hg : ∀ (s : Shared) (H : Hp) (Ca : Addr) (cl : List (Str × Addr)) (fp : List Addr), PG (X.blk s H scope (compEnvC scope cl Ca X.env) fp) tg g) (tgk : TgtOk X.K P (own.map (·.2)) g gd)
  (ht : ∀ (s : Shared) (H : Hp) (Ca : Addr) (cl : List (Str × Addr)) (fp : List Addr) (C' : FC), C'.Tags P → QTs (X.blk s H scope (compEnvC scope cl Ca X.env) fp) C' ifs tt)
  (he : ∀ (s : Shared) (H : Hp) (Ca : Addr) (cl : List (Str × Addr)) (fp : List Addr) (C' : FC), C'.Tags P → QE (X.blk s H scope (compEnvC scope cl Ca X.env) fp) C' elt te)
  (hvs : ∀ v ∈ own.map (·.2), P[v]? ≠ some true := by decide) (hs : ∀ x, foldedSetIterable it X.env x = pure x := by intro _; rfl) : QO X C (.ListComp elt [⟨tg, it, ifs, 0⟩] scope pos) (dLc P ti gd tt te (own.map (·.2))) :=
 QO.of (pe_lc hc hN hi.pi ok hg (fun s H Ca cl fp => pts' (ht s H Ca cl fp)) (fun s H Ca cl fp => pe' (he s H Ca cl fp)) hs) fun _ _ _ h => lc_low hP tgk hvs h
theorem s_setLc {i : Nat} {y : Str} {py : Pos} (hP : C.Tags P) (hc : X.calm = true) (hN : X.N.Nodup) (hi : QI X C tg it ti) (ok : BlkOk X.N X.env.scope scope own)
  (hg : ∀ (s : Shared) (H : Hp) (Ca : Addr) (cl : List (Str × Addr)) (fp : List Addr), PG (X.blk s H scope (compEnvC scope cl Ca X.env) fp) tg g) (tgk : TgtOk X.K P (own.map (·.2)) g gd)
  (ht : ∀ (s : Shared) (H : Hp) (Ca : Addr) (cl : List (Str × Addr)) (fp : List Addr) (C' : FC), C'.Tags P → QTs (X.blk s H scope (compEnvC scope cl Ca X.env) fp) C' ifs tt)
  (he : ∀ (s : Shared) (H : Hp) (Ca : Addr) (cl : List (Str × Addr)) (fp : List Addr) (C' : FC), C'.Tags P → QE (X.blk s H scope (compEnvC scope cl Ca X.env) fp) C' elt te)
  (hsw : swapsWith (.ListComp elt [⟨tg, it, ifs, 0⟩] scope pos) (some (.Name y py)) spos.line X.env = pure true) (hy : X.N[i]? = some y := by rfl) (hyl : X.env.scope.names.lookup y = some .local := by rfl)
  (hvs : ∀ v ∈ own.map (·.2), P[v]? ≠ some true := by decide) (hp : P[i]? ≠ some true := by decide) (hs : ∀ x, foldedSetIterable it X.env x = pure x := by intro _; rfl) :
  QS X C (.Assign [.Name y py] (.ListComp elt [⟨tg, it, ifs, 0⟩] scope pos) spos) (dSet P i (dFroz (dLc P ti gd tt te (own.map (·.2))))) :=
 QS.of (ps_setLc hc hN hy hyl hsw hi.pi ok hg (fun s H Ca cl fp => pts' (ht s H Ca cl fp)) (fun s H Ca cl fp => pe' (he s H Ca cl fp)) hs) fun D σ H ⟨F, ρ, E, S, h, okE⟩ =>
  lc_low hP tgk hvs ⟨F, ρ, _, S, h, fun d ρ1 F1 H1 a hq S1 s1 fr => by
   obtain ⟨F2, s2, S2, r⟩ := S1.froze fr
   exact okE.nx _ _ _ _ hq (setF' S2 (noP hP hp) r) (s1.trans s2)⟩
end
end Dv
set_option Elab.async false
set_option linter.all false
set_option maxRecDepth 100000
set_option autoImplicit false
namespace Dv
open PySem PySem.Spec L2
section
open PyProof.Rows
theorem list_mulW (l : Addr) (items : Array Value) (n : Nat) (dd : Option Addr) (sl : Array (Option Value)) (x : Int) (u : Tok) (hc0 : ¬(!Builtin.List.listFitsIndex x) = true) (hc1 : ¬items.size * x.toNat > (2 ^ 63 - 1) / 8) (hc2 : ¬Builtin.List.listTooLong (items.size * x.toNat) = true) :
  Meets (Builtin.«list.__mul__» ⟨[.ref l, .int x u], []⟩) (fun _ R s => s.heap.get? l = some { cls := .type "list", dict := dd, data := .seq items n, slots := sl } ∧ R (.ok (.ret (Value.ref s.heap.objs.size))) { s with heap := s.heap.push { cls := Value.type "list", data := Data.seq (List.foldl (fun x1 x2 => x1 ++ x2) #[] (List.replicate (if items.isEmpty = true then 0 else x.toNat) items)) }, toks := s.toks }) :=
 .of_wp fun prog w A R s h => by
  obtain ⟨hp, g, d, tk, os⟩ := s; obtain ⟨hl, h⟩ := h
  have hsz := AutoListH.joined_fits hc2
  wp_walk using wpAny_loadPart' hl; refine wpAny_ite_false (decide_eq_false (Nat.not_lt.mpr hsz)) ?_; wp_walk using wpAny_loadPart' hl; exact ⟨_, rfl, h⟩
theorem int_rmul_listW (a : Int) (t : Tok) (l : Addr) (items : Array Value) (n : Nat) (dd : Option Addr) (sl : Array (Option Value)) :
  Meets (Builtin.«int.__rmul__» ⟨[.int a t, .ref l], []⟩) (fun _ R s => s.heap.get? l = some { cls := .type "list", dict := dd, data := .seq items n, slots := sl } ∧ R (.ok (.ret Value.notImplemented)) s) :=
 .of_wp fun prog w A R s h => by obtain ⟨hp, g, d, tk, os⟩ := s; obtain ⟨hl, h⟩ := h; wp_walk using wpAny_loadPart' hl; exact ⟨_, rfl, h⟩
theorem list_extendW (l : Addr) (items : Array Value) (n : Nat) (b : Addr) (items2 : Array Value) (n2 : Nat) (dd2 : Option Addr) (sl2 : Array (Option Value)) (hc0 : ¬(!items.isEmpty && Builtin.List.listTooLong (items.size + items2.size)) = true) (hc1 : items.size ≤ sizeLine) (hs2 : items.size + items2.size ≤ sizeLine + 1) :
  Meets (Builtin.«list.extend» ⟨[.ref l, .ref b], []⟩) (fun _ R s => s.heap.get? l = some { cls := .type "list", dict := none, data := .seq items n, slots := #[] } ∧ s.heap.get? b = some { cls := .type "list", dict := dd2, data := .seq items2 n2, slots := sl2 } ∧ R (.ok (.ret Value.none)) { s with heap := s.heap.update l (Obj.mapSeq fun x => x ++ items2), toks := s.toks }) :=
 .of_wp fun prog w A R s h => by
  obtain ⟨hp, g, d, tk, os⟩ := s; obtain ⟨hl, hb, h⟩ := h; have f1 := AutoSeq1.idx_int; have f2 := AutoSeq1.sub_tuple_tuple; have f3 := AutoSeq1.sub_list_list; have f4 := AutoSeq1.sub_tuple_list; have f5 := AutoSeq1.sub_list_tuple;
  have hz' : (items ++ items2).size ≤ sizeLine + 1 := by rw [Array.size_append]; exact hs2
  wp_walk using (wpAny_updateSeq hl rfl (hz := hc1) (_hz' := hz')), wpAny_loadPart' hl, wpAny_loadPart' hb; exact ⟨_, rfl, h⟩
end
def iSeq (K : PySem.W.Frag) (tl : TE) : TI := fun σ H R => tl σ H fun x H1 => (∃ a, x = .ref a ∧ (∃ xs, SqL K H1 a xs) ∧ R (Itl K a) H1) ∨ (∃ a, x = .ref a ∧ (∃ xs, SqT K H1 a xs) ∧ R (Itt K a) H1) ∨ (∃ z, x = .str z ∧ R (Its z) H1)
theorem pi_seq {X : Cx} {tg l : Expr} {tl : TE} (hl : PE X l tl) : PI X tg l (iSeq X.K tl) := by
 refine ⟨fun pins s σ H R I h => ?_⟩
 refine thn (hl.run pins s σ H _ I h) fun v s1 ⟨x, H1, I1, r1, q1⟩ => ?_
 rcases q1 with ⟨a, e, ⟨xs, hq⟩, q⟩ | ⟨a, e, ⟨xs, hq⟩, q⟩ | ⟨z, e, q⟩
 ·subst e
  cases r1
  obtain ⟨its, rv, p, hz⟩ := I1.list hq
  refine PySem.wpAny_pyIter_list p.isList ?_
  refine ⟨s1.heap.objs.size, [s1.heap.objs.size], _, _, H1, rfl, I1.kept (t' := s1.toks) fun b o e => Heap.get?_push_of_some _ e, turn_list a _, ⟨_, Heap.get?_push_size _ rfl, rfl, rfl⟩, fun b hb => ?_, q⟩
  have e : b = s1.heap.objs.size := by simpa using hb
  subst e
  exact I1.fpOk (Nat.le_refl _) (I1.hok.fresh (Nat.le_refl _))
 ·subst e
  cases r1
  obtain ⟨its, rv, p, hz⟩ := I1.tuple hq
  refine PySem.wpAny_pyIter_tuple (show s1.heap.IsTuple a its.toArray from p) ?_
  refine ⟨s1.heap.objs.size, [s1.heap.objs.size], _, _, H1, rfl, I1.kept (t' := s1.toks) fun b o e => Heap.get?_push_of_some _ e, turn_tuple a _, ⟨_, Heap.get?_push_size _ rfl, rfl, rfl⟩, fun b hb => ?_, q⟩
  have e : b = s1.heap.objs.size := by simpa using hb
  subst e
  exact I1.fpOk (Nat.le_refl _) (I1.hok.fresh (Nat.le_refl _))
 ·subst e
  obtain ⟨t, rfl⟩ := r1
  cases ha : z.cps.all (· < 128)
  ·exact PySem.wpAny_pyIter_wide ha (pi_one (tk := s1.toks) I1 _ (turn_str _ z t "str_iterator" (.inr rfl)) ⟨_, Heap.get?_push_size _ rfl, rfl, rfl⟩ q)
  ·exact PySem.wpAny_pyIter_ascii ha (pi_one (tk := s1.toks) I1 _ (turn_str _ z t "str_ascii_iterator" (.inl rfl)) ⟨_, Heap.get?_push_size _ rfl, rfl, rfl⟩ q)
def signsD (x : Str) : List PyData := x.cps.toList.map fun c => .str ⟨#[c]⟩
def itemsD : PyData → Option (List PyData)
 | .list ds => some ds
 | .tuple ds => some ds
 | .str x => some (signsD x)
 | _ => none
def dSeqI (P : List Bool) (t : DE) : DI := fun ρ Q => t ρ fun o ρ1 => share P ρ1 o fun d ρ2 => match itemsD d with
 | some ds => Q ds ρ2
 | none => False
section
variable {X : Cx} {C : FC} {P : List Bool} {tg l : Expr} {t : DE}
theorem itl_ok {K : PySem.W.Frag} {F0 : Hp} {a : Addr} {xs : List V} {ds : List PyData} (h : SqL K F0 a xs) (r : RepAll K F0 xs ds) : ItOk K (Itl K a) F0 ds := fun F H s0 s1 => by
 have hq : SqL K H a xs := sqL_mono s1 (sqL_mono s0 h)
 refine ⟨⟨xs, hq, by rw [r.length]; exact Nat.le_refl _⟩, fun i d hd => ?_⟩
 obtain ⟨v, hv, rv⟩ := r.get hd
 refine ⟨⟨xs, v, hq, hv⟩, fun x H' hy => ?_⟩
 obtain ⟨e, hy⟩ := hy
 subst e
 have := hy xs hq
 rw [hv] at this; cases this
 exact ⟨F, Gr.refl s1, rv.mono s0⟩
theorem itt_ok {K : PySem.W.Frag} {F0 : Hp} {a : Addr} {xs : List V} {ds : List PyData} (h : SqT K F0 a xs) (r : RepAll K F0 xs ds) : ItOk K (Itt K a) F0 ds := fun F H s0 s1 => by
 have hq : SqT K H a xs := sqT_mono s1 (sqT_mono s0 h)
 refine ⟨⟨xs, hq, by rw [r.length]; exact Nat.le_refl _⟩, fun i d hd => ?_⟩
 obtain ⟨v, hv, rv⟩ := r.get hd
 refine ⟨⟨xs, v, hq, hv⟩, fun x H' hy => ?_⟩
 obtain ⟨e, hy⟩ := hy
 subst e
 have := hy xs hq
 rw [hv] at this; cases this
 exact ⟨F, Gr.refl s1, rv.mono s0⟩
theorem its_ok {K : PySem.W.Frag} {F0 : Hp} {z : Str} : ItOk K (Its z) F0 (signsD z) := fun F H s0 s1 => by
 refine ⟨by show z.cps.size ≤ (signsD z).length; simp [signsD], fun i d hd => ?_⟩
 have hl : i < z.cps.size := by
  have := (List.getElem?_eq_some_iff.mp hd).1
  simpa [signsD] using this
 refine ⟨hl, fun x H' hy => ?_⟩
 obtain ⟨e, c, hc, hx⟩ := hy
 subst e hx
 refine ⟨F, Gr.refl s1, ?_⟩
 have : d = .str ⟨#[c]⟩ := by
  have h2 : z.cps.toList[i]? = some c := by simpa using hc
  simp only [signsD, List.getElem?_map, h2] at hd
  exact (Option.some.inj hd).symm
 subst this
 exact .str _
theorem i_seq (hP : C.Tags P) (h : QE X C l t) : QI X C tg l (dSeqI P t) := QI.of (pi_seq h.pe) fun σ H R ⟨F, ρ, q, S, ht, k⟩ => by
 refine ⟨F, ρ, _, S, ht, fun o ρ1 F1 H1 v hq S1 s1 d1 => ?_⟩
 obtain ⟨d, ρ2, F2, w, S2, s2, r⟩ := S1.share hP d1 hq
 cases r with
 | lst h1 h2 => exact .inl ⟨_, rfl, ⟨_, sqL_mono S2.sub h1⟩, k _ _ _ _ _ w S2 (s1.trans s2) (itl_ok h1 h2)⟩
 | tup h1 h2 => exact .inr (.inl ⟨_, rfl, ⟨_, sqT_mono S2.sub h1⟩, k _ _ _ _ _ w S2 (s1.trans s2) (itt_ok h1 h2)⟩)
 | str x => exact .inr (.inr ⟨_, rfl, k _ _ _ _ _ w S2 (s1.trans s2) its_ok⟩)
 | _ => exact w.elim
def rangeD (lo : Int) (n : Nat) : List PyData := (List.range n).map fun i => .int (lo + (i : Nat))
theorem itr_ok {K : PySem.W.Frag} {F0 : Hp} {lo : Int} {n : Nat} : ItOk K (Itr lo n) F0 (rangeD lo n) := fun F H s0 s1 => by
 refine ⟨by show n ≤ (rangeD lo n).length; simp [rangeD], fun i d hd => ?_⟩
 have hl : i < n := by
  have := (List.getElem?_eq_some_iff.mp hd).1
  simpa [rangeD] using this
 refine ⟨hl, fun x H' hy => ?_⟩
 obtain ⟨e, hx⟩ := hy
 subst e hx
 have : d = .int (lo + (i : Nat)) := by
  simp [rangeD, List.getElem?_map, List.getElem?_range hl] at hd
  exact hd.symm
 subst this
 exact ⟨F, Gr.refl s1, .int _⟩
def dRng1 (t : DA) : DI := fun ρ Q => t ρ fun os ρ1 => withAll ρ1 os fun ds => match ds with
 | [.int n] => n < 2 ^ 62 ∧ -(2 ^ 62) ≤ n ∧ Q (rangeD 0 n.toNat) ρ1
 | _ => False
theorem i_range1 {a : Expr} {ta : DA} {p pos : Pos} (hm : X.mg "range" = none) (ha : QA X C [a] ta) (hg : Gl X "range" := by rfl) (hs : starEach [a] X.env = [(false, eval a X.env)] := by rfl) : QI X C tg (.Call (.Name "range" p) [a] [] pos) (dRng1 ta) :=
 QI.of (pi_range1 hg hm ha.pa hs) fun σ H R ⟨F, ρ, q, S, ht, k⟩ => by
  refine ⟨F, ρ, _, S, ht, fun os ρ1 F1 H1 vs hq S1 s1 d1 => ?_⟩
  obtain ⟨ds, v1, w1⟩ := S1.seeAll d1 hq
  cases v1 with
  | nil => exact w1.elim
  | @cons v _ d _ hv hr =>
   cases hr with
   | cons _ _ => cases d <;> exact w1.elim
   | nil =>
    cases d with
    | int n =>
     cases (show Rep X.K F1 v (.int n) from hv)
     exact ⟨n, rfl, w1.2.1, w1.1, k _ _ _ _ _ w1.2.2 S1 s1 itr_ok⟩
    | _ => exact w1.elim
def zipD (xs ys : List PyData) : List PyData := List.zipWith (fun x y => .tuple [x, y]) xs ys
theorem zip_get {xs ys : List PyData} {i : Nat} {d : PyData} (h : (zipD xs ys)[i]? = some d) : ∃ x y, xs[i]? = some x ∧ ys[i]? = some y ∧ d = .tuple [x, y] := by
 unfold zipD at h
 rw [List.getElem?_zipWith] at h
 cases hx : xs[i]? with
 | none => rw [hx] at h; cases h
 | some x =>
  cases hy : ys[i]? with
  | none => rw [hx, hy] at h; cases h
  | some y => rw [hx, hy] at h; cases h; exact ⟨x, y, rfl, rfl, rfl⟩
theorem pair_new {K : PySem.W.Frag} {F H : Hp} {T : Addr} {x y : V} {d e : PyData} (s : Same F H) (hT : H T = none) (h1 : Rep K F x d) (h2 : Rep K F y e) : ∃ F', Gr F H F' (upd H T (.tup [x, y])) ∧ Rep K F' (.ref T) (.tuple [d, e]) := by
 have g := Gr.new (o := .tup [x, y]) s hT
 exact ⟨_, g, .tup (SqT.of upd_same) (.cons (h1.mono g.f) (.cons (h2.mono g.f) .nil))⟩
theorem itz_ok {K : PySem.W.Frag} {F0 : Hp} {a b : Addr} {xs ys : List V} {ds es : List PyData} (h : SqL K F0 a xs) (r : RepAll K F0 xs ds) (h2 : SqL K F0 b ys) (r2 : RepAll K F0 ys es) : ItOk K (Itz K a b) F0 (zipD ds es) := fun F H s0 s1 => by
 have hq : SqL K H a xs := sqL_mono s1 (sqL_mono s0 h)
 have hq2 : SqL K H b ys := sqL_mono s1 (sqL_mono s0 h2)
 refine ⟨⟨xs, ys, hq, hq2, ?_⟩, fun i d hd => ?_⟩
 ·have e1 := r.length
  have e2 := r2.length
  simp only [zipD, List.length_zipWith]
  omega
 obtain ⟨d1, d2, g1, g2, e⟩ := zip_get hd
 subst e
 obtain ⟨v, hv, rv⟩ := r.get g1
 obtain ⟨v2, hv2, rv2⟩ := r2.get g2
 refine ⟨⟨xs, ys, v, v2, hq, hq2, hv, hv2⟩, fun x H' hy => ?_⟩
 obtain ⟨T, x1, x2, e, hT, e', k1, k2⟩ := hy
 subst e e'
 have z1 := k1 xs hq
 have z2 := k2 ys hq2
 rw [hv] at z1; rw [hv2] at z2
 cases z1; cases z2
 exact pair_new s1 hT (rv.mono s0) (rv2.mono s0)
theorem itzT_ok {K : PySem.W.Frag} {F0 : Hp} {a b : Addr} {xs ys : List V} {ds es : List PyData} (h : SqT K F0 a xs) (r : RepAll K F0 xs ds) (h2 : SqT K F0 b ys) (r2 : RepAll K F0 ys es) : ItOk K (RZ.ItzT K a b) F0 (zipD ds es) := fun F H s0 s1 => by
 have hq : SqT K H a xs := sqT_mono s1 (sqT_mono s0 h)
 have hq2 : SqT K H b ys := sqT_mono s1 (sqT_mono s0 h2)
 refine ⟨⟨xs, ys, hq, hq2, ?_⟩, fun i d hd => ?_⟩
 ·have e1 := r.length
  have e2 := r2.length
  simp only [zipD, List.length_zipWith]
  omega
 obtain ⟨d1, d2, g1, g2, e⟩ := zip_get hd
 subst e
 obtain ⟨v, hv, rv⟩ := r.get g1
 obtain ⟨v2, hv2, rv2⟩ := r2.get g2
 refine ⟨⟨xs, ys, v, v2, hq, hq2, hv, hv2⟩, fun x H' hy => ?_⟩
 obtain ⟨T, x1, x2, e, hT, e', k1, k2⟩ := hy
 subst e e'
 have z1 := k1 xs hq
 have z2 := k2 ys hq2
 rw [hv] at z1; rw [hv2] at z2
 cases z1; cases z2
 exact pair_new s1 hT (rv.mono s0) (rv2.mono s0)
def dZip (P : List Bool) (t : DA) : DI := fun ρ Q => t ρ fun os ρ1 => shareAll P ρ1 os fun ds ρ2 => match ds with
 | [.list xs, .list ys] => Q (zipD xs ys) ρ2
 | [.tuple xs, .tuple ys] => Q (zipD xs ys) ρ2
 | _ => False
theorem i_zip {e e2 : Expr} {ta : DA} {p pos tpos : Pos} {elts : List Expr} {kk : Nat} (hP : C.Tags P) (hm : X.mg "zip" = none) (ha : QA X C [e, e2] ta) (hg : Gl X "zip" := by rfl)
  (h : PI X (.Tuple elts kk tpos) (.Call (.Name "zip" p) [e, e2] [] pos) (RZ.iZipA X.K (lA X.K C ta)) := by exact RZ.pi_zipA hg hm ha.pa) : QI X C (.Tuple elts kk tpos) (.Call (.Name "zip" p) [e, e2] [] pos) (dZip P ta) :=
 QI.of h fun σ H R ⟨F, ρ, q, S, ht, k⟩ => by
  refine ⟨F, ρ, _, S, ht, fun os ρ1 F1 H1 vs hq S1 s1 d1 => ?_⟩
  obtain ⟨ds, ρ2, F2, w, S2, s2, r⟩ := Sim.shareAll hP S1 d1 hq
  cases r with
  | nil => exact w.elim
  | @cons v _ d _ hv hr =>
   cases hr with
   | nil => cases d <;> exact w.elim
   | @cons v2 _ d2 _ hv2 hr =>
    cases hr with
    | cons _ _ => cases d <;> first | exact w.elim | (cases d2 <;> exact w.elim)
    | nil =>
     cases hv with
     | lst a1 a2 =>
      cases hv2 with
      | lst b1 b2 => exact ⟨_, _, _, _, rfl, .inl ⟨sqL_mono S2.sub a1, sqL_mono S2.sub b1, k _ _ _ _ _ w S2 (s1.trans s2) (itz_ok a1 a2 b1 b2)⟩⟩
      | _ => exact w.elim
     | tup a1 a2 =>
      cases hv2 with
      | tup b1 b2 => exact ⟨_, _, _, _, rfl, .inr ⟨sqT_mono S2.sub a1, sqT_mono S2.sub b1, k _ _ _ _ _ w S2 (s1.trans s2) (itzT_ok a1 a2 b1 b2)⟩⟩
      | _ => exact w.elim
     | _ => exact w.elim
end
def tyD (T : String) : PyData → Prop
 | .str _ => T = "str"
 | .list _ => T = "list"
 | .int _ => T = "int"
 | _ => False
theorem View.ty {K : PySem.W.Frag} {F H : Hp} {v : V} {d : PyData} {T : String} (h : View K F H v d) (t : tyD T d) : tyV K T v H := by
 cases d with
 | str x => cases (show Rep K F v (.str x) from h); exact t
 | int x => cases (show Rep K F v (.int x) from h); exact t
 | list xs => obtain ⟨a, ys, e, h1, _⟩ := h; subst e; exact .inl ⟨t, _, h1⟩
 | _ => exact t.elim
abbrev OpM := PyData → List PyData → (PyData → PyData → Prop) → Prop
def MutOk (X : Cx) (r : V → List V → Hp → VK → Prop) (f : OpM) : Prop := ∀ F H a vs d ds (q : PyData → PyData → Prop) (Q : VK), Same F H → F a = none → Own X.K F H a d → RepAll X.K F vs ds → f d ds q →
 (∀ d' g o v, q d' g → Own X.K F (upd H a o) a d' → Rep X.K F v g → Q v (upd H a o)) → r (.ref a) vs H Q
def dMut (P : List Bool) (T : String) (i : Nat) (f : OpM) (a : DA) : DE := fun ρ Q => match ρ[i]? with
 | some (some (.own d0)) => tyD T d0 ∧ a ρ fun os ρ1 => shareAll P ρ1 os fun ds ρ2 => match ρ2[i]? with
  | some (some (.own d)) => f d ds fun d' g => Q (.val g) (ρ2.set i (some (.own d')))
  | _ => False
 | _ => False
def dMut0 (T : String) (i : Nat) (f : OpM) : DE := fun ρ Q => match ρ[i]? with
 | some (some (.own d)) => tyD T d ∧ f d [] fun d' g => Q (.val g) (ρ.set i (some (.own d')))
 | _ => False
section
variable {X : Cx} {C : FC} {P : List Bool} {T id : String} {name x : Str} {r : V → List V → Hp → VK → Prop} {f : OpM} {i : Nat} {e : Expr} {es : List Expr} {ta : DA} {p apos cpos : Pos}
theorem own_split {ρ : DEnv} {i : Nat} {k : PyData → Prop} (h : match ρ[i]? with
  | some (some (.own d)) => k d
  | _ => False) : ∃ d, ρ[i]? = some (some (.own d)) ∧ k d := by
 cases q : ρ[i]? with
 | none => rw [q] at h; exact h.elim
 | some y =>
  cases y with
  | none => rw [q] at h; exact h.elim
  | some z =>
   cases z with
   | frz d => rw [q] at h; exact h.elim
   | own2 d => rw [q] at h; exact h.elim
   | own d => rw [q] at h; exact ⟨d, rfl, h⟩
theorem Own.view {K : PySem.W.Frag} {F H : Hp} {a : Addr} {d : PyData} (h : Own K F H a d) : View K F H (.ref a) d := by
 cases d with
 | list xs => obtain ⟨ys, e, r⟩ := h; exact ⟨a, ys, rfl, SqL.of e, r⟩
 | dict xs =>
  rcases h with ⟨ys, e, r⟩ | ⟨w, ys, n, e, r⟩
  ·exact ⟨a, rfl, .inl ⟨ys, .inl e, r⟩⟩
  ·exact ⟨a, rfl, .inr (.inl ⟨w, ys, n, .inl e, r⟩)⟩
 | _ => exact h.elim
theorem m_mut (hP : C.Tags P) (pa : PlainAttrs T) (slot : Slot T name id) (hty : typeOf (.builtin id) = pure (.type "method_descriptor")) (hm : MtR X id r) (ok : MutOk X r f) (ha : QA X C (e :: es) ta)
  (hv : PE X (.Name x p) (tVar i)) (hbase : attributeBase (.Name x p) name X.env (eval (.Name x p) X.env) = eval (.Name x p) X.env := by rfl)
  (hfew : ((backTo cpos (starEach (e :: es) X.env)).all (fun x => !x.1) && (backToKw cpos (keywordEach [] X.env)).all (fun x => x.1.isSome)
   && decide ((e :: es).length + ([] : List Keyword).length + (if ([] : List Keyword).isEmpty then 0 else 1) < 30)) = true := by rfl)
  (hline : (apos.endLine == cpos.line) = true := by rfl) (hs : starEach (e :: es) X.env = (false, eval e X.env) :: starEach es X.env := by rfl) (hplain : (backTo cpos (starEach es X.env)).any (·.1) = false := by rfl) :
  QE X C (.Call (.Attribute (.Name x p) name apos) (e :: es) [] cpos) (dMut P T i f ta) :=
 QE.of (pe_bm pa slot hty hm hv ha.pa hbase hfew hline hs hplain) fun σ H Q ⟨F, ρ, q, S, ht, k⟩ => by
  obtain ⟨d0, hd0, ty, ht⟩ := own_split ht
  obtain ⟨a, g1, g2, g3, _⟩ := S.own i d0 hd0
  refine ⟨.ref a, g1, View.ty (Own.view g3) ty, F, ρ, _, S, ht, fun os ρ1 F1 H1 vs h1 S1 s1 d1 => ?_⟩
  obtain ⟨ds, ρ2, F2, w, S2, s2, rr⟩ := Sim.shareAll hP S1 d1 h1
  obtain ⟨d, hd, w⟩ := own_split w
  obtain ⟨a', e1, e2, e3, _⟩ := S2.own i d hd
  rw [g1] at e1; cases e1
  exact ok F2 H1 a vs d ds _ Q S2.sub e2 e3 rr w fun d' g o v hq hO hr => k _ _ _ _ _ hq (S2.turn hd g1 hO) (s1.trans s2) hr
theorem m_mut0 (pa : PlainAttrs T) (slot : Slot T name id) (hty : typeOf (.builtin id) = pure (.type "method_descriptor")) (hm : MtR X id r) (ok : MutOk X r f)
  (hv : PE X (.Name x p) (tVar i)) (hbase : attributeBase (.Name x p) name X.env (eval (.Name x p) X.env) = eval (.Name x p) X.env := by rfl) (hline : (apos.endLine == cpos.line) = true := by rfl) :
  QE X C (.Call (.Attribute (.Name x p) name apos) [] [] cpos) (dMut0 T i f) :=
 QE.of (pe_bm0 pa slot hty hm hv hbase hline) fun σ H Q ⟨F, ρ, q, S, ht, k⟩ => by
  obtain ⟨d, hd, ty, w⟩ := own_split ht
  obtain ⟨a, g1, g2, g3, _⟩ := S.own i d hd
  exact ⟨.ref a, g1, View.ty (Own.view g3) ty, ok F H a [] d [] _ Q S.sub g2 g3 .nil w fun d' g o v hq hO hr => k _ _ _ _ _ hq (S.turn hd g1 hO) (Same.refl F) hr⟩
def dBM (T : String) (f : OpN) (o : DE) (a : DA) : DE := fun ρ Q => o ρ fun o1 ρ1 => withO ρ1 o1 fun d0 => tyD T d0 ∧ a ρ1 fun os ρ2 => withO ρ2 o1 fun d => withAll ρ2 os fun ds => f (d :: ds) fun g => Q (.val g) ρ2
def MtOk (X : Cx) (r : V → List V → Hp → VK → Prop) (f : OpN) : Prop := ∀ F H v vs d ds q Q, Same F H → View X.K F H v d → ViewAll X.K F H vs ds → f (d :: ds) q → Kont X.K F H q Q → r v vs H Q
variable {o : Expr} {to : DE} {f' : OpN}
theorem m_look (pa : PlainAttrs T) (slot : Slot T name id) (hty : typeOf (.builtin id) = pure (.type "method_descriptor")) (hm : MtR X id r) (ok : MtOk X r f') (ho : QE X C o to) (ha : QA X C (e :: es) ta)
  (hbase : attributeBase o name X.env (eval o X.env) = eval o X.env := by rfl)
  (hfew : ((backTo cpos (starEach (e :: es) X.env)).all (fun x => !x.1) && (backToKw cpos (keywordEach [] X.env)).all (fun x => x.1.isSome)
   && decide ((e :: es).length + ([] : List Keyword).length + (if ([] : List Keyword).isEmpty then 0 else 1) < 30)) = true := by rfl)
  (hline : (apos.endLine == cpos.line) = true := by rfl) (hs : starEach (e :: es) X.env = (false, eval e X.env) :: starEach es X.env := by rfl) (hplain : (backTo cpos (starEach es X.env)).any (·.1) = false := by rfl) :
  QE X C (.Call (.Attribute o name apos) (e :: es) [] cpos) (dBM T f' to ta) :=
 QE.of (pe_bm pa slot hty hm ho.pe ha.pa hbase hfew hline hs hplain) fun σ H Q ⟨F, ρ, q, S, ht, k⟩ => by
  refine ⟨F, ρ, _, S, ht, fun o1 ρ1 F1 H1 v h1 S1 s1 d1 => ?_⟩
  obtain ⟨d0, v0, ty, h1⟩ := S1.see d1 h1
  refine ⟨v0.ty ty, F1, ρ1, _, S1, h1, fun os ρ2 F2 H2 vs h2 S2 s2 d2 => ?_⟩
  obtain ⟨d, vd, h2⟩ := S2.see (d1.mono s2) h2
  obtain ⟨ds, vds, h2⟩ := S2.seeAll d2 h2
  exact ok F2 H2 v vs d ds _ Q S2.sub vd vds h2 (kont_of (ρ1 := ρ1) (F1 := F1) (H1 := H1) S2 (s1.trans s2) k)
abbrev OpS := PyData → PyData → PyData → (PyData → Prop) → Prop
def SetOk (X : Cx) (t : TSet) (f : OpS) : Prop := ∀ F H a iv v d di dv (q : PyData → Prop) (Q : Hp → Prop), Same F H → F a = none → Own X.K F H a d → View X.K F H iv di → Rep X.K F v dv → f d di dv q →
 (∀ d' o, q d' → Own X.K F (upd H a o) a d' → Q (upd H a o)) → t (.ref a) iv v H Q
def dSetIx (P : List Bool) (i : Nat) (f : OpS) (tv ti : DE) : DS := fun E ρ => tv ρ fun ov ρ1 => share P ρ1 ov fun dv ρ2 => match ρ2[i]? with
 | some (some (.own _)) => ti ρ2 fun oi ρ3 => withO ρ3 oi fun di => match ρ3[i]? with
  | some (some (.own d)) => f d di dv fun d' => E.nx (ρ3.set i (some (.own d')))
  | _ => False
 | _ => False
theorem s_setIx {ix val : Expr} {ti tv : DE} {t : TSet} {f : OpS} {tpos pos : Pos} (hP : C.Tags P) (hset : PSet X t) (ok : SetOk X t f) (hval : QE X C val tv) (hix : QE X C ix ti) (hv : PE X (.Name x p) (tVar i))
  (hasg : ∀ v, assign (.Subscript (.Name x p) ix tpos) X.env v = (do
   let ov ← holding [v] (eval (.Name x p) X.env)
   let iv ← holding [v, ov] (eval ix X.env)
   standAt tpos
   holding [v, ov, iv] (setItem ov iv v)
   release [v, ov, iv] []) := by intro _; rfl)
  (hs : swapsWithSole [.Subscript (.Name x p) ix tpos] val pos.line X.env = pure false := by rfl) (hw : swappedStores [.Subscript (.Name x p) ix tpos] val X.env = pure none := by rfl)
  (h1 : (assignEach [.Subscript (.Name x p) ix tpos] X.env).map (·.2) = [assign (.Subscript (.Name x p) ix tpos) X.env] := by rfl) : QS X C (.Assign [.Subscript (.Name x p) ix tpos] val pos) (dSetIx P i f tv ti) :=
 QS.of (ps_asg hval.pe (pg_sub hv hix.pe hset hasg) hs hw h1) fun D σ H ⟨F, ρ, E, S, ht, okE⟩ => by
  refine ⟨F, ρ, _, S, ht, fun ov ρ1 F1 H1 v hq S1 s1 d1 => ?_⟩
  obtain ⟨dv, ρ2, F2, w, S2, s2, rv⟩ := S1.share hP d1 hq
  obtain ⟨d0, hd0, w⟩ := own_split w
  obtain ⟨a, g1, g2, g3, _⟩ := S2.own i d0 hd0
  refine ⟨.ref a, g1, F2, ρ2, _, S2, w, fun oi ρ3 F3 H3 iv hq3 S3 s3 d3 => ?_⟩
  obtain ⟨di, vi, w3⟩ := S3.see d3 hq3
  obtain ⟨d, hd, w3⟩ := own_split w3
  obtain ⟨a', e1, e2, e3, _⟩ := S3.own i d hd
  rw [g1] at e1; cases e1
  exact ok F3 H3 a iv v d di dv _ _ S3.sub e2 e3 vi (rv.mono s3) w3 fun d' o hq hO => okE.nx _ _ _ _ hq (S3.turn hd g1 hO) ((s1.trans s2).trans s3)
end
end Dv
set_option Elab.async false
set_option linter.all false
set_option maxRecDepth 100000
set_option autoImplicit false
namespace Dv
open PySem PySem.Spec L2
section
variable {X : Cx}
theorem view_int {K : PySem.W.Frag} {F H : Hp} {v : V} {i : Int} (h : View K F H v (.int i)) : v = .int i := by cases (show Rep K F v (.int i) from h); rfl
theorem view_bl {K : PySem.W.Frag} {F H : Hp} {v : V} {i : Bool} (h : View K F H v (.bool i)) : v = .bl i := by cases (show Rep K F v (.bool i) from h); rfl
theorem view_str {K : PySem.W.Frag} {F H : Hp} {v : V} {i : Str} (h : View K F H v (.str i)) : v = .str i := by cases (show Rep K F v (.str i) from h); rfl
theorem view_non {K : PySem.W.Frag} {F H : Hp} {v : V} (h : View K F H v .none) : v = .non := by cases (show Rep K F v .none from h); rfl
theorem view_tup {K : PySem.W.Frag} {F H : Hp} {v : V} {ds : List PyData} (s : Same F H) (h : View K F H v (.tuple ds)) : ∃ a xs, v = .ref a ∧ SqT K H a xs ∧ RepAll K F xs ds ∧ Rep K F v (.tuple ds) := by
 have h' : Rep K F v (.tuple ds) := h
 cases h' with
 | tup a b => exact ⟨_, _, rfl, sqT_mono s a, b, .tup a b⟩
def addD : Op2 := fun d e k => match d, e with
 | .int i, .int j => k (.int (i + j))
 | .str x, .str y => x.length + y.length ≤ big ∧ k (.str (x ++ y))
 | .tuple xs, .tuple ys => xs.length + ys.length ≤ big ∧ k (.tuple (xs ++ ys))
 | _, _ => False
def rAddA (K : PySem.W.Frag) : R2 := fun x y H Q => rI0 (fun i j => .int (i + j)) x y H Q ∨ (∃ i j, x = .str i ∧ y = .str j ∧ i.length + j.length ≤ sizeLine ∧ Q (.str (i ++ j)) H) ∨ rCatA K x y H Q
theorem op_addA : OpR X (binaryOp .Add) (rAddA X.K) := op_add.or (op_add_str.or op_catA)
theorem ok_add : OpOk X (rAddA X.K) addD := fun F H x y d e q Q s v1 v2 w k => by
 cases d with
 | int i =>
  cases e with
  | int j => rw [view_int v1, view_int v2]; exact .inl ⟨i, j, rfl, rfl, k _ _ _ _ w (Gr.refl s) (.int _)⟩
  | _ => exact w.elim
 | str i =>
  cases e with
  | str j => rw [view_str v1, view_str v2]; exact .inr (.inl ⟨i, j, rfl, rfl, le_line w.1, k _ _ _ _ w.2 (Gr.refl s) (.str _)⟩)
  | _ => exact w.elim
 | tuple xs =>
  cases e with
  | tuple ys =>
   obtain ⟨a, us, e1, h1, r1, p1⟩ := view_tup s v1
   obtain ⟨b, ws, e2, h2, r2, p2⟩ := view_tup s v2
   subst e1 e2
   refine .inr (.inr ⟨a, b, us, ws, rfl, rfl, h1, h2, by rw [r1.length, r2.length]; exact le_line w.1, fun z => ?_, fun z1 z2 => ?_, fun z1 z2 p hp => ?_⟩)
   ·subst z
    cases r1
    exact k _ _ _ _ w.2 (Gr.refl s) p2
   ·subst z2
    cases r2
    refine k _ _ _ _ w.2 (Gr.refl s) ?_
    rw [List.append_nil]; exact p1
   ·have g := Gr.new (o := .tup (us ++ ws)) s hp
    exact k _ _ _ _ w.2 g (.tup (SqT.of upd_same) ((r1.append r2).mono g.f))
  | _ => exact w.elim
 | _ => exact w.elim
theorem Inv.lstR {pins : List (Addr × Obj)} {σ : L2.St} {H : Hp} {s : Shared} {l : Addr} {xs : List V} (I : Inv X pins σ H s) (hH : SqL X.K H l xs) :
  xs.length ≤ sizeLine ∧ ∃ (its : List Value) (n : Nat) (dd : Option Addr) (sl : Array (Option Value)), Vals xs its ∧ xs.length = its.length ∧ s.heap.get? l = some { cls := .type "list", dict := dd, data := .seq its.toArray n, slots := sl } := by
 obtain ⟨its, r, ⟨⟨c, dd, dt, sl⟩, n, e, hc, _, hd⟩, z⟩ := I.list hH
 simp only at hc hd
 subst hc hd
 exact ⟨z, its, n, dd, sl, r, r.length, e⟩
def rCatR (K : PySem.W.Frag) : R2 := fun x y H Q => ∃ l b xs zs, x = .ref l ∧ y = .ref b ∧ SqL K H l xs ∧ SqL K H b zs ∧ xs.length + zs.length ≤ sizeLine ∧ ∀ p, H p = none → Q (.ref p) (upd H p (.lst (xs ++ zs)))
open PyProof.Rows in
theorem op_catR : OpR X (binaryOp .Add) (rCatR X.K) := by
 intro pins s σ H x y v u Q I rx ry h
 obtain ⟨l, b, xs, zs, rfl, rfl, hH, hB, hz, q⟩ := h
 cases rx
 cases ry
 obtain ⟨z, its, n, dd, sl, r, hl, e⟩ := Inv.lstR I hH
 obtain ⟨z2, its2, n2, dd2, sl2, r2, hl2, e2⟩ := Inv.lstR I hB
 refine concat_meets ⟨_, e, rfl⟩ ⟨_, e2, rfl⟩ noFill_list_add seq_list_add PySem.F.slot_list_add PySem.F.entry_list_add (PySem.F.args_list_add_2 _ _) (list_addW l b its.toArray its2.toArray n n2 dd dd2 sl sl2 (by rw [List.size_toArray, List.size_toArray]; omega)) ⟨e, e2, ?_⟩
 have ea : its.toArray ++ its2.toArray = (its ++ its2).toArray := by simp
 rw [ea]
 exact ⟨.ref _, _, I.lnew (t' := s.toks) (r.append r2) (by rw [List.length_append]; omega), rfl, q _ I.fresh⟩
def catD : Op2L := fun d e k => match d, e with
 | .list xs, .list ys => xs.length + ys.length ≤ big ∧ k (xs ++ ys)
 | _, _ => False
theorem ok_cat : OpOkL X (rCatR X.K) catD := fun F H x y d e q Q s v1 v2 w k => by
 cases d with
 | list xs =>
  cases e with
  | list ys =>
   obtain ⟨a, us, e1, h1, r1⟩ := v1
   obtain ⟨b, ws, e2, h2, r2⟩ := v2
   subst e1 e2
   exact ⟨a, b, us, ws, rfl, rfl, h1, h2, by rw [r1.length, r2.length]; exact le_line w.1, fun p hp => k _ _ p w.2 hp (r1.append r2)⟩
  | _ => exact w.elim
 | _ => exact w.elim
theorem o_cat {C : FC} {a b : Expr} {pos : Pos} {ta tb : DE} (ha : QE X C a ta) (hb : QE X C b tb) : QO X C (.BinOp a .Add b pos) (dBinL catD ta tb) := o_bin op_catR ok_cat ha hb
def rRepR (K : PySem.W.Frag) : R2 := fun x y H Q => ∃ l k xs, x = .ref l ∧ y = .int k ∧ SqL K H l xs ∧ -(2 ^ 63) ≤ k ∧ k < 2 ^ 63 ∧ xs.length * k.toNat ≤ sizeLine ∧
 ∀ p, H p = none → Q (.ref p) (upd H p (.lst (List.replicate k.toNat xs).flatten))
open PyProof.Rows in
theorem op_repR : OpR X (binaryOp .Mult) (rRepR X.K) := by
 intro pins s σ H x y v u Q I rx ry h
 obtain ⟨l, k, xs, rfl, rfl, hH, h1, h2, hz, q⟩ := h
 cases rx
 obtain ⟨t, rfl⟩ := ry
 obtain ⟨z, its, n, dd, sl, r, hl, e⟩ := Inv.lstR I hH
 have hlen : its.toArray.size * k.toNat ≤ sizeLine := by rw [List.size_toArray, ← hl]; exact hz
 have hcap : ¬ its.toArray.size * k.toNat > (2 ^ 63 - 1) / 8 := by
  have : (sizeLine : Nat) ≤ (2 ^ 63 - 1) / 8 := by decide
  omega
 have hfit : ¬ (!Builtin.List.listFitsIndex k) = true := by
  rw [fitsIndex_both h1 h2]
  exact Bool.false_ne_true
 have hlong : ¬ Builtin.List.listTooLong (its.toArray.size * k.toNat) = true := by
  rw [notLongL hlen]
  exact Bool.false_ne_true
 have hnew : List.foldl (fun x1 x2 => x1 ++ x2) #[] (List.replicate (if its.toArray.isEmpty = true then 0 else k.toNat) its.toArray) = (List.replicate k.toNat its).flatten.toArray := by
  have f0 : ∀ m : Nat, List.foldl (fun x1 x2 => x1 ++ x2) #[] (List.replicate m its.toArray) = (List.replicate m its).flatten.toArray := fun m => by
   have := foldl_rep its m []
   rw [List.nil_append] at this
   exact this
  rw [f0]
  cases its with
  | nil => simp
  | cons a r' => rw [if_neg (by simp)]
 refine wpAny_binaryOp_repeat_ref (T := "list") (U := "int") (by decide) ⟨_, e, rfl⟩ (fun s' => typeIs_int s' k t) noFill_list_mul F.fills_int_mul F.slot_int_rmul repeat_list F.slot_int_index.lookup
  (call_meets F.slot_int_rmul (typeIs_int s k t) F.entry_int_rmul (F.args_int_rmul_2 _ _) (int_rmul_listW k t l its.toArray n dd sl)
   ⟨e, rfl, ⟨_, e, rfl⟩, call_meets F.slot_list_mul ⟨_, e, rfl⟩ F.entry_list_mul (F.args_list_mul_2 _ _) (list_mulW l its.toArray n dd sl k t hfit hcap hlong) ⟨e, ?_⟩⟩)
 rw [hnew]
 exact ⟨.ref _, _, I.lnew (t' := s.toks) (r.rep k.toNat) (by rw [PyProof.Rows.lm_len_rep_flat, Nat.mul_comm]; exact hz), rfl, q _ I.fresh⟩
def repD : Op2L := fun d e k => match d, e with
 | .list xs, .int n => -(2 ^ 63) ≤ n ∧ n < 2 ^ 63 ∧ xs.length * n.toNat ≤ big ∧ k (List.replicate n.toNat xs).flatten
 | _, _ => False
theorem RepAll.rep {K : PySem.W.Frag} {F : Hp} {xs : List V} {us : List PyData} (h : RepAll K F xs us) : ∀ k : Nat, RepAll K F (List.replicate k xs).flatten (List.replicate k us).flatten
 | 0 => .nil
 | k + 1 => by rw [List.replicate_succ, List.replicate_succ, List.flatten_cons, List.flatten_cons]; exact h.append (RepAll.rep h k)
theorem ok_rep : OpOkL X (rRepR X.K) repD := fun F H x y d e q Q s v1 v2 w k => by
 cases d with
 | list xs =>
  cases e with
  | int n =>
   obtain ⟨a, us, e1, h1, r1⟩ := v1
   subst e1
   rw [view_int v2]
   exact ⟨a, n, us, rfl, rfl, h1, w.1, w.2.1, by rw [r1.length]; exact le_line w.2.2.1, fun p hp => k _ _ p w.2.2.2 hp (r1.rep _)⟩
  | _ => exact w.elim
 | _ => exact w.elim
def intD (c : Int → Int → Prop) (g : Int → Int → PyData) : Op2 := fun d e k => match d, e with
 | .int i, .int j => c i j ∧ k (g i j)
 | _, _ => False
theorem ok_int {c : Int → Int → Prop} {g : Int → Int → Int} : OpOk X (rI c fun i j => .int (g i j)) (intD c fun i j => .int (g i j)) := fun F H x y d e q Q s v1 v2 w k => by
 cases d with
 | int i =>
  cases e with
  | int j => rw [view_int v1, view_int v2]; exact ⟨i, j, rfl, rfl, w.1, k _ _ _ _ w.2 (Gr.refl s) (.int _)⟩
  | _ => exact w.elim
 | _ => exact w.elim
abbrev cT : Int → Int → Prop := fun _ _ => True
theorem ok_int0 {g : Int → Int → Int} : OpOk X (rI0 fun i j => .int (g i j)) (intD cT fun i j => .int (g i j)) := fun F H x y d e q Q s v1 v2 w k => by
 cases d with
 | int i =>
  cases e with
  | int j => rw [view_int v1, view_int v2]; exact ⟨i, j, rfl, rfl, k _ _ _ _ w.2 (Gr.refl s) (.int _)⟩
  | _ => exact w.elim
 | _ => exact w.elim
section
variable {C : FC} {a b : Expr} {pos : Pos} {ta tb : DE}
abbrev subD : Op2 := intD cT fun i j => .int (i - j)
abbrev fdivD : Op2 := intD CDiv fun i j => .int (i / j)
abbrev modD : Op2 := intD (fun _ j => 0 < j) fun i j => .int (i % j)
abbrev powD : Op2 := intD CPow fun i j => .int (i ^ j.toNat)
theorem q_sub (ha : QE X C a ta) (hb : QE X C b tb) : QE X C (.BinOp a .Sub b pos) (dBin subD ta tb) := q_bin op_sub ok_int0 ha hb
theorem q_fdiv (ha : QE X C a ta) (hb : QE X C b tb) : QE X C (.BinOp a .FloorDiv b pos) (dBin fdivD ta tb) := q_bin op_fdiv ok_int ha hb
theorem q_mod (ha : QE X C a ta) (hb : QE X C b tb) : QE X C (.BinOp a .Mod b pos) (dBin modD ta tb) := q_bin op_mod ok_int ha hb
theorem q_pow (ha : QE X C a ta) (hb : QE X C b tb) : QE X C (.BinOp a .Pow b pos) (dBin powD ta tb) := q_bin op_pow ok_int ha hb
def dNeg (a : DE) : DE := fun ρ Q => a ρ fun o ρ1 => withO ρ1 o fun d => match d with
 | .int i => Q (.val (.int (-i))) ρ1
 | _ => False
theorem q_neg (ha : QE X C a ta) : QE X C (.UnaryOp .USub a pos) (dNeg ta) := QE.of (pe_un un_neg ha.pe) fun σ H Q ⟨F, ρ, q, S, ht, k⟩ => by
 refine ⟨F, ρ, _, S, ht, fun o ρ1 F1 H1 v hq S1 s1 d1 => ?_⟩
 obtain ⟨d, vd, w⟩ := S1.see d1 hq
 cases d with
 | int i => rw [view_int vd]; exact ⟨i, rfl, k _ _ _ _ _ w S1 s1 (.int _)⟩
 | _ => exact w.elim
end
def ordD (f : Int → Int → Bool) (g : List Nat → List Nat → Bool) : Op2 := fun d e k => match d, e with
 | .int i, .int j => k (.bool (f i j))
 | .str x, .str y => k (.bool (g x.cps.toList y.cps.toList))
 | _, _ => False
def rOrd (f : Int → Int → Bool) (g : List Nat → List Nat → Bool) : R2 := fun x y H Q => rI0 (fun i j => .bl (f i j)) x y H Q ∨ ∃ i j, x = .str i ∧ y = .str j ∧ Q (.bl (g i.cps.toList j.cps.toList)) H
theorem ok_ord {f : Int → Int → Bool} {g : List Nat → List Nat → Bool} : OpOk X (rOrd f g) (ordD f g) := fun F H x y d e q Q s v1 v2 w k => by
 cases d with
 | int i =>
  cases e with
  | int j => rw [view_int v1, view_int v2]; exact .inl ⟨i, j, rfl, rfl, k _ _ _ _ w (Gr.refl s) (.bl _)⟩
  | _ => exact w.elim
 | str i =>
  cases e with
  | str j => rw [view_str v1, view_str v2]; exact .inr ⟨i, j, rfl, rfl, k _ _ _ _ w (Gr.refl s) (.bl _)⟩
  | _ => exact w.elim
 | _ => exact w.elim
abbrev ltD : Op2 := ordD (fun i j => decide (i < j)) (fun x y => decide (x < y))
abbrev leD : Op2 := ordD (fun i j => decide (i ≤ j)) (fun x y => !decide (y < x))
abbrev gtD : Op2 := ordD (fun i j => decide (j < i)) (fun x y => decide (y < x))
abbrev geD : Op2 := ordD (fun i j => decide (j ≤ i)) (fun x y => !decide (x < y))
end
end Dv
set_option Elab.async false
set_option linter.all false
set_option maxRecDepth 100000
set_option autoImplicit false
namespace Dv
open PySem PySem.Spec L2
section
variable {X : Cx} {C : FC} {P : List Bool} {a b c e : Expr} {es : List Expr} {pos p : Pos} {ta tb tc : DE} {k : Nat}
theorem op_ltA : OpR X (compareOp .Lt) (rOrd (fun i j => decide (i < j)) (fun x y => decide (x < y))) := op_lt.or op_lt_str
theorem op_leA : OpR X (compareOp .LtE) (rOrd (fun i j => decide (i ≤ j)) (fun x y => !decide (y < x))) := op_le.or op_le_str
theorem op_gtA : OpR X (compareOp .Gt) (rOrd (fun i j => decide (j < i)) (fun x y => decide (y < x))) := op_gt.or op_gt_str
theorem op_geA : OpR X (compareOp .GtE) (rOrd (fun i j => decide (j ≤ i)) (fun x y => !decide (x < y))) := op_ge.or op_ge_str
theorem q_gt (ha : QE X C a ta) (hb : QE X C b tb) : QE X C (.Compare a [.Gt] [b] pos) (dBin gtD ta tb) := q_cmp op_gtA ok_ord ha hb
theorem t_lt (ha : QE X C a ta) (hb : QE X C b tb) : QT X C (.Compare a [.Lt] [b] pos) (dTest (dBin ltD ta tb)) := t_cmp op_ltA ok_ord ha hb
theorem t_le (ha : QE X C a ta) (hb : QE X C b tb) : QT X C (.Compare a [.LtE] [b] pos) (dTest (dBin leD ta tb)) := t_cmp op_leA ok_ord ha hb
theorem t_gt (ha : QE X C a ta) (hb : QE X C b tb) : QT X C (.Compare a [.Gt] [b] pos) (dTest (dBin gtD ta tb)) := t_cmp op_gtA ok_ord ha hb
theorem t_ge (ha : QE X C a ta) (hb : QE X C b tb) : QT X C (.Compare a [.GtE] [b] pos) (dTest (dBin geD ta tb)) := t_cmp op_geA ok_ord ha hb
mutual
theorem Rep.dp {K : PySem.W.Frag} {F H : Hp} (s : Same F H) : ∀ {v : V} {d : PyData}, PyData.canLay0 d = true → Rep K F v d → Dp K H v d
 | _, _, _, .non => .non
 | _, _, _, .bl b => .bl b
 | _, _, _, .int i => .int i
 | _, _, _, .str x => .str x
 | _, _, h, .lst h1 r => .lst (sqL_mono s h1) (RepAll.dp s (by simpa [PyData.canLay0] using h) r)
 | _, _, h, .tup h1 r => .tup (sqT_mono s h1) (RepAll.dp s (by simpa [PyData.canLay0] using h) r)
 | _, _, h, .dct h1 r => by simp [PyData.canLay0] at h
 | _, _, h, .dcn _ h1 r => by simp [PyData.canLay0] at h
 | _, _, h, .exc _ _ _ _ => by simp [PyData.canLay0] at h
theorem RepAll.dp {K : PySem.W.Frag} {F H : Hp} (s : Same F H) : ∀ {vs : List V} {ds : List PyData}, PyData.canLayAll0 ds = true → RepAll K F vs ds → DpAll K H vs ds
 | _, _, _, .nil => .nil
 | _, _, h, .cons r t => by
  simp only [PyData.canLayAll0, Bool.and_eq_true] at h
  exact .cons (Rep.dp s h.1 r) (RepAll.dp s h.2 t)
end
theorem View.dp {K : PySem.W.Frag} {F H : Hp} {v : V} {d : PyData} (s : Same F H) (h : PyData.canLay0 d = true) (w : View K F H v d) : Dp K H v d := by
 cases d with
 | list ds => obtain ⟨a, xs, e, h1, r⟩ := w; subst e; exact .lst h1 (r.dp s (by simpa [PyData.canLay0] using h))
 | dict ds => simp [PyData.canLay0] at h
 | none => exact Rep.dp s h w
 | bool _ => exact Rep.dp s h w
 | int _ => exact Rep.dp s h w
 | str _ => exact Rep.dp s h w
 | tuple _ => exact Rep.dp s h w
abbrev shp (d : PyData) : Prop := SeqAt.shaped d = true
def eqD : Op2 := fun d e k => shp d ∧ shp e ∧ k (.bool (PyData.eqv d e))
def neD : Op2 := fun d e k => shp d ∧ shp e ∧ k (.bool (!PyData.eqv d e))
theorem ok_eq : OpOk X (rEqD X.K) eqD := fun F H x y d e q Q s v1 v2 w k =>
 ⟨d, e, v1.dp s (SeqAt.canLay_of_shaped w.1), v2.dp s (SeqAt.canLay_of_shaped w.2.1), w.1, w.2.1, k _ _ _ _ w.2.2 (Gr.refl s) (.bl _)⟩
theorem ok_ne : OpOk X (rNeD X.K) neD := fun F H x y d e q Q s v1 v2 w k =>
 ⟨d, e, v1.dp s (SeqAt.canLay_of_shaped w.1), v2.dp s (SeqAt.canLay_of_shaped w.2.1), w.1, w.2.1, k _ _ _ _ w.2.2 (Gr.refl s) (.bl _)⟩
theorem q_eq (hr : Room k X.A) (ha : QE X C a ta) (hb : QE X C b tb) : QE X C (.Compare a [.Eq] [b] pos) (dBin eqD ta tb) := q_cmp (op_eqD hr.units) ok_eq ha hb
theorem t_eq (hr : Room k X.A) (ha : QE X C a ta) (hb : QE X C b tb) : QT X C (.Compare a [.Eq] [b] pos) (dTest (dBin eqD ta tb)) := t_cmp (op_eqD hr.units) ok_eq ha hb
theorem t_ne (hr : Room k X.A) (ha : QE X C a ta) (hb : QE X C b tb) : QT X C (.Compare a [.NotEq] [b] pos) (dTest (dBin neD ta tb)) := t_cmp (op_neD hr.units) ok_ne ha hb
def isND (pol : Bool) : Op2 := fun d e k => match e with
 | .none => match d with
  | .none => k (.bool pol)
  | _ => k (.bool (!pol))
 | _ => False
theorem view_nn {K : PySem.W.Frag} {F H : Hp} {v : V} {d : PyData} (h : View K F H v d) (hd : d ≠ .none) : v ≠ .non := by
 cases d with
 | none => exact absurd rfl hd
 | bool b => rw [view_bl h]; intro z; cases z
 | int b => rw [view_int h]; intro z; cases z
 | str b => rw [view_str h]; intro z; cases z
 | list b => obtain ⟨a, xs, e, _⟩ := h; subst e; intro z; cases z
 | dict b => obtain ⟨a, e, _⟩ := h; subst e; intro z; cases z
 | tuple b => cases (show Rep K F v (.tuple b) from h); intro z; cases z
theorem ok_notN : OpOk X (fun x y H Q => y = .non ∧ Q (.bl (!decide (x = .non))) H) (isND false) := fun F H x y d e q Q s v1 v2 w k => by
 cases e with
 | none =>
  refine ⟨view_non v2, ?_⟩
  by_cases hd : d = .none
  ·subst hd
   rw [view_non v1]
   exact k _ _ _ _ w (Gr.refl s) (.bl _)
  ·rw [decide_eq_false (view_nn v1 hd)]
   refine k (.bool true) _ _ _ ?_ (Gr.refl s) (.bl _)
   cases d <;> first | exact absurd rfl hd | exact w
 | _ => exact w.elim
theorem t_notN (ha : QE X C a ta) (hb : QE X C b tb) : QT X C (.Compare a [.IsNot] [b] pos) (dTest (dBin (isND false) ta tb)) := t_cmp op_notN ok_notN ha hb
def flatD : PyData → Bool
 | .none => true
 | .bool _ => true
 | .int _ => true
 | .str _ => true
 | _ => false
theorem flat_rep {K : PySem.W.Frag} {F : Hp} {v : V} {d : PyData} (h : flatD d = true) (r : Rep K F v d) : flatV v = true := by
 cases r with
 | non => rfl
 | bl _ => rfl
 | int _ => rfl
 | str _ => rfl
 | lst _ _ => cases h
 | tup _ _ => cases h
 | dct _ _ => cases h
 | dcn _ _ _ => cases h
 | exc _ _ _ _ => cases h
theorem flat_eqv {K : PySem.W.Frag} {F F' : Hp} {x y : V} {d e : PyData} (hd : flatD d = true) (he : flatD e = true) (r1 : Rep K F x d) (r2 : Rep K F' y e) : eqV x y = PyData.eqv d e := by
 cases r1 <;> cases r2 <;> first | (exfalso; simp [flatD] at hd; done) | (exfalso; simp [flatD] at he; done) | simp [eqV, PyData.eqv]
theorem flat_all {K : PySem.W.Frag} {F : Hp} : ∀ {vs : List V} {ds : List PyData}, RepAll K F vs ds → ds.all flatD = true → vs.all flatV = true
 | _, _, .nil, _ => rfl
 | _, _, .cons r t, h => by
  simp only [List.all_cons, Bool.and_eq_true] at h ⊢
  exact ⟨flat_rep h.1 r, flat_all t h.2⟩
theorem flat_any {K : PySem.W.Frag} {F F' : Hp} {x : V} {d : PyData} (hd : flatD d = true) (rx : Rep K F' x d) : ∀ {vs : List V} {ds : List PyData}, RepAll K F vs ds → ds.all flatD = true → inV x vs = ds.any fun e => PyData.eqv e d
 | _, _, .nil, _ => rfl
 | _, _, .cons r t, h => by
  simp only [List.all_cons, Bool.and_eq_true] at h
  have ih := flat_any hd rx t h.2
  unfold inV at ih ⊢
  simp only [List.any_cons]
  rw [ih, flat_eqv h.1 hd r rx]
theorem view_flat {K : PySem.W.Frag} {F H : Hp} {v : V} {d : PyData} (h : View K F H v d) (hd : flatD d = true) : Rep K F v d := by
 cases d <;> first | exact h | cases hd
def inD (pol : Bool) : Op2 := fun d e k => match e with
 | .list ds => flatD d = true ∧ ds.all flatD = true ∧ k (.bool (if pol then ds.any fun x => PyData.eqv x d else !ds.any fun x => PyData.eqv x d))
 | .tuple ds => flatD d = true ∧ ds.all flatD = true ∧ k (.bool (if pol then ds.any fun x => PyData.eqv x d else !ds.any fun x => PyData.eqv x d))
 | .str z => match d with
  | .str x => x.cps.size = 1 ∧ k (.bool (if pol then decide (x.cps.getD 0 0 ∈ z.cps.toList) else !decide (x.cps.getD 0 0 ∈ z.cps.toList)))
  | _ => False
 | _ => False
def rInA (K : PySem.W.Frag) (neg : Bool) : R2 := fun x y H Q => rIn K neg x y H Q ∨ ∃ c z, x = .str ⟨#[c]⟩ ∧ y = .str z ∧ Q (.bl (if neg then !decide (c ∈ z.cps.toList) else decide (c ∈ z.cps.toList))) H
theorem one_sign {x : Str} (h : x.cps.size = 1) : x = ⟨#[x.cps.getD 0 0]⟩ := by
 obtain ⟨c⟩ := x
 obtain ⟨l⟩ := c
 match l, h with
 | [a], _ => rfl
theorem ok_in (neg : Bool) : OpOk X (rInA X.K neg) (inD !neg) := fun F H x y d e q Q s v1 v2 w k => by
 cases e with
 | list ds =>
  obtain ⟨fd, fa, w⟩ := w
  obtain ⟨a, xs, e1, h1, r⟩ := v2
  subst e1
  have r1 := view_flat v1 fd
  refine .inl ⟨a, xs, rfl, .inl h1, flat_rep fd r1, flat_all r fa, ?_⟩
  rw [flat_any fd r1 r fa]
  refine k _ _ _ _ w (Gr.refl s) ?_
  cases neg <;> exact .bl _
 | tuple ds =>
  obtain ⟨fd, fa, w⟩ := w
  obtain ⟨a, xs, e1, h1, r, _⟩ := view_tup s v2
  subst e1
  have r1 := view_flat v1 fd
  refine .inl ⟨a, xs, rfl, .inr h1, flat_rep fd r1, flat_all r fa, ?_⟩
  rw [flat_any fd r1 r fa]
  refine k _ _ _ _ w (Gr.refl s) ?_
  cases neg <;> exact .bl _
 | str z =>
  cases d with
  | str x =>
   rw [view_str v1, view_str v2]
   refine .inr ⟨x.cps.getD 0 0, z, congrArg V.str (one_sign w.1), rfl, k _ _ _ _ w.2 (Gr.refl s) ?_⟩
   cases neg <;> exact .bl _
  | _ => exact w.elim
 | _ => exact w.elim
end
end Dv
set_option Elab.async false
set_option linter.all false
set_option maxRecDepth 100000
set_option autoImplicit false
namespace Dv
open PySem PySem.Spec L2
section
variable {X : Cx} {pins : List (Addr × Obj)} {σ : L2.St} {F H : Hp} {s : Shared}
mutual
theorem nested_of (I : Inv X pins σ H s) (hs : Same F H) : ∀ (k : NestedKey) (v : V) (u : Value), Rep X.K F v k.data → RelV v u → NestedIs s.heap k u
 | .none, v, u, r, q => by
  cases (show Rep X.K F v .none from r)
  cases (show u = Value.none from q)
  exact .none
 | .num i, v, u, r, q => by
  cases (show Rep X.K F v (.int i) from r)
  obtain ⟨t, rfl⟩ := (show ∃ t, u = Value.int i t from q)
  exact .int i t
 | .text x, v, u, r, q => by
  cases (show Rep X.K F v (.str x) from r)
  obtain ⟨t, rfl⟩ := (show ∃ t, u = Value.str x t from q)
  exact .text x t
 | .tup ks, v, u, r, q => by
  cases (show Rep X.K F v (.tuple (NestedKey.datas ks)) from r) with
  | tup h1 h2 =>
   cases q
   obtain ⟨its, rv, ⟨o, g1, g2, n, g3⟩, hz⟩ := I.tuple (sqT_mono hs h1)
   exact .tup g1 g2 g3 (by simpa using nested_all I hs ks _ its h2 rv)
theorem nested_all (I : Inv X pins σ H s) (hs : Same F H) : ∀ (ks : List NestedKey) (vs : List V) (us : List Value), RepAll X.K F vs (NestedKey.datas ks) → Vals vs us → NestedAll s.heap ks us
 | [], vs, us, r, q => by
  cases (show RepAll X.K F vs [] from r)
  cases q
  exact .nil
 | k :: ks, vs, us, r, q => by
  cases (show RepAll X.K F vs (k.data :: NestedKey.datas ks) from r) with
  | cons r1 r2 =>
   cases q with
   | cons q1 q2 => exact .cons (nested_of I hs k _ _ r1 q1) (nested_all I hs ks _ _ r2 q2)
end
theorem nk_entries {K : PySem.W.Frag} {w w' : World} : ∀ {xs : List NX} {ds : List (PyData × PyData)} {ys : List (NestedKey × Addr × Value)}, RepNK K F xs ds → Paired NRel xs ys →
  (ys.map fun y => (⟨y.1.hash w, .ref y.2.1, y.2.2⟩ : DictEntry)) = ys.map fun y => ⟨y.1.hash w', .ref y.2.1, y.2.2⟩
 | _, _, _, .nil, .nil => rfl
 | _, _, _, .cons c r1 r2 t, .cons q qs => by
  rw [List.map_cons, List.map_cons, nk_entries t qs, ← q.1, c.wi w w']
theorem nk_is (I : Inv X pins σ H s) (hs : Same F H) : ∀ {xs : List NX} {ds : List (PyData × PyData)} {ys : List (NestedKey × Addr × Value)}, RepNK X.K F xs ds → Paired NRel xs ys → ∀ y ∈ ys, (nestedKind X.prog X.w).is s.heap y.1 y.2.1
 | _, _, _, .nil, .nil, y, hy => absurd hy (by simp)
 | _, _, _, .cons c r1 r2 t, .cons q qs, y, hy => by
  rcases List.mem_cons.mp hy with rfl | hy
  ·rw [← q.1, ← q.2.1]
   exact ⟨nested_of I hs _ _ _ r1 rfl, c.dep⟩
  ·exact nk_is I hs t qs y hy
theorem nk_keys : ∀ {xs : List NX} {ys : List (NestedKey × Addr × Value)}, Paired NRel xs ys → ys.map (·.1) = xs.map (·.1)
 | _, _, .nil => rfl
 | _, _, .cons q qs => by rw [List.map_cons, List.map_cons, nk_keys qs, q.1]
theorem nk_dict (I : Inv X pins σ H s) (hs : Same F H) {a : Addr} {w : World} {xs : List NX} {ds : List (PyData × PyData)} (e : Rd H a (DN w a xs)) (r : RepNK X.K F xs ds) :
  ∃ ys, Paired NRel xs ys ∧ s.heap.DictOfH (nestedKind X.prog X.w) a ys ∧ (a == sysModules) = false ∧ xs.length ≤ sizeLine := by
 obtain ⟨⟨⟨ys, o, es, ep, pr, g1, g2, g3, g4⟩, n1, n2, n3⟩, _⟩ := e.ok I.hok
 refine ⟨ys, pr, ⟨o, es, ep, g1, g2, g3, ?_, nk_is I hs r pr, by rw [nk_keys pr]; exact n2⟩, n1, n3⟩
 rw [g4]
 exact nk_entries (w' := X.w) r pr
theorem RepNK.length {K : PySem.W.Frag} : ∀ {xs : List NX} {ds : List (PyData × PyData)}, RepNK K F xs ds → xs.length = ds.length
 | _, _, .nil => rfl
 | _, _, .cons _ _ _ t => by rw [List.length_cons, List.length_cons, RepNK.length t]
theorem dn_kit (I : Inv X pins σ H s) {a : Addr} {w : World} {xs : List NX} (e : Rd H a (DN w a xs)) : ∃ P : Heap → Prop, PySem.W.KitX X.K (.ref a) (.type "dict") P ∧ P s.heap ∧ (Value.ref a) ≠ .builtin "__main__.__loader__#opaque" := by
 obtain ⟨⟨⟨ys, o, es, ep, pr, g1, g2, g3, g4⟩, n1, n2, n3⟩, _⟩ := e.ok I.hok
 exact ⟨_, PySem.W.kitx_dict, ⟨o, g1, g2.1⟩, fun z => nomatch z⟩
theorem exc_kit (I : Inv X pins σ H s) {a D : Addr} {d : Option Addr} {fs : List (Str × V)} (e : Rd H a (ExH D d a)) (c : ExcC X.K D) (f : ExF H d fs) : ∃ P : Heap → Prop, PySem.W.KitX X.K (.ref a) (.ref D) P ∧ P s.heap ∧ (Value.ref a) ≠ .builtin "__main__.__loader__#opaque" := by
 obtain ⟨⟨oe, vs, g1, ⟨z1, z2⟩, g3⟩, _⟩ := e.ok I.hok
 obtain ⟨cd, hc, _⟩ := PySem.W.any_some c.hd
 have hcl : (PySem.W.clsIn X.K D).isSome = true := by rw [hc]; rfl
 have hno : PySem.W.notCls oe = true := by unfold PySem.W.notCls; rw [g3]
 cases d with
 | none => exact ⟨_, PySem.W.kitx_exc (ox := oe) (od := none) hcl c.hg c.hk c.hs c.ha c.hn c.ht c.hm, ⟨g1, z1, hno, by rw [z2]; trivial⟩, fun z => nomatch z⟩
 | some dx =>
  have f : Rd H dx (.xd fs) := f
  obtain ⟨o, ho⟩ := objOk_get (f.ok I.hok)
  exact ⟨_, PySem.W.kitx_exc (ox := oe) (od := some o) hcl c.hg c.hk c.hs c.ha c.hn c.ht c.hm, ⟨g1, z1, hno, by rw [z2]; exact ho⟩, fun z => nomatch z⟩
def TyY (K : PySem.W.Frag) (H : Hp) (x : V) (t : Value) : Prop := TyX K H x t ∨ (∃ a w xs, x = .ref a ∧ t = .type "dict" ∧ Rd H a (DN w a xs)) ∨ ∃ a D d fs, x = .ref a ∧ t = .ref D ∧ Rd H a (ExH D d a) ∧ ExcC K D ∧ ExF H d fs
theorem kit_ofY {x : V} {u t : Value} (I : Inv X pins σ H s) (rx : RelV x u) (ty : TyY X.K H x t) : ∃ P : Heap → Prop, PySem.W.KitX X.K u t P ∧ P s.heap ∧ u ≠ .builtin "__main__.__loader__#opaque" := by
 rcases ty with ty | ⟨a, w, xs, rfl, rfl, e⟩ | ⟨a, D, d, fs, rfl, rfl, e, c, f⟩
 ·exact kit_of I rx ty
 ·cases (show u = Value.ref a from rx)
  exact dn_kit I e
 ·cases (show u = Value.ref a from rx)
  exact exc_kit I e c f
end
def rIsiY (K : PySem.W.Frag) : List V → Hp → VK → Prop := fun xs H Q => ∃ (x c : V) (t u : Value) (b : Bool), xs = [x, c] ∧ ClsV c u ∧ TyY K H x t ∧ PySem.W.kitOne K t u = some b ∧ Q (.bl b) H
section
variable {X : Cx}
theorem call_isiY : CallR X (.builtin "isinstance") (rIsiY X.K) := by
 intro pins s σ H xs us Q I r h
 obtain ⟨x, c, t, u, b, rfl, k, ty, e, q⟩ := h
 obtain ⟨u1, u2, rfl, r1, r2⟩ := vals2 r
 have e2 := k.eq r2
 subst e2
 obtain ⟨P, Z, p, hx⟩ := kit_ofY I r1 ty
 exact PySem.W.kia_one Z I.kIn p e hx fun tk => ⟨.bl b, H, I.tok tk, rfl, q⟩
def rLenN (K : PySem.W.Frag) : List V → Hp → VK → Prop := fun xs H Q => ∃ F a w ns ds, xs = [.ref a] ∧ Same F H ∧ Rd H a (DN w a ns) ∧ RepNK K F ns ds ∧ Q (.int ns.length) H
theorem call_lenN : CallR X (.builtin "len") (rLenN X.K) := by
 intro pins s σ H xs us Q I r h
 obtain ⟨F, a, w, ns, ds, rfl, hs, e, rp, q⟩ := h
 obtain ⟨u, rfl, ru⟩ := vals1 r
 cases ru
 obtain ⟨ys, pr, hm, hd, hz⟩ := nk_dict I hs e rp
 have hl : ns.length = ys.length := Paired.length pr
 rw [sizeLine_eq] at hz
 refine PySem.call_len_dictH hd hm (by omega) ⟨.int ns.length, H, I.tok _, ⟨_, by rw [hl]⟩, q⟩
end
end Dv
set_option Elab.async false
set_option linter.all false
set_option maxRecDepth 100000
set_option autoImplicit false
namespace Dv
open PySem PySem.Spec L2
section
variable {X : Cx} {C : FC} {P : List Bool} {a b c e : Expr} {es : List Expr} {pos p : Pos} {ta tb tc : DE} {k : Nat}
theorem op_inA : OpR X (compareOp .In) (rInA X.K false) := op_in_seq.or op_in_sign
theorem op_notInA : OpR X (compareOp .NotIn) (rInA X.K true) := op_notIn_seq.or op_notIn_sign
theorem t_in (ha : QE X C a ta) (hb : QE X C b tb) (hm : behindInMarks .In b = false := by rfl) : QT X C (.Compare a [.In] [b] pos) (dTest (dBin (inD true) ta tb)) := t_cmp op_inA (ok_in false) ha hb hm
theorem t_notin (ha : QE X C a ta) (hb : QE X C b tb) (hm : behindInMarks .NotIn b = false := by rfl) : QT X C (.Compare a [.NotIn] [b] pos) (dTest (dBin (inD false) ta tb)) := t_cmp op_notInA (ok_in true) ha hb hm
theorem lE_chain {r r' : R2} {f g : Op2} (ok : OpOk X r f) (ok' : OpOk X r' g) {σ : L2.St} {H : Hp} {Q : VK} (h : lE X.K C (dChain f g ta tb tc) σ H Q) : tChain r r' (lE X.K C ta) (lE X.K C tb) (lE X.K C tc) σ H Q := by
  obtain ⟨F, ρ, q, S, ht, k⟩ := h
  refine ⟨F, ρ, _, S, ht, fun o1 ρ1 F1 H1 x h1 S1 s1 d1 => ?_⟩
  refine ⟨F1, ρ1, _, S1, h1, fun o2 ρ2 F2 H2 y h2 S2 s2 d2 => ?_⟩
  obtain ⟨d, v1, w1⟩ := S2.see (d1.mono s2) h2
  obtain ⟨e, v2, w2⟩ := S2.see d2 w1
  refine ok F2 H2 x y d e _ _ S2.sub v1 v2 w2 fun z F3 H3 zv hz gr rz => ?_
  have S3 := S2.grow gr
  cases z with
  | bool bz =>
   cases rz
   refine ⟨bz, rfl, ?_⟩
   cases bz with
   | true =>
    refine ⟨F3, ρ2, _, S3, hz, fun o3 ρ3 F4 H4 w h4 S4 s4 d4 => ?_⟩
    obtain ⟨e', v3, w3⟩ := S4.see (d2.mono (gr.f.trans s4)) h4
    obtain ⟨d3, v4, w4⟩ := S4.see d4 w3
    exact ok' F4 H4 y w e' d3 _ Q S4.sub v3 v4 w4 (kont_of (ρ1 := ρ1) (F1 := F1) (H1 := H1) S4 (((s1.trans s2).trans gr.f).trans s4) k)
   | false => exact k _ _ _ _ _ hz S3 ((s1.trans s2).trans gr.f) (.bl false)
  | _ => exact hz.elim
theorem t_chn {op op' : CmpOp} {r r' : R2} {f g : Op2} (ho : OpR X (compareOp op) r) (ok : OpOk X r f) (ho' : OpR X (compareOp op') r') (ok' : OpOk X r' g) (ha : QE X C a ta) (hb : QE X C b tb) (hc : QE X C c tc)
  (hm : lastMarks [op, op'] [b, c] = false := by with_unfolding_all rfl) : QT X C (.Compare a [op, op'] [b, c] pos) (dTest (dChain f g ta tb tc)) := QT.of (pt_chain ho ho' ha.pe hb.pe hc.pe hm) fun σ H Q h => by
 obtain ⟨F, ρ, q, S, ht, kk⟩ := lT_test h
 exact lE_chain ok ok' ⟨F, ρ, q, S, ht, kk⟩
theorem t_lele (ha : QE X C a ta) (hb : QE X C b tb) (hc : QE X C c tc) : QT X C (.Compare a [.LtE, .LtE] [b, c] pos) (dTest (dChain leD leD ta tb tc)) := t_chn op_leA ok_ord op_leA ok_ord ha hb hc (nomark c)
def keyD : PyData → Option Key
 | .int i => some (.inl i)
 | .str x => some (.inr x)
 | _ => none
def keysK (kvs : List (PyData × PyData)) : Bool := kvs.all fun p => (keyD p.1).isSome
def keyG (kvs : List (PyData × PyData)) (d : PyData) : Option Key := match keysK kvs with
 | true => keyD d
 | false => none
def lookD (kvs : List (PyData × PyData)) (k : Key) : Option PyData := (kvs.find? fun p => decide (keyD p.1 = some k)).map (·.2)
def ixD : Op2 := fun d e k => match d, e with
 | .list ds, .int i => match atI ds i with
  | some x => k x
  | none => False
 | .tuple ds, .int i => match atI ds i with
  | some x => k x
  | none => False
 | .str z, .int i => z.length ≤ big ∧ match atI z.cps.toList i with
  | some c => k (.str ⟨#[c]⟩)
  | none => False
 | .dict kvs, e => match keyD e with
  | some q => match lookD kvs q with
   | some x => k x
   | none => False
  | none => False
 | _, _ => False
def rIxA (K : PySem.W.Frag) : R2 := fun x y H Q => rIx K x y H Q ∨ ∃ a v, x = .ref a ∧ DGet H a y (some v) ∧ Q v H
theorem ix_dict (hu : X.A.units + 1 < cLine) : IxR X (fun x y H Q => ∃ a v, x = .ref a ∧ DGet H a y (some v) ∧ Q v H) := by
 intro value slice pins s σ H x y v u Q I rx ry h hs
 obtain ⟨a, z, rfl, g, q⟩ := h
 cases rx
 exact PyProof.Rows.tail_any (dict_typeIs I g) PySem.F.slot_dict_getitem.lookup (d_getItem hu I g ry fun w' s3 I3 rw' => ⟨z, H, I3, rw', q⟩) hs
theorem ix_all (hu : X.A.units + 1 < cLine) : IxR X (rIxA X.K) := ix_seq.or (ix_dict hu)
theorem RepAll.atI {K : PySem.W.Frag} {F : Hp} {xs : List V} {ds : List PyData} {i : Int} {d : PyData} (r : RepAll K F xs ds) (h : L2.atI ds i = some d) : ∃ v, L2.atI xs i = some v ∧ Rep K F v d := by
 unfold L2.atI at h ⊢
 rw [r.length]
 cases q : ixN ds.length i with
 | none => rw [q] at h; cases h
 | some j => rw [q] at h; exact r.get h
theorem kD_keyD : ∀ k : Key, keyD (kD k) = some k
 | .inl _ => rfl
 | .inr _ => rfl
theorem kD_of {d : PyData} {k : Key} (h : keyD d = some k) : d = kD k := by
 cases d <;> simp [keyD] at h <;> subst h <;> rfl
theorem key_view {K : PySem.W.Frag} {F H : Hp} {v : V} {d : PyData} {k : Key} (w : View K F H v d) (h : keyD d = some k) : v = kV k := by
 have := kD_of h
 subst this
 cases k with
 | inl i => exact view_int w
 | inr x => exact view_str w
theorem RepKV.look {K : PySem.W.Frag} {F : Hp} {k : Key} : ∀ {kvs : List (Key × V)} {ds : List (PyData × PyData)}, RepKV K F kvs ds → match lookD ds k with
  | some d => ∃ v, valV kvs k = some v ∧ Rep K F v d
  | none => valV kvs k = none
 | _, _, .nil => rfl
 | _, _, .cons (k := k') (v := v) (vs := vs) (d := d) (ds := ds) r t => by
  have ih := RepKV.look (k := k) t
  by_cases e : k' = k
  ·subst e
   have : lookD ((kD k', d) :: ds) k' = some d := by simp [lookD, List.find?_cons, kD_keyD]
   rw [this]
   exact ⟨v, valV_pos rfl, r⟩
  ·have : lookD ((kD k', d) :: ds) k = lookD ds k := by
    have ne : ¬ (some k' = some k) := fun z => e (Option.some.inj z)
    simp [lookD, List.find?_cons, kD_keyD, ne, e]
   rw [this, valV_neg (p := (k', v)) e]
   exact ih
theorem nk_key {K : PySem.W.Frag} {F : Hp} {b : Addr} {k : NestedKey} (r : Rep K F (.ref b) k.data) : keyD k.data = none := by
 cases k with
 | none => rfl
 | num i => cases r
 | text x => cases r
 | tup ks => rfl
theorem RepNK.look {K : PySem.W.Frag} {F : Hp} {k : Key} : ∀ {xs : List NX} {ds : List (PyData × PyData)}, RepNK K F xs ds → lookD ds k = none
 | _, _, .nil => rfl
 | _, _, .cons c r1 r2 t => by
  have ih := RepNK.look (k := k) t
  unfold lookD at ih ⊢
  rw [List.find?_cons, nk_key r1]
  simpa using ih
theorem RepFs.look {K : PySem.W.Frag} {F : Hp} {k : Key} : ∀ {xs : List (Str × V)} {ds : List (PyData × PyData)}, RepFs K F xs ds → lookD ds k = none
 | _, _, .nil => rfl
 | _, _, .cons r t => by
  have ih := RepFs.look (k := k) t
  unfold lookD at ih ⊢
  rw [List.find?_cons_of_neg (by show ¬ decide ((none : Option Key) = some k) = true; simp)]
  exact ih
theorem ExcV.look {K : PySem.W.Frag} {F : Hp} {k : Key} {a : Addr} {ds : List (PyData × PyData)} (h : ExcV K F a ds) : lookD ds k = none := by
 obtain ⟨_, _, n, _, es, rfl, _, _, _, r⟩ := h
 have ih := RepFs.look (k := k) r
 unfold lookD at ih ⊢
 rw [List.find?_cons_of_neg (by show ¬ decide ((none : Option Key) = some k) = true; simp)]
 exact ih
theorem ExcV.keysK {K : PySem.W.Frag} {F : Hp} {a : Addr} {ds : List (PyData × PyData)} (h : ExcV K F a ds) : Dv.keysK ds = false := by
 obtain ⟨_, _, n, _, es, rfl, _⟩ := h
 simp [Dv.keysK, keyD]
theorem RepNK.keysK {K : PySem.W.Frag} {F : Hp} {xs : List NX} {ds : List (PyData × PyData)} (r : RepNK K F xs ds) (h : xs ≠ []) : Dv.keysK ds = false := by
 cases r with
 | nil => exact absurd rfl h
 | cons c r1 r2 t => simp [Dv.keysK, nk_key r1]
theorem RepKV.keysK {K : PySem.W.Frag} {F : Hp} : ∀ {xs : List (Key × V)} {ds : List (PyData × PyData)}, RepKV K F xs ds → Dv.keysK ds = true
 | _, _, .nil => rfl
 | _, _, .cons r t => by
  have ih := RepKV.keysK t
  unfold Dv.keysK at ih ⊢
  rw [List.all_cons, ih, kD_keyD]; rfl
theorem keyG_some {ds : List (PyData × PyData)} {d : PyData} {k : Key} (h : keyG ds d = some k) : Dv.keysK ds = true ∧ keyD d = some k := by
 unfold keyG at h
 split at h
 ·next e => exact ⟨e, h⟩
 ·cases h
theorem ok_ix : OpOk X (rIxA X.K) ixD := fun F H x y d e q Q s v1 v2 w k => by
 cases d with
 | list ds =>
  cases e with
  | int i =>
   rw [view_int v2]
   obtain ⟨a, xs, e1, h1, r⟩ := v1
   subst e1
   have w : (match atI ds i with | some x => q x | none => False) := w
   cases z : atI ds i with
   | none => rw [z] at w; exact w.elim
   | some x =>
    rw [z] at w
    obtain ⟨v, hv, rv⟩ := r.atI z
    exact .inl (.inl ⟨a, xs, i, v, rfl, rfl, h1, hv, k _ _ _ _ w (Gr.refl s) rv⟩)
  | _ => exact w.elim
 | tuple ds =>
  cases e with
  | int i =>
   rw [view_int v2]
   obtain ⟨a, xs, e1, h1, r, _⟩ := view_tup s v1
   subst e1
   have w : (match atI ds i with | some x => q x | none => False) := w
   cases z : atI ds i with
   | none => rw [z] at w; exact w.elim
   | some x =>
    rw [z] at w
    obtain ⟨v, hv, rv⟩ := r.atI z
    exact .inl (.inr (.inl ⟨a, xs, i, v, rfl, rfl, h1, hv, k _ _ _ _ w (Gr.refl s) rv⟩))
  | _ => exact w.elim
 | str z =>
  cases e with
  | int i =>
   rw [view_int v2, view_str v1]
   obtain ⟨wl, w⟩ := w
   cases zz : atI z.cps.toList i with
   | none => rw [zz] at w; exact w.elim
   | some x =>
    rw [zz] at w
    exact .inl (.inr (.inr ⟨z, i, x, rfl, rfl, le_line wl, zz, k _ _ _ _ w (Gr.refl s) (.str _)⟩))
  | _ => exact w.elim
 | dict kvs =>
  have w : (match keyD e with
   | some q' => match lookD kvs q' with
    | some x => q x
    | none => False
   | none => False) := by cases e <;> exact w
  cases ke : keyD e with
  | none => rw [ke] at w; exact w.elim
  | some key =>
   rw [ke] at w
   obtain ⟨a, e1, ⟨ks, h1, r⟩ | ⟨w0, ks, _, h1, r⟩ | hx⟩ := v1
   rotate_left
   ·have w : (match lookD kvs key with | some x => q x | none => False) := w
    rw [RepNK.look r] at w
    exact w.elim
   ·have w : (match lookD kvs key with | some x => q x | none => False) := w
    rw [hx.look] at w
    exact w.elim
   subst e1
   have lk := RepKV.look (k := key) r
   dsimp only at w
   cases z : lookD kvs key with
   | none => rw [z] at w; exact w.elim
   | some x =>
    rw [z] at w lk
    obtain ⟨v, hv, rv⟩ := lk
    rw [key_view v2 ke]
    refine .inr ⟨a, v, rfl, ?_, k _ _ _ _ w (Gr.refl s) rv⟩
    rw [← hv]
    exact .inl ⟨ks, key, h1, rfl, rfl⟩
 | _ => exact w.elim
theorem q_idx (hr : Room k X.A) (ha : QE X C a ta) (hb : QE X C b tb) (hs : PlainIx b := by exact fun _ _ => rfl) : QE X C (.Subscript a b pos) (dBin ixD ta tb) := q_ix (ix_all (hu_of hr)) ok_ix ha hb hs
def cutD (xs : List PyData) (lo hi : Option Int) : List PyData := (xs.drop (HT.sIx xs.length 0 lo)).take (HT.sIx xs.length xs.length hi - HT.sIx xs.length 0 lo)
theorem RepAll.cut {K : PySem.W.Frag} {F : Hp} {xs : List V} {ds : List PyData} (r : RepAll K F xs ds) (lo hi : Option Int) : RepAll K F (cutV xs lo hi) (cutD ds lo hi) := by
 unfold cutV cutD
 rw [r.length]
 exact (r.drop _).take _
abbrev DP := DEnv → (Option Int → DEnv → Prop) → Prop
def lP (K : PySem.W.Frag) (C : FC) (t : DP) : TO := fun σ H Q => ∃ F ρ q, Sim K C F H ρ σ ∧ t ρ q ∧ ∀ o ρ' F' H', q o ρ' → Sim K C F' H' ρ' σ → Same F F' → Q o H'
structure QP (X : Cx) (C : FC) (e : Option Expr) (t : DP) : Prop where
 po : PO X e (lP X.K C t)
def dNoP : DP := fun ρ Q => Q none ρ
def dPart (t : DE) : DP := fun ρ Q => t ρ fun o ρ1 => withO ρ1 o fun d => match d with
 | .int i => Q (some i) ρ1
 | _ => False
theorem p_none : QP X C none dNoP := ⟨⟨fun pins s σ H Q I ⟨F, ρ, q, S, ht, k⟩ => po_none.run pins s σ H Q I (k _ _ _ _ ht S (Same.refl F))⟩⟩
theorem p_some (h : QE X C e ta) : QP X C (some e) (dPart ta) := ⟨⟨fun pins s σ H Q I ⟨F, ρ, q, S, ht, k⟩ => (po_some h.pe).run pins s σ H Q I (by
 refine ⟨F, ρ, _, S, ht, fun o ρ1 F1 H1 v hq S1 s1 d1 => ?_⟩
 obtain ⟨d, vd, w⟩ := S1.see d1 hq
 cases d with
 | int i => rw [view_int vd]; exact ⟨i, rfl, k _ _ _ _ w S1 s1⟩
 | _ => exact w.elim)⟩⟩
theorem cut_whole {K : PySem.W.Frag} {F : Hp} {xs : List V} {ds : List PyData} {lo hi : Option Int} (r : RepAll K F xs ds) (h1 : HT.sIx xs.length 0 lo = 0) (h2 : HT.sIx xs.length xs.length hi = xs.length) : cutD ds lo hi = ds := by
 rw [r.length] at h1 h2
 unfold cutD
 rw [h1, h2]
 simp
end
end Dv
set_option Elab.async false
set_option linter.all false
set_option maxRecDepth 100000
set_option autoImplicit false
namespace Dv
open PySem PySem.Spec L2
section
variable {X : Cx} {C : FC} {P : List Bool} {a b c e : Expr} {es : List Expr} {pos p : Pos} {ta tb tc : DE} {k : Nat} {tA : DA}
theorem va1 {K : PySem.W.Frag} {F H : Hp} {vs : List V} {d : PyData} (h : ViewAll K F H vs [d]) : ∃ v, vs = [v] ∧ View K F H v d := by
 cases h with
 | cons h1 h2 => cases h2; exact ⟨_, rfl, h1⟩
theorem va2 {K : PySem.W.Frag} {F H : Hp} {vs : List V} {d d2 : PyData} (h : ViewAll K F H vs [d, d2]) : ∃ v v2, vs = [v, v2] ∧ View K F H v d ∧ View K F H v2 d2 := by
 cases h with
 | cons h1 h2 =>
  cases h2 with
  | cons h3 h4 => cases h4; exact ⟨_, _, rfl, h1, h3⟩
def lenD : OpN := fun ds k => match ds with
 | [.list xs] => k (.int xs.length)
 | [.tuple xs] => k (.int xs.length)
 | [.str x] => x.length ≤ big ∧ k (.int x.length)
 | [.dict xs] => noX (.dict xs) = true ∧ k (.int xs.length)
 | _ => False
def rLenA (K : PySem.W.Frag) : List V → Hp → VK → Prop := fun xs H Q => (∃ p ys, xs = [.ref p] ∧ (SqL K H p ys ∨ SqT K H p ys) ∧ Q (.int ys.length) H) ∨ (∃ z, xs = [.str z] ∧ z.length ≤ sizeLine ∧ Q (.int z.length) H) ∨ (∃ d kvs, xs = [.ref d] ∧ Rd H d (.dK kvs) ∧ Q (.int kvs.length) H) ∨ rLenN K xs H Q
theorem call_lenDk : CallR X (.builtin "len") (fun xs H Q => ∃ d kvs, xs = [.ref d] ∧ Rd H d (.dK kvs) ∧ Q (.int kvs.length) H) := by
 intro pins s σ H xs us Q I r h
 obtain ⟨d, kvs, rfl, hd, q⟩ := h
 obtain ⟨u, rfl, ru⟩ := vals1 r
 cases ru
 exact d_len I hd fun t s' I' => ⟨.int kvs.length, H, I', ⟨t, rfl⟩, q⟩
theorem call_lenA : CallR X (.builtin "len") (rLenA X.K) := call_len_seq.or (call_len_str.or (call_lenDk.or call_lenN))
theorem RepKV.length {K : PySem.W.Frag} {F : Hp} : ∀ {vs : List (Key × V)} {ds : List (PyData × PyData)}, RepKV K F vs ds → vs.length = ds.length
 | _, _, .nil => rfl
 | _, _, .cons _ r => by simp [RepKV.length r]
theorem ok_len : CallOk X (rLenA X.K) lenD := fun F H vs ds q Q s v w k => by
 match ds, v, w with
 | [.list xs], v, w =>
  obtain ⟨v, e, a, ys, e2, h, r⟩ := va1 v
  subst e e2
  exact .inl ⟨a, ys, rfl, .inl h, by rw [r.length]; exact k _ _ _ _ w (Gr.refl s) (.int _)⟩
 | [.tuple xs], v, w =>
  obtain ⟨v, e, vv⟩ := va1 v
  obtain ⟨a, ys, e2, h, r, _⟩ := view_tup s vv
  subst e e2
  exact .inl ⟨a, ys, rfl, .inr h, by rw [r.length]; exact k _ _ _ _ w (Gr.refl s) (.int _)⟩
 | [.str x], v, w =>
  obtain ⟨v, e, vv⟩ := va1 v
  rw [view_str vv] at e
  subst e
  exact .inr (.inl ⟨x, rfl, le_line w.1, k _ _ _ _ w.2 (Gr.refl s) (.int _)⟩)
 | [.dict xs], v, w =>
  obtain ⟨v, e, a, e2, ⟨ys, h, r⟩ | ⟨w0, ys, _, h, r⟩ | hx⟩ := va1 v
  ·subst e e2
   exact .inr (.inr (.inl ⟨a, ys, rfl, h, by rw [r.length]; exact k _ _ _ _ w.2 (Gr.refl s) (.int _)⟩))
  ·subst e e2
   exact .inr (.inr (.inr ⟨F, a, w0, ys, _, rfl, s, h, r, by rw [r.length]; exact k _ _ _ _ w.2 (Gr.refl s) (.int _)⟩))
  ·exact absurd (hx.noX.symm.trans w.1) (by decide)
theorem q_len (hm : X.mg "len" = none) (ha : QA X C [a] tA) (hg : Gl X "len" := by rfl)
  (he : starEach [a] X.env = (false, eval a X.env) :: starEach [] X.env := by rfl) (hpl : (backTo pos (starEach [] X.env)).any (·.1) = false := by rfl) : QE X C (.Call (.Name "len" p) [a] [] pos) (dCB lenD tA) :=
 q_callB call_lenA ok_len hm PySem.boot_len ha hg (by decide) (by decide) he hpl
def absD : OpN := fun ds k => match ds with
 | [.int i] => k (.int (if i < 0 then -i else i))
 | _ => False
theorem ok_abs : CallOk X (fun xs H Q => ∃ i, xs = [.int i] ∧ Q (.int (if i < 0 then -i else i)) H) absD := fun F H vs ds q Q s v w k => by
 match ds, v, w with
 | [.int i], v, w =>
  obtain ⟨v, e, vv⟩ := va1 v
  rw [view_int vv] at e
  subst e
  exact ⟨i, rfl, k _ _ _ _ w (Gr.refl s) (.int _)⟩
def max2D : OpN := fun ds k => match ds with
 | [.int i, .int j] => k (.int (if j > i then j else i))
 | _ => False
def min2D : OpN := fun ds k => match ds with
 | [.int i, .int j] => k (.int (if j < i then j else i))
 | _ => False
theorem ok_max2 : CallOk X (fun xs H Q => ∃ i j, xs = [.int i, .int j] ∧ Q (.int (if j > i then j else i)) H) max2D := fun F H vs ds q Q s v w k => by
 match ds, v, w with
 | [.int i, .int j], v, w =>
  obtain ⟨v, v2, e, vv, vv2⟩ := va2 v
  rw [view_int vv, view_int vv2] at e
  subst e
  exact ⟨i, j, rfl, k _ _ _ _ w (Gr.refl s) (.int _)⟩
theorem ok_min2 : CallOk X (fun xs H Q => ∃ i j, xs = [.int i, .int j] ∧ Q (.int (if j < i then j else i)) H) min2D := fun F H vs ds q Q s v w k => by
 match ds, v, w with
 | [.int i, .int j], v, w =>
  obtain ⟨v, v2, e, vv, vv2⟩ := va2 v
  rw [view_int vv, view_int vv2] at e
  subst e
  exact ⟨i, j, rfl, k _ _ _ _ w (Gr.refl s) (.int _)⟩
theorem q_abs (hm : X.mg "abs" = none) (ha : QA X C [a] tA) (hg : Gl X "abs" := by rfl)
  (he : starEach [a] X.env = (false, eval a X.env) :: starEach [] X.env := by rfl) (hpl : (backTo pos (starEach [] X.env)).any (·.1) = false := by rfl) : QE X C (.Call (.Name "abs" p) [a] [] pos) (dCB absD tA) :=
 q_callB call_abs ok_abs hm (by decide +kernel) ha hg (by decide) (by decide) he hpl
theorem q_max2 (hc : X.calm = true) (hm : X.mg "max" = none) (ha : QA X C [a, b] tA) (hg : Gl X "max" := by rfl)
  (he : starEach [a, b] X.env = (false, eval a X.env) :: starEach [b] X.env := by rfl) (hpl : (backTo pos (starEach [b] X.env)).any (·.1) = false := by rfl) : QE X C (.Call (.Name "max" p) [a, b] [] pos) (dCB max2D tA) :=
 q_callB (call_max2 hc) ok_max2 hm (by decide +kernel) ha hg (by decide) (by decide) he hpl
theorem q_min2 (hc : X.calm = true) (hm : X.mg "min" = none) (ha : QA X C [a, b] tA) (hg : Gl X "min" := by rfl)
  (he : starEach [a, b] X.env = (false, eval a X.env) :: starEach [b] X.env := by rfl) (hpl : (backTo pos (starEach [b] X.env)).any (·.1) = false := by rfl) : QE X C (.Call (.Name "min" p) [a, b] [] pos) (dCB min2D tA) :=
 q_callB (call_min2 hc) ok_min2 hm (by decide +kernel) ha hg (by decide) (by decide) he hpl
def intOfD : OpN := fun ds k => match ds with
 | [.int i] => k (.int i)
 | [.bool b] => k (.int (if b then 1 else 0))
 | _ => False
theorem ok_intOf : CallOk X (fun xs H Q => (∃ i, xs = [.int i] ∧ Q (.int i) H) ∨ ∃ k, xs = [.bl k] ∧ Q (.int (if k then 1 else 0)) H) intOfD := fun F H vs ds q Q s v w k => by
 match ds, v, w with
 | [.int i], v, w =>
  obtain ⟨v, e, vv⟩ := va1 v
  rw [view_int vv] at e
  subst e
  exact .inl ⟨i, rfl, k _ _ _ _ w (Gr.refl s) (.int _)⟩
 | [.bool i], v, w =>
  obtain ⟨v, e, vv⟩ := va1 v
  rw [view_bl vv] at e
  subst e
  exact .inr ⟨i, rfl, k _ _ _ _ w (Gr.refl s) (.int _)⟩
theorem q_intOf (hm : X.mg "int" = none) (ha : QA X C [a] tA) (hg : Gl X "int" := by rfl)
  (he : starEach [a] X.env = (false, eval a X.env) :: starEach [] X.env := by rfl) (hpl : (backTo pos (starEach [] X.env)).any (·.1) = false := by rfl) : QE X C (.Call (.Name "int" p) [a] [] pos) (dCB intOfD tA) :=
 q_callTy call_int1 ok_intOf hm (by decide +kernel) ha hg (by decide) (by decide) he hpl
def boolsD : List PyData → Option (List Bool)
 | [] => some []
 | .bool b :: ds => (boolsD ds).map (b :: ·)
 | _ => none
theorem bools_map : ∀ {ds : List PyData} {bs : List Bool}, boolsD ds = some bs → ds = bs.map PyData.bool
 | [], bs, h => by simp [boolsD] at h; subst h; rfl
 | .bool b :: ds, bs, h => by
  simp only [boolsD, Option.map_eq_some_iff] at h
  obtain ⟨r, h1, h2⟩ := h
  subst h2
  rw [List.map_cons, ← bools_map h1]
 | .none :: _, _, h => by simp [boolsD] at h
 | .int _ :: _, _, h => by simp [boolsD] at h
 | .str _ :: _, _, h => by simp [boolsD] at h
 | .list _ :: _, _, h => by simp [boolsD] at h
 | .tuple _ :: _, _, h => by simp [boolsD] at h
 | .dict _ :: _, _, h => by simp [boolsD] at h
def allD : OpN := fun ds k => match ds with
 | [.list xs] => match boolsD xs with
  | some bs => k (.bool (bs.all id))
  | none => False
 | _ => False
def anyD : OpN := fun ds k => match ds with
 | [.list xs] => match boolsD xs with
  | some bs => k (.bool (bs.any id))
  | none => False
 | _ => False
theorem ok_any : CallOk X (rAny X.K) anyD := fun F H vs ds q Q s v w k => by
 match ds, v, w with
 | [.list xs], v, w =>
  obtain ⟨v, e, a, ys, e2, h, r⟩ := va1 v
  subst e e2
  have w : (match boolsD xs with | some bs => q (.bool (bs.any id)) | none => False) := w
  cases z : boolsD xs with
  | none => rw [z] at w; exact w.elim
  | some bs =>
   rw [z] at w
   rw [bools_map z] at r
   have := r.bls
   subst this
   exact ⟨a, bs, rfl, h, k _ _ _ _ w (Gr.refl s) (.bl _)⟩
theorem q_any (hc : X.calm = true) (hm : X.mg "any" = none) (ha : QA X C [a] tA) (hg : Gl X "any" := by rfl)
  (he : starEach [a] X.env = (false, eval a X.env) :: starEach [] X.env := by rfl) (hpl : (backTo pos (starEach [] X.env)).any (·.1) = false := by rfl) : QE X C (.Call (.Name "any" p) [a] [] pos) (dCB anyD tA) :=
 q_callB (cr_any hc) ok_any hm (by decide +kernel) ha hg (by decide) (by decide) he hpl
def tyName : PyData → String
 | .none => "NoneType"
 | .bool _ => "bool"
 | .int _ => "int"
 | .str _ => "str"
 | .list _ => "list"
 | .tuple _ => "tuple"
 | .dict _ => "dict"
def isTyD (T : String) (d : PyData) : Bool := T == tyName d || (T == "int" && tyName d == "bool")
theorem kit_all {T : String} (hT : T ∈ ["str", "int", "bool", "list", "tuple", "dict"]) (d : PyData) : kitB (tyName d) T = some (isTyD T d) := by
 simp only [List.mem_cons, List.not_mem_nil, or_false] at hT
 rcases hT with h | h | h | h | h | h <;> subst h <;> cases d <;> first | decide +kernel | (simp only [tyName, isTyD]; decide +kernel)
theorem View.tyX {K : PySem.W.Frag} {F H : Hp} {v : V} {d : PyData} (s : Same F H) (w : View K F H v d) : TyY K H v (.type (tyName d)) ∨ ∃ a D dd n fs, v = .ref a ∧ Rd H a (ExH D dd a) ∧ ClsN K n D ∧ ExF H dd fs ∧ tyName d = "dict" ∧ noX d = false := by
 cases d with
 | none => rw [view_non w]; exact .inl (.inl (.base .non))
 | bool b => rw [view_bl w]; exact .inl (.inl (.base (.bl b)))
 | int b => rw [view_int w]; exact .inl (.inl (.base (.int b)))
 | str b => rw [view_str w]; exact .inl (.inl (.base (.str b)))
 | list b =>
  obtain ⟨a, xs, e, h, _⟩ := w
  subst e
  rcases h with (h | ⟨o, h⟩) | ⟨o, its, n, h1, h2, _⟩
  ·exact .inl (.inl (.base (.lst h)))
  ·exact .inl (.inl (.base (.frz h)))
  ·exact .inl (.inl (.kList h1 h2))
 | dict b =>
  obtain ⟨a, e, ⟨xs, h, _⟩ | ⟨w0, xs, _, h, _⟩ | hx⟩ := w
  ·subst e
   rcases h with h | ⟨o, h⟩
   ·exact .inl (.inl (.base (.dK h)))
   ·exact .inl (.inl (.fDict h))
  ·subst e
   exact .inl (.inr (.inl ⟨a, w0, xs, rfl, rfl, h⟩))
  ·have hn := hx.noX
   obtain ⟨D, dd, n, fs, es, _, h1, h2, h3, _⟩ := hx
   exact .inr ⟨a, D, dd, n, fs, e, rd_mono s h1, h2, exF_mono s h3, rfl, hn⟩
 | tuple b =>
  obtain ⟨a, xs, e, h, _⟩ := view_tup s w
  subst e
  rcases h with (h | ⟨o, h⟩) | ⟨o, its, n, h1, h2, _⟩
  ·exact .inl (.inl (.base (.tup h)))
  ·exact .inl (.inl (.fTuple h))
  ·exact .inl (.inl (.kTuple h1 h2))
theorem View.kit {K : PySem.W.Frag} {F H : Hp} {v : V} {d : PyData} (s : Same F H) (w : View K F H v d) {T : String} (hT : T ∈ ["str", "int", "bool", "list", "tuple", "dict"]) (hD : T ≠ "dict" ∨ noX d = true) : ∃ t, TyY K H v t ∧ PySem.W.kitOne K t (.type T) = some (isTyD T d) := by
 rcases w.tyX s with h | ⟨a, D, dd, n, fs, e, h1, h2, h3, h4, h5⟩
 ·exact ⟨_, h, kit_ty (kit_all hT d)⟩
 ·have hT2 : T ≠ "dict" := hD.resolve_right (by rw [h5]; decide)
  have hT3 : T ∈ ["str", "int", "bool", "list", "tuple"] := by
   simp only [List.mem_cons, List.not_mem_nil, or_false] at hT ⊢
   rcases hT with h | h | h | h | h | h
   ·exact .inl h
   ·exact .inr (.inl h)
   ·exact .inr (.inr (.inl h))
   ·exact .inr (.inr (.inr (.inl h)))
   ·exact .inr (.inr (.inr (.inr h)))
   ·exact absurd h hT2
  refine ⟨.ref D, .inr (.inr ⟨a, D, dd, fs, e, rfl, h1, h2.ec, h3⟩), ?_⟩
  rw [h2.kt T hT3]
  unfold isTyD
  rw [h4]
  have e1 : (T == "dict") = false := by simpa using hT2
  rw [e1]
  simp
theorem mem6 {T : String} (h : T ∈ ["str", "int", "bool", "list", "tuple"]) : T ∈ ["str", "int", "bool", "list", "tuple", "dict"] := by
 simp only [List.mem_cons, List.not_mem_nil, or_false] at h ⊢
 rcases h with h | h | h | h | h
 ·exact .inl h
 ·exact .inr (.inl h)
 ·exact .inr (.inr (.inl h))
 ·exact .inr (.inr (.inr (.inl h)))
 ·exact .inr (.inr (.inr (.inr (.inl h))))
theorem ne_dict {T : String} (h : T ∈ ["str", "int", "bool", "list", "tuple"]) : T ≠ "dict" := by
 intro e
 subst e
 exact absurd h (by decide)
def dIsi (T : String) (t : DE) : DE := fun ρ Q => t ρ fun o ρ1 => withO ρ1 o fun d => Q (.val (.bool (isTyD T d))) ρ1
theorem q_isi {x : Str} {T : String} {p2 : Pos} (hT : T ∈ ["str", "int", "bool", "list", "tuple"]) (hm : X.mg "isinstance" = none) (hm2 : X.mg x = none) (hv : bootBuiltins x = some (.type T)) (ha : QE X C a ta)
  (hg : Gl X "isinstance" := by rfl) (hg2 : Gl X x := by rfl) (hx : x ≠ "__name__" := by decide) (hdx : (x == ("__debug__" : Str)) = false := by decide)
  (hs : starEach [a, .Name x p2] X.env = (false, eval a X.env) :: starEach [.Name x p2] X.env := by rfl) (hs2 : starEach [.Name x p2] X.env = (false, eval (.Name x p2) X.env) :: starEach [] X.env := by rfl)
  (hpl : (backTo pos (starEach [.Name x p2] X.env)).any (·.1) = false := by rfl) : QE X C (.Call (.Name "isinstance" p) [a, .Name x p2] [] pos) (dIsi T ta) :=
 QE.of (pe_callB call_isiY hg hm (by decide +kernel) (pa_cons ha.pe (pa_cons (pe_bltn (v := .ty T) hg2 hm2 hv rfl hx hdx) pa_nil hs2) hs) (by decide) (by decide) hs hpl) fun σ H Q ⟨F, ρ, q, S, ht, k⟩ => by
  refine ⟨F, ρ, _, S, ht, fun o ρ1 F1 H1 v hq S1 s1 d1 => ?_⟩
  obtain ⟨d, vd, w⟩ := S1.see d1 hq
  obtain ⟨t, h1, h2⟩ := vd.kit S1.sub (mem6 hT) (.inl (ne_dict hT))
  exact ⟨v, .ty T, t, .type T, _, rfl, .ty T, h1, h2, k _ _ _ _ _ w S1 s1 (.bl _)⟩
end
end Dv
set_option Elab.async false
set_option linter.all false
set_option maxRecDepth 100000
set_option autoImplicit false
namespace Dv
open PySem PySem.Spec L2
section
variable {X : Cx} {C : FC} {P : List Bool} {a b c e o : Expr} {es : List Expr} {pos p apos cpos : Pos} {ta tb tc to : DE} {k i : Nat} {tA : DA} {x : Str}
def strsD : List PyData → Option (List Str)
 | [] => some []
 | .str b :: ds => (strsD ds).map (b :: ·)
 | _ => none
theorem strs_map : ∀ {ds : List PyData} {bs : List Str}, strsD ds = some bs → ds = bs.map PyData.str
 | [], bs, h => by simp [strsD] at h; subst h; rfl
 | .str b :: ds, bs, h => by
  simp only [strsD, Option.map_eq_some_iff] at h
  obtain ⟨r, h1, h2⟩ := h
  subst h2
  rw [List.map_cons, ← strs_map h1]
 | .none :: _, _, h => by simp [strsD] at h
 | .int _ :: _, _, h => by simp [strsD] at h
 | .bool _ :: _, _, h => by simp [strsD] at h
 | .list _ :: _, _, h => by simp [strsD] at h
 | .tuple _ :: _, _, h => by simp [strsD] at h
 | .dict _ :: _, _, h => by simp [strsD] at h
theorem strsD_map (bs : List Str) : strsD (bs.map PyData.str) = some bs := by
 induction bs with
 | nil => rfl
 | cons b bs ih => simp [strsD, ih]
def joinD : OpN := fun ds k => match ds with
 | [.str a, .list xs] => match strsD xs with
  | some ys => (ys.map (·.length)).sum + ys.length * a.length ≤ 16777216 ∧ k (.str (Txt.join a ys))
  | none => False
 | [.str a, .tuple xs] => match strsD xs with
  | some ys => (ys.map (·.length)).sum + ys.length * a.length ≤ 16777216 ∧ k (.str (Txt.join a ys))
  | none => False
 | _ => False
theorem ok_join : MtOk X (fun x xs H Q => ∃ a p, ∃ ys : List Str, x = .str a ∧ xs = [.ref p] ∧ (SqL X.K H p (ys.map V.str) ∨ SqT X.K H p (ys.map V.str)) ∧
  (ys.map (·.length)).sum + ys.length * a.length ≤ 16777216 ∧ Q (.str (Txt.join a ys)) H) joinD := fun F H v vs d ds q Q s w0 w1 w k => by
 cases d with
 | str a =>
  rw [view_str w0]
  cases w1 with
  | nil => exact w.elim
  | @cons v1 _ d1 _ hv hr =>
   cases hr with
   | cons _ _ => cases d1 <;> exact w.elim
   | nil =>
    cases d1 with
    | list xs =>
     obtain ⟨p, ys, e2, h, r⟩ := hv
     subst e2
     have w : (match strsD xs with | some ys => (ys.map (·.length)).sum + ys.length * a.length ≤ 16777216 ∧ q (.str (Txt.join a ys)) | none => False) := w
     cases z : strsD xs with
     | none => rw [z] at w; exact w.elim
     | some bs =>
      rw [z] at w
      rw [strs_map z] at r
      have := r.strs
      subst this
      exact ⟨a, p, bs, rfl, rfl, .inl h, w.1, k _ _ _ _ w.2 (Gr.refl s) (.str _)⟩
    | tuple xs =>
     obtain ⟨p, ys, e2, h, r, _⟩ := view_tup s hv
     subst e2
     have w : (match strsD xs with | some ys => (ys.map (·.length)).sum + ys.length * a.length ≤ 16777216 ∧ q (.str (Txt.join a ys)) | none => False) := w
     cases z : strsD xs with
     | none => rw [z] at w; exact w.elim
     | some bs =>
      rw [z] at w
      rw [strs_map z] at r
      have := r.strs
      subst this
      exact ⟨a, p, bs, rfl, rfl, .inr h, w.1, k _ _ _ _ w.2 (Gr.refl s) (.str _)⟩
    | _ => exact w.elim
 | _ => exact w.elim
theorem q_join (ho : QE X C o to) (ha : QA X C [e] tA) (hbase : attributeBase o "join" X.env (eval o X.env) = eval o X.env := by rfl)
  (hfew : ((backTo cpos (starEach [e] X.env)).all (fun x => !x.1) && (backToKw cpos (keywordEach [] X.env)).all (fun x => x.1.isSome)
   && decide ([e].length + ([] : List Keyword).length + (if ([] : List Keyword).isEmpty then 0 else 1) < 30)) = true := by rfl)
  (hline : (apos.endLine == cpos.line) = true := by rfl) (hs : starEach [e] X.env = (false, eval e X.env) :: starEach [] X.env := by rfl) (hplain : (backTo cpos (starEach [] X.env)).any (·.1) = false := by rfl) :
  QE X C (.Call (.Attribute o "join" apos) [e] [] cpos) (dBM "str" joinD to tA) :=
 m_look PySem.F.plainAttrs_str PySem.F.slot_str_join PySem.F.type_str_join mt_join ok_join ho ha hbase hfew hline hs hplain
theorem ra1 {K : PySem.W.Frag} {F : Hp} {vs : List V} {d : PyData} (h : RepAll K F vs [d]) : ∃ v, vs = [v] ∧ Rep K F v d := by
 cases h with
 | cons h1 h2 => cases h2; exact ⟨_, rfl, h1⟩
theorem ra2 {K : PySem.W.Frag} {F : Hp} {vs : List V} {d d2 : PyData} (h : RepAll K F vs [d, d2]) : ∃ v v2, vs = [v, v2] ∧ Rep K F v d ∧ Rep K F v2 d2 := by
 cases h with
 | cons h1 h2 =>
  cases h2 with
  | cons h3 h4 => cases h4; exact ⟨_, _, rfl, h1, h3⟩
def appendD : OpM := fun d ds k => match d, ds with
 | .list xs, [y] => xs.length < big ∧ k (.list (xs ++ [y])) .none
 | _, _ => False
theorem ok_append : MutOk X rAppend appendD := fun F H a vs d ds q Q s hF hO r w k => by
 match d, ds, hO, r, w with
 | .list xs, [y], hO, r, w =>
  obtain ⟨us, e, ru⟩ := hO
  obtain ⟨v, e1, rv⟩ := ra1 r
  subst e1
  exact ⟨a, us, v, rfl, rfl, e, by rw [ru.length]; exact lt_line w.1, k _ _ _ _ w.2 ⟨_, upd_same, ru.append (.cons rv .nil)⟩ .non⟩
def rExtendR (K : PySem.W.Frag) : V → List V → Hp → VK → Prop := fun x vs H Q => ∃ l b xs zs, x = .ref l ∧ vs = [.ref b] ∧ H l = some (.lst xs) ∧ SqL K H b zs ∧ xs.length + zs.length ≤ sizeLine ∧ Q .non (upd H l (.lst (xs ++ zs)))
open PyProof.Rows in
theorem mt_extendR : MtR X "list.extend" (rExtendR X.K) := by
 intro pins s σ H x vs v us Q I rx rv h
 obtain ⟨l, b, xs, zs, rfl, rfl, hH, hB, hz, q⟩ := h
 cases rx
 obtain ⟨u, rfl, ru⟩ := Vals.one rv
 cases ru
 obtain ⟨z, its, n, r, hl, e⟩ := I.lstM hH
 obtain ⟨z2, its2, n2, dd2, sl2, r2, hl2, e2⟩ := Inv.lstR I hB
 have hsz : its.toArray.size + its2.toArray.size ≤ sizeLine := by rw [List.size_toArray, List.size_toArray]; omega
 have hlong : ¬ (!its.toArray.isEmpty && Builtin.List.listTooLong (its.toArray.size + its2.toArray.size)) = true := by
  rw [notLongL hsz, Bool.and_false]
  exact Bool.false_ne_true
 refine call_meets F.slot_list_extend ⟨_, e, rfl⟩ F.entry_list_extend (F.args_list_extend_2 _ _)
  (list_extendW l its.toArray n b its2.toArray n2 dd2 sl2 hlong (by rw [List.size_toArray]; omega) (by omega)) ⟨e, e2, ?_⟩
 refine ⟨.non, _, I.lset (its' := its ++ its2) hH e (by simp) (r.append r2) ?_, rfl, q⟩
 rw [List.length_append]
 omega
def popD : OpM := fun d ds k => match d, ds with
 | .list xs, [] => match xs.getLast? with
  | some y => k (.list xs.dropLast) y
  | none => False
 | _, _ => False
theorem ok_pop : MutOk X rPop popD := fun F H a vs d ds q Q s hF hO r w k => by
 match d, ds, hO, r, w with
 | .list xs, [], hO, r, w =>
  obtain ⟨us, e, ru⟩ := hO
  cases r
  have w : (match xs.getLast? with | some y => q (.list xs.dropLast) y | none => False) := w
  cases z : xs.getLast? with
  | none => rw [z] at w; exact w.elim
  | some y =>
   rw [z] at w
   rw [List.getLast?_eq_getElem?] at z
   obtain ⟨v, hv, rv⟩ := ru.get z
   exact ⟨a, us, v, rfl, rfl, e, by rw [ru.length]; exact hv, k _ _ _ _ w ⟨_, upd_same, ru.dropLast⟩ rv⟩
def insertD : OpM := fun d ds k => match d, ds with
 | .list xs, [.int i, y] => xs.length < big ∧ 0 ≤ i ∧ i < 2 ^ 63 ∧ k (.list (xs.take i.toNat ++ [y] ++ xs.drop i.toNat)) .none
 | _, _ => False
theorem ok_insert : MutOk X (fun x vs H Q => ∃ (l : Addr) (xs : List V) (i : Int) (y : V), x = .ref l ∧ vs = [.int i, y] ∧ H l = some (.lst xs) ∧ xs.length < sizeLine ∧ 0 ≤ i ∧ i < 2 ^ 63 ∧
  Q .non (upd H l (.lst (xs.take i.toNat ++ [y] ++ xs.drop i.toNat)))) insertD := fun F H a vs d ds q Q s hF hO r w k => by
 match d, ds, hO, r, w with
 | .list xs, [.int i, y], hO, r, w =>
  obtain ⟨us, e, ru⟩ := hO
  obtain ⟨v, v2, e1, rv, rv2⟩ := ra2 r
  subst e1
  cases rv
  exact ⟨a, us, i, v2, rfl, rfl, e, by rw [ru.length]; exact lt_line w.1, w.2.1, w.2.2.1, k _ _ _ _ w.2.2.2 ⟨_, upd_same, ((ru.take _).append (.cons rv2 .nil)).append (ru.drop _)⟩ .non⟩
section
variable (hv : PE X (.Name x p) (tVar i))
theorem m_append (hP : C.Tags P) (ha : QA X C [e] tA) (hN : X.N[i]? = some x := by rfl) (hvis : Vis X.env.scope x := by first | exact Or.inl rfl | exact Or.inr (Or.inl rfl) | exact Or.inr (Or.inr rfl)) (hd : (x == ("__debug__" : Str)) = false := by decide) (hcd : (x == ("__classdict__" : Str)) = false := by decide)
  (hbase : attributeBase (.Name x p) "append" X.env (eval (.Name x p) X.env) = eval (.Name x p) X.env := by rfl)
  (hfew : ((backTo cpos (starEach [e] X.env)).all (fun x => !x.1) && (backToKw cpos (keywordEach [] X.env)).all (fun x => x.1.isSome)
   && decide ([e].length + ([] : List Keyword).length + (if ([] : List Keyword).isEmpty then 0 else 1) < 30)) = true := by rfl)
  (hline : (apos.endLine == cpos.line) = true := by rfl) (hs : starEach [e] X.env = (false, eval e X.env) :: starEach [] X.env := by rfl) (hplain : (backTo cpos (starEach [] X.env)).any (·.1) = false := by rfl) :
  QE X C (.Call (.Attribute (.Name x p) "append" apos) [e] [] cpos) (dMut P "list" i appendD tA) :=
 m_mut hP PySem.F.plainAttrs_list PySem.F.slot_list_append PySem.F.type_list_append mt_append ok_append ha (pe_var hN hvis hd hcd) hbase hfew hline hs hplain
theorem m_insert (hP : C.Tags P) (ha : QA X C [e, o] tA) (hN : X.N[i]? = some x := by rfl) (hvis : Vis X.env.scope x := by first | exact Or.inl rfl | exact Or.inr (Or.inl rfl) | exact Or.inr (Or.inr rfl)) (hd : (x == ("__debug__" : Str)) = false := by decide) (hcd : (x == ("__classdict__" : Str)) = false := by decide)
  (hbase : attributeBase (.Name x p) "insert" X.env (eval (.Name x p) X.env) = eval (.Name x p) X.env := by rfl)
  (hfew : ((backTo cpos (starEach [e, o] X.env)).all (fun x => !x.1) && (backToKw cpos (keywordEach [] X.env)).all (fun x => x.1.isSome)
   && decide ([e, o].length + ([] : List Keyword).length + (if ([] : List Keyword).isEmpty then 0 else 1) < 30)) = true := by rfl)
  (hline : (apos.endLine == cpos.line) = true := by rfl) (hs : starEach [e, o] X.env = (false, eval e X.env) :: starEach [o] X.env := by rfl) (hplain : (backTo cpos (starEach [o] X.env)).any (·.1) = false := by rfl) :
  QE X C (.Call (.Attribute (.Name x p) "insert" apos) [e, o] [] cpos) (dMut P "list" i insertD tA) :=
 m_mut hP PySem.F.plainAttrs_list PySem.F.slot_list_insert PySem.F.type_list_insert mt_insert ok_insert ha (pe_var hN hvis hd hcd) hbase hfew hline hs hplain
theorem m_pop (hN : X.N[i]? = some x := by rfl) (hvis : Vis X.env.scope x := by first | exact Or.inl rfl | exact Or.inr (Or.inl rfl) | exact Or.inr (Or.inr rfl)) (hd : (x == ("__debug__" : Str)) = false := by decide) (hcd : (x == ("__classdict__" : Str)) = false := by decide)
  (hbase : attributeBase (.Name x p) "pop" X.env (eval (.Name x p) X.env) = eval (.Name x p) X.env := by rfl) (hline : (apos.endLine == cpos.line) = true := by rfl) :
  QE X C (.Call (.Attribute (.Name x p) "pop" apos) [] [] cpos) (dMut0 "list" i popD) :=
 m_mut0 PySem.F.plainAttrs_list PySem.F.slot_list_pop PySem.F.type_list_pop mt_pop ok_pop (pe_var hN hvis hd hcd) hbase hline
end
def putD (kvs : List (PyData × PyData)) (q : Key) (v : PyData) : List (PyData × PyData) :=
 if (kvs.any fun p => decide (keyD p.1 = some q)) then kvs.map (fun p => if keyD p.1 = some q then (p.1, v) else p) else kvs ++ [(kD q, v)]
theorem RepKV.any {K : PySem.W.Frag} {F : Hp} {q : Key} : ∀ {ks : List (Key × V)} {ds : List (PyData × PyData)}, RepKV K F ks ds → (ds.any fun p => decide (keyD p.1 = some q)) = ks.any fun kv => decide (kv.1 = q)
 | _, _, .nil => rfl
 | _, _, .cons (k := k') r t => by
  simp only [List.any_cons, kD_keyD]
  rw [RepKV.any t]
  congr 1
  by_cases e : k' = q
  ·simp [e]
  ·simp [e]
theorem RepKV.repl {K : PySem.W.Frag} {F : Hp} {q : Key} {v : V} {d : PyData} (rv : Rep K F v d) : ∀ {ks : List (Key × V)} {ds : List (PyData × PyData)}, RepKV K F ks ds → RepKV K F (ks.map fun kv => if kv.1 = q then (kv.1, v) else kv) (ds.map fun p => if keyD p.1 = some q then (p.1, d) else p)
 | _, _, .nil => .nil
 | _, _, .cons (k := k') (v := v') (d := d') r t => by
  rw [List.map_cons, List.map_cons]
  by_cases e : k' = q
  ·rw [if_pos e, if_pos (by rw [kD_keyD, e])]
   exact .cons rv (RepKV.repl rv t)
  ·rw [if_neg e, if_neg (by rw [kD_keyD]; exact fun z => e (Option.some.inj z))]
   exact .cons r (RepKV.repl rv t)
theorem RepKV.snoc {K : PySem.W.Frag} {F : Hp} {q : Key} {v : V} {d : PyData} (rv : Rep K F v d) : ∀ {ks : List (Key × V)} {ds : List (PyData × PyData)}, RepKV K F ks ds → RepKV K F (ks ++ [(q, v)]) (ds ++ [(kD q, d)])
 | _, _, .nil => .cons rv .nil
 | _, _, .cons r t => .cons r (RepKV.snoc rv t)
theorem RepKV.put {K : PySem.W.Frag} {F : Hp} {q : Key} {v : V} {d : PyData} {ks : List (Key × V)} {ds : List (PyData × PyData)} (r : RepKV K F ks ds) (rv : Rep K F v d) : RepKV K F (putK ks q v) (putD ds q d) := by
 unfold putK putD
 rw [r.any]
 split
 ·exact r.repl rv
 ·exact r.snoc rv
def setD : OpS := fun d di dv k => match d, di with
 | .list xs, .int i => match ixN xs.length i with
  | some j => k (.list (xs.set j dv))
  | none => False
 | .dict kvs, di => match keyG kvs di with
  | some q => kvs.length < big ∧ k (.dict (putD kvs q dv))
  | none => False
 | _, _ => False
def rSetA : TSet := fun o i v H Q => rSetL o i v H Q ∨ ∃ a H', o = .ref a ∧ DPut H a i v H' ∧ Q H'
theorem set_all (hu : X.A.units + 1 < cLine) : PSet X rSetA := by
 intro pins s σ H o i v ov iv u Q I ro ri rv h
 rcases h with h | ⟨a, H', e, g, q⟩
 ·exact set_list pins s σ H o i v ov iv u Q I ro ri rv h
 ·subst e
  cases ro
  exact d_setItem hu I g ri rv fun s' I' => ⟨H', I', q⟩
theorem ok_set : SetOk X rSetA setD := fun F H a iv v d di dv q Q s hF hO vi rv w k => by
 cases d with
 | list xs =>
  cases di with
  | int i =>
   obtain ⟨us, e, ru⟩ := hO
   rw [view_int vi]
   have w : (match ixN xs.length i with | some j => q (.list (xs.set j dv)) | none => False) := w
   cases z : ixN xs.length i with
   | none => rw [z] at w; exact w.elim
   | some j =>
    rw [z] at w
    exact .inl ⟨a, us, i, j, rfl, rfl, e, by rw [ru.length]; exact z, k _ _ w ⟨_, upd_same, ru.set rv j⟩⟩
  | _ => exact w.elim
 | dict kvs =>
  have w : (match keyG kvs di with | some q' => kvs.length < big ∧ q (.dict (putD kvs q' dv)) | none => False) := by cases di <;> exact w
  cases z : keyG kvs di with
  | none => rw [z] at w; exact w.elim
  | some key =>
   rw [z] at w
   obtain ⟨hk, z⟩ := keyG_some z
   rcases hO with ⟨us, e, ru⟩ | ⟨w0, us, n, e, ru⟩
   ·rw [key_view vi z]
    exact .inr ⟨a, _, rfl, DPut.k e (by rw [ru.length]; exact lt_line w.1), k _ _ w.2 (.inl ⟨_, upd_same, ru.put rv⟩)⟩
   ·rw [RepNK.keysK ru n] at hk
    cases hk
 | _ => exact w.elim
theorem s_put {ix val : Expr} {ti tv : DE} {tpos : Pos} (hP : C.Tags P) (hr : Room k X.A) (hval : QE X C val tv) (hix : QE X C ix ti) (hN : X.N[i]? = some x := by rfl) (hvis : Vis X.env.scope x := by first | exact Or.inl rfl | exact Or.inr (Or.inl rfl) | exact Or.inr (Or.inr rfl)) (hd : (x == ("__debug__" : Str)) = false := by decide) (hcd : (x == ("__classdict__" : Str)) = false := by decide)
  (hasg : ∀ v, assign (.Subscript (.Name x p) ix tpos) X.env v = (do
   let ov ← holding [v] (eval (.Name x p) X.env)
   let iv ← holding [v, ov] (eval ix X.env)
   standAt tpos
   holding [v, ov, iv] (setItem ov iv v)
   release [v, ov, iv] []) := by intro _; rfl)
  (hs : swapsWithSole [.Subscript (.Name x p) ix tpos] val pos.line X.env = pure false := by rfl) (hw : swappedStores [.Subscript (.Name x p) ix tpos] val X.env = pure none := by rfl)
  (h1 : (assignEach [.Subscript (.Name x p) ix tpos] X.env).map (·.2) = [assign (.Subscript (.Name x p) ix tpos) X.env] := by rfl) : QS X C (.Assign [.Subscript (.Name x p) ix tpos] val pos) (dSetIx P i setD tv ti) :=
 s_setIx hP (set_all (hu_of hr)) ok_set hval hix (pe_var hN hvis hd hcd) hasg hs hw h1
def dDict0 : DO := fun ρ Q => Q (.dict []) ρ
theorem o_dict0 : QO X C (.Dict [] [] pos) dDict0 := QO.of pe_dnewK fun σ H Q ⟨F, ρ, q, S, ht, k⟩ => fun p hp => by
 obtain ⟨S3, fr⟩ := S.layD hp (.nil)
 exact k _ _ _ _ _ ht S3 (Same.refl F) fr
end
end Dv
set_option Elab.async false
set_option linter.all false
set_option maxRecDepth 100000
set_option autoImplicit false
namespace Dv
open PySem PySem.Spec L2
section
variable {X : Cx} {C : FC} {P : List Bool} {a b c e o : Expr} {es : List Expr} {pos p apos cpos : Pos} {ta tb tc to : DE} {k i : Nat} {tA : DA} {x : Str}
structure QPs (X : Cx) (P : List Bool) (pos : Pos) (keys : List (Option Expr)) (values : List Expr) (ts : List (DE × DE)) : Prop where
 pps : PPs X pos keys values (ts.map fun t => (lE' X.K P t.1, lE' X.K P t.2))
theorem ps_nil' : QPs X P pos [] [] [] := ⟨pps_nil⟩
theorem ps_cons' {kx v : Expr} {ks : List (Option Expr)} {vs : List Expr} {tk tv : DE} {ts : List (DE × DE)} (hk : ∀ C : FC, C.Tags P → QE X C kx tk) (hv : ∀ C : FC, C.Tags P → QE X C v tv) (hr : QPs X P pos ks vs ts) : QPs X P pos (some kx :: ks) (v :: vs) ((tk, tv) :: ts) :=
 ⟨pps_cons (pe' hk) (pe' hv) hr.pps⟩
def dPairs (P : List Bool) : List (DE × DE) → DEnv → (List (Key × PyData) → DEnv → Prop) → Prop
 | [], ρ, Q => Q [] ρ
 | (tk, tv) :: r, ρ, Q => tk ρ fun o ρ1 => match o with
  | .val d => match keyD d with
   | some q => tv ρ1 fun ov ρ2 => share P ρ2 ov fun dv ρ3 => dPairs P r ρ3 fun ps ρ4 => Q ((q, dv) :: ps) ρ4
   | none => False
  | .slot _ => False
def mergeD (kvs : List (PyData × PyData)) (more : List (Key × PyData)) : List (PyData × PyData) := more.foldl (fun acc kv => putD acc kv.1 kv.2) kvs
def dDisp (P : List Bool) (ts : List (DE × DE)) : DO := fun ρ Q => dPairs P ts ρ fun ps ρ1 => ps.length ≤ 15 ∧ Q (.dict (mergeD [] ps)) ρ1
inductive RepPs (K : PySem.W.Frag) (F : Hp) : List (Key × V) → List (Key × PyData) → Prop
 | nil : RepPs K F [] []
 | cons {k : Key} {v : V} {vs : List (Key × V)} {d : PyData} {ds : List (Key × PyData)} : Rep K F v d → RepPs K F vs ds → RepPs K F ((k, v) :: vs) ((k, d) :: ds)
theorem RepPs.mono {K : PySem.W.Frag} {F F' : Hp} (e : Same F F') : ∀ {vs : List (Key × V)} {ds : List (Key × PyData)}, RepPs K F vs ds → RepPs K F' vs ds
 | _, _, .nil => .nil
 | _, _, .cons h r => .cons (h.mono e) (RepPs.mono e r)
theorem RepPs.length {K : PySem.W.Frag} {F : Hp} : ∀ {vs : List (Key × V)} {ds : List (Key × PyData)}, RepPs K F vs ds → vs.length = ds.length
 | _, _, .nil => rfl
 | _, _, .cons _ r => by simp [RepPs.length r]
theorem RepPs.merge {K : PySem.W.Frag} {F : Hp} : ∀ {vs : List (Key × V)} {ds : List (Key × PyData)} {ks : List (Key × V)} {es : List (PyData × PyData)}, RepPs K F vs ds → RepKV K F ks es → RepKV K F (mergeK ks vs) (mergeD es ds)
 | _, _, _, _, .nil, r => r
 | _, _, ks, es, .cons (k := k) (v := v) (vs := vs) (d := d) (ds := ds) h t, r => by
  show RepKV K F (mergeK (putK ks k v) vs) (mergeD (putD es k d) ds)
  exact RepPs.merge t (r.put h)
theorem pairs_low {D : Addr} {ob : HO} (hP : C.Tags P) (pnD : C.pn D = none) : ∀ {ts : List (DE × DE)} {F H : Hp} {ρ : DEnv} {σ : L2.St} {q : List (Key × PyData) → DEnv → Prop} {Q : List (V × V) → Hp → Prop}, Sim X.K (C.pin D ob) F H ρ σ → dPairs P ts ρ q →
  (∀ ps ρ' F' H' kvs, q ps ρ' → Sim X.K (C.pin D ob) F' H' ρ' σ → Same F F' → RepPs X.K F' kvs ps → Q (kvs.map fun kv => (kV kv.1, kv.2)) H') → tPairs (ts.map fun t => (lE' X.K P t.1, lE' X.K P t.2)) σ H Q
 | [], F, H, ρ, σ, q, Q, S, h, k => k [] ρ F H [] h S (Same.refl F) .nil
 | (tk, tv) :: r, F, H, ρ, σ, q, Q, S, h, k => by
  refine ⟨C.pin D ob, FC.pin_tags hP, F, ρ, _, S, h, fun o ρ1 F1 H1 x h1 S1 s1 d1 => ?_⟩
  cases o with
  | slot i => exact h1.elim
  | val d =>
   dsimp only at h1
   cases kd : keyD d with
   | none => rw [kd] at h1; exact h1.elim
   | some key =>
    rw [kd] at h1
    have ex : x = kV key := key_view (Rep.view S1.sub d1) kd
    subst ex
    refine ⟨C.pin D ob, FC.pin_tags hP, F1, ρ1, _, S1, h1, fun ov ρ2 F2 H2 y h2 S2 s2 d2 => ?_⟩
    obtain ⟨dv, ρ3, F3, h3, S3, s3, r3⟩ := S2.share (FC.pin_tags hP) d2 h2
    exact pairs_low hP pnD S3 h3 fun ps ρ' F' H' kvs hq S' s' rp => k ((key, dv) :: ps) ρ' F' H' ((key, y) :: kvs) hq S' (((s1.trans s2).trans s3).trans s') (.cons (r3.mono s') rp)
theorem o_disp {keys : List (Option Expr)} {values : List Expr} {ts : List (DE × DE)} (hP : C.Tags P) (h : QPs X P pos keys values ts) (hall : keys.all (·.isSome) = true := by rfl) (hl : keys.length = values.length := by rfl) (h0 : keys ≠ [] := by intro z; cases z) (h15 : keys.length ≤ 15 := by decide) :
  QO X C (.Dict keys values pos) (dDisp P ts) := QO.of (pe_disp h.pps hall hl h0 h15) fun σ H Q ⟨F, ρ, q, S, ht, k⟩ => fun D hD => by
 have pnD := S.pnone hD
 obtain ⟨S1, f1, h01, _, ne1, nf1⟩ := S.lay hD (o := .dK [])
 refine pairs_low hP pnD (S1.pinned upd_same f1 ne1 nf1) ht fun ps ρ' F' H' kvs ⟨hlen, hq⟩ S' s' rp => ?_
 obtain ⟨S2, hD2, fD2, oD2, nD2⟩ := Sim.unpinned pnD S'
 refine ⟨hD2, kvs, rfl, by rw [rp.length]; exact hlen, ?_⟩
 refine k _ ρ' F' _ D hq ?_ s' ⟨fD2, .inl ⟨_, upd_same, rp.merge .nil⟩, h01, pnD, oD2, S2.dp.updF nD2⟩
 refine ⟨S2.len, fun b o e => ?_, S2.frz, fun j e' hj => ?_, S2.ne, S2.par, S2.f0, fun b o e hb => ?_, S2.new, fun b o e => ?_, S2.dp.upd nD2⟩
 ·rw [upd_ne (ne_of_none e fD2)]; exact S2.sub b o e
 ·obtain ⟨b, g1, g2, g3, g4⟩ := S2.own j e' hj
  have nb : b ≠ D := fun z => oD2 j e' hj (z ▸ g1)
  exact ⟨b, g1, g2, g3.mono (Same.refl _) fun o ho => by rw [upd_ne nb]; exact ho, g4⟩
 ·have nb : b ≠ D := fun z => by rw [z, h01] at e; cases e
  rw [upd_ne nb]; exact S2.h0 b o e hb
 ·obtain ⟨g1, g2, g3⟩ := S2.pin b o e
  have nb : b ≠ D := fun z => by rw [z, pnD] at e; cases e
  exact ⟨by rw [upd_ne nb]; exact g1, g2, g3⟩
theorem q_gint {v : Int} {t : Tok} (hm : X.mg x = some (.int v t)) (hg : Gl X x := by rfl) (hd : (x == ("__debug__" : Str)) = false := by decide) : QE X C (.Name x pos) (dC (.int v)) := q_const (pe_glob (v := .int v) hg hm ⟨_, rfl⟩ hd) fun _ => .int v
def signsV (z : Str) : List V := z.cps.toList.map fun c => V.str ⟨#[c]⟩
theorem signs_rep {K : PySem.W.Frag} {F : Hp} (z : Str) : RepAll K F (signsV z) (signsD z) := by
 unfold signsV signsD
 induction z.cps.toList with
 | nil => exact .nil
 | cons c cs ih => exact .cons (.str _) ih
theorem signs_vals {z : Str} {acc : Array Value} (h : ItemsOf (SignAt z) acc z.cps.size) : Vals (signsV z) acc.toList := by
 obtain ⟨hs, hv⟩ := h
 refine vals_of_at (by simp [signsV, hs]) fun j x u h1 h2 => ?_
 have h3 : acc[j]? = some u := by simpa using h2
 obtain ⟨c, tk, e1, e2⟩ := hv j u h3
 have h4 : z.cps.toList[j]? = some c := by simpa using e1
 simp only [signsV, List.getElem?_map, h4, Option.map_some, Option.some.injEq] at h1
 subst h1 e2
 exact ⟨tk, rfl⟩
theorem call_list_strR (hc : X.calm = true) : CallR X (.type "list") (fun xs H Q => ∃ z, xs = [.str z] ∧ z.length ≤ sizeLine ∧ ∀ l, H l = none → Q (.ref l) (upd H l (.lst (signsV z)))) := by
 intro pins s σ H xs us Q I r h
 obtain ⟨z, rfl, hz, q⟩ := h
 obtain ⟨u, rfl, ru⟩ := vals1 r
 obtain ⟨t, rfl⟩ := ru
 refine PySem.call_list_str (I.ok.hd hc) z t (fun h' tk acc c' hk hS hacc => ?_) hz
 refine ⟨.ref _, _, I.laid (t' := tk) (o := .lst (signsV z)) hk (Nat.le_refl _) ⟨by simpa [signsV, Str.length] using hz, acc.toList, c', signs_vals hacc, by simpa using hS⟩, rfl, q _ (I.hok.fresh (Nat.le_refl _))⟩
theorem call_tuple_strR (hc : X.calm = true) : CallR X (.type "tuple") (fun xs H Q => ∃ z, xs = [.str z] ∧ z.length ≤ sizeLine ∧ ∀ l, H l = none → Q (.ref l) (upd H l (.tup (signsV z)))) := by
 intro pins s σ H xs us Q I r h
 obtain ⟨z, rfl, hz, q⟩ := h
 obtain ⟨u, rfl, ru⟩ := vals1 r
 obtain ⟨t, rfl⟩ := ru
 refine PySem.call_tuple_str (I.ok.hd hc) z t (fun h' tk acc hk hacc => ?_) hz
 have I1 : Inv X pins σ H { s with heap := h' } := I.kept (t' := s.toks) hk
 refine ⟨.ref h'.objs.size, _, I1.laid (t' := tk) (o := .tup (signsV z)) (fun b o e => Heap.get?_push_of_some _ e) (Nat.le_refl _) ⟨by simpa [signsV, Str.length] using hz, acc.toList, signs_vals hacc, by simpa using PyProof.Rows.IsTup.new h' acc⟩, rfl, q _ (I1.hok.fresh (Nat.le_refl _))⟩
def listSD : OpNL := fun ds k => match ds with
 | [.list xs] => k xs
 | [.tuple xs] => k xs
 | [.str z] => z.length ≤ big ∧ k (signsD z)
 | _ => False
theorem o_listS (hc : X.calm = true) (hm : X.mg "list" = none) (ha : QA X C [a] tA) (hg : Gl X "list" := by rfl)
  (he : starEach [a] X.env = (false, eval a X.env) :: starEach [] X.env := by rfl) (hpl : (backTo pos (starEach [] X.env)).any (·.1) = false := by rfl) : QO X C (.Call (.Name "list" p) [a] [] pos) (dCBL listSD tA) :=
 o_callTy (call_list_of.or (call_list_strR hc)) (fun F H vs ds q Q s v w k => by
  match ds, v, w with
  | [.list xs], v, w =>
   obtain ⟨v, e, a, ys, e2, h, r⟩ := va1 v
   subst e e2
   exact .inl ⟨a, ys, rfl, .inl h, fun l hl => k _ _ l w hl r⟩
  | [.tuple xs], v, w =>
   obtain ⟨v, e, vv⟩ := va1 v
   obtain ⟨a, ys, e2, h, r, _⟩ := view_tup s vv
   subst e e2
   exact .inl ⟨a, ys, rfl, .inr h, fun l hl => k _ _ l w hl r⟩
  | [.str z], v, w =>
   obtain ⟨v, e, vv⟩ := va1 v
   rw [view_str vv] at e
   subst e
   exact .inr ⟨z, rfl, le_line w.1, fun l hl => k _ _ l w.2 hl (signs_rep z)⟩) hm (by decide +kernel) ha hg (by decide) (by decide) he hpl
def tupleSD : OpN := fun ds k => match ds with
 | [.list xs] => k (.tuple xs)
 | [.tuple xs] => k (.tuple xs)
 | [.str z] => z.length ≤ big ∧ k (.tuple (signsD z))
 | _ => False
theorem q_tupleS (hc : X.calm = true) (hm : X.mg "tuple" = none) (ha : QA X C [a] tA) (hg : Gl X "tuple" := by rfl)
  (he : starEach [a] X.env = (false, eval a X.env) :: starEach [] X.env := by rfl) (hpl : (backTo pos (starEach [] X.env)).any (·.1) = false := by rfl) : QE X C (.Call (.Name "tuple" p) [a] [] pos) (dCB tupleSD tA) :=
 q_callTy (call_tuple_of.or (call_tuple_strR hc)) (fun F H vs ds q Q s v w k => by
  match ds, v, w with
  | [.list xs], v, w =>
   obtain ⟨v, e, a, ys, e2, h, r⟩ := va1 v
   subst e e2
   refine .inl ⟨a, ys, rfl, .inl ⟨h, fun l hl => ?_⟩⟩
   have g := Gr.new (o := .tup ys) s hl
   exact k _ _ _ _ w g (.tup (SqT.of upd_same) (r.mono g.f))
  | [.tuple xs], v, w =>
   obtain ⟨v, e, vv⟩ := va1 v
   obtain ⟨a, ys, e2, h, r, rp⟩ := view_tup s vv
   subst e e2
   exact .inl ⟨a, ys, rfl, .inr ⟨h, k _ _ _ _ w (Gr.refl s) rp⟩⟩
  | [.str z], v, w =>
   obtain ⟨v, e, vv⟩ := va1 v
   rw [view_str vv] at e
   subst e
   refine .inr ⟨z, rfl, le_line w.1, fun l hl => ?_⟩
   have g := Gr.new (o := .tup (signsV z)) s hl
   exact k _ _ _ _ w.2 g (.tup (SqT.of upd_same) (signs_rep z))) hm (by decide +kernel) ha hg (by decide) (by decide) he hpl
end
def lawSp (n : Nat) (B : List Int → Prop) : SpD := fun ds q => ∃ ns : List Int, ds = [.list (ns.map .int)] ∧ ns.length ≤ n ∧ B ns ∧ q (.frz (.bool true)) [none]
theorem law_sp {K : PySem.W.Frag} {H : Hp} {a : Addr} {ns : List Int} {n : Nat} {B : List Int → Prop} (hl : ns.length ≤ n) (hB : B ns) (hS : SqL K H a (ns.map V.int)) : spOf K [false] (lawSp n B) [.ref a] H (fun v _ => v = .bl true) fun _ _ _ => False := by
 refine ⟨H, [.list (ns.map .int)], fun r _ => r = .frz (.bool true), Same.refl H, ⟨rfl, rfl, fun i v d hv hd _ => ?_, fun i _ _ _ _ z => ?_, fun i _ _ z => ?_⟩, ⟨ns, rfl, hl, hB, rfl⟩, fun r outs F' H' v hq post => ?_⟩
 ·cases i with
  | zero =>
   simp at hv hd
   subst hv hd
   exact .lst hS (repAll_ints ns)
  | succ i => simp at hv
 ·cases i <;> simp at z
 ·cases i <;> simp at z
 ·subst hq
  have := post.res
  cases (show Rep K F' v (.bool true) from this)
  rfl
end Dv
set_option Elab.async false
set_option linter.all false
set_option maxRecDepth 100000
set_option autoImplicit false
namespace Dv
open PySem PySem.Spec L2
section
variable {X : Cx} {C : FC} {P : List Bool} {a b c e o : Expr} {es : List Expr} {pos p p2 apos cpos : Pos} {ta tb tc to : DE} {k i : Nat} {tA : DA} {x : Str}
def addAD : Op2 := fun d e k => match d, e with
 | .int i, .int j => k (.int (i + j))
 | .str x, .str y => x.length + y.length ≤ big ∧ k (.str (x ++ y))
 | .tuple xs, .tuple ys => xs.length + ys.length ≤ big ∧ k (.tuple (xs ++ ys))
 | .list xs, .list ys => xs.length + ys.length ≤ big ∧ k (.list (xs ++ ys))
 | _, _ => False
theorem ok_addA : OpOk X (fun x y H Q => rAddA X.K x y H Q ∨ rCatR X.K x y H Q) addAD := fun F H x y d e q Q s v1 v2 w k => by
 by_cases h : ∃ xs ys, d = .list xs ∧ e = .list ys
 ·obtain ⟨xs, ys, e1, e2⟩ := h
  subst e1 e2
  refine .inr (ok_cat F H x y _ _ (fun g => q (.list g)) Q s v1 v2 w fun ds us p hq hp hr => ?_)
  have g := Gr.new (o := .lst us) s hp
  exact k _ _ _ _ hq g (.lst (SqL.of upd_same) (hr.mono g.f))
 ·refine .inl (ok_add F H x y d e q Q s v1 v2 ?_ k)
  cases d <;> cases e <;> first | exact w | exact w.elim | exact absurd ⟨_, _, rfl, rfl⟩ h
theorem q_addA (ha : QE X C a ta) (hb : QE X C b tb) : QE X C (.BinOp a .Add b pos) (dBin addAD ta tb) := q_bin (op_addA.or op_catR) ok_addA ha hb
def mulAD : Op2 := fun d e k => match d, e with
 | .int i, .int j => CMul i j ∧ k (.int (i * j))
 | .list xs, .int n => -(2 ^ 63) ≤ n ∧ n < 2 ^ 63 ∧ xs.length * n.toNat ≤ big ∧ k (.list (List.replicate n.toNat xs).flatten)
 | _, _ => False
theorem ok_mulA : OpOk X (fun x y H Q => rI CMul (fun i j => .int (i * j)) x y H Q ∨ rRepR X.K x y H Q) mulAD := fun F H x y d e q Q s v1 v2 w k => by
 cases d with
 | int i =>
  cases e with
  | int j => exact .inl (ok_int F H x y _ _ q Q s v1 v2 w k)
  | _ => exact w.elim
 | list xs =>
  cases e with
  | int j =>
   refine .inr (ok_rep F H x y _ _ (fun g => q (.list g)) Q s v1 v2 w fun ds us p hq hp hr => ?_)
   have g := Gr.new (o := .lst us) s hp
   exact k _ _ _ _ hq g (.lst (SqL.of upd_same) (hr.mono g.f))
  | _ => exact w.elim
 | _ => exact w.elim
theorem q_mulA (ha : QE X C a ta) (hb : QE X C b tb) : QE X C (.BinOp a .Mult b pos) (dBin mulAD ta tb) := q_bin (op_mul.or op_repR) ok_mulA ha hb
def dSlA (t : DE) (lo hi : DP) : DE := fun ρ Q => t ρ fun o ρ1 => lo ρ1 fun l ρ2 => hi ρ2 fun h ρ3 => withO ρ3 o fun d => match d with
 | .tuple ds => Q (.val (.tuple (cutD ds l h))) ρ3
 | .list ds => Q (.val (.list (cutD ds l h))) ρ3
 | .str z => z.length ≤ big ∧ Q (.val (.str (cutS z l h))) ρ3
 | _ => False
theorem q_sliceA {lo hi : Option Expr} {tl th : DP} (ha : QE X C a ta) (hl : QP X C lo tl) (hh : QP X C hi th) : QE X C (.Subscript a (.Slice lo hi none p2) pos) (dSlA ta tl th) :=
 QE.of (pe_slice (SlR.or sl_tupA (SlR.or sl_str sl_list)) ha.pe hl.po hh.po) fun σ H Q ⟨F, ρ, q, S, ht, k⟩ => by
  refine ⟨F, ρ, _, S, ht, fun o ρ1 F1 H1 v h1 S1 s1 d1 => ⟨F1, ρ1, _, S1, h1, fun l ρ2 F2 H2 h2 S2 s2 => ⟨F2, ρ2, _, S2, h2, fun u ρ3 F3 H3 h3 S3 s3 => ?_⟩⟩⟩
  have s03 := (s1.trans s2).trans s3
  obtain ⟨d, vd, w⟩ := S3.see (d1.mono (s2.trans s3)) h3
  cases d with
  | tuple ds =>
   obtain ⟨a, xs, e1, hq, r, rp⟩ := view_tup S3.sub vd
   subst e1
   refine .inl ⟨a, xs, rfl, hq, fun z => ?_, fun z p hp => ?_⟩
   ·refine k _ _ _ _ _ w S3 s03 ?_
    show Rep X.K F3 (.ref a) (.tuple (cutD ds l u))
    rw [cut_whole r z.1 z.2]; exact rp
   ·have g := Gr.new (o := .tup (cutV xs l u)) S3.sub hp
    exact k _ _ _ _ _ w (S3.grow g) (s03.trans g.f) (.tup (SqT.of upd_same) ((r.cut l u).mono g.f))
  | str z =>
   rw [view_str vd]
   exact .inr (.inl ⟨z, rfl, le_line w.1, k _ _ _ _ _ w.2 S3 s03 (.str _)⟩)
  | list ds =>
   obtain ⟨a, xs, e1, hq, r⟩ := vd
   subst e1
   refine .inr (.inr ⟨a, xs, rfl, hq, fun p hp => ?_⟩)
   have g := Gr.new (o := .lst (cutV xs l u)) S3.sub hp
   exact k _ _ _ _ _ w (S3.grow g) (s03.trans g.f) (.lst (SqL.of upd_same) ((r.cut l u).mono g.f))
  | _ => exact w.elim
end
structure FunAt (K : PySem.W.Frag) (mg : Str → Option Value) (x : Str) (st : Stmt) (ps : List Str) : Prop where
 ex : ∃ f fd, Fun K x x st f fd ∧ mg x = some (.ref f) ∧ Binds K fd ps []
structure FnAt (Pg : Program) (w : World) (K : PySem.W.Frag) (mg : Str → Option Value) (base : Heap) (k : Nat) (x : Str) (ps : List Str) (P : List Bool) (S : SpD) : Prop where
 ex : ∃ f fd, FnG Pg w K mg base k f fd ps (spOf K P S) ∧ mg x = some (.ref f) ∧ PySem.W.keepIn K (.ref f) = true ∧ Binds K fd ps []
theorem FnAt.mono {Pg : Program} {w : World} {K : PySem.W.Frag} {mg : Str → Option Value} {base : Heap} {j k : Nat} {x : Str} {ps : List Str} {P : List Bool} {S : SpD} (h : FnAt Pg w K mg base j x ps P S) (hjk : j ≤ k := by omega) : FnAt Pg w K mg base k x ps P S := by
 obtain ⟨f, fd, F, a, b, c⟩ := h.ex
 exact ⟨f, fd, F.mono hjk, a, b, c⟩
theorem FnAt.imp {Pg : Program} {w : World} {K : PySem.W.Frag} {mg : Str → Option Value} {base : Heap} {k : Nat} {x : Str} {ps : List Str} {P : List Bool} {S S' : SpD} (h : FnAt Pg w K mg base k x ps P S) (hi : ∀ ds q, S' ds q → S ds q) : FnAt Pg w K mg base k x ps P S' := by
 obtain ⟨f, fd, F, a, b, c⟩ := h.ex
 exact ⟨f, fd, F.imp fun {vs H Q E} ⟨F1, ds, q, s, A, hS, kk⟩ => ⟨F1, ds, q, s, A, hi ds q hS, kk⟩, a, b, c⟩
theorem fn_at {Pg : Program} {w : World} {K : PySem.W.Frag} {mg : Str → Option Value} {base : Heap} {x : Str} {st : Stmt} {N ps : List Str} {k : Nat} {P : List Bool} {S : SpD} {g : DS}
  (FA : FunAt K mg x st ps) (Sc : FnScope N ps (defScope st)) (hl : P.length = ps.length) (hN : ps.length ≤ N.length)
  (der : ∀ (f : Addr) (cdv : Value) (A : Around) (outer : List Env) (s : Shared) (H : Hp) (E : XK) (C : FC), RG k (A.deeper (PyProof.Rows.envOfC x (defScope st) s.heap.objs.size f cdv)) → C.Tags P → QSs (cxOf CX0 Pg w K mg base N x (defScope st) f cdv A outer s H E).nox C (defBody st) g)
  (pure : ∀ ds q, S ds q → ds.length = P.length → g (endsOf P q) (startE N.length P ds)) : FnAt Pg w K mg base (k + 1) x ps P S := by
 obtain ⟨f, fd, F, hm, hb⟩ := FA.ex
 exact ⟨f, fd, fn_ok F Sc hl hN (fun cdv A outer s H E C hr hP => der f cdv A outer s H E C hr hP) pure, hm, F.kp, hb⟩
section
variable {X : Cx} {C : FC} {P ts : List Bool} {S : SpD} {ta : DA} {k : Nat} {ps : List Str} {x : Str} {p pos : Pos} {e : Expr} {es : List Expr}
theorem q_callF (hP : C.Tags P) (h : FnAt X.prog X.w X.K X.mg X.base k x ps ts S) (hr : RG k X.A) (ha : QA X C (e :: es) ta) (hg : Gl X x := by rfl) (hdb : (x == ("__debug__" : Str)) = false := by decide) (he : starEach (e :: es) X.env = (false, eval e X.env) :: starEach es X.env := by rfl) (hpl : (backTo pos (starEach es X.env)).any (·.1) = false := by rfl) :
  QE X C (.Call (.Name x p) (e :: es) [] pos) (dCall P ts S ta) := by
 obtain ⟨f, fd, F, a, b, c⟩ := h.ex
 exact q_call hP F hr a b c ha hg hdb he hpl
theorem o_callF (hP : C.Tags P) (h : FnAt X.prog X.w X.K X.mg X.base k x ps ts S) (hr : RG k X.A) (ha : QA X C (e :: es) ta) (hg : Gl X x := by rfl) (hdb : (x == ("__debug__" : Str)) = false := by decide) (he : starEach (e :: es) X.env = (false, eval e X.env) :: starEach es X.env := by rfl) (hpl : (backTo pos (starEach es X.env)).any (·.1) = false := by rfl) :
  QO X C (.Call (.Name x p) (e :: es) [] pos) (dCallO P ts S ta) := by
 obtain ⟨f, fd, F, a, b, c⟩ := h.ex
 exact o_call hP F hr a b c ha hg hdb he hpl
theorem q_gint' {v : Int} {C : FC} (hm : ∃ t, X.mg x = some (.int v t)) (hg : Gl X x := by rfl) (hd : (x == ("__debug__" : Str)) = false := by decide) : QE X C (.Name x pos) (dC (.int v)) := let ⟨_, h⟩ := hm; q_gint h hg hd
end
end Dv
set_option Elab.async false
set_option linter.all false
set_option maxRecDepth 100000
set_option autoImplicit false
namespace Dv
open PySem PySem.Spec L2
theorem by2_i {c : Bool} {a b : Prop} (h1 : c = true → a) (h2 : c = false → b) : by2 c a b := by
 cases c with
 | true => exact h1 rfl
 | false => exact h2 rfl
theorem by2_d {p : Prop} [Decidable p] {a b : Prop} (h1 : p → a) (h2 : ¬ p → b) : by2 (decide p) a b := by2_i (fun h => h1 (of_decide_eq_true h)) fun h => h2 (of_decide_eq_false h)
theorem by2_nd {p : Prop} [Decidable p] {a b : Prop} (h1 : ¬ p → a) (h2 : p → b) : by2 (!decide p) a b := by
 by_cases h : p
 ·rw [decide_eq_true h]; exact h2 h
 ·rw [decide_eq_false h]; exact h1 h
theorem tle {n m : Nat} (h : Nat.ble n m = true := by rfl) : n ≤ m := Nat.le_of_ble_eq_true h
def turnE (P : List Bool) (g : DG) (tt : DT) (te : DE) (vs : List Nat) (ρ : DEnv) (d : PyData) (yes : PyData → DEnv → Prop) (no : DEnv → Prop) : Prop :=
 g d (wipeE ρ vs) fun ρ2 => tt ρ2 fun b ρ3 => by2 b (te ρ3 fun o ρ4 => share P ρ4 o fun e ρ5 => yes e (restE ρ5 ρ vs)) (no (restE ρ3 ρ vs))
theorem lc_turn {P : List Bool} {g : DG} {tt : DT} {te : DE} {vs : List Nat} {Q : PyData → DEnv → Prop} {d : PyData} {ds acc : List PyData} {ρ : DEnv}
  (h : turnE P g tt te vs ρ d (fun e ρ' => acc.length < big ∧ dLcL P g tt te vs Q ds (acc ++ [e]) ρ') (fun ρ' => dLcL P g tt te vs Q ds acc ρ')) : dLcL P g tt te vs Q (d :: ds) acc ρ := h
theorem lc_filterMap {P : List Bool} {g : DG} {tt : DT} {te : DE} {vs : List Nat} {Q : PyData → DEnv → Prop} {ρ : DEnv} (f : PyData → Option PyData) : ∀ {ds acc : List PyData},
  (∀ d ∈ ds, ∀ (yes : PyData → DEnv → Prop) (no : DEnv → Prop), (∀ e, f d = some e → yes e ρ) → (f d = none → no ρ) → turnE P g tt te vs ρ d yes no) → acc.length + ds.length ≤ big → Q (.list (acc ++ ds.filterMap f)) ρ → dLcL P g tt te vs Q ds acc ρ
 | [], acc, _, _, hq => by rw [List.filterMap_nil, List.append_nil] at hq; exact hq
 | d :: ds, acc, h, hl, hq => by
  rw [List.length_cons] at hl
  refine lc_turn (h d List.mem_cons_self _ _ (fun e he => ⟨by omega, lc_filterMap f (fun d' hd => h d' (List.mem_cons_of_mem _ hd)) (by rw [List.length_append, List.length_singleton]; omega) ?_⟩) (fun he => lc_filterMap f (fun d' hd => h d' (List.mem_cons_of_mem _ hd)) (by omega) ?_))
  ·rw [List.filterMap_cons, he] at hq
   rw [List.append_assoc]; exact hq
  ·rw [List.filterMap_cons, he] at hq
   exact hq
theorem lc_map {P : List Bool} {g : DG} {tt : DT} {te : DE} {vs : List Nat} {Q : PyData → DEnv → Prop} {ρ : DEnv} (f : PyData → PyData) {ds : List PyData}
  (h : ∀ d ∈ ds, ∀ (yes : PyData → DEnv → Prop) (no : DEnv → Prop), yes (f d) ρ → turnE P g tt te vs ρ d yes no) (hl : ds.length ≤ big) (hq : Q (.list (ds.map f)) ρ) : dLcL P g tt te vs Q ds [] ρ := by
 refine lc_filterMap (fun d => some (f d)) (fun d hd yes no h1 _ => h d hd yes no (h1 _ rfl)) (by simpa using hl) ?_
 rw [List.nil_append, List.filterMap_eq_map']
 exact hq
theorem loop_inv {g : DG} {b : DS} {E : DEnds} (I : List PyData → DEnv → Prop) : ∀ {ds : List PyData} {ρ : DEnv},
  (∀ (d : PyData) (ds : List PyData) (ρ : DEnv) (nx : DEnv → Prop), I (d :: ds) ρ → (∀ ρ', I ds ρ' → nx ρ') → g d ρ fun ρ1 => b { E with nx := nx, ct := nx, bk := E.nx } ρ1) → I ds ρ → (∀ ρ', I [] ρ' → E.nx ρ') → dLoop g b E ds ρ
 | [], ρ, _, hI, hq => hq ρ hI
 | d :: ds, ρ, h, hI, hq => h d ds ρ _ hI fun ρ' hI' => loop_inv I h hI' hq
end Dv
set_option Elab.async false
set_option linter.all false
set_option maxRecDepth 100000
set_option autoImplicit false
namespace Dv
open PySem PySem.Spec L2
theorem codes_app (x y : Str) : (x ++ y).cps.toList = x.cps.toList ++ y.cps.toList := by
 show (Array.append x.cps y.cps).toList = _
 simp
theorem len_codes (x : Str) : x.length = x.cps.toList.length := by simp [Str.length]
theorem len_app (x y : Str) : (x ++ y).length = x.length + y.length := by rw [len_codes, codes_app, List.length_append, ← len_codes, ← len_codes]
theorem join_codes (ys : List Str) : (Txt.join "" ys).cps.toList = (ys.map fun y => y.cps.toList).flatten := by
 rw [show Txt.join "" ys = Str.join "" ys from PySem.StrLaws.glued_eq_join _ _]
 induction ys with
 | nil => decide
 | cons y ys ih =>
  cases ys with
  | nil => simp [Str.join]
  | cons z zs =>
   have e : Str.join "" (y :: z :: zs) = y ++ "" ++ Str.join "" (z :: zs) := rfl
   rw [e, codes_app, codes_app, ih]
   have e0 : (("" : Str)).cps.toList = [] := by decide
   rw [e0]
   simp
theorem join_signs (cs : List Nat) : (Txt.join "" (cs.map fun c => (⟨#[c]⟩ : Str))).cps.toList = cs := by
 rw [join_codes, List.map_map]
 induction cs with
 | nil => rfl
 | cons c cs ih => rw [List.map_cons, List.flatten_cons, ih]; rfl
theorem sum_signs (cs : List Nat) : ((cs.map fun c => (⟨#[c]⟩ : Str)).map fun x => x.length).sum = cs.length := by
 induction cs with
 | nil => rfl
 | cons c cs ih =>
  rw [List.map_cons, List.map_cons, List.sum_cons, ih, List.length_cons]
  show 1 + cs.length = cs.length + 1
  omega
structure Tx (n : Nat) (x : Str) : Prop where
 len : x.length ≤ n
 ok : ∀ c ∈ x.cps.toList, c < 0x110000
theorem Tx.mono {m n : Nat} {x : Str} (h : Tx m x) (hmn : m ≤ n) : Tx n x := ⟨Nat.le_trans h.len hmn, h.ok⟩
theorem Tx.app {m n : Nat} {x y : Str} (h : Tx m x) (h2 : Tx n y) : Tx (m + n) (x ++ y) := ⟨by rw [len_app]; exact Nat.add_le_add h.len h2.len, fun c hc => by
 rw [codes_app] at hc
 rcases List.mem_append.mp hc with z | z
 ·exact h.ok c z
 ·exact h2.ok c z⟩
theorem Tx.lit {n : Nat} {x : Str} (h : (decide (x.length ≤ n) && x.cps.toList.all fun c => decide (c < 0x110000)) = true) : Tx n x := by
 simp only [Bool.and_eq_true, decide_eq_true_eq, List.all_eq_true] at h
 exact ⟨h.1, h.2⟩
theorem Tx.strOk {n : Nat} {x : Str} (h : Tx n x) : PyData.strOk x = true := by
 unfold PyData.strOk
 rw [Array.all_eq_true']
 intro c hc
 exact decide_eq_true (h.ok c (by simpa using hc))
theorem canAll_iff : ∀ {ds : List PyData}, PyData.canLayAll0 ds = true ↔ ∀ d ∈ ds, PyData.canLay0 d = true
 | [] => by simp [PyData.canLayAll0]
 | d :: ds => by simp [PyData.canLayAll0, canAll_iff]
theorem depthAll_le : ∀ {ds : List PyData} {n : Nat}, PyData.depthAll ds ≤ n ↔ ∀ d ∈ ds, PyData.depth d ≤ n
 | [], n => by simp [PyData.depthAll]
 | d :: ds, n => by simp [PyData.depthAll, Nat.max_le, depthAll_le]
structure Shp (n : Nat) (d : PyData) : Prop where
 can : PyData.canLay0 d = true
 dep : PyData.depth d ≤ n
theorem Shp.shp {n : Nat} {d : PyData} (h : Shp n d) (hn : n ≤ 64 := by decide) : shp d := by
 unfold Dv.shp SeqAt.shaped
 rw [h.can, decide_eq_true (Nat.le_trans h.dep hn)]
 rfl
theorem Shp.mono {m n : Nat} {d : PyData} (h : Shp m d) (hmn : m ≤ n := by omega) : Shp n d := ⟨h.can, Nat.le_trans h.dep hmn⟩
theorem Shp.none : Shp 0 .none := ⟨rfl, by simp [PyData.depth]⟩
theorem Shp.bool (b : Bool) : Shp 0 (.bool b) := ⟨rfl, by simp [PyData.depth]⟩
theorem Shp.int (b : Int) : Shp 0 (.int b) := ⟨rfl, by simp [PyData.depth]⟩
theorem Shp.str {n : Nat} {x : Str} (h : Tx n x) : Shp 0 (.str x) := ⟨by simp [PyData.canLay0, h.strOk], by simp [PyData.depth]⟩
theorem Shp.list {n : Nat} {ds : List PyData} (h : ∀ d ∈ ds, Shp n d) : Shp (n + 1) (.list ds) :=
 ⟨by simp only [PyData.canLay0]; exact canAll_iff.mpr fun d hd => (h d hd).can, by simp only [PyData.depth]; exact Nat.succ_le_succ (depthAll_le.mpr fun d hd => (h d hd).dep)⟩
theorem Shp.tuple {n : Nat} {ds : List PyData} (h : ∀ d ∈ ds, Shp n d) : Shp (n + 1) (.tuple ds) :=
 ⟨by simp only [PyData.canLay0]; exact canAll_iff.mpr fun d hd => (h d hd).can, by simp only [PyData.depth]; exact Nat.succ_le_succ (depthAll_le.mpr fun d hd => (h d hd).dep)⟩
end Dv
set_option linter.all false
namespace Dv
open PySem PySem.Spec L2
theorem funAt_mk {K : PySem.W.Frag} {h : Heap} {mg : Str → Option Value} {x : Str} {st : Stmt} {ps : List Str} (X : K.In h) (G : h.Ns mainGlobals mg)
  (hb : ∀ (kV doc pm : Value) (an : Option Addr) (cdv ct : Value) (us : List Value), us.length = ps.length → bindArgs (PySem.W.fnOf x x (defArgs st) (defBody st) (defScope st) .none kV doc pm an cdv ct) ⟨us, []⟩ = pure (ps.zip us))
  {f : Addr} {oc : Value} {od an : Option Addr} {osl : Array (Option Value)} {kV doc pm cdv ct : Value}
  (a : PySem.W.nsIn K mainGlobals x = some (some (.ref f)))
  (l : K.lookup f = some ⟨oc, od, .func (PySem.W.fnOf x x (defArgs st) (defBody st) (defScope st) .none kV doc pm an cdv ct), osl⟩)
  (c : PySem.W.codeIn K cdv x = true) (k : PySem.W.keepIn K (.ref f) = true) : FunAt K mg x st ps :=
 ⟨_, _, fun_mk l c k, PySem.W.mg_of X G a, (fun_mk l c k).binds hb⟩
theorem with_fun {C : Prop} {K : PySem.W.Frag} {h : Heap} {mg : Str → Option Value} {x : Str} {st : Stmt} {ps : List Str} (X : K.In h) (G : h.Ns mainGlobals mg)
  (hb : ∀ (kV doc pm : Value) (an : Option Addr) (cdv ct : Value) (us : List Value), us.length = ps.length → bindArgs (PySem.W.fnOf x x (defArgs st) (defBody st) (defScope st) .none kV doc pm an cdv ct) ⟨us, []⟩ = pure (ps.zip us))
  {f : Addr} {oc : Value} {od an : Option Addr} {osl : Array (Option Value)} {kV doc pm cdv ct : Value}
  (a : PySem.W.nsIn K mainGlobals x = some (some (.ref f)))
  (l : K.lookup f = some ⟨oc, od, .func (PySem.W.fnOf x x (defArgs st) (defBody st) (defScope st) .none kV doc pm an cdv ct), osl⟩)
  (c : PySem.W.codeIn K cdv x = true) (k : PySem.W.keepIn K (.ref f) = true) (go : FunAt K mg x st ps → C) : C := go (funAt_mk X G hb a l c k)
theorem gint_mk {K : PySem.W.Frag} {h : Heap} {mg : Str → Option Value} {x : Str} {z : Int} {t : Tok} (X : K.In h) (G : h.Ns mainGlobals mg) (a : PySem.W.nsIn K mainGlobals x = some (some (.int z t))) : ∃ t, mg x = some (.int z t) := ⟨t, PySem.W.mg_of X G a⟩
theorem law_mk {K : PySem.W.Frag} {h : Heap} {mg : Str → Option Value} {y : Str} {st : Stmt} {fa : Addr} (X : K.In h) (G : h.Ns mainGlobals mg) (hfa : mg "law" = some (.ref fa))
  {pg : Program} {w : World} {lv : Nat} {S : SpD}
  (ok : ∀ (base : Heap) (f : Addr) (fd : FuncData), Fun K "law" "law" st f fd → FnG pg w K mg base lv f fd [y] (spOf K [false] S))
  (hb : ∀ (kV doc pm : Value) (an : Option Addr) (cdv ct : Value) (s : Shared) (v : Value), BindsTo s (PySem.W.fnOf "law" "law" (defArgs st) (defBody st) (defScope st) .none kV doc pm an cdv ct) ⟨[v], []⟩ [(y, v)])
  {f : Addr} {oc : Value} {od an : Option Addr} {osl : Array (Option Value)} {kV doc pm cdv ct : Value}
  (a : PySem.W.nsIn K mainGlobals "law" = some (some (.ref f)))
  (l : K.lookup f = some ⟨oc, od, .func (PySem.W.fnOf "law" "law" (defArgs st) (defBody st) (defScope st) .none kV doc pm an cdv ct), osl⟩)
  (c : PySem.W.codeIn K cdv "law" = true) (k : PySem.W.keepIn K (.ref f) = true) :
  ∃ fd : FuncData, (∀ (s : Shared) (v : Value), BindsTo s fd ⟨[v], []⟩ [(y, v)]) ∧ ∀ base : Heap, K.In base → base.Ns mainGlobals mg → FnG pg w K mg base lv fa fd [y] (spOf K [false] S) := by
 have e := hfa.symm.trans (PySem.W.mg_of X G a)
 cases e
 exact ⟨_, fun s v => hb kV doc pm an cdv ct s v, fun base _ _ => ok base _ _ (fun_mk l c k)⟩
end Dv
set_option Elab.async false
set_option linter.all false
set_option maxRecDepth 100000
namespace Dv
open PySem PySem.Spec PyProof.Rows L2
def keyV : Value → Key
 | .int i _ => .inl i
 | .str x _ => .inr x
 | _ => .inl 0
theorem keyV_is {k : Key} {v : Value} (h : keyIs k v = true) : keyV v = k := by
 rcases keyIs_shape h with ⟨i, t, e1, e2⟩ | ⟨x, t, e1, e2⟩ <;> rw [e1, e2] <;> rfl
theorem key_scans {k : Key} {v : Value} (h : keyIs k v = true) : v.scannable = true := by
 rcases keyIs_shape h with ⟨i, t, e1, e2⟩ | ⟨x, t, e1, e2⟩ <;> rw [e2] <;> rfl
def Ent (w : World) (e : Int × Value) : Prop := keyIs (keyV e.2) e.2 = true ∧ e.1 = keyH w (keyV e.2)
def keysE (es : List (Int × Value)) : List Key := es.map fun e => keyV e.2
structure Rolls (w : World) (es : Array (Int × Value)) (t : SetTable) : Prop where
 few : es.size < scanBound
 fit : t.fits es.size = true
 ris : Ris t.place.toList
 led : w.params.followText "set-order" = true ∨ t.led = true
structure SetM (w : World) (h : Heap) (a : Addr) (ks : List Key) : Prop where
 ex : ∃ o es ep t, h.get? a = some o ∧ o.ExactSet ∧ o.data = .set es ep t ∧ (∀ e ∈ es.toList, Ent w e) ∧ keysE es.toList = ks ∧ Rolls w es t
 nd : ks.Nodup
section
variable {P : Program} {w : World} {A : Around} {E : Value → Shared → Prop} {s : Shared} {a : Addr} {ks : List Key}
theorem SetM.keep {h h' : Heap} (R : SetM w h a ks) (k : ∀ o, h.get? a = some o → h'.get? a = some o) : SetM w h' a ks :=
 let ⟨o, es, ep, t, h1, r⟩ := R.ex
 ⟨⟨o, es, ep, t, k o h1, r⟩, R.nd⟩
theorem ent_elems {es : List (Int × Value)} (g : ∀ e ∈ es, Ent w e) : ElemsOf (mixKind P w) es := fun e he => ⟨⟨keyV e.2, (g e he).1, (g e he).2⟩, key_scans (g e he).1⟩
theorem set_room {o : Obj} {es es1 : Array (Int × Value)} {ep : Nat} {t t1 : SetTable} (ho : s.heap.get? a = some o) (hx : o.ExactSet) (hd : o.data = .set es ep t) (g : ∀ e ∈ es1.toList, Ent w e) (nd : (keysE es1.toList).Nodup) (r : Rolls w es1 t1)
  {more : Bool} {Q : Option Bool → Shared → Prop} {note : Bool → Sem Unit} (hnote : ∀ (b : Bool) (s1 : Shared) (Q1 : Unit → Shared → Prop), Q1 () s1 → wpAny (model P w) A (note b) Q1 E s1)
  (k : ∀ h' ks', Heap.SameBut a s.heap h' → ks'.Perm (keysE es1.toList) → SetM w h' a ks' → Q (some true) { s with heap := h' }) :
  wpAny (model P w) A (do
   storeSet a es1 t1
   if more = true then do
     note (relayAll t1 es1 (SetTable.grown es1.size)).2.2
     storeSet a (relayAll t1 es1 (SetTable.grown es1.size)).1 (relayAll t1 es1 (SetTable.grown es1.size)).2.1
     pure (some true)
    else pure (some true)) Q E s := by
 have st := store_at (es' := es1) (t' := t1) ho hd
 have b1 := Heap.SameBut.update s.heap a (Obj.putSet es1 t1)
 refine wpAny_bind (wpAny_storeSet_of ho hd ?_ (fits_of_scanBound r.few))
 cases more with
 | false => exact wpAny_pure (k _ _ b1 (.refl _) ⟨⟨_, es1, _, t1, st, hx, rfl, g, rfl, r⟩, nd⟩)
 | true =>
  have p1 := relayAll_perm t1 es1 (SetTable.grown es1.size)
  have p2 := relayAll_fits t1 es1 (SetTable.grown es1.size)
  have p3 := relayAll_ris t1 es1 (SetTable.grown es1.size)
  have p4 := relayAll_led t1 es1 (SetTable.grown es1.size)
  revert p1 p2 p3 p4
  rcases relayAll t1 es1 (SetTable.grown es1.size) with ⟨es2, t2, b⟩
  intro p1 p2 p3 p4
  have e2 : es2.size = es1.size := by simpa using p1.length_eq
  have pk : (keysE es2.toList).Perm (keysE es1.toList) := p1.map _
  refine wpAny_bind (hnote _ _ _ (wpAny_bind (wpAny_storeSet_of st rfl ?_ (by rw [e2]; exact fits_of_scanBound r.few))))
  exact wpAny_pure (k _ _ (b1.trans (Heap.SameBut.update _ a _)) pk ⟨⟨_, es2, _, t2, store_at (es' := es2) (t' := t2) st rfl, hx, rfl, fun e he => g e (p1.mem_iff.mp he), rfl,
   ⟨by rw [e2]; exact r.few, p2, p3, r.led.imp id fun z => p4.trans z⟩⟩, pk.nodup_iff.mpr nd⟩)
theorem keysE_iff {es : List (Int × Value)} (g : ∀ e ∈ es, Ent w e) (k : Key) : k ∈ keysE es ↔ ∃ e ∈ es, keyIs k e.2 = true := by
 unfold keysE
 rw [List.mem_map]
 exact ⟨fun ⟨e, he, q⟩ => ⟨e, he, q ▸ (g e he).1⟩, fun ⟨e, he, q⟩ => ⟨e, he, keyV_is q⟩⟩
theorem set_more {k : Key} {v : Value} {Q : Bool → Shared → Prop} (R : SetM w s.heap a ks) (hk : keyIs k v = true) (room : ks.length + 1 < scanBound)
  (q : ∀ b h' ks', Heap.SameBut a s.heap h' → (∀ j, j ∈ ks' ↔ j = k ∨ j ∈ ks) → ks'.length ≤ ks.length + 1 → SetM w h' a ks' → Q b { s with heap := h' }) :
  wpAny (model P w) A (setAddHashed a v (keyH w k)) Q E s := by
 obtain ⟨⟨o, es, ep, t, ho, hx, hd, g, ek, r⟩, nd⟩ := R
 have el : ElemsOf (mixKind P w) es.toList := ent_elems g
 have hk' : (mixKind P w).is k v = true := hk
 have sc := key_scans hk
 show wpAny (model P w) A (setAddHashed a v ((mixKind P w).hash k)) Q E s
 unfold setAddHashed setAddHashedIn
 refine wpAny_holding <| wpAny_bind <| wpAny_setState_of ho hd r.fit ?_
 simp only [byScan_of sc r.few el, if_true]
 unfold setAddByScan
 refine wpAny_bind <| wpAny_bind <| wpAny_rule <| wpAny_bind <| wpAny_setScan_of hk' ho hd r.fit el ?_
 rcases fi : es.toList.findIdx? (fun e => (mixKind P w).is k e.2) with - | j
 ·have no : k ∉ ks := fun z => by
   rw [← ek, keysE_iff g] at z
   obtain ⟨e, he, z⟩ := z
   have := List.findIdx?_eq_none_iff.mp fi e he
   exact absurd (this.symm.trans z) (by decide)
  have p1 := layNew_perm t es ((mixKind P w).hash k) v
  have p2 := layNew_fits t es ((mixKind P w).hash k) v
  have p3 := layNew_ris t es ((mixKind P w).hash k) v r.ris
  have p4 := layNew_led t es ((mixKind P w).hash k) v
  rw [fi]
  revert p1 p2 p3 p4
  dsimp only
  rcases layNew t es ((mixKind P w).hash k) v with ⟨es1, t1, dm, gv⟩
  intro p1 p2 p3 p4
  rw [Array.toList_push] at p1
  have p1 := p1.trans (List.perm_append_singleton _ _)
  have pk : (keysE es1.toList).Perm (k :: ks) := by
   have z : (keysE es1.toList).Perm (keysE (((mixKind P w).hash k, v) :: es.toList)) := p1.map _
   rw [← ek]
   refine z.trans ?_
   show (keyV v :: keysE es.toList).Perm _
   rw [keyV_is hk]
  have g1 : ∀ e ∈ es1.toList, Ent w e := fun e he => by
   rcases List.mem_cons.mp (p1.mem_iff.mp he) with z | z
   ·subst z
    refine ⟨?_, ?_⟩
    ·show keyIs (keyV v) v = true
     rw [keyV_is hk]; exact hk
    ·show keyH w k = keyH w (keyV v)
     rw [keyV_is hk]
   ·exact g e z
  have lk : ks.length = es.size := by rw [← ek]; simp [keysE]
  have e1 : es1.size = es.size + 1 := by simpa using p1.length_eq
  have r1 : Rolls w es1 t1 := ⟨by omega, p2, p3, r.led.imp id fun z => p4.trans z⟩
  have nd1 : (keysE es1.toList).Nodup := pk.nodup_iff.mpr (List.nodup_cons.mpr ⟨no, nd⟩)
  have fin : ∀ b h' ks', Heap.SameBut a s.heap h' → ks'.Perm (keysE es1.toList) → SetM w h' a ks' → Q b { s with heap := h' } := fun b h' ks' sb pp R' => q b h' ks' sb (fun j => (pp.trans pk).mem_iff.trans List.mem_cons) (by rw [(pp.trans pk).length_eq]; exact Nat.le_refl _) R'
  dsimp only
  rw [hashByValue_scannable 8 sc]
  have r2 : ∀ b : Bool, Rolls w es1 (if b = true then t1 else { t1 with plain := false }) := fun b => by
   cases b
   ·exact ⟨r1.few, SetTable.fits_plain_off r1.fit, r1.ris, r1.led⟩
   ·exact r1
  refine wpAny_bind ?_
  have note : ∀ (b : Bool) (s1 : Shared) (Q1 : Unit → Shared → Prop), Q1 () s1 → wpAny (model P w) A (match b with | true => rule "set.scan.the-table-gave-way" | false => pure ()) Q1 E s1 := fun b s1 Q1 z => by
   cases b
   ·exact wpAny_pure z
   ·exact wpAny_rule z
  refine note gv _ _ ?_
  split
  ·refine wpAny_bind (wpAny_pure ?_)
   exact set_room ho hx hd g1 nd1 (r2 _) note fun h' ks' sb pp R' => wpAny_pure (fin _ h' ks' sb pp R')
  ·refine wpAny_bind (wpAny_pure ?_)
   exact set_room ho hx hd g1 nd1 r1 note fun h' ks' sb pp R' => wpAny_pure (fin _ h' ks' sb pp R')
 ·obtain ⟨hj, pj, _⟩ := List.findIdx?_eq_some_iff_getElem.mp fi
  rw [fi]
  have yes : k ∈ ks := by rw [← ek, keysE_iff g]; exact ⟨_, List.getElem_mem hj, pj⟩
  exact wpAny_pure (wpAny_pure (q _ s.heap ks (Heap.SameBut.refl a s.heap) (fun j => ⟨.inr, fun z => z.elim (fun e => e ▸ yes) id⟩) (Nat.le_succ _) ⟨⟨o, es, ep, t, ho, hx, hd, g, ek, r⟩, nd⟩))
theorem set_fill {I S : Addr} {fp wr : List Addr} {G : Array GenState → Array GenState → Prop} {Pv : Nat → Value → Prop} {St : Nat → Shared → Prop} {R : Result → Shared → Prop} (all : List Key)
  (W : WalksS P w A.in1 I fp wr G all.length Pv St) (off : S ∉ fp) (few : all.length + 1 < scanBound) (val : ∀ i v, Pv i v → ∃ k, all[i]? = some k ∧ keyIs k v = true) :
  ∀ (m i : Nat) (s : Shared) (had : List Key), all.length - i = m → i ≤ all.length → St i s → had.length ≤ i → (∀ j, j ∈ had ↔ j ∈ all.take i) → SetM w s.heap S had →
   (∀ s' had, Moved (S :: wr) G s s' → had.length ≤ all.length → (∀ j, j ∈ had ↔ j ∈ all) → SetM w s'.heap S had → R (.ok (.ret .none)) s') →
   codeAny (model P w) A (.builtin "set.update.loop" ⟨[.ref S, .ref I], []⟩) R s := by
 have offw : S ∉ wr := fun z => off (W.sub _ z)
 have up : ∀ b ∈ wr, b ∈ S :: wr := fun b => List.mem_cons_of_mem _
 intro m
 induction m with
 | zero =>
  intro i s had hm hi hst hl hj hS k
  refine codeAny_builtin F.entry_set_update_loop (Around.under_plainId F.plain_set_update_loop _ ▸ ?_)
  refine wpAny_bind (W.done s _ _ (by rw [show all.length = i by omega]; exact hst) fun s' mv => wpAny_pure ?_)
  exact k s' had (mv.mono up) (by omega) (fun j => (hj j).trans (by rw [List.take_of_length_le (by omega)])) (hS.keep fun o e => mv.heap S o offw e)
 | succ m ih =>
  intro i s had hm hi hst hl hj hS k
  refine codeAny_builtin F.entry_set_update_loop (Around.under_plainId F.plain_set_update_loop _ ▸ ?_)
  refine wpAny_bind (W.item i s _ _ (by omega) hst fun v s' pv st' mv => ?_)
  obtain ⟨c, hc, hv⟩ := val i v pv
  refine wpAny_bind (wpAny_holding ?_)
  unfold setAdd
  refine wpAny_holding (wpAny_bind ((mixKind P w).pyHash (k := c) hv ?_))
  refine set_more (s := { s' with toks := s'.toks + 1 }) (hS.keep fun o e => mv.heap S o offw e) hv (by omega) fun b h' had' sb hj' hl' hS' => ?_
  refine wpAny_pure ⟨plainId_quiet F.plain_set_update_loop _, ih (i + 1) _ had' (by omega) (by omega) (W.frame _ s' _ _ st' (Nat.le_succ _) fun b hb o e => ?_) (by omega) (fun j => ?_) hS' fun s2 had2 mv2 hl2 hj2 hS2 => ?_⟩
  ·rw [sb.2 b (fun z => off (z ▸ hb))]
   exact e
  ·rw [hj', hj, List.take_add_one, hc]
   simp [or_comm]
  ·refine k s2 had2 (Moved.trans W.gtrans ((mv.mono up).then_heap (Nat.le_succ _) fun b o hb e => ?_) mv2) hl2 hj2 hS2
   rw [sb.2 b (fun z => hb (z ▸ List.mem_cons_self))]
   exact e
def set0 (w : World) : Obj := { cls := .type "set", dict := none, data := .set #[] 0 (.fresh 0 0 (!w.params.followText "set-order")) }
theorem set0_is {h : Heap} (e : h.get? a = some (set0 w)) : SetM w h a [] :=
 ⟨⟨_, #[], 0, _, e, ⟨rfl, rfl, rfl⟩, rfl, (fun _ z => absurd z (by simp)), rfl, ⟨by decide, rfl, List.Pairwise.nil, by
  show _ ∨ (!w.params.followText "set-order") = true
  cases w.params.followText "set-order" <;> simp⟩⟩, List.nodup_nil⟩
theorem wants_is {Q : Value → Shared → Prop} {r : Result} (h : wants Q E r s) : (∃ v, r = .ok (.ret v) ∧ Q v s) ∨ ∃ e, r = .error e ∧ E e s := by
 rcases r with e | f
 ·exact .inr ⟨e, rfl, h⟩
 ·cases f <;> first | exact .inl ⟨_, rfl, h⟩ | exact h.elim
abbrev FinsW (P : Program) (w : World) (A : Around) (R : Result → Shared → Prop) : Fin → Shared → Prop := fun fin s' => match fin with
 | .done f => R (.ok f) s'
 | .again c => c.quiet = true ∧ codeAny (model P w) A c R s'
def SetLeft (w : World) (s : Shared) (all : List Key) (s' : Shared) : Prop := ∃ h' tk had, s' = { s with heap := h', toks := tk } ∧ had.length ≤ all.length ∧ (∀ j, j ∈ had ↔ j ∈ all) ∧ SetM w h' s.heap.objs.size had ∧ ∀ b o, s.heap.get? b = some o → h'.get? b = some o
theorem set_by {l : Addr} {Q : Value → Shared → Prop} {all : List Key}
  (inside : wpAny (model P w) A.in1.in1 (Builtin.«set.__init__» ⟨[.ref s.heap.objs.size, .ref l], []⟩) (FinsW P w A.in1 (wants (fun r s2 => r = .none ∧ SetLeft w s all s2) E)) (fun e s' => wants (fun r s2 => r = .none ∧ SetLeft w s all s2) E (.error e) s') { s with heap := s.heap.push (set0 w) })
  (k : ∀ s', SetLeft w s all s' → Q (.ref s.heap.objs.size) s') :
  wpAny (model P w) A (call (.type "set") [.ref l]) Q E s := by
 obtain ⟨c, tl, hmro⟩ := F.called_set.mro
 have f1 := F.called_set.made
 have f2 := F.called_set.sub
 refine wpAny_call (codeAny_of_tree (wpAny_pure ⟨Code.quiet_builtin _ (by decide +kernel), codeAny_builtin F.entry_type_call ?_⟩))
 rw [Around.under_plain (weight_type_call_type "set" [.ref l] []) rfl]
 have f3 := F.called_set.notType
 have f4 := F.called_set.canCreate
 have f5 := F.typeCall_set_1 (.ref l)
 repeat (any_goals (first | assumption | wp_step))
 refine codeAny_mono (code_set_led1 (.ref l) (E := E) (Q₁ := fun ob s1 => ob = .ref s.heap.objs.size ∧ s1 = { s with heap := s.heap.push (set0 w) }) ⟨rfl, rfl⟩) fun r s1 hr => ?_
 rcases wants_is hr with ⟨ob, rfl, rfl, rfl⟩ | ⟨e, rfl, he⟩
 ·have g0 : (s.heap.push (set0 w)).get? s.heap.objs.size = some (set0 w) := Heap.get?_push_size _ rfl
  have ty : Shared.TypeIs { s with heap := s.heap.push (set0 w) } (.ref s.heap.objs.size) "set" := ⟨_, g0, rfl⟩
  have f6 := F.called_set.init.lookup
  have f7 := F.called_set.init.bind (.ref s.heap.objs.size)
  repeat (any_goals (first | assumption | wp_step))
  refine codeAny_mono (codeAny_call_builtin (R := wants (fun r s2 => r = .none ∧ SetLeft w s all s2) E) F.called_set.init.plain F.entry_set_init (check_set_init_1 ty inside)) fun r2 s2 hr2 => ?_
  rcases wants_is hr2 with ⟨v, rfl, rfl, hL⟩ | ⟨e, rfl, he⟩
  ·repeat (any_goals (first | assumption | wp_step))
   exact k _ hL
  ·exact he
 ·exact he
theorem set_tail {all : List Key} {s' : Shared} {had : List Key} (eg : s'.gens = s.gens) (ed : s'.drawn = s.drawn) (eo : s'.os = s.os)
  (keep : ∀ b o, s.heap.get? b = some o → s'.heap.get? b = some o) (h1 : had.length ≤ all.length) (h2 : ∀ j, j ∈ had ↔ j ∈ all) (h3 : SetM w s'.heap s.heap.objs.size had) : SetLeft w s all s' := by
 obtain ⟨h', g', d', t', o'⟩ := s'
 cases eg
 cases ed
 cases eo
 exact ⟨h', t', had, rfl, h1, h2, h3, keep⟩
theorem set_init_list {l : Addr} {items : Array Value} {all : List Key} (hh : A.handled = none) (hl : s.heap.IsList l items) (hlen : all.length = items.size) (few : all.length + 1 < scanBound) (val : ∀ (i : Nat) (v : Value), items[i]? = some v → ∃ k, all[i]? = some k ∧ keyIs k v = true) :
  wpAny (model P w) A.in1.in1 (Builtin.«set.__init__» ⟨[.ref s.heap.objs.size, .ref l], []⟩) (FinsW P w A.in1 (wants (fun r s2 => r = .none ∧ SetLeft w s all s2) E)) (fun e s' => wants (fun r s2 => r = .none ∧ SetLeft w s all s2) E (.error e) s') { s with heap := s.heap.push (set0 w) } := by
 have g0 : (s.heap.push (set0 w)).get? s.heap.objs.size = some (set0 w) := Heap.get?_push_size _ rfl
 have lt : l < s.heap.objs.size := let ⟨_, z, _⟩ := hl; Heap.lt_size z
 have hl1 : (s.heap.push (set0 w)).IsList l items := hl.push _
 obtain ⟨⟨oc, od, odt, osl⟩, ho, hc, nl, hd⟩ := id hl1
 cases hc
 cases hd
 have f1 := PySem.F.sub_list_set
 have f2 := PySem.F.sub_list_frozenset
 have f3 : (Value.type "list" == Value.type "dict") = false := by decide
 unfold Builtin.«set.__init__» noKeywords Builtin.Frozenset.updateFrom
 generalize hp : pyIter = pI
 wp_walk
 subst hp
 refine wpAny_pyIter_list hl1 (wpAny_bind (wpAny_runValue ?_))
 have z1 : (s.heap.push (set0 w)).objs.size = s.heap.objs.size + 1 := Heap.size_push ..
 have ne : l ≠ (s.heap.push (set0 w)).objs.size := fun z => Nat.ne_of_lt (Nat.lt_succ_of_lt lt) (z.trans z1)
 have off : s.heap.objs.size ∉ [(s.heap.push (set0 w)).objs.size, l] := fun z => (List.mem_cons.mp z).elim (fun z => Nat.ne_of_lt (Nat.lt_succ_self _) (z.trans z1)) fun z => Nat.ne_of_gt lt (List.mem_singleton.mp z)
 have W := (Walks.list (prog := P) (w := w) (A := A.in1.in1.in1) (by simp [hh]) _ l ne items).toS
 rw [← hlen] at W
 refine set_fill all W off few val _ 0 _ [] rfl (Nat.zero_le _) ⟨⟨_, Heap.get?_push_size _ rfl, rfl, rfl⟩, hl1.push _⟩ (Nat.le_refl _) (fun j => by simp) (set0_is (Heap.get?_push_of_some _ g0)) fun s' had mv h1 h2 h3 => ?_
 refine wpAny_pure (wpAny_pure ⟨rfl, set_tail mv.gens mv.drawn mv.os (fun b o e => mv.heap b o (fun z => ?_) (Heap.get?_push_of_some _ (Heap.get?_push_of_some _ e))) h1 h2 h3⟩)
 have q := Heap.lt_size e
 exact (List.mem_cons.mp z).elim (fun z => Nat.ne_of_lt q z) fun z => Nat.ne_of_lt (Nat.lt_succ_of_lt q) ((List.mem_singleton.mp z).trans z1)
theorem set_init_tuple {l : Addr} {items : Array Value} {all : List Key} (hh : A.handled = none) (hl : s.heap.IsTuple l items) (hlen : all.length = items.size) (few : all.length + 1 < scanBound) (val : ∀ (i : Nat) (v : Value), items[i]? = some v → ∃ k, all[i]? = some k ∧ keyIs k v = true) :
  wpAny (model P w) A.in1.in1 (Builtin.«set.__init__» ⟨[.ref s.heap.objs.size, .ref l], []⟩) (FinsW P w A.in1 (wants (fun r s2 => r = .none ∧ SetLeft w s all s2) E)) (fun e s' => wants (fun r s2 => r = .none ∧ SetLeft w s all s2) E (.error e) s') { s with heap := s.heap.push (set0 w) } := by
 have g0 : (s.heap.push (set0 w)).get? s.heap.objs.size = some (set0 w) := Heap.get?_push_size _ rfl
 have lt : l < s.heap.objs.size := let ⟨_, z, _⟩ := hl; Heap.lt_size z
 have hl1 : (s.heap.push (set0 w)).IsTuple l items := hl.push _
 obtain ⟨⟨oc, od, odt, osl⟩, ho, hc, nl, hd⟩ := id hl1
 cases hc
 cases hd
 have f1 := PySem.F.sub_tuple_set
 have f2 := PySem.F.sub_tuple_frozenset
 have f3 : (Value.type "tuple" == Value.type "dict") = false := by decide
 unfold Builtin.«set.__init__» noKeywords Builtin.Frozenset.updateFrom
 generalize hp : pyIter = pI
 wp_walk
 subst hp
 refine wpAny_pyIter_tuple hl1 (wpAny_bind (wpAny_runValue ?_))
 have z1 : (s.heap.push (set0 w)).objs.size = s.heap.objs.size + 1 := Heap.size_push ..
 have ne : l ≠ (s.heap.push (set0 w)).objs.size := fun z => Nat.ne_of_lt (Nat.lt_succ_of_lt lt) (z.trans z1)
 have off : s.heap.objs.size ∉ [(s.heap.push (set0 w)).objs.size, l] := fun z => (List.mem_cons.mp z).elim (fun z => Nat.ne_of_lt (Nat.lt_succ_self _) (z.trans z1)) fun z => Nat.ne_of_gt lt (List.mem_singleton.mp z)
 have W := (Walks.tuple (prog := P) (w := w) (A := A.in1.in1.in1) (by simp [hh]) _ l ne items).toS
 rw [← hlen] at W
 refine set_fill all W off few val _ 0 _ [] rfl (Nat.zero_le _) ⟨⟨_, Heap.get?_push_size _ rfl, rfl, rfl⟩, hl1.push _⟩ (Nat.le_refl _) (fun j => by simp) (set0_is (Heap.get?_push_of_some _ g0)) fun s' had mv h1 h2 h3 => ?_
 refine wpAny_pure (wpAny_pure ⟨rfl, set_tail mv.gens mv.drawn mv.os (fun b o e => mv.heap b o (fun z => ?_) (Heap.get?_push_of_some _ (Heap.get?_push_of_some _ e))) h1 h2 h3⟩)
 have q := Heap.lt_size e
 exact (List.mem_cons.mp z).elim (fun z => Nat.ne_of_lt q z) fun z => Nat.ne_of_lt (Nat.lt_succ_of_lt q) ((List.mem_singleton.mp z).trans z1)
end
end Dv
set_option Elab.async false
set_option linter.all false
set_option maxRecDepth 100000
namespace Dv
open PySem PySem.Spec PyProof.Rows L2
def SetX (w : World) (a : Addr) (ks : List Key) : HO := .ext fun h => SetM w h a ks
section
variable {X : Cx}
theorem setX_new {w : World} {P : Program} {H : Hp} {h : Heap} {a : Addr} {ks : List Key} (R : SetM w h a ks) : ObjOk P w H h a (SetX w a ks) :=
 let ⟨o, _, _, _, ho, _⟩ := R.ex
 ⟨R, ⟨o, ho⟩, fun _ _ p k => SetM.keep p k⟩
theorem setX_get {pins : List (Addr × Obj)} {σ : L2.St} {H : Hp} {s : Shared} {a : Addr} {ks : List Key} (I : Inv X pins σ H s) (ha : H a = some (SetX X.w a ks)) : SetM X.w s.heap a ks := (I.hok a _ ha).1
theorem vals_key : ∀ {ks : List Key} {us : List Value}, Vals (ks.map kV) us → ∀ (i : Nat) (v : Value), us[i]? = some v → ∃ k, ks[i]? = some k ∧ keyIs k v = true
 | [], _, .nil, i, v, h => by simp at h
 | k :: ks, _, .cons r t, 0, v, h => by
  simp at h
  subst h
  refine ⟨k, rfl, ?_⟩
  cases k with
  | inl i => obtain ⟨t, rfl⟩ := r; exact keyIs_int i t
  | inr x => obtain ⟨t, rfl⟩ := r; exact keyIs_str x t
 | k :: ks, _, .cons r t, i + 1, v, h => by
  obtain ⟨k', h1, h2⟩ := vals_key t i v (by simpa using h)
  exact ⟨k', by simpa using h1, h2⟩
def rSetX (K : PySem.W.Frag) (w : World) : List V → Hp → VK → Prop := fun vs H Q => ∃ (a : Addr) (ks : List Key), vs = [.ref a] ∧ (SqL K H a (ks.map kV) ∨ SqT K H a (ks.map kV)) ∧ ks.length < 4000 ∧
 ∀ p had, had.Nodup → had.length ≤ ks.length → (∀ j, j ∈ had ↔ j ∈ ks) → H p = none → Q (.ref p) (upd H p (SetX w p had))
theorem cr_setX (hc : X.calm = true) : CallR X (.type "set") (rSetX X.K X.w) := by
 intro pins s σ H vs us Q I r h
 obtain ⟨a, ks, rfl, hs, few, q⟩ := h
 rw [Vals.ref1 r]
 have few' : ks.length + 1 < scanBound := by
  have : scanBound = 4096 := rfl
  omega
 have fin : ∀ s', SetLeft X.w s ks s' → EP X pins σ Q (.ref s.heap.objs.size) s' := fun s' ⟨h', tk, had, e, h1, h2, h3, h4⟩ => by
  subst e
  exact ⟨.ref _, _, I.laid (t' := tk) h4 (Nat.le_refl _) (setX_new h3), rfl, q _ had h3.nd h1 h2 (I.hok.fresh (Nat.le_refl _))⟩
 rcases hs with hs | hs
 ·obtain ⟨its, rv, pl, hz⟩ := I.list hs
  have hl : ks.length = its.toArray.size := by have := rv.length; simpa using this
  exact set_by (set_init_list (I.ok.hd hc) pl.isList hl few' fun i v e => vals_key rv i v (by simpa using e)) fin
 ·obtain ⟨its, rv, pl, hz⟩ := I.tuple hs
  have hl : ks.length = its.toArray.size := by have := rv.length; simpa using this
  exact set_by (set_init_tuple (I.ok.hd hc) pl hl few' fun i v e => vals_key rv i v (by simpa using e)) fin
def rLenX (w : World) : List V → Hp → VK → Prop := fun vs H Q => ∃ (a : Addr) (ks : List Key), vs = [.ref a] ∧ H a = some (SetX w a ks) ∧ Q (.int ks.length) H
theorem cr_lenX : CallR X (.builtin "len") (rLenX X.w) := by
 intro pins s σ H vs us Q I r h
 obtain ⟨a, ks, rfl, ha, q⟩ := h
 rw [Vals.ref1 r]
 obtain ⟨o, es, ep, t, ho, hx, hd, g, ek, ro⟩ := (setX_get I ha).ex
 have few := ro.few
 have hl : ks.length = es.size := by rw [← ek]; simp [keysE]
 exact call_len_set ho hx hd ro.fit (by unfold scanBound at few; omega) ⟨.int ks.length, H, I.tok _, ⟨_, by rw [hl]⟩, q⟩
theorem keys_strs {w : World} {es : List (Int × Value)} {zs : List Str} (g : ∀ e ∈ es, Ent w e) (ek : keysE es = zs.map Sum.inr) {vs : List Value} (pm : vs.Perm (es.map (·.2))) : ∃ ys : List Str, StrsAre vs ys ∧ ys.Perm zs := by
 have one : ∀ v ∈ vs, ∃ x t, v = Value.str x t := fun v hv => by
  obtain ⟨e, he, rfl⟩ := List.mem_map.mp (pm.mem_iff.mp hv)
  have hk : keyV e.2 ∈ zs.map Sum.inr := ek ▸ List.mem_map.mpr ⟨e, he, rfl⟩
  obtain ⟨x, _, hx⟩ := List.mem_map.mp hk
  rcases keyIs_shape (g e he).1 with ⟨i, t, e1, e2⟩ | ⟨y, t, e1, e2⟩
  ·rw [← hx] at e1; cases e1
  ·exact ⟨y, t, e2⟩
 have mk : ∀ vs : List Value, (∀ v ∈ vs, ∃ x t, v = Value.str x t) → ∃ ys : List Str, StrsAre vs ys ∧ ys.map Sum.inr = vs.map keyV := by
  intro vs
  induction vs with
  | nil => exact fun _ => ⟨[], .nil, rfl⟩
  | cons v vs ih =>
   intro h
   obtain ⟨x, t, rfl⟩ := h v List.mem_cons_self
   obtain ⟨ys, h1, h2⟩ := ih fun v hv => h v (List.mem_cons_of_mem _ hv)
   exact ⟨x :: ys, .cons x t h1, by rw [List.map_cons, List.map_cons, h2]; rfl⟩
 obtain ⟨ys, h1, h2⟩ := mk vs one
 refine ⟨ys, h1, ?_⟩
 have p2 : (ys.map (Sum.inr : Str → Key)).Perm (zs.map Sum.inr) := by
  rw [h2, ← ek]
  have := pm.map keyV
  rw [List.map_map] at this
  exact this
 have back : ∀ l : List Str, (l.map (Sum.inr : Str → Key)).filterMap (fun k => match k with | .inr x => some x | .inl _ => none) = l := fun l => by
  rw [List.filterMap_map]
  exact List.filterMap_some
 have p3 := p2.filterMap (fun k => match k with | .inr x => some x | .inl _ => none)
 rw [back, back] at p3
 exact p3
def rSortXS (w : World) : List V → Hp → VK → Prop := fun vs H Q => ∃ (a : Addr) (zs : List Str), vs = [.ref a] ∧ H a = some (SetX w a (zs.map Sum.inr)) ∧ zs.length < 64 ∧
 ∀ ys p, ys.Perm zs → sortedS ys = true → H p = none → Q (.ref p) (upd H p (.lst (ys.map V.str)))
theorem cr_sortXS (hc : X.calm = true) : CallR X (.builtin "sorted") (rSortXS X.w) := by
 intro pins s σ H vs us Q I r h
 obtain ⟨a, zs, rfl, ha, h64, q⟩ := h
 rw [Vals.ref1 r]
 obtain ⟨o, es, ep, t, ho, hx, hd, g, ek, ro⟩ := (setX_get I ha).ex
 refine Calls.call_function_entry kind_sorted plain_sorted entry_sorted (args_sorted1 _) ?_
 unfold Builtin.«sorted»
 refine wpAny_bind (m := checkCount "sorted" 1 1 _) <| wpAny_pure <| wpAny_bind <| collect_set (A := X.A.in1) (I.ok.hd hc) ⟨o, ho, hx.1, hd⟩ ro.fit ro.few ro.ris ro.led fun s1 vs k1 z1 g1 o1 pm => ?_
 obtain ⟨xs, hS, px⟩ := keys_strs g ek pm
 have lv : vs.length < 64 := by rw [StrsAre.len_eq hS, px.length_eq]; exact h64
 refine wpAny_bind (wpAny_newList ?_ (by rw [sizeLine_eq]; omega))
 have hL : (s1.heap.push (seqObj "list" vs.toArray 0)).get? s1.heap.objs.size = some (seqObj "list" vs.toArray 0) := Heap.get?_push_size _ rfl
 refine wpAny_bind <| wpAny_holding <| wpAny_call_entry slot_list_sort ⟨_, hL, rfl⟩ entry_list_sort (list_sort_treeK strKind_oneLt hL hS.keysOf (fun v1 v2 rest e => keyKind_strs (by rw [← e]; exact hS)) lv fun st p1 p2 => ⟨_, rfl, ?_⟩) (args_list_sort _)
 obtain ⟨ys, y1, y2, y3⟩ := sorted_out_str hS p1 p2
 obtain ⟨c, hcc⟩ := sortedHeap_at (vs := vs) (out := (arrOf st).map (·.2)) hL
 have ly : (ys.map V.str).length ≤ sizeLine := by rw [List.length_map, y2.length_eq, ← StrsAre.len_eq hS, sizeLine_eq]; omega
 have kp : ∀ b u, s.heap.get? b = some u → (sortedHeap (s1.heap.push (seqObj "list" vs.toArray 0)) s1.heap.objs.size vs ((arrOf st).map (·.2))).get? b = some u := fun b u e => by
  have e1 := k1 b u e
  have lt := Heap.lt_size e1
  rw [sortedHeap_old (Nat.ne_of_lt lt) (by rw [size_push']; exact Nat.lt_succ_of_lt lt)]
  exact Heap.get?_push_of_some _ e1
 refine wpAny_pure ⟨_, rfl, .ref s1.heap.objs.size, upd H s1.heap.objs.size (.lst (ys.map V.str)), I.call' (ch := []) o1 (Un.laid kp z1 (I.hok.fresh z1)) (I.hok.laid kp z1 ⟨ly, ((arrOf st).map (·.2)).toList, c, vals_of_strs y1, by rw [Array.toArray_toList]; exact hcc⟩) (by rw [g1]; exact I.bare) (fun _ z => nomatch z), rfl, q ys _ (y2.trans px) y3 (I.hok.fresh z1)⟩
theorem keys_ints {w : World} {es : List (Int × Value)} {zs : List Int} (g : ∀ e ∈ es, Ent w e) (ek : keysE es = zs.map Sum.inl) {vs : List Value} (pm : vs.Perm (es.map (·.2))) : ∃ ys : List Int, IntsAre vs ys ∧ ys.Perm zs := by
 have one : ∀ v ∈ vs, ∃ x t, v = Value.int x t := fun v hv => by
  obtain ⟨e, he, rfl⟩ := List.mem_map.mp (pm.mem_iff.mp hv)
  have hk : keyV e.2 ∈ zs.map Sum.inl := ek ▸ List.mem_map.mpr ⟨e, he, rfl⟩
  obtain ⟨x, _, hx⟩ := List.mem_map.mp hk
  rcases keyIs_shape (g e he).1 with ⟨i, t, e1, e2⟩ | ⟨y, t, e1, e2⟩
  ·exact ⟨i, t, e2⟩
  ·rw [← hx] at e1; cases e1
 have mk : ∀ vs : List Value, (∀ v ∈ vs, ∃ x t, v = Value.int x t) → ∃ ys : List Int, IntsAre vs ys ∧ ys.map Sum.inl = vs.map keyV := by
  intro vs
  induction vs with
  | nil => exact fun _ => ⟨[], .nil, rfl⟩
  | cons v vs ih =>
   intro h
   obtain ⟨x, t, rfl⟩ := h v List.mem_cons_self
   obtain ⟨ys, h1, h2⟩ := ih fun v hv => h v (List.mem_cons_of_mem _ hv)
   exact ⟨x :: ys, .cons x t h1, by rw [List.map_cons, List.map_cons, h2]; rfl⟩
 obtain ⟨ys, h1, h2⟩ := mk vs one
 refine ⟨ys, h1, ?_⟩
 have p2 : (ys.map (Sum.inl : Int → Key)).Perm (zs.map Sum.inl) := by
  rw [h2, ← ek]
  have := pm.map keyV
  rw [List.map_map] at this
  exact this
 have back : ∀ l : List Int, (l.map (Sum.inl : Int → Key)).filterMap (fun k => match k with | .inl x => some x | .inr _ => none) = l := fun l => by
  rw [List.filterMap_map]
  exact List.filterMap_some
 have p3 := p2.filterMap (fun k => match k with | .inl x => some x | .inr _ => none)
 rw [back, back] at p3
 exact p3
def rSortXI (w : World) : List V → Hp → VK → Prop := fun vs H Q => ∃ (a : Addr) (zs : List Int), vs = [.ref a] ∧ H a = some (SetX w a (zs.map Sum.inl)) ∧ zs.length < 64 ∧
 ∀ (ys : List Int) (p : Addr), ys.Perm zs → ys.Pairwise (· ≤ ·) → H p = none → Q (.ref p) (upd H p (.lst (ys.map V.int)))
theorem cr_sortXI (hc : X.calm = true) : CallR X (.builtin "sorted") (rSortXI X.w) := by
 intro pins s σ H vs us Q I r h
 obtain ⟨a, zs, rfl, ha, h64, q⟩ := h
 rw [Vals.ref1 r]
 obtain ⟨o, es, ep, t, ho, hx, hd, g, ek, ro⟩ := (setX_get I ha).ex
 refine Calls.call_function_entry kind_sorted plain_sorted entry_sorted (args_sorted1 _) ?_
 unfold Builtin.«sorted»
 refine wpAny_bind (m := checkCount "sorted" 1 1 _) <| wpAny_pure <| wpAny_bind <| collect_set (A := X.A.in1) (I.ok.hd hc) ⟨o, ho, hx.1, hd⟩ ro.fit ro.few ro.ris ro.led fun s1 vs k1 z1 g1 o1 pm => ?_
 obtain ⟨xs, hS, px⟩ := keys_ints g ek pm
 have lv : vs.length < 64 := by rw [hS.length, px.length_eq]; exact h64
 refine wpAny_bind (wpAny_newList ?_ (by rw [sizeLine_eq]; omega))
 have hL : (s1.heap.push (seqObj "list" vs.toArray 0)).get? s1.heap.objs.size = some (seqObj "list" vs.toArray 0) := Heap.get?_push_size _ rfl
 refine wpAny_bind <| wpAny_holding <| wpAny_call_entry slot_list_sort ⟨_, hL, rfl⟩ entry_list_sort (list_sort_tree hL hS lv fun out ys y1 y2 y3 => ⟨_, rfl, ?_⟩) (args_list_sort _)
 obtain ⟨c, hcc⟩ := sortedHeap_at (vs := vs) (out := out) hL
 have ly : (ys.map V.int).length ≤ sizeLine := by rw [List.length_map, y2.length_eq, ← hS.length, sizeLine_eq]; omega
 have kp : ∀ b u, s.heap.get? b = some u → (sortedHeap (s1.heap.push (seqObj "list" vs.toArray 0)) s1.heap.objs.size vs out).get? b = some u := fun b u e => by
  have e1 := k1 b u e
  have lt := Heap.lt_size e1
  rw [sortedHeap_old (Nat.ne_of_lt lt) (by rw [size_push']; exact Nat.lt_succ_of_lt lt)]
  exact Heap.get?_push_of_some _ e1
 refine wpAny_pure ⟨_, rfl, .ref s1.heap.objs.size, upd H s1.heap.objs.size (.lst (ys.map V.int)), I.call' (ch := []) o1 (Un.laid kp z1 (I.hok.fresh z1)) (I.hok.laid kp z1 ⟨ly, out.toList, c, vals_of_ints y1, by rw [Array.toArray_toList]; exact hcc⟩) (by rw [g1]; exact I.bare) (fun _ z => nomatch z), rfl, q ys _ (y2.trans px) y3 (I.hok.fresh z1)⟩
end
end Dv
set_option Elab.async false
set_option linter.all false
set_option maxRecDepth 100000
namespace Dv
open PySem PySem.Spec L2
def intsD : List PyData → Option (List Int)
 | [] => some []
 | .int b :: ds => (intsD ds).map (b :: ·)
 | _ :: _ => none
theorem ints_map : ∀ {ds : List PyData} {bs : List Int}, intsD ds = some bs → ds = bs.map PyData.int
 | [], bs, h => by simp [intsD] at h; subst h; rfl
 | .int b :: ds, bs, h => by
  simp only [intsD, Option.map_eq_some_iff] at h
  obtain ⟨c, h, rfl⟩ := h
  rw [ints_map h]
  rfl
 | .none :: _, _, h => by simp [intsD] at h
 | .str _ :: _, _, h => by simp [intsD] at h
 | .bool _ :: _, _, h => by simp [intsD] at h
 | .list _ :: _, _, h => by simp [intsD] at h
 | .tuple _ :: _, _, h => by simp [intsD] at h
 | .dict _ :: _, _, h => by simp [intsD] at h
theorem intsD_map (bs : List Int) : intsD (bs.map PyData.int) = some bs := by
 induction bs with
 | nil => rfl
 | cons b bs ih => simp [intsD, ih]
theorem rep_ints {K : PySem.W.Frag} {F : Hp} : ∀ {ns : List Int} {xs : List V}, RepAll K F xs (ns.map PyData.int) → xs = ns.map V.int
 | [], _, h => by cases h; rfl
 | n :: ns, _, h => by
  cases h with
  | cons h r =>
   cases h
   rw [rep_ints r]
   rfl
theorem rep_strs {K : PySem.W.Frag} {F : Hp} : ∀ {ns : List Str} {xs : List V}, RepAll K F xs (ns.map PyData.str) → xs = ns.map V.str
 | [], _, h => by cases h; rfl
 | n :: ns, _, h => by
  cases h with
  | cons h r =>
   cases h
   rw [rep_strs r]
   rfl
theorem ints_rep {K : PySem.W.Frag} {F : Hp} : ∀ (ns : List Int), RepAll K F (ns.map V.int) (ns.map PyData.int)
 | [] => .nil
 | n :: ns => .cons (.int n) (ints_rep ns)
theorem strs_rep {K : PySem.W.Frag} {F : Hp} : ∀ (ns : List Str), RepAll K F (ns.map V.str) (ns.map PyData.str)
 | [] => .nil
 | n :: ns => .cons (.str n) (strs_rep ns)
def oneD (xs : List PyData) (ki : List Int → Prop) (ks : List Str → Prop) : Prop := match intsD xs with
 | some ns => ki ns
 | none => match strsD xs with
  | some zs => ks zs
  | none => False
theorem flat_ints (ns : List Int) {ki : List Int → Prop} {ks : List Str → Prop} (h : ki ns) : oneD (ns.map .int) ki ks := by
 unfold oneD
 rw [intsD_map]
 exact h
def sortedD : OpNL := fun ds k => match ds with
 | [.list xs] => xs.length < 64 ∧ oneD xs (fun ns => ∀ ys : List Int, ys.Perm ns → ys.Pairwise (· ≤ ·) → k (ys.map .int)) (fun zs => ∀ ys : List Str, ys.Perm zs → PyProof.Rows.sortedS ys = true → k (ys.map .str))
 | _ => False
def setItems (ds : List PyData) (k : List PyData → Prop) : Prop := match ds with
 | [.list xs] => k xs
 | [.tuple xs] => k xs
 | _ => False
def sortSetD : OpNL := fun ds k => setItems ds fun xs => xs.length < 64 ∧ oneD xs (fun ns => ∀ ys : List Int, ys.Pairwise (· < ·) → (∀ j, j ∈ ys ↔ j ∈ ns) → k (ys.map .int)) (fun zs => ∀ ys : List Str, PyProof.Rows.sortedS ys = true → ys.Nodup → (∀ j, j ∈ ys ↔ j ∈ zs) → k (ys.map .str))
def lenSetD : OpN := fun ds k => setItems ds fun xs => xs.length < 4000 ∧ oneD xs (fun ns => ∀ ys : List Int, ys.Nodup → (∀ j, j ∈ ys ↔ j ∈ ns) → k (.int ys.length)) (fun zs => ∀ ys : List Str, ys.Nodup → (∀ j, j ∈ ys ↔ j ∈ zs) → k (.int ys.length))
theorem mapM_inl : ∀ {had : List Key} {ns : List Int}, (∀ j, j ∈ had → j ∈ ns.map (Sum.inl : Int → Key)) → ∃ zs : List Int, had = zs.map Sum.inl
 | [], _, _ => ⟨[], rfl⟩
 | h :: had, ns, hj => by
  obtain ⟨zs, e⟩ := mapM_inl (had := had) (ns := ns) fun j z => hj j (List.mem_cons_of_mem _ z)
  obtain ⟨x, _, ex⟩ := List.mem_map.mp (hj h List.mem_cons_self)
  exact ⟨x :: zs, by rw [e, ← ex]; rfl⟩
theorem mapM_inr : ∀ {had : List Key} {ns : List Str}, (∀ j, j ∈ had → j ∈ ns.map (Sum.inr : Str → Key)) → ∃ zs : List Str, had = zs.map Sum.inr
 | [], _, _ => ⟨[], rfl⟩
 | h :: had, ns, hj => by
  obtain ⟨zs, e⟩ := mapM_inr (had := had) (ns := ns) fun j z => hj j (List.mem_cons_of_mem _ z)
  obtain ⟨x, _, ex⟩ := List.mem_map.mp (hj h List.mem_cons_self)
  exact ⟨x :: zs, by rw [e, ← ex]; rfl⟩
theorem mem_inl {zs ns : List Int} (h : ∀ j, j ∈ zs.map (Sum.inl : Int → Key) ↔ j ∈ ns.map Sum.inl) (j : Int) : j ∈ zs ↔ j ∈ ns := by
 have := h (.inl j)
 simpa using this
theorem mem_inr {zs ns : List Str} (h : ∀ j, j ∈ zs.map (Sum.inr : Str → Key) ↔ j ∈ ns.map Sum.inr) (j : Str) : j ∈ zs ↔ j ∈ ns := by
 have := h (.inr j)
 simpa using this
theorem nd_inl {zs : List Int} (h : (zs.map (Sum.inl : Int → Key)).Nodup) : zs.Nodup := List.Pairwise.of_map _ (fun _ _ h e => h (congrArg _ e)) h
theorem nd_inr {zs : List Str} (h : (zs.map (Sum.inr : Str → Key)).Nodup) : zs.Nodup := List.Pairwise.of_map _ (fun _ _ h e => h (congrArg _ e)) h
theorem lt_of_le_nd : ∀ {l : List Int}, l.Pairwise (· ≤ ·) → l.Nodup → l.Pairwise (· < ·)
 | [], _, _ => .nil
 | x :: l, h, d => by
  rw [List.pairwise_cons] at h
  rw [List.nodup_cons] at d
  exact .cons (fun y hy => Int.lt_iff_le_and_ne.mpr ⟨h.1 y hy, fun e => d.1 (e ▸ hy)⟩) (lt_of_le_nd h.2 d.2)
section
variable {X : Cx} {C : FC} {a : Expr} {tA : DA} {p p2 q2 pos : Pos}
theorem set_view {F H : Hp} {vs : List V} {ds xs : List PyData} (s : Same F H) (v : ViewAll X.K F H vs ds) (hx : ds = [.list xs] ∨ ds = [.tuple xs]) : ∃ b ys, vs = [.ref b] ∧ (SqL X.K H b ys ∨ SqT X.K H b ys) ∧ RepAll X.K F ys xs := by
 rcases hx with e | e
 ·subst e
  obtain ⟨v, e, b, ys, e2, h, r⟩ := va1 v
  subst e e2
  exact ⟨b, ys, rfl, .inl h, r⟩
 ·subst e
  obtain ⟨v, e, vv⟩ := va1 v
  obtain ⟨b, ys, e2, h, r, _⟩ := view_tup s vv
  subst e e2
  exact ⟨b, ys, rfl, .inr h, r⟩
theorem setItems_is {ds : List PyData} {k : List PyData → Prop} (h : setItems ds k) : ∃ xs, (ds = [.list xs] ∨ ds = [.tuple xs]) ∧ k xs := by
 unfold setItems at h
 split at h
 ·exact ⟨_, .inl rfl, h⟩
 ·exact ⟨_, .inr rfl, h⟩
 ·exact h.elim
theorem flat_is {xs : List PyData} {ki : List Int → Prop} {ks : List Str → Prop} (h : oneD xs ki ks) : (∃ ns, xs = ns.map .int ∧ ki ns) ∨ ∃ zs, xs = zs.map .str ∧ ks zs := by
 unfold oneD at h
 split at h
 ·next ns e => exact .inl ⟨ns, ints_map e, h⟩
 ·split at h
  ·next zs e => exact .inr ⟨zs, strs_map e, h⟩
  ·exact h.elim
theorem o_sortSet (hc : X.calm = true) (hm : X.mg "sorted" = none) (hm2 : X.mg "set" = none) (ha : QA X C [a] tA) (hg : Gl X "sorted" := by rfl) (hg2 : Gl X "set" := by rfl)
  (he : starEach [a] X.env = (false, eval a X.env) :: starEach [] X.env := by rfl) (hpl : (backTo pos (starEach [] X.env)).any (·.1) = false := by rfl) (hpl2 : (backTo q2 (starEach [] X.env)).any (·.1) = false := by rfl)
  (he2 : starEach [.Call (.Name "set" p2) [a] [] q2] X.env = (false, eval (.Call (.Name "set" p2) [a] [] q2) X.env) :: starEach [] X.env := by rfl) :
  QO X C (.Call (.Name "sorted" p) [.Call (.Name "set" p2) [a] [] q2] [] pos) (dCBL sortSetD tA) :=
 QO.of (pe_callB ((cr_sortXI hc).or (cr_sortXS hc)) hg hm (by decide +kernel) (pa_cons (pe_callTy (cr_setX hc) hg2 hm2 (by decide +kernel) ha.pa (by decide) (by decide) he hpl2) pa_nil he2) (by decide) (by decide) he2 hpl) fun σ H Q ⟨F, ρ, q, S, ht, k⟩ => by
  refine ⟨F, ρ, _, S, ht, fun os ρ1 F1 H1 vs h1 S1 s1 d1 => ?_⟩
  obtain ⟨ds, v1, w1⟩ := S1.seeAll d1 h1
  obtain ⟨xs, hx, few, w1⟩ := setItems_is w1
  obtain ⟨b, ys, e, hs, r⟩ := set_view S1.sub v1 hx
  subst e
  have fin : ∀ (p : Addr) (had : List Key) (hp : H1 p = none) (p2 : Addr) (hp2 : upd H1 p (SetX X.w p had) p2 = none) (zs : List V) (es : List PyData), RepAll X.K F1 zs es → q (.list es) ρ1 → Q (.ref p2) (upd (upd H1 p (SetX X.w p had)) p2 (.lst zs)) := fun p had hp p2 hp2 zs es r hq => by
   have g := Gr.new (o := SetX X.w p had) S1.sub hp
   obtain ⟨S3, fr⟩ := (S1.grow g).layL hp2 (r.mono g.f)
   exact k _ _ _ _ _ hq S3 (s1.trans g.f) fr
  rcases flat_is w1 with ⟨ns, e, f⟩ | ⟨ns, e, f⟩
  ·subst e
   have e := rep_ints r
   subst e
   refine ⟨b, ns.map Sum.inl, rfl, by rw [List.map_map]; exact hs, by simpa using Nat.lt_trans few (by decide), fun p had nd hl hj hp => ?_⟩
   obtain ⟨zs, e⟩ := mapM_inl fun j z => (hj j).mp z
   subst e
   refine .inl ⟨p, zs, rfl, upd_same, by simp at hl few; omega, fun us p2 h1 h2 hp2 => fin p _ hp p2 hp2 _ _ (ints_rep us) (f us (lt_of_le_nd h2 (h1.nodup_iff.mpr (nd_inl nd))) fun j => h1.mem_iff.trans (mem_inl hj j))⟩
  ·subst e
   have e := rep_strs r
   subst e
   refine ⟨b, ns.map Sum.inr, rfl, by rw [List.map_map]; exact hs, by simpa using Nat.lt_trans few (by decide), fun p had nd hl hj hp => ?_⟩
   obtain ⟨zs, e⟩ := mapM_inr fun j z => (hj j).mp z
   subst e
   refine .inr ⟨p, zs, rfl, upd_same, by simp at hl few; omega, fun us p2 h1 h2 hp2 => fin p _ hp p2 hp2 _ _ (strs_rep us) (f us h2 (h1.nodup_iff.mpr (nd_inr nd)) fun j => h1.mem_iff.trans (mem_inr hj j))⟩
theorem q_lenSet (hc : X.calm = true) (hm : X.mg "len" = none) (hm2 : X.mg "set" = none) (ha : QA X C [a] tA) (hg : Gl X "len" := by rfl) (hg2 : Gl X "set" := by rfl)
  (he : starEach [a] X.env = (false, eval a X.env) :: starEach [] X.env := by rfl) (hpl : (backTo pos (starEach [] X.env)).any (·.1) = false := by rfl) (hpl2 : (backTo q2 (starEach [] X.env)).any (·.1) = false := by rfl)
  (he2 : starEach [.Call (.Name "set" p2) [a] [] q2] X.env = (false, eval (.Call (.Name "set" p2) [a] [] q2) X.env) :: starEach [] X.env := by rfl) :
  QE X C (.Call (.Name "len" p) [.Call (.Name "set" p2) [a] [] q2] [] pos) (dCB lenSetD tA) :=
 QE.of (pe_callB cr_lenX hg hm (by decide +kernel) (pa_cons (pe_callTy (cr_setX hc) hg2 hm2 (by decide +kernel) ha.pa (by decide) (by decide) he hpl2) pa_nil he2) (by decide) (by decide) he2 hpl) fun σ H Q ⟨F, ρ, q, S, ht, k⟩ => by
  refine ⟨F, ρ, _, S, ht, fun os ρ1 F1 H1 vs h1 S1 s1 d1 => ?_⟩
  obtain ⟨ds, v1, w1⟩ := S1.seeAll d1 h1
  obtain ⟨xs, hx, few, w1⟩ := setItems_is w1
  obtain ⟨b, ys, e, hs, r⟩ := set_view S1.sub v1 hx
  subst e
  have fin : ∀ (p : Addr) (had : List Key) (hp : H1 p = none) (n : Nat), n = had.length → q (.val (.int n)) ρ1 → Q (.int had.length) (upd H1 p (SetX X.w p had)) := fun p had hp n hn hq => by
   subst hn
   have g := Gr.new (o := SetX X.w p had) S1.sub hp
   exact k _ _ _ _ _ hq (S1.grow g) (s1.trans g.f) (.int _)
  rcases flat_is w1 with ⟨ns, e, f⟩ | ⟨ns, e, f⟩
  ·subst e
   have e := rep_ints r
   subst e
   refine ⟨b, ns.map Sum.inl, rfl, by rw [List.map_map]; exact hs, by simpa using few, fun p had nd hl hj hp => ?_⟩
   obtain ⟨zs, e⟩ := mapM_inl fun j z => (hj j).mp z
   subst e
   exact ⟨p, _, rfl, upd_same, fin p _ hp zs.length (by simp) (f zs (nd_inl nd) (mem_inl hj))⟩
  ·subst e
   have e := rep_strs r
   subst e
   refine ⟨b, ns.map Sum.inr, rfl, by rw [List.map_map]; exact hs, by simpa using few, fun p had nd hl hj hp => ?_⟩
   obtain ⟨zs, e⟩ := mapM_inr fun j z => (hj j).mp z
   subst e
   exact ⟨p, _, rfl, upd_same, fin p _ hp zs.length (by simp) (f zs (nd_inr nd) (mem_inr hj))⟩
end
end Dv
set_option Elab.async false
set_option linter.all false
set_option maxRecDepth 100000
namespace Dv
open PySem PySem.Spec L2
section
variable {X : Cx} {C : FC} {a : Expr} {ta : DE} {p p2 q2 pos : Pos}
theorem rg_rep {K : PySem.W.Frag} {F : Hp} (n : Int) : RepAll K F (rgV 0 n) (rangeD 0 n.toNat) := by
 have e : rgV 0 n = (List.range n.toNat).map fun i => V.int (0 + (i : Nat)) := by
  unfold rgV
  rw [Int.sub_zero]
 rw [e]
 unfold rangeD
 generalize List.range n.toNat = l
 induction l with
 | nil => exact .nil
 | cons i l ih => exact .cons (.int _) ih
def onlyInt (d : PyData) (k : Int → Prop) : Prop := match d with
 | .int n => k n
 | _ => False
theorem onlyInt_is {d : PyData} {k : Int → Prop} (h : onlyInt d k) : ∃ n, d = .int n ∧ k n := by
 cases d <;> first | exact ⟨_, rfl, h⟩ | exact h.elim
def SmallR (n : Int) : Prop := 0 ≤ n ∧ n ≤ 16777216
theorem SmallR.ok {n : Int} (h : SmallR n) : RgOk 0 n := RgOk.of_le (Int.le_refl 0) h.2 (by decide) h.1
def dLstR (t : DE) : DO := fun ρ Q => t ρ fun o ρ1 => withO ρ1 o fun d => onlyInt d fun n => SmallR n ∧ Q (.list (rangeD 0 n.toNat)) ρ1
theorem o_lstR (hc : X.calm = true) (hm : X.mg "list" = none) (hm2 : X.mg "range" = none) (ha : QE X C a ta) (hg : Gl X "list" := by rfl) (hg2 : Gl X "range" := by rfl)
  (na : starEach [a] X.env = (false, eval a X.env) :: starEach [] X.env := by rfl) (nb : starEach [.Call (.Name "range" p2) [a] [] q2] X.env = (false, eval (.Call (.Name "range" p2) [a] [] q2) X.env) :: starEach [] X.env := by rfl) :
  QO X C (.Call (.Name "list" p) [.Call (.Name "range" p2) [a] [] q2] [] pos) (dLstR ta) :=
 QO.of (pe_listRg hc hg hm (prg_1 hg2 hm2 ha.pe na) nb) fun σ H Q ⟨F, ρ, q, S, ht, k⟩ => by
  refine ⟨F, ρ, _, S, ht, fun o ρ1 F1 H1 v hq S1 s1 d1 => ?_⟩
  obtain ⟨d, v1, w1⟩ := S1.see d1 hq
  obtain ⟨n, e, hn, w2⟩ := onlyInt_is w1
  subst e
  have e := view_int v1
  subst e
  refine ⟨n, rfl, hn.ok, fun l hl => ?_⟩
  obtain ⟨S3, fr⟩ := S1.layL hl (rg_rep n)
  exact k _ _ _ _ _ w2 S3 s1 fr
theorem i_zip2 {e e2 : Expr} {ta : DA} {P : List Bool} {tpos : Pos} {elts : List Expr} {kk : Nat} (hP : C.Tags P) (hm : X.mg "zip" = none) (ha : QA X C [e, e2] ta) (hg : Gl X "zip" := by rfl)
  (hs : starEach [e, e2] X.env = (false, eval e X.env) :: starEach [e2] X.env := by rfl) (hpl : (backTo pos (starEach [e2] X.env)).any (·.1) = false := by rfl) : QI X C (.Tuple elts kk tpos) (.Call (.Name "zip" p) [e, e2] [] pos) (dZip P ta) :=
 i_zip hP hm ha hg (RZ.pi_zipA hg hm ha.pa hs hpl)
end
end Dv
set_option Elab.async false
set_option linter.all false
set_option maxRecDepth 100000
namespace Dv
open PySem PySem.Spec L2
theorem lc_ix {P : List Bool} {g : DG} {tt : DT} {te : DE} {vs : List Nat} {Q : PyData → DEnv → Prop} (I : List PyData → DEnv → Prop) {ds : List PyData} {ρ : DEnv}
  (h : ∀ (acc : List PyData) (d : PyData) (ρ : DEnv) (yes : PyData → DEnv → Prop) (no : DEnv → Prop), ds[acc.length]? = some d → I acc ρ → (∀ e ρ', I (acc ++ [e]) ρ' → yes e ρ') → turnE P g tt te vs ρ d yes no)
  (hI : I [] ρ) (hl : ds.length ≤ big) (hq : ∀ acc ρ', I acc ρ' → acc.length = ds.length → Q (.list acc) ρ') : dLcL P g tt te vs Q ds [] ρ := by
 suffices z : ∀ (rest acc : List PyData) (ρ : DEnv), ds.drop acc.length = rest → acc.length + rest.length = ds.length → I acc ρ → dLcL P g tt te vs Q rest acc ρ from z ds [] ρ rfl (by simp) hI
 intro rest
 induction rest with
 | nil => exact fun acc ρ e el hI => hq acc ρ hI (by simpa using el)
 | cons d rest ih =>
  intro acc ρ e el hI
  rw [List.length_cons] at el
  have hd : ds[acc.length]? = some d := by
   have := congrArg (fun l => l[0]?) e
   simpa using this
  refine lc_turn (h acc d ρ _ _ hd hI fun e' ρ' hI' => ⟨by omega, ih _ ρ' ?_ ?_ hI'⟩)
  ·rw [List.length_append, List.length_singleton, ← List.drop_drop, e]
   rfl
  ·rw [List.length_append, List.length_singleton]
   omega
theorem loop_ix {g : DG} {b : DS} {E : DEnds} (I : Nat → DEnv → Prop) {ds : List PyData} {ρ : DEnv}
  (h : ∀ (i : Nat) (d : PyData) (ρ : DEnv) (nx : DEnv → Prop), ds[i]? = some d → I i ρ → (∀ ρ', I (i + 1) ρ' → nx ρ') → g d ρ fun ρ1 => b { E with nx := nx, ct := nx, bk := E.nx } ρ1)
  (hI : I 0 ρ) (hq : ∀ ρ', I ds.length ρ' → E.nx ρ') : dLoop g b E ds ρ := by
 refine loop_inv (fun rest ρ => ∃ i, ds.drop i = rest ∧ i + rest.length = ds.length ∧ I i ρ) (fun d rest ρ nx hI hnx => ?_) ⟨0, rfl, by simp, hI⟩ (fun ρ' hI => ?_)
 ·obtain ⟨i, e, el, hI⟩ := hI
  rw [List.length_cons] at el
  have hd : ds[i]? = some d := by
   have := congrArg (fun l => l[0]?) e
   simpa using this
  refine h i d ρ nx hd hI fun ρ' hI' => hnx ρ' ⟨i + 1, ?_, by omega, hI'⟩
  rw [← List.drop_drop, e]
  rfl
 ·obtain ⟨i, e, el, hI⟩ := hI
  have : i = ds.length := by simpa using el
  rw [this] at hI
  exact hq ρ' hI
theorem range_at {n i : Nat} {d : PyData} (h : (rangeD 0 n)[i]? = some d) : i < n ∧ d = .int i := by
 unfold rangeD at h
 rw [List.getElem?_map] at h
 cases e : (List.range n)[i]? with
 | none => rw [e] at h; cases h
 | some j =>
  rw [e] at h
  have hj := List.getElem?_eq_some_iff.mp e
  obtain ⟨h1, h2⟩ := hj
  rw [List.length_range] at h1
  rw [List.getElem_range] at h2
  subst h2
  cases h
  exact ⟨h1, by simp⟩
theorem range_len (lo : Int) (n : Nat) : (rangeD lo n).length = n := by simp [rangeD]
theorem ixL {ds : List PyData} {i : Int} {x : PyData} {k : PyData → Prop} (h : atI ds i = some x) (hk : k x) : (match atI ds i with | some x => k x | none => False) := by
 rw [h]
 exact hk
theorem at_in {xs : List PyData} {r : Int} (h0 : 0 ≤ r) (h1 : r < xs.length) : ∃ x, atI xs r = some x ∧ xs[r.toNat]? = some x := by
 have hr : r.toNat < xs.length := by omega
 have z := atI_nat (List.getElem?_eq_getElem hr)
 have e : ((r.toNat : Nat) : Int) = r := by omega
 rw [e] at z
 exact ⟨xs[r.toNat], z, List.getElem?_eq_getElem hr⟩
theorem at_map {α : Type} {f : α → PyData} {xs : List α} {r : Int} (h0 : 0 ≤ r) (h1 : r < xs.length) : ∃ x, atI (xs.map f) r = some (f x) ∧ xs[r.toNat]? = some x := by
 have hr : r.toNat < xs.length := by omega
 obtain ⟨y, h2, h3⟩ := at_in (xs := xs.map f) h0 (by rw [List.length_map]; exact h1)
 rw [List.getElem?_map, List.getElem?_eq_getElem hr] at h3
 cases h3
 exact ⟨xs[r.toNat], h2, List.getElem?_eq_getElem hr⟩
end Dv
set_option Elab.async false
set_option linter.all false
set_option maxRecDepth 100000
namespace Dv
open PySem PySem.Spec PyProof.Rows L2
theorem meets_enumerate_new1 {v : Value} {o : Obj} {H : Heap → Prop} (B : Begins v o H) :
  Meets (Builtin.«enumerate.__new__» ⟨[.type "enumerate", v], []⟩) (fun _ R s => H s.heap ∧
   R (.ok (.ret (.ref (s.heap.push o).objs.size))) { s with heap := (s.heap.push o).push { cls := .type "enumerate", data := .fields #[.none, .bool false, .ref s.heap.objs.size, rawInt 0, .none, .none] } }) :=
 .of_wp fun prog w A R s h => by
  obtain ⟨hp, g, d, tk, os⟩ := s; obtain ⟨h1, h⟩ := h
  have hsub := sub_enumerate
  have q1 : ∀ {A' : Around} {E : Value → Shared → Prop} {Q : Value → Shared → Prop}, Q (.ref hp.objs.size) ⟨hp.push o, g, d, tk, os⟩ → wpAny (model prog w) A' (pyIter v) Q E ⟨hp, g, d, tk, os⟩ :=
   fun q => B.iter prog w _ _ ⟨hp, g, d, tk, os⟩ _ h1 q
  wp_walk using q1
  refine wpAny_stack_any fun st => wpAny_pure ?_
  split
  ·rename_i c _ _ _ _ _
   cases (c == Value.type "enumerate")
   ·wp_walk using q1
    exact ⟨_, rfl, h⟩
   ·wp_walk using q1
    exact ⟨_, rfl, h⟩
  ·wp_walk using q1
   exact ⟨_, rfl, h⟩
section
variable {prog : Program} {w : World} {A : Around} {E : Value → Shared → Prop} {s : Shared}
theorem enum_begins1 {v : Value} {o : Obj} {H : Heap → Prop} {Q : Value → Shared → Prop} (B : Begins v o H) (h1 : H s.heap)
  (h : ∀ h', IsEnum h' (s.heap.objs.size + 1) s.heap.objs.size 0 .none → h'.get? s.heap.objs.size = some o → h'.objs.size = s.heap.objs.size + 2 →
   (∀ b o, s.heap.get? b = some o → h'.get? b = some o) → Q (.ref (s.heap.objs.size + 1)) { s with heap := h' }) (ho : o.isFreed = false) :
  wpAny (model prog w) A (call (.type "enumerate") [v]) Q E s := by
 refine callType_new F.called_enumerate (by decide) (F.typeCall_enumerate_1 _) (F.newCall_enumerate_1 _) (fun obj => F.args_object_init_2 obj _) F.entry_enumerate_new
  (meets_enumerate_new1 B) ⟨h1, ?_⟩
 have hz : (s.heap.push o).objs.size = s.heap.objs.size + 1 := Heap.size_push ..
 show _ ∧ _
 rw [hz]
 have he : IsEnum ((s.heap.push o).push
   { cls := .type "enumerate", data := .fields #[.none, .bool false, .ref s.heap.objs.size, rawInt 0, .none, .none] }) (s.heap.objs.size + 1) s.heap.objs.size 0 .none := by
  have := Heap.get?_push_size (s.heap.push o)
   (o := { cls := .type "enumerate", data := .fields #[.none, .bool false, .ref s.heap.objs.size, rawInt 0, .none, .none] }) rfl
  rw [hz] at this; exact this
 refine ⟨⟨_, he, rfl⟩, h _ he (Heap.get?_push_of_some _ (Heap.get?_push_size _ ho)) (by rw [Heap.size_push, hz]) fun b o x => Heap.get?_push_of_some _ (Heap.get?_push_of_some _ x)⟩
end
def IteT (K : PySem.W.Frag) (a : Addr) : It :=
 ⟨fun i H => ∃ (xs : List V) (x : V), SqT K H a xs ∧ xs[i]? = some x, fun i H v H' => ∃ T x, v = .ref T ∧ H T = none ∧ H' = upd H T (.tup [.int (i : Nat), x]) ∧ ∀ xs, SqT K H a xs → xs[i]? = some x, fun i H => ∃ xs : List V, SqT K H a xs ∧ xs.length = i⟩
theorem turn_enumT {P : Program} {w : World} {K : PySem.W.Frag} {elts : List Expr} {kk : Nat} {tpos : Pos} (a e it : Addr) :
  Turn P w K (.Tuple elts kk tpos) (IteT K a) [e, it] e (fun i h => (∃ old, IsEnum h e it ((i : Nat) : Int) old) ∧ h.IsTupleIter it a i ∧ e ≠ it ∧ a ≠ it ∧ e ≠ a) where
 mem := by simp
 obj := fun i h st b hb => by
  obtain ⟨⟨old, he⟩, ⟨o, ho, hc, hd⟩, _⟩ := st
  have e' : b = e ∨ b = it := by simpa using hb
  rcases e' with z | z
  ·rw [z]; exact ⟨_, he, fun v q => nomatch q⟩
  ·rw [z]; exact ⟨o, ho, fun v q => by rw [hd] at q; cases q⟩
 keep := fun i h h' st k => let ⟨⟨old, he⟩, hi, hne⟩ := st; ⟨⟨old, k e (by simp) _ he⟩, hi.at fun o q => k it (by simp) o q, hne⟩
 item := by
  intro X hP hw hK hc i pins s σ H E I hf st hg
  subst hP hw hK
  obtain ⟨⟨old, he⟩, hit, hne, hai, hea⟩ := st
  obtain ⟨xs, x, hq, hx⟩ := hg
  obtain ⟨its, rv, p, hz⟩ := I.tuple hq
  obtain ⟨u, hu, ru⟩ := rv.get hx
  have hel : e < s.heap.objs.size := Heap.lt_size he
  have hil : it < s.heap.objs.size := by obtain ⟨_, q, _⟩ := hit; exact Heap.lt_size q
  have hlt : i < its.toArray.size := by
   have := (List.getElem?_eq_some_iff.mp hu).1
   simpa using this
  refine wpAny_pyNext_enum_itemD (Draws.tuple (A := X.A.in1) (I.ok.hd hc) it a hai its.toArray) he ⟨hit, p⟩ hlt hne (by simp [hne, hea]) fun y h' tk hy ho hit' hT hsz hk => ?_
  have ey : y = u := by
   have z : its[i]? = some y := by simpa using hy
   rw [hu] at z
   exact (Option.some.inj z).symm
  subst ey
  refine ⟨_, rfl, wpAny_letOwnedTupleGo_enum (s := { s with heap := h', toks := tk + 1 }) ho fun h'' he' sb => ?_⟩
  have hT2 : h''.get? s.heap.objs.size = some { cls := .type "tuple", data := .seq #[.int i tk, y] } := (sb.2 _ (Nat.ne_of_gt hel)).trans hT
  have new : ObjOk X.prog X.w (upd H s.heap.objs.size (.tup [.int (i : Nat), x])) h'' s.heap.objs.size (.tup [.int (i : Nat), x]) :=
   ⟨by show 2 ≤ sizeLine; decide, [.int i tk, y], .cons ⟨_, rfl⟩ (.cons ru .nil), ⟨_, hT2, rfl, _, rfl⟩⟩
  have I1 : Inv X pins σ (upd H s.heap.objs.size (.tup [.int (i : Nat), x])) { s with heap := h'', toks := tk + 1 } :=
   I.turnedNew (ch := [e, it]) (fun b ob hb q => (sb.2 b (fun z => hb (by simp [z]))).trans (hk b ob (fun z => hb (by simp [z])) (fun z => hb (by simp [z])) q)) hf (Nat.le_refl _) new
  refine ⟨.ref s.heap.objs.size, _, I1, rfl, ⟨_, x, rfl, I.hok.fresh (Nat.le_refl _), rfl, fun ys hy => by rw [I.tuple_inj hy hq]; exact hx⟩, ⟨⟨y, ?_⟩, hit'.1.at fun o q => (sb.2 it (Ne.symm hne)).trans q, hne, hai, hea⟩, fun b hb => ?_⟩
  ·have e1 : ((i + 1 : Nat) : Int) = (i : Int) + 1 := by omega
   rw [e1]; exact he'
  ·have hb' : b < s.heap.objs.size := by
    have e' : b = e ∨ b = it := by simpa using hb
    rcases e' with z | z
    ·rw [z]; exact hel
    ·rw [z]; exact hil
   rw [upd_ne (Nat.ne_of_lt hb')]
   exact (hf b hb).1
 done := by
  intro X hP hw hK hc i pins s σ H E I hf st hg
  subst hP hw hK
  obtain ⟨⟨old, he⟩, hit, hne, hai, hea⟩ := st
  obtain ⟨xs, hq, hx⟩ := hg
  obtain ⟨its, rv, p, hz⟩ := I.tuple hq
  obtain ⟨f0, f1, f2, f3, f4, f5⟩ := hf it (by simp)
  have hl := rv.length
  have hn : i = its.toArray.size := by simp; omega
  rw [hn] at hit
  exact wpAny_pyNext_enum_endD (Draws.tuple (A := X.A.in1) (I.ok.hd hc) it a hai its.toArray) he ⟨hit, p⟩ fun h' eb => ⟨rfl, I.turned (t' := s.toks) (fun b o hb q => eb b o hb q) f0 f1 f3 f4 f5⟩
 self := fun A i s Q E st h => let ⟨⟨_, he⟩, _⟩ := st; wpAny_pyIter_enum he h
def iEnumA (K : PySem.W.Frag) (ta : TA) : TI := fun σ H R => ta σ H fun vs H1 => (∃ a xs, vs = [.ref a] ∧ SqL K H1 a xs ∧ R (Ite K a) H1) ∨ ∃ a xs, vs = [.ref a] ∧ SqT K H1 a xs ∧ R (IteT K a) H1
theorem pi_enumA {X : Cx} {e : Expr} {ta : TA} {p pos tpos : Pos} {elts : List Expr} {kk : Nat} (hg : Gl X "enumerate") (hm : X.mg "enumerate" = none) (ha : PA X [e] ta) (hs : starEach [e] X.env = [(false, eval e X.env)] := by rfl) :
  PI X (.Tuple elts kk tpos) (.Call (.Name "enumerate" p) [e] [] pos) (iEnumA X.K ta) := by
 refine ⟨fun pins s σ H R I h => ?_⟩
 refine Call_ (ld_blt I hg hm boot_enumerate (PyProof.Rows.callWith_type1 (thn (ha.run pos pins s σ H _ I h) fun us s1 ⟨vs, H1, I1, r1, q1⟩ => ?_) hs rfl))
 have fp : ∀ b, b ∈ [s1.heap.objs.size + 1, s1.heap.objs.size] → FpOk X pins H1 b := fun b hb => by
  have e' : b = s1.heap.objs.size + 1 ∨ b = s1.heap.objs.size := by simpa using hb
  have hle : s1.heap.objs.size ≤ b := by
   rcases e' with z | z
   ·rw [z]; exact Nat.le_add_right _ _
   ·rw [z]; exact Nat.le_refl _
  exact I1.fpOk hle (I1.hok.fresh hle)
 rcases q1 with ⟨a, xs, ex, hq, q⟩ | ⟨a, xs, ex, hq, q⟩
 ·subst ex
  cases r1 with
  | cons r rr =>
   cases rr
   cases r
   obtain ⟨its, rv, p', hz⟩ := I1.list hq
   refine call_enumerate_list p'.isList fun h' he hit hsz hk => wpAny_pyIter_enum he ?_
   have I2 : Inv X pins σ H1 { s1 with heap := h' } := I1.kept (t' := s1.toks) hk
   exact ⟨s1.heap.objs.size + 1, [s1.heap.objs.size + 1, s1.heap.objs.size], _, _, H1, rfl, I2, turn_enum a (s1.heap.objs.size + 1) s1.heap.objs.size, ⟨⟨.none, he⟩, hit, Nat.succ_ne_self _⟩, fp, q⟩
 ·subst ex
  cases r1 with
  | cons r rr =>
   cases rr
   cases r
   obtain ⟨its, rv, p', hz⟩ := I1.tuple hq
   obtain ⟨oa, ha', _⟩ := id p'
   have hlt := Heap.lt_size ha'
   refine enum_begins1 (begins_tuple a its.toArray) p' (fun h' he hit hsz hk => wpAny_pyIter_enum he ?_) rfl
   have I2 : Inv X pins σ H1 { s1 with heap := h' } := I1.kept (t' := s1.toks) hk
   exact ⟨s1.heap.objs.size + 1, [s1.heap.objs.size + 1, s1.heap.objs.size], _, _, H1, rfl, I2, turn_enumT a (s1.heap.objs.size + 1) s1.heap.objs.size, ⟨⟨.none, he⟩, ⟨_, hit, rfl, rfl⟩, Nat.succ_ne_self _, Nat.ne_of_lt hlt, Nat.ne_of_gt (Nat.lt_succ_of_lt hlt)⟩, fp, q⟩
def enumD (xs : List PyData) : List PyData := zipD (rangeD 0 xs.length) xs
theorem enum_get {xs : List PyData} {i : Nat} {d : PyData} (h : (enumD xs)[i]? = some d) : ∃ x, xs[i]? = some x ∧ d = .tuple [.int i, x] := by
 obtain ⟨a, x, h1, h2, e⟩ := zip_get h
 have := (range_at h1).2
 subst this
 exact ⟨x, h2, e⟩
theorem enum_len (xs : List PyData) : (enumD xs).length = xs.length := by simp [enumD, zipD, rangeD]
theorem ite_ok {K : PySem.W.Frag} {F0 : Hp} {a : Addr} {xs : List V} {ds : List PyData} (h : SqL K F0 a xs) (r : RepAll K F0 xs ds) : ItOk K (Ite K a) F0 (enumD ds) := fun F H s0 s1 => by
 have hq : SqL K H a xs := sqL_mono s1 (sqL_mono s0 h)
 refine ⟨⟨xs, hq, by rw [enum_len, r.length]; exact Nat.le_refl _⟩, fun i d hd => ?_⟩
 obtain ⟨d1, g1, e⟩ := enum_get hd
 subst e
 obtain ⟨v, hv, rv⟩ := r.get g1
 refine ⟨⟨xs, v, hq, hv⟩, fun x H' hy => ?_⟩
 obtain ⟨T, x1, e, hT, e', k1⟩ := hy
 subst e e'
 have z1 := k1 xs hq
 rw [hv] at z1
 cases z1
 exact pair_new s1 hT (.int _) (rv.mono s0)
theorem iteT_ok {K : PySem.W.Frag} {F0 : Hp} {a : Addr} {xs : List V} {ds : List PyData} (h : SqT K F0 a xs) (r : RepAll K F0 xs ds) : ItOk K (IteT K a) F0 (enumD ds) := fun F H s0 s1 => by
 have hq : SqT K H a xs := sqT_mono s1 (sqT_mono s0 h)
 refine ⟨⟨xs, hq, by rw [enum_len, r.length]⟩, fun i d hd => ?_⟩
 obtain ⟨d1, g1, e⟩ := enum_get hd
 subst e
 obtain ⟨v, hv, rv⟩ := r.get g1
 refine ⟨⟨xs, v, hq, hv⟩, fun x H' hy => ?_⟩
 obtain ⟨T, x1, e, hT, e', k1⟩ := hy
 subst e e'
 have z1 := k1 xs hq
 rw [hv] at z1
 cases z1
 exact pair_new s1 hT (.int _) (rv.mono s0)
def dEnum (P : List Bool) (t : DA) : DI := fun ρ Q => t ρ fun os ρ1 => shareAll P ρ1 os fun ds ρ2 => match ds with
 | [.list xs] => Q (enumD xs) ρ2
 | [.tuple xs] => Q (enumD xs) ρ2
 | _ => False
theorem i_enum {X : Cx} {C : FC} {P : List Bool} {e : Expr} {ta : DA} {p pos tpos : Pos} {elts : List Expr} {kk : Nat} (hP : C.Tags P) (hm : X.mg "enumerate" = none) (ha : QA X C [e] ta) (hg : Gl X "enumerate" := by rfl)
  (hs : starEach [e] X.env = [(false, eval e X.env)] := by rfl) : QI X C (.Tuple elts kk tpos) (.Call (.Name "enumerate" p) [e] [] pos) (dEnum P ta) :=
 QI.of (pi_enumA hg hm ha.pa hs) fun σ H R ⟨F, ρ, q, S, ht, k⟩ => by
  refine ⟨F, ρ, _, S, ht, fun os ρ1 F1 H1 vs hq S1 s1 d1 => ?_⟩
  obtain ⟨ds, ρ2, F2, w, S2, s2, r⟩ := Sim.shareAll hP S1 d1 hq
  cases r with
  | nil => exact w.elim
  | @cons v _ d _ hv hr =>
   cases hr with
   | cons _ _ => cases d <;> exact w.elim
   | nil =>
    cases hv with
    | lst a1 a2 => exact .inl ⟨_, _, rfl, sqL_mono S2.sub a1, k _ _ _ _ _ w S2 (s1.trans s2) (ite_ok a1 a2)⟩
    | tup a1 a2 => exact .inr ⟨_, _, rfl, sqT_mono S2.sub a1, k _ _ _ _ _ w S2 (s1.trans s2) (iteT_ok a1 a2)⟩
    | _ => exact w.elim
end Dv
set_option Elab.async false
set_option linter.all false
set_option maxRecDepth 100000
namespace Dv
open PySem PySem.Spec PyProof.Rows L2
def indexD : OpN := fun ds k => match ds with
 | [.list xs, d] => shp (.list xs) ∧ shp d ∧ match xs.findIdx? (fun z => PyData.eqv z d) with
  | some j => k (.int (j : Nat))
  | none => False
 | _ => False
section
variable {X : Cx} {C : FC} {P : List Bool} {o e : Expr} {to : DE} {tA : DA} {apos cpos : Pos} {k : Nat}
theorem ok_index : MtOk X (rIndexD X.K) indexD := fun F H v vs d ds q Q s w0 w1 w k => by
 cases d with
 | list xs =>
  cases w1 with
  | nil => exact w.elim
  | @cons v1 _ d1 _ hv hr =>
   cases hr with
   | cons _ _ => exact w.elim
   | nil =>
    have w : shp (.list xs) ∧ shp d1 ∧ match xs.findIdx? (fun z => PyData.eqv z d1) with
     | some j => q (.int (j : Nat))
     | none => False := w
    obtain ⟨h1, h2, w⟩ := w
    cases z : xs.findIdx? (fun z => PyData.eqv z d1) with
    | none => rw [z] at w; exact w.elim
    | some j =>
     rw [z] at w
     obtain ⟨hj, hz, hno⟩ := List.findIdx?_eq_some_iff_getElem.mp z
     obtain ⟨a, ys, e, hsq, r⟩ := id w0
     subst e
     refine ⟨a, v1, d1, xs, j, xs[j], rfl, rfl, View.dp (d := .list xs) s (SeqAt.canLay_of_shaped h1) w0, View.dp s (SeqAt.canLay_of_shaped h2) hv, h1, h2, List.getElem?_eq_getElem hj, hz, fun m z' hm hz' => ?_, k _ _ _ _ w (Gr.refl s) (.int _)⟩
     have hml : m < xs.length := Nat.lt_trans hm hj
     rw [List.getElem?_eq_getElem hml] at hz'
     cases hz'
     simpa using hno m hm
 | _ => exact w.elim
theorem q_index (hr : Room k X.A) (ho : QE X C o to) (ha : QA X C [e] tA) (hbase : attributeBase o "index" X.env (eval o X.env) = eval o X.env := by rfl)
  (hfew : ((backTo cpos (starEach [e] X.env)).all (fun x => !x.1) && (backToKw cpos (keywordEach [] X.env)).all (fun x => x.1.isSome)
   && decide ([e].length + ([] : List Keyword).length + (if ([] : List Keyword).isEmpty then 0 else 1) < 30)) = true := by rfl)
  (hline : (apos.endLine == cpos.line) = true := by rfl) (hs : starEach [e] X.env = (false, eval e X.env) :: starEach [] X.env := by rfl) (hplain : (backTo cpos (starEach [] X.env)).any (·.1) = false := by rfl) :
  QE X C (.Call (.Attribute o "index" apos) [e] [] cpos) (dBM "list" indexD to tA) :=
 m_look PySem.F.plainAttrs_list PySem.F.slot_list_index PySem.F.type_list_index (mt_indexD (by have := hr.un; omega)) ok_index ho ha hbase hfew hline hs hplain
end
theorem each_zip {X : Cx} {pins : List (Addr × Obj)} {σ : L2.St} {H : Hp} {s : Shared} (I : Inv X pins σ H s) : ∀ {xs : List V} {its : List Value} {ds : List PyData}, Vals xs its → DpAll X.K H xs ds →
  PySem.W.EachIs (fun u (b : V × PyData) => RelV b.1 u) its (xs.zip ds) ∧ PySem.W.EachIs (fun u (b : V × PyData) => ∃ as, Reads s.heap u b.2 as) its (xs.zip ds)
 | _, _, _, .nil, .nil => ⟨.nil, .nil⟩
 | _, _, _, .cons r t, .cons h1 h2 => by
  obtain ⟨a, b⟩ := each_zip I t h2
  exact ⟨.cons r a, .cons (Dp.reads I _ _ _ h1 r) b⟩
theorem each_vals : ∀ {out : List Value} {bs : List (V × PyData)}, PySem.W.EachIs (fun u (b : V × PyData) => RelV b.1 u) out bs → Vals (bs.map Prod.fst) out
 | _, _, .nil => .nil
 | _, _, .cons r t => .cons r (each_vals t)
structure Srt (xs : List PyData) : Prop where
 al : PySem.W.AllAlike xs
 so : PySem.W.Sortable xs
 ln : xs.length ≤ 16777216
 sh : ∀ d ∈ xs, Shp 60 d
def sortD (xs : List PyData) : List PyData := xs.mergeSort (PySem.W.dataLe false id)
theorem repAll_zip {K : PySem.W.Frag} {F : Hp} : ∀ {xs : List V} {ds : List PyData}, RepAll K F xs ds → ∀ b ∈ xs.zip ds, Rep K F b.1 b.2
 | _, _, .nil, b, hb => by simp at hb
 | _, _, .cons r t, b, hb => by
  rcases List.mem_cons.mp (show b ∈ _ :: _ from hb) with rfl | z
  ·exact r
  ·exact repAll_zip t b z
theorem repAll_of {K : PySem.W.Frag} {F : Hp} : ∀ {bs : List (V × PyData)}, (∀ b ∈ bs, Rep K F b.1 b.2) → RepAll K F (bs.map Prod.fst) (bs.map Prod.snd)
 | [], _ => .nil
 | b :: bs, h => .cons (h b List.mem_cons_self) (repAll_of fun c hc => h c (List.mem_cons_of_mem _ hc))
section
variable {X : Cx} {C : FC} {a : Expr} {tA : DA} {p pos : Pos} {k : Nat}
end
end Dv
set_option Elab.async false
set_option linter.all false
set_option maxRecDepth 100000
namespace Dv
open PySem PySem.Spec PyProof.Rows L2
end Dv
set_option Elab.async false
set_option linter.all false
set_option maxRecDepth 100000
namespace Dv
open PySem PySem.Spec L2
def rRepr (K : PySem.W.Frag) : List V → Hp → VK → Prop := fun vs H Q => ∃ (v : V) (d : PyData), vs = [v] ∧ Dp K H v d ∧ d.canLay0 = true ∧ d.showable = true ∧ d.depth ≤ 60 ∧ d.shown.length ≤ sizeLine ∧ Q (.str d.shown) H
theorem cr_repr {X : Cx} (hg : X.A.guards = some []) (hu : X.A.units + 65 < cLine) : CallR X (.builtin "repr") (rRepr X.K) := by
 intro pins s σ H vs us Q I r h
 obtain ⟨v, d, rfl, dp, can, sh, dep, sz, q⟩ := h
 obtain ⟨u, rfl, ru⟩ := vals1 r
 obtain ⟨as, rd⟩ := Dp.reads I d v u dp ru
 have nod : d.hasDict = true → sysModules ∉ as := PyData.noDict_hsm (PyData.hasDict_of_canLay d can)
 have big : ∀ (a : Addr), u = .ref a → wpAny (model X.prog X.w) X.A (call (.builtin "repr") [u]) (EP X pins σ Q) X.xe s := by
  rintro a rfl
  exact repr_of_reads' rd sh nod hg (by omega) (fun _ _ e => e) (fun h' t tk hk => ⟨.str d.shown, H, I.kept (t' := tk) hk, ⟨t, rfl⟩, q⟩) sz
 cases dp with
 | non => cases ru; exact PySem.P.repr_of_none ⟨.str _, H, I.tok _, ⟨_, rfl⟩, q⟩
 | bl b => cases ru; exact PySem.P.repr_of_bool ⟨.str _, H, I.tok _, ⟨_, rfl⟩, q⟩
 | int i =>
  obtain ⟨t, rfl⟩ := ru
  exact PySem.P.repr_of_int (by simpa [PyData.showable] using sh) ⟨.str _, H, I.tok _, ⟨_, rfl⟩, q⟩
 | str x =>
  obtain ⟨t, rfl⟩ := ru
  exact PySem.P.repr_of_str ⟨.str _, H, I.tok _, ⟨_, rfl⟩, q⟩ sz
 | lst _ _ => cases ru; exact big _ rfl
 | tup _ _ => cases ru; exact big _ rfl
structure Sho (d : PyData) : Prop where
 sh : Shp 60 d
 ok : d.showable = true
 sz : d.shown.length ≤ 16777216
def reprD : OpN := fun ds k => match ds with
 | [d] => Sho d ∧ k (.str d.shown)
 | _ => False
section
variable {X : Cx} {C : FC} {a : Expr} {tA : DA} {p pos : Pos} {k : Nat}
theorem q_repr (hr : RG k X.A) (hm : X.mg "repr" = none) (ha : QA X C [a] tA) (hg : Gl X "repr" := by rfl)
  (he : starEach [a] X.env = (false, eval a X.env) :: starEach [] X.env := by rfl) (hpl : (backTo pos (starEach [] X.env)).any (·.1) = false := by rfl) : QE X C (.Call (.Name "repr" p) [a] [] pos) (dCB reprD tA) :=
 q_callB (cr_repr hr.g (by have := hr.r.un; omega)) (fun F H vs ds q Q s v w k => by
  match ds, v, w with
  | [d], v, w =>
   obtain ⟨v, e, vw⟩ := va1 v
   subst e
   exact ⟨_, d, rfl, vw.dp s w.1.sh.can, w.1.sh.can, w.1.ok, w.1.sh.dep, w.1.sz, k _ _ _ _ w.2 (Gr.refl s) (.str _)⟩) hm (by decide +kernel) ha hg (by decide) (by decide) he hpl
end
end Dv
set_option Elab.async false
set_option linter.all false
set_option maxRecDepth 100000
namespace Dv
open PySem PySem.Spec L2
section
open PySem.AutoSeq1 in
theorem list_extendT (l : Addr) (items : Array Value) (n : Nat) (b : Addr) (items2 : Array Value) (n2 : Nat) (dd2 : Option Addr) (sl2 : Array (Option Value)) (hc0 : ¬(!items.isEmpty && Builtin.List.listTooLong (items.size + items2.size)) = true) (hc1 : items.size ≤ sizeLine) (hs2 : items.size + items2.size ≤ sizeLine + 1) :
  Meets (Builtin.«list.extend» ⟨[.ref l, .ref b], []⟩) (fun _ R s => s.heap.get? l = some { cls := .type "list", dict := none, data := .seq items n, slots := #[] } ∧ s.heap.get? b = some { cls := .type "tuple", dict := dd2, data := .seq items2 n2, slots := sl2 } ∧ R (.ok (.ret Value.none)) { s with heap := s.heap.update l (Obj.mapSeq fun x => x ++ items2), toks := s.toks }) :=
 .of_wp fun prog w A R s h => by
  obtain ⟨hp, g, d, tk, os⟩ := s; obtain ⟨hl, hb, h⟩ := h; have f1 := AutoSeq1.idx_int; have f2 := AutoSeq1.sub_tuple_tuple; have f3 := AutoSeq1.sub_list_list; have f4 := AutoSeq1.sub_tuple_list; have f5 := AutoSeq1.sub_list_tuple;
  have hz' : (items ++ items2).size ≤ sizeLine + 1 := by rw [Array.size_append]; exact hs2
  wp_walk using (wpAny_updateSeq hl rfl (hz := hc1) (_hz' := hz')), wpAny_loadPart' hl, wpAny_loadPart' hb; exact ⟨_, rfl, h⟩
end
section
variable {X : Cx} {C : FC} {P : List Bool} {x : Str} {e : Expr} {tA : DA} {p apos cpos : Pos} {i : Nat}
def rExtendT (K : PySem.W.Frag) : V → List V → Hp → VK → Prop := fun x vs H Q => ∃ l b xs zs, x = .ref l ∧ vs = [.ref b] ∧ H l = some (.lst xs) ∧ SqT K H b zs ∧ xs.length + zs.length ≤ sizeLine ∧ Q .non (upd H l (.lst (xs ++ zs)))
open PyProof.Rows in
theorem mt_extendT : MtR X "list.extend" (rExtendT X.K) := by
 intro pins s σ H x vs v us Q I rx rv h
 obtain ⟨l, b, xs, zs, rfl, rfl, hH, hB, hz, q⟩ := h
 cases rx
 obtain ⟨u, rfl, ru⟩ := Vals.one rv
 cases ru
 obtain ⟨z, its, n, r, hl, e⟩ := I.lstM hH
 obtain ⟨its2, r2, p2, hl2⟩ := I.tuple hB
 obtain ⟨⟨c2, dd2, dt2, sl2⟩, e2, hc2, n2, hd2⟩ := id p2
 have hc2 : c2 = .type "tuple" := hc2
 have hd2 : dt2 = .seq its2.toArray n2 := hd2
 subst hc2 hd2
 have l1 := r.length
 have l2 := r2.length
 have hsz : its.toArray.size + its2.toArray.size ≤ sizeLine := by rw [List.size_toArray, List.size_toArray]; omega
 have hlong : ¬ (!its.toArray.isEmpty && Builtin.List.listTooLong (its.toArray.size + its2.toArray.size)) = true := by
  rw [notLongL hsz, Bool.and_false]
  exact Bool.false_ne_true
 refine call_meets F.slot_list_extend ⟨_, e, rfl⟩ F.entry_list_extend (F.args_list_extend_2 _ _)
  (list_extendT l its.toArray n b its2.toArray n2 dd2 sl2 hlong (by rw [List.size_toArray]; omega) (by omega)) ⟨e, e2, ?_⟩
 refine ⟨.non, _, I.lset (its' := its ++ its2) hH e (by simp) (r.append r2) ?_, rfl, q⟩
 rw [List.length_append]
 omega
theorem MtR.or {id : String} {r1 r2 : V → List V → Hp → VK → Prop} (h1 : MtR X id r1) (h2 : MtR X id r2) : MtR X id (fun x vs H Q => r1 x vs H Q ∨ r2 x vs H Q) := by
 intro pins s σ H x vs v us Q I rx rv h
 rcases h with h | h
 ·exact h1 pins s σ H x vs v us Q I rx rv h
 ·exact h2 pins s σ H x vs v us Q I rx rv h
def extendAD : OpM := fun d ds k => match d, ds with
 | .list xs, [.list ys] => xs.length + ys.length ≤ big ∧ k (.list (xs ++ ys)) .none
 | .list xs, [.tuple ys] => xs.length + ys.length ≤ big ∧ k (.list (xs ++ ys)) .none
 | _, _ => False
theorem ok_extendA : MutOk X (fun x vs H Q => rExtendR X.K x vs H Q ∨ rExtendT X.K x vs H Q) extendAD := fun F H a vs d ds q Q s hF hO r w k => by
 match d, ds, hO, r, w with
 | .list xs, [.list ys], hO, r, w =>
  obtain ⟨us, e, ru⟩ := hO
  obtain ⟨v, e1, rv⟩ := ra1 r
  subst e1
  cases rv with
  | lst h1 h2 => exact .inl ⟨a, _, us, _, rfl, rfl, e, sqL_mono s h1, by rw [ru.length, h2.length]; exact le_line w.1, k _ _ _ _ w.2 ⟨_, upd_same, ru.append h2⟩ .non⟩
 | .list xs, [.tuple ys], hO, r, w =>
  obtain ⟨us, e, ru⟩ := hO
  obtain ⟨v, e1, rv⟩ := ra1 r
  subst e1
  cases rv with
  | tup h1 h2 => exact .inr ⟨a, _, us, _, rfl, rfl, e, sqT_mono s h1, by rw [ru.length, h2.length]; exact le_line w.1, k _ _ _ _ w.2 ⟨_, upd_same, ru.append h2⟩ .non⟩
theorem m_extendA (hP : C.Tags P) (ha : QA X C [e] tA) (hN : X.N[i]? = some x := by rfl) (hvis : Vis X.env.scope x := by first | exact Or.inl rfl | exact Or.inr (Or.inl rfl) | exact Or.inr (Or.inr rfl)) (hd : (x == ("__debug__" : Str)) = false := by decide) (hcd : (x == ("__classdict__" : Str)) = false := by decide)
  (hbase : attributeBase (.Name x p) "extend" X.env (eval (.Name x p) X.env) = eval (.Name x p) X.env := by rfl)
  (hfew : ((backTo cpos (starEach [e] X.env)).all (fun x => !x.1) && (backToKw cpos (keywordEach [] X.env)).all (fun x => x.1.isSome)
   && decide ([e].length + ([] : List Keyword).length + (if ([] : List Keyword).isEmpty then 0 else 1) < 30)) = true := by rfl)
  (hline : (apos.endLine == cpos.line) = true := by rfl) (hs : starEach [e] X.env = (false, eval e X.env) :: starEach [] X.env := by rfl) (hplain : (backTo cpos (starEach [] X.env)).any (·.1) = false := by rfl) :
  QE X C (.Call (.Attribute (.Name x p) "extend" apos) [e] [] cpos) (dMut P "list" i extendAD tA) :=
 m_mut hP PySem.F.plainAttrs_list PySem.F.slot_list_extend PySem.F.type_list_extend (MtR.or mt_extendR mt_extendT) ok_extendA ha (pe_var hN hvis hd hcd) hbase hfew hline hs hplain
end
section
variable {X : Cx} {C : FC} {a : Expr} {tA : DA} {p p2 q2 pos : Pos} {k : Nat}
end
section
variable {X : Cx} {C : FC} {a b : Expr} {ta tb : DE} {pos : Pos}
def eqSD : Op2 := fun d e k => match d, e with
 | .str x, .str y => k (.bool (decide (x = y)))
 | _, _ => False
def neSD : Op2 := fun d e k => match d, e with
 | .str x, .str y => k (.bool (!decide (x = y)))
 | _, _ => False
theorem ok_neS : OpOk X rNe neSD := fun F H x y d e q Q s v1 v2 w k => by
 cases d with
 | str x =>
  cases e with
  | str y =>
   rw [view_str v1, view_str v2]
   refine ⟨rfl, ?_⟩
   have e : decide (V.str x = V.str y) = decide (x = y) := by simp
   rw [e]
   exact k _ _ _ _ w (Gr.refl s) (.bl _)
  | _ => exact w.elim
 | _ => exact w.elim
theorem t_neS (ha : QE X C a ta) (hb : QE X C b tb) : QT X C (.Compare a [.NotEq] [b] pos) (dTest (dBin neSD ta tb)) := t_cmp op_ne ok_neS ha hb
end
end Dv
set_option Elab.async false
set_option linter.all false
set_option maxRecDepth 100000
namespace Dv
open PySem PySem.Spec PySem.W L2
open PyProof.Rows (Call_)
section
variable {prog : Program} {w : World} {A : Around} {E : Value → Shared → Prop} {s : Shared} {z TI TO i1 i2 T : Addr} {fp1 fp2 : List Addr} {n1 n2 i : Nat} {P1 P2 : Nat → Value → Prop} {St1 St2 : Nat → Heap → Prop} {f : Bool} {oT : Obj}
theorem zipHeld_item {Q : Value → Shared → Prop} (S : ZipSep2 z TI TO i1 i2 fp1 fp2) (D1 : Draws prog w A i1 fp1 n1 P1 St1) (D2 : Draws prog w A i2 fp2 n2 P2 St2)
  (hz : IsZipHeld s.heap z TI TO T f) (hT : s.heap.get? T = some oT) (hTI : IsTupOf2 s.heap TI (.ref i1) (.ref i2)) (st1 : St1 i s.heap) (st2 : St2 i s.heap) (l1 : i < n1) (l2 : i < n2)
  (hQ : ∀ x y h' tk, P1 i x → P2 i y → IsZipHeld h' z TI TO T true → St1 (i + 1) h' → St2 (i + 1) h' → IsTupOf2 h' s.heap.objs.size x y → h'.objs.size = s.heap.objs.size + 1 →
   (∀ c o, c ≠ z → c ≠ i1 → c ≠ i2 → s.heap.get? c = some o → h'.get? c = some o) → Q (.ref s.heap.objs.size) { s with heap := h', toks := tk }) :
  wpAny (model prog w) A (Builtin.«zip.__next__» ⟨[.ref z], []⟩) (fun fin s' => ∃ v, fin = .done (.ret v) ∧ Q v s') E s := by
 obtain ⟨hp, g, d, tk0, os⟩ := s
 show wpAny _ _ (field (.ref z) 2 >>= _) _ _ _
 apply wpAny_bind (wpAny_field hz rfl (x := .bool false) rfl _)
 show wpAny _ _ (field (.ref z) 3 >>= _) _ _ _
 apply wpAny_bind (wpAny_field hz rfl (x := .ref TI) rfl _)
 apply wpAny_bind (wpAny_seqItems hTI rfl _)
 show wpAny _ _ (Builtin.SmallTypes.ownedTupleIsFree (.ref z) >>= _) _ _ _
 refine wpAny_bind (wpAny_tupleHeld_zip hz hT fun ha za sa => ?_)
 simp only [Bool.false_eq_true, if_false]
 apply wpAny_bind
 rw [← Array.forIn_toList]
 simp only [List.forIn_cons, List.forIn_nil]
 apply wpAny_bind
 apply wpAny_bind
 apply wpAny_holding
 show wpAny _ _ (Builtin.SmallTypes.nextOf (.ref i1) >>= _) _ _ _
 have za1 : St1 i ha := D1.over st1 sa S.zf1
 have za2 : St2 i ha := D2.over st2 sa S.zf2
 refine wpAny_bind (D1.item i ⟨ha, g, d, tk0, os⟩ _ _ l1 za1 fun x hb tb px sb1 sb => wpAny_pure (wpAny_pure ?_))
 apply wpAny_bind
 apply wpAny_bind
 apply wpAny_holding
 show wpAny _ _ (Builtin.SmallTypes.nextOf (.ref i2) >>= _) _ _ _
 refine wpAny_bind (D2.item i ⟨hb, g, d, tb, os⟩ _ _ l2 (D2.over za2 sb S.sep1_2) fun y hc tc py sc2 sc => wpAny_pure (wpAny_pure (wpAny_pure ?_)))
 show wpAny _ _ (newTuple [x, y] >>= _) _ _ _
 refine wpAny_bind (wpAny_newTuple ?_)
 have size : hc.objs.size = hp.objs.size := by rw [sc.1, sb.1, sa.1]
 have zc : IsZipHeld hc z TI TO T true := sc.extBut _ _ S.zi2 (sb.extBut _ _ S.zi1 za)
 have st1c : St1 (i + 1) hc := D1.over sb1 sc S.sep2_1
 have keep : ∀ c o, c ≠ z → c ≠ i1 → c ≠ i2 → hp.get? c = some o → hc.get? c = some o := fun c o c1 c2 c3 e => sc.extBut _ _ c3 (sb.extBut _ _ c2 (sa.extBut _ _ c1 e))
 refine wpAny_pure ⟨_, rfl, ?_⟩
 show Q (.ref hc.objs.size) _
 have tup : IsTupOf2 (hc.push { cls := .type "tuple", data := .seq #[x, y] }) hc.objs.size x y := Heap.get?_push_size _ rfl
 have up : ∀ b o, hc.get? b = some o → (hc.push { cls := .type "tuple", data := .seq #[x, y] }).get? b = some o := fun b o e => Heap.get?_push_of_some _ e
 have more : (hc.push { cls := .type "tuple", data := .seq #[x, y] }).objs.size = hc.objs.size + 1 := Heap.size_push ..
 rw [size] at tup more ⊢
 exact hQ x y _ _ px py (up _ _ zc) (D1.frame _ _ _ st1c fun b _ o e => up b o e) (D2.frame _ _ _ sc2 fun b _ o e => up b o e) tup more fun c o c1 c2 c3 e => up _ _ (keep c o c1 c2 c3 e)
theorem zipHeld_end {Q : Fin → Shared → Prop} (S : ZipSep2 z TI TO i1 i2 fp1 fp2) (D1 : Draws prog w A i1 fp1 n1 P1 St1) (D2 : Draws prog w A i2 fp2 n2 P2 St2)
  (hz : IsZipHeld s.heap z TI TO T f) (hT : s.heap.get? T = some oT) (hTI : IsTupOf2 s.heap TI (.ref i1) (.ref i2)) (st1 : St1 i s.heap) (st2 : St2 i s.heap) (l1 : i ≤ n1) (l2 : i ≤ n2) (fin : i = n1 ∨ i = n2)
  (hE : ∀ h' tk e, (∀ c o, c ≠ z → c ≠ i1 → c ≠ i2 → s.heap.get? c = some o → h'.get? c = some o) → (∃ o, h'.get? e = some o ∧ o.cls = .type "StopIteration") → E (.ref e) { s with heap := h', toks := tk }) :
  wpAny (model prog w) A (Builtin.«zip.__next__» ⟨[.ref z], []⟩) Q E s := by
 obtain ⟨hp, g, d, tk0, os⟩ := s
 show wpAny _ _ (field (.ref z) 2 >>= _) _ _ _
 apply wpAny_bind (wpAny_field hz rfl (x := .bool false) rfl _)
 show wpAny _ _ (field (.ref z) 3 >>= _) _ _ _
 apply wpAny_bind (wpAny_field hz rfl (x := .ref TI) rfl _)
 apply wpAny_bind (wpAny_seqItems hTI rfl _)
 show wpAny _ _ (Builtin.SmallTypes.ownedTupleIsFree (.ref z) >>= _) _ _ _
 refine wpAny_bind (wpAny_tupleHeld_zip hz hT fun ha za sa => ?_)
 simp only [Bool.false_eq_true, if_false]
 apply wpAny_bind
 rw [← Array.forIn_toList]
 simp only [List.forIn_cons, List.forIn_nil]
 apply wpAny_bind
 apply wpAny_bind
 apply wpAny_holding
 show wpAny _ _ (Builtin.SmallTypes.nextOf (.ref i1) >>= _) _ _ _
 have za1 : St1 i ha := D1.over st1 sa S.zf1
 have za2 : St2 i ha := D2.over st2 sa S.zf2
 by_cases e1 : i = n1
 ·subst e1
  refine wpAny_bind (D1.done ⟨ha, g, d, tk0, os⟩ _ _ za1 fun hb e sb he => ?_)
  exact hE hb tk0 e (fun c o c1 c2 _ x => sb _ _ c2 (sa.extBut _ _ c1 x)) he
 ·have e2 : i = n2 := fin.resolve_left e1
  refine wpAny_bind (D1.item i ⟨ha, g, d, tk0, os⟩ _ _ (by omega) za1 fun x hb tb px sb1 sb => wpAny_pure (wpAny_pure ?_))
  apply wpAny_bind
  apply wpAny_bind
  apply wpAny_holding
  show wpAny _ _ (Builtin.SmallTypes.nextOf (.ref i2) >>= _) _ _ _
  have zb2 : St2 i hb := D2.over za2 sb S.sep1_2
  rw [e2] at zb2
  refine wpAny_bind (D2.done ⟨hb, g, d, tb, os⟩ _ _ zb2 fun hc e sc he => ?_)
  exact hE hc tb e (fun c o c1 c2 c3 x => sc _ _ c3 (sb.extBut _ _ c2 (sa.extBut _ _ c1 x))) he
end
section
variable {prog : Program} {w : World} {A : Around} {E : Value → Shared → Prop} {s : Shared} {z TI TO i1 i2 T : Addr} {fp1 fp2 : List Addr} {n1 n2 i : Nat} {P1 P2 : Nat → Value → Prop} {St1 St2 : Nat → Heap → Prop} {f : Bool} {oT : Obj}
theorem nextHeld_item {Q : Option Value → Shared → Prop} (S : ZipSep2 z TI TO i1 i2 fp1 fp2) (D1 : Draws prog w A.in1 i1 fp1 n1 P1 St1) (D2 : Draws prog w A.in1 i2 fp2 n2 P2 St2)
  (hz : IsZipHeld s.heap z TI TO T f) (hT : s.heap.get? T = some oT) (hTI : IsTupOf2 s.heap TI (.ref i1) (.ref i2)) (st1 : St1 i s.heap) (st2 : St2 i s.heap) (l1 : i < n1) (l2 : i < n2)
  (hQ : ∀ x y h' tk, P1 i x → P2 i y → IsZipHeld h' z TI TO T true → St1 (i + 1) h' → St2 (i + 1) h' → IsTupOf2 h' s.heap.objs.size x y → h'.objs.size = s.heap.objs.size + 1 →
   (∀ c o, c ≠ z → c ≠ i1 → c ≠ i2 → s.heap.get? c = some o → h'.get? c = some o) → Q (some (.ref s.heap.objs.size)) { s with heap := h', toks := tk }) :
  wpAny (model prog w) A (pyNext (.ref z)) Q E s := by
 have ty : s.TypeIs (.ref z) "zip" := ⟨_, hz, rfl⟩
 unfold pyNext
 exact wpAny_bind (wpAny_attempt (wpAny_callSpecial?_slot (name := Str.ofString "__next__") ty F.slot_zip_next (wpAny_call_entry F.slot_zip_next ty F.entry_zip_next
  (zipHeld_item S D1 D2 hz hT hTI st1 st2 l1 l2 fun x y h' tk a b c d e g k m => wpAny_pure (hQ x y h' tk a b c d e g k m)) (F.args_zip_next_1 _))))
theorem nextHeld_end {Q : Option Value → Shared → Prop} (S : ZipSep2 z TI TO i1 i2 fp1 fp2) (D1 : Draws prog w A.in1 i1 fp1 n1 P1 St1) (D2 : Draws prog w A.in1 i2 fp2 n2 P2 St2)
  (hz : IsZipHeld s.heap z TI TO T f) (hT : s.heap.get? T = some oT) (hTI : IsTupOf2 s.heap TI (.ref i1) (.ref i2)) (st1 : St1 i s.heap) (st2 : St2 i s.heap) (l1 : i ≤ n1) (l2 : i ≤ n2) (fin : i = n1 ∨ i = n2)
  (hQ : ∀ h' tk, (∀ c o, c ≠ z → c ≠ i1 → c ≠ i2 → s.heap.get? c = some o → h'.get? c = some o) → Q none { s with heap := h', toks := tk }) : wpAny (model prog w) A (pyNext (.ref z)) Q E s := by
 have ty : s.TypeIs (.ref z) "zip" := ⟨_, hz, rfl⟩
 unfold pyNext
 refine wpAny_bind (wpAny_attempt (wpAny_callSpecial?_slot (name := Str.ofString "__next__") ty F.slot_zip_next (wpAny_call_entry F.slot_zip_next ty F.entry_zip_next
  (zipHeld_end S D1 D2 hz hT hTI st1 st2 l1 l2 fin fun h' tk e hk he => ?_) (F.args_zip_next_1 _))))
 obtain ⟨o, ho, hc⟩ := he
 exact wpAny_bind (wpAny_isInstance (T := "StopIteration") (b := true) ⟨o, ho, hc⟩ isSubtype_stop (wpAny_pure (hQ _ _ hk)))
theorem pairZip (S : ZipSep2 z TI TO i1 i2 fp1 fp2) (D1 : ∀ A : Around, A.handled = none → Draws prog w A i1 fp1 n1 P1 St1) (D2 : ∀ A : Around, A.handled = none → Draws prog w A i2 fp2 n2 P2 St2)
  (L1 : ∀ i h, St1 i h → ∀ b ∈ fp1, ∃ o, h.get? b = some o) (L2 : ∀ i h, St2 i h → ∀ b ∈ fp2, ∃ o, h.get? b = some o) (hA0 : ∃ A : Around, A.handled = none) :
  PairArg prog w "zip" z (z :: TI :: TO :: (fp1 ++ fp2)) [z, TO, i1, i2] (min n1 n2) (fun i k v => P1 i k ∧ P2 i v)
   (fun h => IsZip h z TI TO .none ∧ IsTupOf2 h TI (.ref i1) (.ref i2) ∧ (∃ a b, IsTupOf2 h TO a b) ∧ St1 0 h ∧ St2 0 h) where
 type := fun s ok => ⟨_, ok.1, rfl⟩
 notDict := by decide
 keep := fun h h' ok hk => by
  obtain ⟨A0, h0⟩ := hA0
  obtain ⟨a, b, ⟨c, d, e⟩, g, k⟩ := ok
  exact ⟨hk _ _ a, hk _ _ b, ⟨c, d, hk _ _ e⟩, (D1 A0 h0).frame _ _ _ g fun x _ o e => hk x o e, (D2 A0 h0).frame _ _ _ k fun x _ o e => hk x o e⟩
 there := fun h ok b hb => by
  obtain ⟨a, c, ⟨_, _, e⟩, g, k⟩ := ok
  simp only [List.mem_cons, List.mem_append] at hb
  rcases hb with rfl | rfl | rfl | hb | hb
  ·exact ⟨_, a⟩
  ·exact ⟨_, c⟩
  ·exact ⟨_, e⟩
  ·exact L1 _ _ g b hb
  ·exact L2 _ _ k b hb
 sub := fun b hb => by
  have := S.mem1
  have := S.mem2
  simp only [List.mem_cons, List.not_mem_nil, or_false] at hb
  simp only [List.mem_cons, List.mem_append]
  rcases hb with rfl | rfl | rfl | rfl
  ·exact .inl rfl
  ·exact .inr (.inr (.inl rfl))
  ·exact .inr (.inr (.inr (.inl S.mem1)))
  ·exact .inr (.inr (.inr (.inr S.mem2)))
 noKeys := fun A s Q E hA ok h => getAttrOr_miss_zip ok.1 rfl rfl rfl zip_no_keys (by decide +kernel) hA h
 iter := fun A s d Q E hA ok hd hdf h => by
  obtain ⟨hz, hTI, ⟨a, b, hTO⟩, st1, st2⟩ := ok
  simp only [List.mem_cons, List.mem_append, not_or] at hdf
  obtain ⟨dz, dTI, dTO, df1, df2⟩ := hdf
  have di1 : d ≠ i1 := fun e => df1 (e ▸ S.mem1)
  have di2 : d ≠ i2 := fun e => df2 (e ▸ S.mem2)
  have E1 := D1 A.in1 hA
  have E2 := D2 A.in1 hA
  refine wpAny_pyIter_zip hz (h z [z, TO, i1, i2] (fun i h => i ≤ n1 ∧ i ≤ n2 ∧ IsTupOf2 h TI (.ref i1) (.ref i2) ∧ St1 i h ∧ St2 i h ∧
   ((IsZip h z TI TO .none ∧ ∃ a b, IsTupOf2 h TO a b) ∨ ∃ T f oT, IsZipHeld h z TI TO T f ∧ h.get? T = some oT ∧ T ≠ z ∧ T ≠ i1 ∧ T ≠ i2 ∧ T ≠ d)) s.heap s.toks ?_
   ⟨Nat.zero_le _, Nat.zero_le _, hTI, st1, st2, .inl ⟨hz, a, b, hTO⟩⟩ (fun _ _ e => e) fun b hb => .inl hb)
  refine ⟨fun hm => ?_, fun i ha hb st hk => ?_, fun i s1 Q1 F1 hi st hds hQ => ?_, fun s1 Q1 F1 st hQ => ?_⟩
  ·simp only [List.mem_cons, List.not_mem_nil, or_false] at hm
   rcases hm with e | e | e | e
   ·exact dz e
   ·exact dTO e
   ·exact di1 e
   ·exact di2 e
  ·obtain ⟨m1, m2, t, u1, u2, hz⟩ := st
   refine ⟨m1, m2, hk _ _ (Ne.symm dTI) t, E1.frame _ _ _ u1 fun x hx o e => hk x o (fun q => df1 (q ▸ hx)) e, E2.frame _ _ _ u2 fun x hx o e => hk x o (fun q => df2 (q ▸ hx)) e, ?_⟩
   rcases hz with ⟨hz, a, b, hTO⟩ | ⟨T, f, oT, hz, hT, r1, r2, r3, r4⟩
   ·exact .inl ⟨hk _ _ (Ne.symm dz) hz, a, b, hk _ _ (Ne.symm dTO) hTO⟩
   ·exact .inr ⟨T, f, oT, hk _ _ (Ne.symm dz) hz, hk _ _ r4 hT, r1, r2, r3, r4⟩
  ·obtain ⟨m1, m2, t, u1, u2, hz⟩ := st
   have l1 : i < n1 := Nat.lt_of_lt_of_le hi (Nat.min_le_left ..)
   have l2 : i < n2 := Nat.lt_of_lt_of_le hi (Nat.min_le_right ..)
   have new : ∀ {c o}, s1.heap.get? c = some o → s1.heap.objs.size ≠ c := fun e => Nat.ne_of_gt (Heap.lt_size e)
   have n1' : s1.heap.objs.size ≠ i1 := let ⟨_, e⟩ := E1.live _ _ u1; new e
   have n2' : s1.heap.objs.size ≠ i2 := let ⟨_, e⟩ := E2.live _ _ u2; new e
   rcases hz with ⟨hz, a, b, hTO⟩ | ⟨T, f, oT, hz, hT, r1, r2, r3, r4⟩
   ·refine wpAny_pyNext_zipD2_item S E1 E2 hz t hTO u1 u2 l1 l2 fun x y h' tk px py a1 a2 v1 v2 a5 a6 hk => ?_
    exact hQ s1.heap.objs.size x y h' tk ⟨px, py⟩ (.inl ⟨_, a5, rfl, _, rfl⟩)
     ⟨l1, l2, hk _ _ S.TIz S.TITO S.TIi1 S.TIi2 t, v1, v2, .inr ⟨s1.heap.objs.size, false, _, a1, a5, new hz, n1', n2', Nat.ne_of_gt hds⟩⟩
     fun c o hc e => hk c o (fun q => hc (by simp [q])) (fun q => hc (by simp [q])) (fun q => hc (by simp [q])) (fun q => hc (by simp [q])) e
   ·refine nextHeld_item S E1 E2 hz hT t u1 u2 l1 l2 fun x y h' tk px py a1 v1 v2 a5 a6 hk => ?_
    exact hQ s1.heap.objs.size x y h' tk ⟨px, py⟩ (.inl ⟨_, a5, rfl, _, rfl⟩)
     ⟨l1, l2, hk _ _ S.TIz S.TIi1 S.TIi2 t, v1, v2, .inr ⟨T, true, oT, a1, hk _ _ r1 r2 r3 hT, r1, r2, r3, r4⟩⟩
     fun c o hc e => hk c o (fun q => hc (by simp [q])) (fun q => hc (by simp [q])) (fun q => hc (by simp [q])) e
  ·obtain ⟨m1, m2, t, u1, u2, hz⟩ := st
   have fin : min n1 n2 = n1 ∨ min n1 n2 = n2 := by omega
   rcases hz with ⟨hz, a, b, hTO⟩ | ⟨T, f, oT, hz, hT, r1, r2, r3, r4⟩
   ·exact wpAny_pyNext_zipD2_end S E1 E2 hz t hTO u1 u2 m1 m2 fin fun h' tk hk => hQ h' tk fun c o hc e => hk c o (fun q => hc (by simp [q])) (fun q => hc (by simp [q])) (fun q => hc (by simp [q])) (fun q => hc (by simp [q])) e
   ·exact nextHeld_end S E1 E2 hz hT t u1 u2 m1 m2 fin fun h' tk hk => hQ h' tk fun c o hc e => hk c o (fun q => hc (by simp [q])) (fun q => hc (by simp [q])) (fun q => hc (by simp [q])) e
end
structure Src (prog : Program) (w : World) (h : Heap) (a : Addr) (its : List Value) : Prop where
 ex : ∃ (o : Obj) (Hh : Heap → Prop), Begins (.ref a) o Hh ∧ Hh h ∧ a < h.objs.size ∧ ∀ it, a ≠ it → ∃ St : Nat → Heap → Prop, (∀ A : Around, A.handled = none → Draws prog w A it [it, a] its.length (fun i v => its[i]? = some v) St) ∧
  (∀ i g, St i g → ∀ b ∈ [it, a], ∃ o, g.get? b = some o) ∧ ∀ g, g.get? it = some o → (∀ o, h.get? a = some o → g.get? a = some o) → St 0 g
theorem Src.list {prog : Program} {w : World} {h : Heap} {a : Addr} {its : List Value} (hl : h.IsList a its.toArray) : Src prog w h a its := by
 obtain ⟨oa, ha, _⟩ := id hl
 refine ⟨_, _, begins_list a its.toArray, hl, Heap.lt_size ha, fun it hne => ⟨fun i g => g.IsListIter it a i ∧ g.IsList a its.toArray, fun A hA => ?_, ?_, fun g hi hk => ⟨⟨_, hi, rfl, rfl⟩, hl.at hk⟩⟩⟩
 ·have := Draws.list (prog := prog) (w := w) hA it a hne its.toArray
  simpa using this
 ·rintro i g ⟨⟨o1, e1, _⟩, ⟨o2, e2, _⟩⟩ b hb
  simp only [List.mem_cons, List.not_mem_nil, or_false] at hb
  rcases hb with rfl | rfl
  ·exact ⟨_, e1⟩
  ·exact ⟨_, e2⟩
theorem Src.tuple {prog : Program} {w : World} {h : Heap} {a : Addr} {its : List Value} (hl : h.IsTuple a its.toArray) : Src prog w h a its := by
 obtain ⟨oa, ha, _⟩ := id hl
 refine ⟨_, _, begins_tuple a its.toArray, hl, Heap.lt_size ha, fun it hne => ⟨fun i g => g.IsTupleIter it a i ∧ g.IsTuple a its.toArray, fun A hA => ?_, ?_, fun g hi hk => ⟨⟨_, hi, rfl, rfl⟩, hl.at hk⟩⟩⟩
 ·have := Draws.tuple (prog := prog) (w := w) hA it a hne its.toArray
  simpa using this
 ·rintro i g ⟨⟨o1, e1, _⟩, ⟨o2, e2, _⟩⟩ b hb
  simp only [List.mem_cons, List.not_mem_nil, or_false] at hb
  rcases hb with rfl | rfl
  ·exact ⟨_, e1⟩
  ·exact ⟨_, e2⟩
section
variable {X : Cx} {C : FC} {e1 e2 : Expr} {p p2 q2 pos : Pos}
end
end Dv
set_option Elab.async false
set_option linter.all false
set_option maxRecDepth 100000
namespace Dv
open PySem PySem.Spec L2
def seqOf : PyData → Option (List PyData)
 | .list xs => some xs
 | .tuple xs => some xs
 | _ => none
def keysD : List PyData → Option (List Key)
 | [] => some []
 | d :: ds => match keyD d, keysD ds with
  | some k, some ks => some (k :: ks)
  | _, _ => none
def withKeys (a b : PyData) (k : List Key → List PyData → Prop) : Prop := match seqOf a, seqOf b with
 | some xs, some ys => match keysD xs with
  | some ks => xs.length ≤ big ∧ k ks ys
  | none => False
 | _, _ => False
def dDictZip (t : DA) : DO := fun ρ Q => t ρ fun os ρ1 => withAll ρ1 os fun ds => match ds with
 | [a, b] => withKeys a b fun ks ys => Q (.dict (mergeD [] (ks.zip ys))) ρ1
 | _ => False
theorem seq_view {K : PySem.W.Frag} {F H : Hp} {v : V} {d : PyData} {xs : List PyData} (s : Same F H) (w : View K F H v d) (h : seqOf d = some xs) : ∃ a us, v = .ref a ∧ (SqL K H a us ∨ SqT K H a us) ∧ RepAll K F us xs := by
 cases d with
 | list ds =>
  simp [seqOf] at h
  subst h
  obtain ⟨a, us, e, h1, r⟩ := w
  exact ⟨a, us, e, .inl h1, r⟩
 | tuple ds =>
  simp [seqOf] at h
  subst h
  obtain ⟨a, us, e, h1, r, _⟩ := view_tup s w
  exact ⟨a, us, e, .inr h1, r⟩
 | _ => simp [seqOf] at h
section
variable {X : Cx} {C : FC} {e1 e2 a b : Expr} {ta tb : DE} {tA : DA} {p p2 q2 pos : Pos}
def sumD : OpN := fun ds k => match ds with
 | [.list xs] => match intsD xs with
  | some ns => k (.int ns.sum)
  | none => False
 | _ => False
theorem q_sum (hc : X.calm = true) (hm : X.mg "sum" = none) (ha : QA X C [a] tA) (hg : Gl X "sum" := by rfl)
  (he : starEach [a] X.env = (false, eval a X.env) :: starEach [] X.env := by rfl) (hpl : (backTo pos (starEach [] X.env)).any (·.1) = false := by rfl) : QE X C (.Call (.Name "sum" p) [a] [] pos) (dCB sumD tA) :=
 q_callB (cr_sum hc) (fun F H vs ds q Q s v w k => by
  match ds, v, w with
  | [.list xs], v, w =>
   obtain ⟨v, e, b, ys, e2, h, r⟩ := va1 v
   subst e e2
   have w2 : (match intsD xs with | some ns => q (.int ns.sum) | none => False) := w
   cases z : intsD xs with
   | none => rw [z] at w2; exact w2.elim
   | some ns =>
    rw [z] at w2
    have e := ints_map z
    subst e
    have e := rep_ints r
    subst e
    exact ⟨b, ns, rfl, h, k _ _ _ _ w2 (Gr.refl s) (.int _)⟩) hm (by decide +kernel) ha hg (by decide) (by decide) he hpl
end
end Dv
set_option Elab.async false
set_option linter.all false
set_option maxRecDepth 100000
namespace Dv
open PySem PySem.Spec L2
section
variable {X : Cx} {C : FC} {x : Str} {i k : Nat} {p : Pos}
end
section
variable {X : Cx} {C : FC} {a b : Expr} {ta tb : DE} {pos : Pos}
end
section
variable {X : Cx} {C : FC} {a b : Expr} {ta tb : DE} {pos : Pos} {k : Nat}
end
end Dv
set_option Elab.async false
set_option linter.all false
set_option maxRecDepth 100000
namespace Dv
open PySem PySem.Spec PySem.W PySem.F PyProof.Rows L2
section
variable {prog : Program} {w : World} {A : Around} {E : Value → Shared → Prop} {s : Shared}
end
section
variable {X : Cx} {C : FC} {a : Expr} {tA : DA} {p pos : Pos} {k : Nat}
end
end Dv
set_option Elab.async false
set_option linter.all false
set_option maxRecDepth 100000
namespace Dv
open PySem PySem.Spec L2
mutual
def keyN : PyData → Option NestedKey
 | .none => some .none
 | .int i => some (.num i)
 | .tuple ds => (keyNs ds).map .tup
 | _ => none
def keyNs : List PyData → Option (List NestedKey)
 | [] => some []
 | d :: ds => match keyN d with
  | some k => (keyNs ds).map (k :: ·)
  | none => none
end
def keyT : PyData → Option NestedKey
 | .tuple ds => match keyN (.tuple ds) with
  | some k => if k.depth ≤ 8 then some k else none
  | none => none
 | _ => none
def keysT (kvs : List (PyData × PyData)) : Bool := kvs.all fun p => (keyT p.1).isSome
def keyH (kvs : List (PyData × PyData)) (d : PyData) : Option NestedKey := match keysT kvs with
 | true => keyT d
 | false => none
section
variable {X : Cx} {pins : List (Addr × Obj)} {σ : L2.St} {F H : Hp} {s : Shared}
end
section
variable {X : Cx} {C : FC} {a b : Expr} {ta tb : DE} {pos : Pos} {k : Nat}
end
end Dv
set_option Elab.async false
set_option linter.all false
set_option maxRecDepth 100000
namespace Dv
open PySem PySem.Spec L2
section
variable {X : Cx} {C : FC} {P : List Bool} {i k : Nat} {x : Str} {p pos : Pos}
end
end Dv
set_option Elab.async false
set_option linter.all false
set_option maxRecDepth 100000
namespace Dv
open PySem PySem.Spec L2
section
variable {K : PySem.W.Frag} {F F' : Hp}
end
section
variable {K : PySem.W.Frag} {C : FC} {F H : Hp} {ρ : DEnv} {σ : L2.St}
end
section
variable {X : Cx} {C : FC} {P : List Bool}
variable {tg elt : Expr} {ifs : List Expr} {scope : Scope} {own : List (Str × Nat)} {pos spos p : Pos} {g : TG} {gd : DG} {tt : DT} {te : DE} {x : Str} {j : Nat}
end
end Dv
set_option Elab.async false
set_option linter.all false
set_option maxRecDepth 100000
namespace PySem.W
open PySem PySem.Calls PyProof.Rows
section
variable {prog : Program} {w : World} {A : Around} {E : Value → Shared → Prop} {s : Shared}
end
end PySem.W
namespace Dv
open PySem PySem.Spec PyProof.Rows L2
theorem dp_len {K : PySem.W.Frag} {H : Hp} : ∀ {xs : List V} {ds : List PyData}, DpAll K H xs ds → xs.length = ds.length
 | _, _, .nil => rfl
 | _, _, .cons _ t => by rw [List.length_cons, List.length_cons, dp_len t]
section
variable {X : Cx} {C : FC} {a : Expr} {tA : DA} {p pos : Pos} {k : Nat}
end
end Dv
set_option Elab.async false
set_option linter.all false
set_option maxRecDepth 100000
namespace Dv
open PySem PySem.Spec L2
section
variable {X : Cx} {C : FC} {P : List Bool} {x : Str} {i k : Nat} {e : Expr} {tA : DA} {p apos cpos pos : Pos}
theorem key_reads {P : Program} {w : World} {h : Heap} (q : Key) (u : Value) (hq : (mixKind P w).is q u = true) : Reads h u (kD q) [] := by
 rcases keyIs_shape hq with ⟨i, t, rfl, rfl⟩ | ⟨x, t, rfl, rfl⟩
 ·exact Reads.int i t
 ·exact Reads.str x t
end
end Dv
set_option Elab.async false
set_option linter.all false
set_option maxRecDepth 100000
namespace Dv
open PySem PySem.Spec L2
section
variable {X : Cx} {C : FC} {P : List Bool} {x : Str} {i k : Nat} {a b e o : Expr} {ta tb to te : DE} {tA : DA} {p apos cpos pos : Pos}
def dropD (kvs : List (PyData × PyData)) (q : Key) : List (PyData × PyData) := kvs.filter fun p => !decide (keyD p.1 = some q)
theorem RepKV.drop {K : PySem.W.Frag} {F : Hp} {q : Key} : ∀ {ks : List (Key × V)} {ds : List (PyData × PyData)}, RepKV K F ks ds → RepKV K F (dropK ks q) (dropD ds q)
 | _, _, .nil => .nil
 | _, _, .cons (k := k') r t => by
  have ih := RepKV.drop (q := q) t
  unfold dropK dropD at *
  rw [List.filter_cons, List.filter_cons]
  by_cases e : k' = q
  ·subst e
   simp [kD_keyD]
   simpa using ih
  ·simp [kD_keyD, e]
   exact .cons r (by simpa using ih)
end
end Dv
set_option Elab.async false
set_option linter.all false
set_option maxRecDepth 100000
set_option autoImplicit false
namespace Dv
open PySem PySem.Spec L2
section
variable {K : PySem.W.Frag} {C : FC} {P : List Bool} {F H : Hp} {ρ : DEnv} {σ : L2.St}
open Classical in
end
section
variable {X : Cx} {C : FC} {P : List Bool} {S : SpD} {ta : DA} {t0 : DO} {k n : Nat} {f : Addr} {fd : FuncData} {ps : List Str} {x : Str} {p pos : Pos} {e : Expr} {es : List Expr}
def gUnl' (n : Nat) (t : DGs) : DG := fun d ρ Q => match d with
 | .list ds => ds.length = n ∧ t ds ρ Q
 | _ => False
theorem g_unl {tgs : List Expr} {k : Nat} {t : DGs} {n : Nat} (hc : X.calm = true) (h : QGs X C tgs t) (hn : (assignEach tgs X.env).length = n := by rfl) (hst : (assignEach tgs X.env).findIdx? (·.1) = none := by rfl) : QG X C (.Tuple tgs k pos) (gUnl' n t) :=
 QG.of (pg_unl hc h.pgs hn hst) fun v σ H Q ⟨F, ρ, d, q, S, r, ht, k⟩ => by
  cases r with
  | lst hs hr => exact ⟨_, _, rfl, sqL_mono S.sub hs, by rw [hr.length]; exact ht.1, F, ρ, _, q, S, hr, ht.2, k⟩
  | _ => exact ht.elim
end
end Dv
set_option Elab.async false
set_option linter.all false
set_option maxRecDepth 100000
namespace Dv
open PySem PySem.Spec L2
mutual
def kOk : PyData → Bool
 | .dict kvs => keysK kvs && kOkV kvs
 | .list xs => kOkA xs
 | .tuple xs => kOkA xs
 | _ => true
def kOkA : List PyData → Bool
 | [] => true
 | x :: xs => kOk x && kOkA xs
def kOkV : List (PyData × PyData) → Bool
 | [] => true
 | p :: ps => kOk p.2 && kOkV ps
end
def NoSys (h : Heap) (as : List Addr) : Prop := sysModules ∈ as → ∀ o es n, h.get? sysModules = some o → o.data ≠ .dict es n
theorem NoSys.nil {h : Heap} : NoSys h [] := fun z => by simp at z
theorem NoSys.app {h : Heap} {as bs : List Addr} (x : NoSys h as) (y : NoSys h bs) : NoSys h (as ++ bs) := fun z => by
 rcases List.mem_append.mp z with z | z
 ·exact x z
 ·exact y z
section
variable {X : Cx} {pins : List (Addr × Obj)} {σ : St} {F H : Hp} {s : Shared}
theorem listReads (I : Inv X pins σ H s) {a : Addr} {xs : List V} {ds : List PyData} (hq : SqL X.K H a xs) (h : ∀ us, Vals xs us → ∃ as, ReadsAll s.heap us ds as ∧ NoSys s.heap as) : ∃ as, Reads s.heap (.ref a) (.list ds) as ∧ NoSys s.heap as := by
 obtain ⟨us, rv, ⟨o, n, ho, hc, _, hd⟩, _⟩ := I.list hq
 obtain ⟨as, q, z⟩ := h us rv
 refine ⟨_, Reads.list ho hc hd q, fun m o' es n' e => ?_⟩
 rcases List.mem_cons.mp m with m | m
 ·rw [m, ho] at e
  cases e
  rw [hd]
  intro c
  cases c
 ·exact z m o' es n' e
theorem dictReads (I : Inv X pins σ H s) {a : Addr} {ks : List (Key × V)} {ds : List (PyData × PyData)} (hq : Rd H a (.dK ks)) (h : ∀ vs, KV ks vs → ∃ as, PyProof.V.PairsRead s.heap kD vs ds as ∧ NoSys s.heap as) : ∃ as, Reads s.heap (.ref a) (.dict ds) as ∧ NoSys s.heap as := by
 obtain ⟨_, hne, vs, kv, dd⟩ := dk_rd I.hok hq
 obtain ⟨as, q, z⟩ := h vs kv
 refine ⟨_, PyProof.V.reads_dictOf key_reads dd q, fun m => ?_⟩
 rcases List.mem_cons.mp m with m | m
 ·exact absurd m.symm (beq_eq_false_iff_ne.mp hne)
 ·exact z m
mutual
theorem Rep.reads (I : Inv X pins σ H s) (hs : Same F H) : ∀ (d : PyData) (v : V) (u : Value), Rep X.K F v d → kOk d = true → RelV v u → ∃ as, Reads s.heap u d as ∧ NoSys s.heap as
 | .none, _, _, r, _, ru => by cases r; cases ru; exact ⟨_, Reads.none, .nil⟩
 | .bool b, _, _, r, _, ru => by cases r; cases ru; exact ⟨_, Reads.bool b, .nil⟩
 | .int i, _, _, r, _, ru => by cases r; obtain ⟨t, rfl⟩ := ru; exact ⟨_, Reads.int i t, .nil⟩
 | .str x, _, _, r, _, ru => by cases r; obtain ⟨t, rfl⟩ := ru; exact ⟨_, Reads.str x t, .nil⟩
 | .list ds, _, _, r, k, ru => by
  cases r with
  | lst hq ha => cases ru; exact listReads I (sqL_mono hs hq) (fun us ru => RepAll.readsA I hs ds _ us ha (by simpa [kOk] using k) ru)
 | .tuple ds, _, _, r, k, ru => by
  cases r with
  | tup hq ha =>
   cases ru
   obtain ⟨us, rv, ⟨o, ho, hc, n, hd⟩, _⟩ := I.tuple (sqT_mono hs hq)
   obtain ⟨as, q, z⟩ := RepAll.readsA I hs ds _ us ha (by simpa [kOk] using k) rv
   exact ⟨_, Reads.tuple ho hc hd q, z⟩
 | .dict kvs, _, _, r, k, ru => by
  have k : keysK kvs = true ∧ kOkV kvs = true := by simpa [kOk] using k
  cases r with
  | dct hq ha => cases ru; exact dictReads I (rd_mono hs hq) (fun vs kv => RepKV.readsP I hs kvs _ vs ha k.2 kv)
  | dcn n hq ha => rw [RepNK.keysK ha n] at k; exact absurd k.1 (by decide)
  | exc h c x r => exact absurd ((ExcV.keysK (K := X.K) (F := F) ⟨_, _, _, _, _, rfl, h, c, x, r⟩).symm.trans k.1) (by decide)
theorem RepAll.readsA (I : Inv X pins σ H s) (hs : Same F H) : ∀ (ds : List PyData) (vs : List V) (us : List Value), RepAll X.K F vs ds → kOkA ds = true → Vals vs us → ∃ as, ReadsAll s.heap us ds as ∧ NoSys s.heap as
 | [], _, _, r, _, ru => by cases r; cases ru; exact ⟨_, ReadsAll.nil, .nil⟩
 | d :: ds, _, _, r, k, ru => by
  have k : kOk d = true ∧ kOkA ds = true := by simpa [kOkA] using k
  cases r with
  | cons r1 r2 =>
   cases ru with
   | cons u1 u2 =>
    obtain ⟨as, q1, z1⟩ := Rep.reads I hs d _ _ r1 k.1 u1
    obtain ⟨bs, q2, z2⟩ := RepAll.readsA I hs ds _ _ r2 k.2 u2
    exact ⟨_, ReadsAll.cons q1 q2, z1.app z2⟩
theorem RepKV.readsP (I : Inv X pins σ H s) (hs : Same F H) : ∀ (ds : List (PyData × PyData)) (ks : List (Key × V)) (vs : List (Key × Value)), RepKV X.K F ks ds → kOkV ds = true → KV ks vs → ∃ as, PyProof.V.PairsRead s.heap kD vs ds as ∧ NoSys s.heap as
 | [], _, _, r, _, ru => by cases r; cases ru; exact ⟨_, .nil, .nil⟩
 | (kk, d) :: ds, _, _, r, k, ru => by
  have k2 : kOk d = true ∧ kOkV ds = true := by simpa [kOkV] using k
  clear k
  cases r with
  | cons r1 r2 =>
   cases ru with
   | @cons p b _ _ hb tb =>
    obtain ⟨q, u⟩ := b
    obtain ⟨e, ru⟩ := hb
    simp only at e ru
    subst e
    obtain ⟨as, q1, z1⟩ := Rep.reads I hs d _ _ r1 k2.1 ru
    obtain ⟨bs, q2, z2⟩ := RepKV.readsP I hs ds _ _ r2 k2.2 tb
    exact ⟨_, .cons q1 q2, z1.app z2⟩
end
theorem View.reads (I : Inv X pins σ H s) (hs : Same F H) {d : PyData} {v : V} {u : Value} (w : View X.K F H v d) (k : kOk d = true) (ru : RelV v u) : ∃ as, Reads s.heap u d as ∧ NoSys s.heap as := by
 cases d with
 | list ds =>
  obtain ⟨a, xs, e, hq, r⟩ := w
  subst e
  cases ru
  exact listReads I hq (fun us ru => RepAll.readsA I hs ds _ us r (by simpa [kOk] using k) ru)
 | dict ds =>
  have k : keysK ds = true ∧ kOkV ds = true := by simpa [kOk] using k
  obtain ⟨a, e, ⟨ks, hq, r⟩ | ⟨w0, ks, n, hq, r⟩ | hx⟩ := w
  ·subst e
   cases ru
   exact dictReads I hq (fun vs kv => RepKV.readsP I hs ds _ vs r k.2 kv)
  ·rw [RepNK.keysK r n] at k; exact absurd k.1 (by decide)
  ·rw [hx.keysK] at k; exact absurd k.1 (by decide)
 | none => exact Rep.reads I hs _ _ _ w k ru
 | bool _ => exact Rep.reads I hs _ _ _ w k ru
 | int _ => exact Rep.reads I hs _ _ _ w k ru
 | str _ => exact Rep.reads I hs _ _ _ w k ru
 | tuple _ => exact Rep.reads I hs _ _ _ w k ru
end
section
variable {prog : Program} {w : World} {h : Heap}
end
section
variable {X : Cx} {C : FC} {a : Expr} {tA : DA} {p pos : Pos} {k : Nat}
end
end Dv
set_option Elab.async false
set_option linter.all false
set_option maxRecDepth 100000
namespace PySem.SeqAt
open AutoSeq1 (wpAny_loadPart')
open MeetsSeq
section
variable {A : Around} {s : Shared}
end
end PySem.SeqAt
namespace Dv
open PySem PySem.Spec L2
section
variable {X : Cx} {C : FC} {a b : Expr} {ta tb : DE} {pos : Pos} {k : Nat}
end
end Dv
set_option Elab.async false
set_option linter.all false
set_option maxRecDepth 100000
namespace Dv
open PySem PySem.Spec L2 PyProof.Rows
section
variable {prog : Program} {w : World} {A : Around} {E : Value → Shared → Prop} {s : Shared}
end
section
variable {X : Cx} {C : FC} {P : List Bool} {e a b : Expr} {te ta tb : DE} {tA : DA} {p pos : Pos} {k : Nat}
def repS (x : Str) (n : Nat) : Str := ⟨(List.replicate n x.cps).foldl (· ++ ·) #[]⟩
theorem fold_len (x : Array Nat) : ∀ (n : Nat) (acc : Array Nat), ((List.replicate n x).foldl (· ++ ·) acc).size = acc.size + x.size * n
 | 0, acc => by simp
 | n + 1, acc => by rw [List.replicate_succ, List.foldl_cons, fold_len x n, Array.size_append, Nat.mul_add]; omega
theorem repS_len (x : Str) (n : Nat) : (repS x n).length = x.length * n := by
 show ((List.replicate n x.cps).foldl (· ++ ·) #[]).size = x.cps.size * n
 rw [fold_len]
 simp
theorem fold_mem (x : Array Nat) : ∀ (n : Nat) (acc : Array Nat) (c : Nat), c ∈ ((List.replicate n x).foldl (· ++ ·) acc).toList → c ∈ acc.toList ∨ c ∈ x.toList
 | 0, acc, c, h => .inl (by simpa using h)
 | n + 1, acc, c, h => by
  rw [List.replicate_succ, List.foldl_cons] at h
  rcases fold_mem x n _ c h with h | h
  ·simp at h
   rcases h with h | h
   ·exact .inl (by simpa using h)
   ·exact .inr (by simpa using h)
  ·exact .inr h
theorem repS_mem {x : Str} {n c : Nat} (h : c ∈ (repS x n).cps.toList) : c ∈ x.cps.toList := by
 rcases fold_mem x.cps n #[] c h with h | h
 ·simp at h
 ·exact h
theorem op_mulS : OpR X (binaryOp .Mult) (fun x y H Q => ∃ a n, x = .str a ∧ y = .int n ∧ 2 ≤ n ∧ n ≤ 1000 ∧ a.length ≤ 10000 ∧ Q (.str (if a.length = 0 then a else repS a n.toNat)) H) := by
 intro pins s σ H x y v u Q I rx ry h
 obtain ⟨a, n, rfl, rfl, h1, h2, h3, q⟩ := h
 obtain ⟨t, rfl⟩ := rx
 obtain ⟨t', rfl⟩ := ry
 have hm : a.length * n.toNat ≤ 10000 * 1000 := Nat.mul_le_mul h3 (by omega)
 refine PySem.P.mul_str ?_ (fun _ _ => ?_) (fun _ _ => ?_) ?_
 ·rw [decide_eq_false (by omega), decide_eq_false (by omega)]; rfl
 ·have hd : (1000000000 : Int) ≤ (2 ^ 63 - 1) / n := by
   rw [Int.le_ediv_iff_mul_le (by omega)]
   omega
  omega
 ·have : a.length * n.toNat ≤ 16777216 := by omega
  exact PyProof.Rows.short24 this
 ·rw [if_neg (by omega)]
  by_cases c : a.length = 0
  ·rw [if_pos (by simp [c])]
   rw [if_pos c] at q
   exact ⟨.str a, H, I, ⟨t, rfl⟩, q⟩
  ·rw [if_neg (by simp [c]; omega)]
   rw [if_neg c] at q
   exact ⟨by show (repS a n.toNat).length ≤ sizeLine; rw [repS_len]; exact le_line (Nat.le_trans hm tle), .str (repS a n.toNat), H, I.tok _, ⟨_, rfl⟩, q⟩
def mulXD : Op2 := fun d e k => match d, e with
 | .str a, .int n => 2 ≤ n ∧ n ≤ 1000 ∧ a.length ≤ 10000 ∧ k (.str (if a.length = 0 then a else repS a n.toNat))
 | .tuple ds, .int n => ds ≠ [] ∧ 2 ≤ n ∧ n ≤ 1000 ∧ ds.length ≤ 1000 ∧ k (.tuple (List.replicate n.toNat ds).flatten)
 | _, _ => False
theorem repAll_rep {K : PySem.W.Frag} {F : Hp} {xs : List V} {ds : List PyData} (r : RepAll K F xs ds) : ∀ n : Nat, RepAll K F (List.replicate n xs).flatten (List.replicate n ds).flatten
 | 0 => .nil
 | n + 1 => by rw [List.replicate_succ, List.flatten_cons, List.replicate_succ, List.flatten_cons]; exact r.append (repAll_rep r n)
theorem ok_mulX : OpOk X (fun x y H Q => (∃ a n, x = .str a ∧ y = .int n ∧ 2 ≤ n ∧ n ≤ 1000 ∧ a.length ≤ 10000 ∧ Q (.str (if a.length = 0 then a else repS a n.toNat)) H) ∨ rRepT X.K x y H Q) mulXD := fun F H x y d e q Q s v1 v2 w k => by
 match d, e, w, v1, v2 with
 | .str a, .int n, w, v1, v2 =>
  obtain ⟨h1, h2, h3, w⟩ := w
  exact .inl ⟨a, n, view_str v1, view_int v2, h1, h2, h3, k _ _ _ _ w (Gr.refl s) (.str _)⟩
 | .tuple ds, .int n, w, v1, v2 =>
  obtain ⟨h0, h1, h2, h3, w⟩ := w
  obtain ⟨a, xs, e1, hq, r, _⟩ := view_tup s v1
  subst e1
  refine .inr ⟨a, n, xs, rfl, view_int v2, hq, fun e => h0 ?_, h1, h2, by rw [r.length]; exact h3, fun p hp => ?_⟩
  ·subst e; cases r; rfl
  ·have g := Gr.new (o := .tup (List.replicate n.toNat xs).flatten) s hp
   exact k _ _ _ _ w g (.tup (SqT.of upd_same) ((repAll_rep r _).mono g.f))
theorem q_mulX (ha : QE X C a ta) (hb : QE X C b tb) : QE X C (.BinOp a .Mult b pos) (dBin mulXD ta tb) := q_bin (op_mulS.or op_repT) ok_mulX ha hb
end
end Dv
set_option Elab.async false
set_option linter.all false
set_option maxRecDepth 100000
namespace Dv
open PySem PySem.Spec PySem.W L2 PyProof.Rows
section
variable {X : Cx} {C : FC} {P : List Bool} {e a b : Expr} {te ta tb : DE} {tA : DA} {p pos : Pos} {k : Nat}
end
end Dv
set_option Elab.async false
set_option linter.all false
set_option maxRecDepth 100000
namespace Dv
open PySem PySem.Spec PySem.W L2
open PyProof.Rows (Call_)
section
variable {prog : Program} {w : World} {A : Around} {E : Value → Shared → Prop} {s : Shared} {e it T : Addr} {fp : List Addr} {n i : Nat} {P : Nat → Value → Prop} {St : Nat → Heap → Prop} {f : Bool} {oT : Obj} {old : Value}
end
section
variable {X : Cx} {C : FC} {e1 : Expr} {p p2 q2 pos : Pos} {tA : DA}
end
end Dv
set_option Elab.async false
set_option linter.all false
set_option maxRecDepth 100000
set_option autoImplicit false
namespace Dv
open PySem PySem.Spec L2
open PyProof.Rows (AllBare)
abbrev XEnds := Str → List (PyData × PyData) → DEnv → Prop
abbrev SpX := List PyData → (SV → Outs → Prop) → (Str → List (PyData × PyData) → Prop) → Prop
def spX (K : PySem.W.Frag) (P : List Bool) (S : SpX) : Sp := fun vs H Q E => ∃ F ds q x, Same F H ∧ Args K F H P vs ds ∧ S ds q x ∧ (∀ r outs F' H' v, q r outs → Post K P F H vs F' H' outs r v → Q v H') ∧
 ∀ n es D d fs F' H', x n es → ClsN K n D → ExF F' d fs → RepFs K F' fs es → Gr F H F' H' → E (.ref D) d H'
structure FnX (Pg : Program) (w : World) (K : PySem.W.Frag) (mg : Str → Option Value) (base : Heap) (k : Nat) (f : Addr) (fd : FuncData) (ps : List Str) (S : Sp) : Prop where
 len : ∀ {vs H Q E}, S vs H Q E → vs.length = ps.length
 go : ∀ {A : Around} {outer : List Env} {s : Shared} {H : Hp} {args : PySem.Args} {us : List Value} {vs : List V} {Q : VK} {E : XK}, RG k A → Env0 Pg w K mg base A outer s H → BindsTo s fd args (ps.zip us) → Vals vs us → S vs H Q E → codeAny (model Pg w) A (.call (.ref f) args) (CR (L2.CX Pg w) outer Pg w H s Q E) s
section
variable {Pg : Program} {w : World} {K : PySem.W.Frag} {mg : Str → Option Value} {base : Heap} {j k : Nat} {f : Addr} {fd : FuncData} {ps : List Str} {S T : Sp}
theorem FnX.mono (h : FnX Pg w K mg base j f fd ps S) (hjk : j ≤ k) : FnX Pg w K mg base k f fd ps S := ⟨h.len, fun r => h.go (r.mono hjk)⟩
theorem FnX.imp (h : FnX Pg w K mg base k f fd ps S) (i : ∀ {vs H Q E}, T vs H Q E → S vs H Q E) : FnX Pg w K mg base k f fd ps T := ⟨fun t => h.len (i t), fun r e b v t => h.go r e b v (i t)⟩
end
section
variable {X : Cx} {C : FC} {P ts : List Bool} {S : SpX} {ta : DA} {k : Nat} {f : Addr} {fd : FuncData} {ps : List Str} {x : Str} {p pos : Pos} {e : Expr} {es : List Expr}
end
structure FnAtX (Pg : Program) (w : World) (K : PySem.W.Frag) (mg : Str → Option Value) (base : Heap) (k : Nat) (x : Str) (ps : List Str) (P : List Bool) (S : SpX) : Prop where
 ex : ∃ f fd, FnX Pg w K mg base k f fd ps (spX K P S) ∧ mg x = some (.ref f) ∧ PySem.W.keepIn K (.ref f) = true ∧ Binds K fd ps []
theorem FnAtX.mono {Pg : Program} {w : World} {K : PySem.W.Frag} {mg : Str → Option Value} {base : Heap} {j k : Nat} {x : Str} {ps : List Str} {P : List Bool} {S : SpX} (h : FnAtX Pg w K mg base j x ps P S) (hjk : j ≤ k := by omega) : FnAtX Pg w K mg base k x ps P S := by
 obtain ⟨f, fd, F, a, b, c⟩ := h.ex
 exact ⟨f, fd, F.mono hjk, a, b, c⟩
section
variable {X : Cx} {C : FC} {P ts : List Bool} {S : SpX} {ta : DA} {k : Nat} {ps : List Str} {x : Str} {p pos : Pos} {e : Expr} {es : List Expr}
end
end Dv
set_option Elab.async false
set_option linter.all false
set_option maxRecDepth 100000
set_option autoImplicit false
namespace Dv
open PySem PySem.Spec L2
open PyProof.Rows (AllBare)
section
variable {X : Cx} {pins : List (Addr × Obj)} {σ : L2.St} {H : Hp} {s : Shared}
end
section
variable {K : PySem.W.Frag} {C : FC} {F F1 H : Hp} {ρ : DEnv} {σ : L2.St}
theorem Sim.toF (S : Sim K C F H ρ σ) : Sim K { C with F0 := F } F H ρ σ :=
 ⟨S.len, S.sub, S.frz, S.own, S.ne, S.par, Same.refl F, S.h0, fun b e => .inl e, S.pin, S.dp⟩
end
section
variable {X : Cx} {C : FC} {P : List Bool} {a e : Expr} {ta : DE} {p pos pos' : Pos}
end
end Dv
set_option Elab.async false
set_option linter.all false
set_option maxRecDepth 100000
set_option autoImplicit false
namespace Dv
open PySem PySem.Spec L2
section
variable {K : PySem.W.Frag} {h : Heap} {mg : Str → Option Value} {n m : Str} {D C0 : Addr} {ms : List Str} {b : Bool}
end
section
variable {X : Cx} {C : FC} {a : Expr} {tA : DA} {p pos : Pos}
end
end Dv
set_option Elab.async false
set_option linter.all false
set_option maxRecDepth 100000
set_option autoImplicit false
namespace Dv
open PySem PySem.Spec L2
section
variable {K : PySem.W.Frag} {C : FC} {F H : Hp} {ρ : DEnv} {σ : L2.St} {P : List Bool}
theorem Sim.drop (S : Sim K C F H ρ σ) {i : Nat} (hp : ¬ C.isP i) : Sim K C F H (ρ.set i none) σ where
 len := by simp [S.len]
 sub := S.sub
 frz := fun j d h => by
  by_cases e : j = i
  ·subst e
   by_cases hl : j < ρ.length
   ·rw [List.getElem?_set_self hl] at h; cases h
   ·rw [List.getElem?_eq_none (by simp; omega)] at h; cases h
  ·rw [List.getElem?_set_ne (Ne.symm e)] at h; exact S.frz j d h
 own := fun j d h => by
  by_cases e : j = i
  ·subst e
   by_cases hl : j < ρ.length
   ·rw [List.getElem?_set_self hl] at h; cases h
   ·rw [List.getElem?_eq_none (by simp; omega)] at h; cases h
  ·rw [List.getElem?_set_ne (Ne.symm e)] at h; exact S.own j d h
 ne := fun j k a d e h1 h2 h3 h4 => by
  have go : ∀ (m : Nat) (x : PyData), (ρ.set i none)[m]? = some (some (.own x)) → ρ[m]? = some (some (.own x)) := fun m x h => by
   by_cases e : m = i
   ·subst e
    by_cases hl : m < ρ.length
    ·rw [List.getElem?_set_self hl] at h; cases h
    ·rw [List.getElem?_eq_none (by simp; omega)] at h; cases h
   ·rw [List.getElem?_set_ne (Ne.symm e)] at h; exact h
  exact S.ne j k a d e (go j d h1) (go k e h2) h3 h4
 par := fun j a h => by
  have q : j ≠ i := fun z => hp ⟨a, z ▸ h⟩
  rw [List.getElem?_set_ne (Ne.symm q)]
  exact S.par j a h
 f0 := S.f0
 h0 := S.h0
 new := S.new
 pin := fun b o e => by
  obtain ⟨h1, h2, h3⟩ := S.pin b o e
  refine ⟨h1, h2, fun j x h => ?_⟩
  by_cases e : j = i
  ·subst e
   by_cases hl : j < ρ.length
   ·rw [List.getElem?_set_self hl] at h; cases h
   ·rw [List.getElem?_eq_none (by simp; omega)] at h; cases h
  ·rw [List.getElem?_set_ne (Ne.symm e)] at h; exact h3 j x h
 dp := by
  have go : ∀ (m : Nat) (x : SV), (ρ.set i none)[m]? = some (some x) → ρ[m]? = some (some x) := fun m x h => by
   by_cases e : m = i
   ·subst e
    by_cases hl : m < ρ.length
    ·rw [List.getElem?_set_self hl] at h; cases h
    ·rw [List.getElem?_eq_none (by simp; omega)] at h; cases h
   ·rw [List.getElem?_set_ne (Ne.symm e)] at h; exact h
  exact S.dp.keep (Same.refl F) (fun j e h => ⟨go j _ h, rfl⟩) fun b hb ⟨h1, h2, h3, h4, h5⟩ => ⟨fun o e => e, ⟨h1, h2, h3, h4, fun j x h => h5 j x (go j _ h)⟩⟩
end
section
variable {X : Cx} {C : FC} {P : List Bool}
variable {tg elt : Expr} {ifs : List Expr} {scope : Scope} {own : List (Str × Nat)} {pos spos p : Pos} {g : TG} {gd : DG} {tt : DT} {te : DE} {x : Str} {i : Nat}
end
end Dv
set_option Elab.async false
set_option linter.all false
set_option maxRecDepth 100000
set_option autoImplicit false
namespace Dv
open PySem PySem.Spec L2
section
variable {Pg : Program} {w : World} {K : PySem.W.Frag} {mg : Str → Option Value} {base : Heap} {qual m f g : Str} {st : Stmt} {fI D : Addr} {fd : FuncData} {j : Nat} {k : Nat} {p1 p2 p3 p4 p5 p6 p7 p8 p9 p10 p11 p12 p13 p14 : Pos}
end
section
variable {X : Cx} {C : FC} {P : List Bool} {n f g : Str} {a b : Expr} {ta tb : DE} {p pos pos' : Pos} {Ex : XEnds} {k : Nat}
end
section
variable {K : PySem.W.Frag} {h : Heap} {mg : Str → Option Value} {n qual f g : Str} {st : Stmt} {D fI : Addr} {ps : List Str}
end
end Dv
set_option Elab.async false
set_option linter.all false
set_option maxRecDepth 100000
set_option autoImplicit false
namespace Dv
open PySem PySem.Spec L2
section
variable {X : Cx} {C : FC} {P : List Bool} {i j l : Nat} {x y z : Str} {a b c : Expr} {ta tb : DE} {ub uc : DO} {px py pz pt pos : Pos} {kt k2 pt2}
end
end Dv
set_option Elab.async false
set_option linter.all false
set_option maxRecDepth 100000
set_option autoImplicit false
namespace Dv
open PySem PySem.Spec L2
section
variable {K : PySem.W.Frag} {C : FC} {P : List Bool} {F H F' H' : Hp} {ρ ρ' : DEnv} {σ : L2.St}
open Classical in
def partI : PyData → PyData → Option (Nat × PyData)
 | .list ds, .int n => match ixN ds.length n with
  | some j => match ds[j]? with
   | some d => some (j, d)
   | none => none
  | none => none
 | .dict kvs, k => match keyD k with
  | some q => match kvs.findIdx? (fun p => decide (keyD p.1 = some q)) with
   | some j => match kvs[j]? with
    | some p => some (j, p.2)
    | none => none
   | none => none
  | none => none
 | _, _ => none
def partS : PyData → Nat → PyData → PyData
 | .list ds, j, x => .list (ds.set j x)
 | .dict kvs, j, x => match kvs[j]? with
  | some p => .dict (kvs.set j (p.1, x))
  | none => .dict kvs
 | d, _, _ => d
theorem OwnAll.set {o : HO} {b : Addr} {d' : PyData} (hO : Own K F (upd H b o) b d') : ∀ {bs : List Addr} {ds : List PyData} {j : Nat}, bs.Nodup → bs[j]? = some b → OwnAll K F H bs ds → OwnAll K F (upd H b o) bs (ds.set j d')
 | _, _, _, _, e, .nil => by simp at e
 | b0 :: bs, d0 :: ds, 0, nd, e, .cons r t => by
  simp at e
  subst e
  refine .cons hO (t.mono (Same.refl F) fun c hc u hu => ?_)
  rw [upd_ne (show c ≠ b0 from fun z => (List.nodup_cons.mp nd).1 (z ▸ hc))]
  exact hu
 | b0 :: bs, d0 :: ds, j + 1, nd, e, .cons r t => by
  have e' : bs[j]? = some b := by simpa using e
  refine .cons (r.mono (Same.refl F) fun u hu => ?_) (OwnAll.set hO (List.nodup_cons.mp nd).2 e' t)
  rw [upd_ne (show b0 ≠ b from fun z => (List.nodup_cons.mp nd).1 (z ▸ List.mem_of_getElem? e'))]
  exact hu
theorem zip_set : ∀ {ks : List PyData} {ds : List PyData} {j : Nat} {x : PyData} {pr : PyData × PyData}, (List.zip ks ds)[j]? = some pr → (List.zip ks ds).set j (pr.1, x) = List.zip ks (ds.set j x)
 | [], _, _, _, _, h => by simp at h
 | _ :: _, [], _, _, _, h => by simp at h
 | k :: ks, d :: ds, 0, x, pr, h => by simp at h; subst h; simp
 | k :: ks, d :: ds, j + 1, x, pr, h => by simp at h ⊢; exact zip_set (by simpa using h)
theorem Deep.set {a b : Addr} {bs : List Addr} {d di p p' : PyData} {j : Nat} {o : HO} (nd : (a :: bs).Nodup) (D : Deep K F H a bs d) (h : partI d di = some (j, p)) (hb : bs[j]? = some b) (hO : Own K F (upd H b o) b p') : Deep K F (upd H b o) a bs (partS d j p') := by
 have na : a ≠ b := fun z => (List.nodup_cons.mp nd).1 (z ▸ List.mem_of_getElem? hb)
 have nb := (List.nodup_cons.mp nd).2
 cases d with
 | list ds => exact ⟨by rw [upd_ne na]; exact D.1, D.2.set hO nb hb⟩
 | dict kvs =>
  have h' : (match keyD di with
   | some q => match kvs.findIdx? (fun p => decide (keyD p.1 = some q)) with
    | some j => match kvs[j]? with
     | some p => some (j, p.2)
     | none => none
    | none => none
   | none => none) = some (j, p) := by cases di <;> exact h
  have : ∃ pr, kvs[j]? = some pr := by
   cases q : keyD di with
   | none => rw [q] at h'; cases h'
   | some key =>
    rw [q] at h'
    dsimp only at h'
    cases q2 : kvs.findIdx? (fun p => decide (keyD p.1 = some key)) with
    | none => rw [q2] at h'; cases h'
    | some j' =>
     rw [q2] at h'
     dsimp only at h'
     cases q3 : kvs[j']? with
     | none => rw [q3] at h'; cases h'
     | some pr => rw [q3] at h'; cases h'; exact ⟨pr, q3⟩
  obtain ⟨pr, hpr⟩ := this
  obtain ⟨ks, ds, e1, e2, e3, e4⟩ := D
  subst e2
  show Deep K F (upd H b o) a bs (match (List.zip (ks.map kD) ds)[j]? with
   | some p => .dict ((List.zip (ks.map kD) ds).set j (p.1, p'))
   | none => _)
  rw [hpr]
  exact ⟨ks, ds.set j p', e1, zip_set hpr, by rw [upd_ne na]; exact e3, e4.set hO nb hb⟩
 | _ => cases h
end
section
variable {X : Cx} {C : FC} {P : List Bool} {T id : String} {name x y : Str} {r : V → List V → Hp → VK → Prop} {f : OpM} {i k : Nat} {e ix : Expr} {es : List Expr} {ta : DA} {ti : DE} {p spos apos cpos pos : Pos}
end
section
variable {X : Cx} {P : List Bool} {C : FC} {i : Nat} {x : Str} {e : Expr} {es : List Expr} {t : DO} {ts : List DO} {pos lpos npos : Pos}
end
section
variable {X : Cx} {P : List Bool} {C : FC} {i : Nat} {x : Str} {t : DO} {ts : List DO} {ks : List Key} {keys : List (Option Expr)} {values : List Expr} {e : Expr} {pos dpos npos : Pos}
end
section
variable {X : Cx} {C : FC} {o e : Expr} {to : DE} {tA : DA} {apos cpos : Pos}
end
end Dv
namespace PySem.W
open PySem PySem.Calls PyProof.Rows
section
variable {prog : Program} {w : World} {A : Around} {E : Value → Shared → Prop} {s : Shared}
end
end PySem.W
namespace Dv
open PySem PySem.Spec PyProof.Rows L2
section
variable {X : Cx} {C : FC} {a : Expr} {tA : DA} {p pos : Pos} {k : Nat}
end
end Dv
set_option Elab.async false
set_option linter.all false
set_option maxRecDepth 100000
set_option autoImplicit false
namespace Dv
open PySem PySem.Spec L2
section
variable {X : Cx} {C : FC} {o e : Expr} {to te : DE} {apos pos p : Pos} {tA : DA}
end
end Dv
set_option Elab.async false
set_option linter.all false
set_option maxRecDepth 100000
set_option autoImplicit false
namespace Dv
open PySem PySem.Spec PyProof.Rows L2
def dNever : DS := fun _ _ => False
theorem s_never {X : Cx} {C : FC} {st : Stmt} : QS X C st dNever := ⟨⟨fun _ _ _ _ _ _ ⟨_, _, _, _, h, _⟩ => h.elim⟩⟩
section
variable {K : PySem.W.Frag} {F H : Hp}
end
section
variable {X : Cx} {C : FC} {a : Expr} {tA : DA} {p p2 q2 pos : Pos} {k : Nat}
end
section
variable {X : Cx} {C : FC} {a b : Expr} {ta tb : DE} {pos : Pos}
end
end Dv
namespace Dv
open PySem PySem.Spec PyProof.Rows L2
section
variable {X : Cx}
variable {o e : Expr} {es : List Expr} {to : TE} {t : TA} {name : Str} {apos cpos : Pos} {id : String} {r : V → List V → Hp → VK → Prop}
end
section
variable {X : Cx} {C : FC} {P ts : List Bool} {S : SpD} {ta : DA} {tz : DE} {k : Nat} {ps : List Str} {x : Str} {p pos cpos apos : Pos} {a e z : Expr} {es : List Expr}
end
end Dv
set_option Elab.async false
set_option linter.all false
set_option maxRecDepth 100000
set_option maxHeartbeats 1000000
namespace Dv.ZM
open PySem PySem.Spec PyProof.Rows L2 RZ
section
variable {prog : Program} {w : World} {A : Around} {E : Value → Shared → Prop} {s : Shared}
variable {z TI TO i1 i2 l1 l2 : Addr} {k1 k2 : Nat} {xs ys : Array Value} {x y a b : Value}
end
end Dv.ZM
namespace Dv.ZM
open PySem PySem.Spec PyProof.Rows L2 RZ
abbrev hp1 (h : Heap) (l1 : Addr) : Heap := h.push { cls := .type "list_iterator", data := .fields #[.ref l1, .int 0 0] }
abbrev hp2 (h : Heap) (l1 l2 : Addr) : Heap := (hp1 h l1).push { cls := .type "tuple_iterator", data := .fields #[.ref l2, .int 0 0] }
abbrev hp3 (h : Heap) (l1 l2 : Addr) : Heap := (hp2 h l1 l2).push { cls := .type "tuple", data := .seq #[.ref h.objs.size, .ref (hp1 h l1).objs.size] }
abbrev hp4 (h : Heap) (l1 l2 : Addr) : Heap := (hp3 h l1 l2).push { cls := .type "tuple", data := .seq #[.none, .none] }
abbrev hp5 (h : Heap) (l1 l2 : Addr) : Heap := (hp4 h l1 l2).push { cls := .type "zip", data := .fields #[.none, .bool false, .bool false, .ref (hp2 h l1 l2).objs.size, .ref (hp3 h l1 l2).objs.size] }
end Dv.ZM
namespace Dv
open PySem PySem.Spec PyProof.Rows L2
end Dv
set_option Elab.async false
set_option linter.all false
set_option maxRecDepth 100000
set_option autoImplicit false
set_option maxHeartbeats 1000000
namespace PySem.W
open PySem PySem.Calls PyProof.Rows PySem.SeqAt
section
variable {prog : Program} {w : World} {A : Around} {E : Value → Shared → Prop} {s : Shared}
end
end PySem.W
namespace Dv
open PySem PySem.Spec PyProof.Rows L2
section
variable {X : Cx} {C : FC} {a : Expr} {tA : DA} {p pos : Pos} {k : Nat}
end
end Dv
set_option Elab.async false
set_option linter.all false
set_option maxRecDepth 100000
set_option autoImplicit false
set_option maxHeartbeats 1000000
namespace Dv
open PySem PySem.Spec L2
end Dv
set_option Elab.async false
set_option linter.all false
set_option maxRecDepth 100000
set_option autoImplicit false
set_option maxHeartbeats 1000000
namespace Dv
open PySem PySem.Spec L2
section
variable {K : PySem.W.Frag} {C : FC} {P : List Bool} {F H F' H' : Hp} {ρ ρ' : DEnv} {σ : L2.St}
open Classical in
end
end Dv
set_option Elab.async false
set_option linter.all false
set_option maxRecDepth 100000
set_option autoImplicit false
namespace Dv
open PySem PySem.Spec L2
section
variable {X : Cx} {C : FC} {a b c : Expr} {ta tb tc : DE} {pos : Pos}
end
section
variable {X : Cx} {C : FC} {k : Nat} {a b : Expr} {ta tb : DE} {pos : Pos}
end
end Dv
set_option Elab.async false
set_option linter.all false
set_option maxRecDepth 100000
set_option autoImplicit false
namespace Dv
open PySem PySem.Spec L2
section
variable {X : Cx} {C : FC} {o e : Expr} {to : DE} {tA : DA} {apos cpos : Pos}
end
end Dv
set_option Elab.async false
set_option linter.all false
set_option maxRecDepth 100000
namespace Dv
open PySem PySem.Spec L2
section
variable {X : Cx} {C : FC} {a b : Expr} {ta tb : DE} {pos : Pos}
end
end Dv
set_option Elab.async false
set_option linter.all false
set_option maxRecDepth 100000
namespace Dv
open PySem PySem.Spec L2 PyProof.Rows
section
variable {X : Cx} {C : FC} {P : List Bool} {e a b : Expr} {te : TE} {ta tb : DE} {tA : DA} {p pos : Pos} {k : Nat}
end
end Dv
set_option Elab.async false
set_option linter.all false
set_option maxRecDepth 100000
namespace Dv
open PySem PySem.Spec L2
section
variable {X : Cx} {C : FC} {o e f : Expr} {apos cpos pos : Pos} {k : Nat}
end
end Dv
set_option Elab.async false
set_option linter.all false
set_option maxRecDepth 100000
set_option maxHeartbeats 1000000
namespace Dv
open PySem PySem.Spec PySem.W L2
open PyProof.Rows (Call_)
section
variable {prog : Program} {w : World} {A : Around} {E : Value → Shared → Prop} {s : Shared} {z TI TO i1 i2 i3 T : Addr} {fp1 fp2 fp3 : List Addr} {n1 n2 n3 i : Nat} {P1 P2 P3 : Nat → Value → Prop} {St1 St2 St3 : Nat → Heap → Prop} {f : Bool} {oT : Obj}
theorem zip3Held_item {Q : Value → Shared → Prop} (S : ZipSep3 z TI TO i1 i2 i3 fp1 fp2 fp3) (D1 : Draws prog w A i1 fp1 n1 P1 St1) (D2 : Draws prog w A i2 fp2 n2 P2 St2) (D3 : Draws prog w A i3 fp3 n3 P3 St3)
  (hz : IsZipHeld s.heap z TI TO T f) (hT : s.heap.get? T = some oT) (hTI : IsTupOf3 s.heap TI (.ref i1) (.ref i2) (.ref i3)) (st1 : St1 i s.heap) (st2 : St2 i s.heap) (st3 : St3 i s.heap) (l1 : i < n1) (l2 : i < n2) (l3 : i < n3)
  (hQ : ∀ x y u h' tk, P1 i x → P2 i y → P3 i u → IsZipHeld h' z TI TO T true → St1 (i + 1) h' → St2 (i + 1) h' → St3 (i + 1) h' → IsTupOf3 h' s.heap.objs.size x y u → h'.objs.size = s.heap.objs.size + 1 →
   (∀ c o, c ≠ z → c ≠ i1 → c ≠ i2 → c ≠ i3 → s.heap.get? c = some o → h'.get? c = some o) → Q (.ref s.heap.objs.size) { s with heap := h', toks := tk }) :
  wpAny (model prog w) A (Builtin.«zip.__next__» ⟨[.ref z], []⟩) (fun fin s' => ∃ v, fin = .done (.ret v) ∧ Q v s') E s := by
 obtain ⟨hp, g, d, tk0, os⟩ := s
 show wpAny _ _ (field (.ref z) 2 >>= _) _ _ _
 apply wpAny_bind (wpAny_field hz rfl (x := .bool false) rfl _)
 show wpAny _ _ (field (.ref z) 3 >>= _) _ _ _
 apply wpAny_bind (wpAny_field hz rfl (x := .ref TI) rfl _)
 apply wpAny_bind (wpAny_seqItems hTI rfl _)
 show wpAny _ _ (Builtin.SmallTypes.ownedTupleIsFree (.ref z) >>= _) _ _ _
 refine wpAny_bind (wpAny_tupleHeld_zip hz hT fun ha za sa => ?_)
 simp only [Bool.false_eq_true, if_false]
 apply wpAny_bind
 rw [← Array.forIn_toList]
 simp only [List.forIn_cons, List.forIn_nil]
 apply wpAny_bind
 apply wpAny_bind
 apply wpAny_holding
 show wpAny _ _ (Builtin.SmallTypes.nextOf (.ref i1) >>= _) _ _ _
 have za1 : St1 i ha := D1.over st1 sa S.zf1
 have za2 : St2 i ha := D2.over st2 sa S.zf2
 have za3 : St3 i ha := D3.over st3 sa S.zf3
 refine wpAny_bind (D1.item i ⟨ha, g, d, tk0, os⟩ _ _ l1 za1 fun x hb tb px sb1 sb => wpAny_pure (wpAny_pure ?_))
 apply wpAny_bind
 apply wpAny_bind
 apply wpAny_holding
 show wpAny _ _ (Builtin.SmallTypes.nextOf (.ref i2) >>= _) _ _ _
 refine wpAny_bind (D2.item i ⟨hb, g, d, tb, os⟩ _ _ l2 (D2.over za2 sb S.sep1_2) fun y hc tc py sc2 sc => wpAny_pure (wpAny_pure ?_))
 apply wpAny_bind
 apply wpAny_bind
 apply wpAny_holding
 show wpAny _ _ (Builtin.SmallTypes.nextOf (.ref i3) >>= _) _ _ _
 refine wpAny_bind (D3.item i ⟨hc, g, d, tc, os⟩ _ _ l3 (D3.over (D3.over za3 sb S.sep1_3) sc S.sep2_3) fun u he te pu sd3 sd => wpAny_pure (wpAny_pure (wpAny_pure ?_)))
 show wpAny _ _ (newTuple [x, y, u] >>= _) _ _ _
 refine wpAny_bind (wpAny_newTuple ?_)
 have size : he.objs.size = hp.objs.size := by rw [sd.1, sc.1, sb.1, sa.1]
 have zc : IsZipHeld he z TI TO T true := sd.extBut _ _ S.zi3 (sc.extBut _ _ S.zi2 (sb.extBut _ _ S.zi1 za))
 have st1c : St1 (i + 1) he := D1.over (D1.over sb1 sc S.sep2_1) sd S.sep3_1
 have st2c : St2 (i + 1) he := D2.over sc2 sd S.sep3_2
 have keep : ∀ c o, c ≠ z → c ≠ i1 → c ≠ i2 → c ≠ i3 → hp.get? c = some o → he.get? c = some o := fun c o c1 c2 c3 c4 e => sd.extBut _ _ c4 (sc.extBut _ _ c3 (sb.extBut _ _ c2 (sa.extBut _ _ c1 e)))
 refine wpAny_pure ⟨_, rfl, ?_⟩
 show Q (.ref he.objs.size) _
 have tup : IsTupOf3 (he.push { cls := .type "tuple", data := .seq #[x, y, u] }) he.objs.size x y u := Heap.get?_push_size _ rfl
 have up : ∀ b o, he.get? b = some o → (he.push { cls := .type "tuple", data := .seq #[x, y, u] }).get? b = some o := fun b o e => Heap.get?_push_of_some _ e
 have more : (he.push { cls := .type "tuple", data := .seq #[x, y, u] }).objs.size = he.objs.size + 1 := Heap.size_push ..
 rw [size] at tup more ⊢
 exact hQ x y u _ _ px py pu (up _ _ zc) (D1.frame _ _ _ st1c fun b _ o e => up b o e) (D2.frame _ _ _ st2c fun b _ o e => up b o e) (D3.frame _ _ _ sd3 fun b _ o e => up b o e) tup more fun c o c1 c2 c3 c4 e => up _ _ (keep c o c1 c2 c3 c4 e)
theorem zip3Held_end {Q : Fin → Shared → Prop} (S : ZipSep3 z TI TO i1 i2 i3 fp1 fp2 fp3) (D1 : Draws prog w A i1 fp1 n1 P1 St1) (D2 : Draws prog w A i2 fp2 n2 P2 St2) (D3 : Draws prog w A i3 fp3 n3 P3 St3)
  (hz : IsZipHeld s.heap z TI TO T f) (hT : s.heap.get? T = some oT) (hTI : IsTupOf3 s.heap TI (.ref i1) (.ref i2) (.ref i3)) (st1 : St1 i s.heap) (st2 : St2 i s.heap) (st3 : St3 i s.heap) (l1 : i ≤ n1) (l2 : i ≤ n2) (l3 : i ≤ n3) (fin : i = n1 ∨ i = n2 ∨ i = n3)
  (hE : ∀ h' tk e, (∀ c o, c ≠ z → c ≠ i1 → c ≠ i2 → c ≠ i3 → s.heap.get? c = some o → h'.get? c = some o) → (∃ o, h'.get? e = some o ∧ o.cls = .type "StopIteration") → E (.ref e) { s with heap := h', toks := tk }) :
  wpAny (model prog w) A (Builtin.«zip.__next__» ⟨[.ref z], []⟩) Q E s := by
 obtain ⟨hp, g, d, tk0, os⟩ := s
 show wpAny _ _ (field (.ref z) 2 >>= _) _ _ _
 apply wpAny_bind (wpAny_field hz rfl (x := .bool false) rfl _)
 show wpAny _ _ (field (.ref z) 3 >>= _) _ _ _
 apply wpAny_bind (wpAny_field hz rfl (x := .ref TI) rfl _)
 apply wpAny_bind (wpAny_seqItems hTI rfl _)
 show wpAny _ _ (Builtin.SmallTypes.ownedTupleIsFree (.ref z) >>= _) _ _ _
 refine wpAny_bind (wpAny_tupleHeld_zip hz hT fun ha za sa => ?_)
 simp only [Bool.false_eq_true, if_false]
 apply wpAny_bind
 rw [← Array.forIn_toList]
 simp only [List.forIn_cons, List.forIn_nil]
 apply wpAny_bind
 apply wpAny_bind
 apply wpAny_holding
 show wpAny _ _ (Builtin.SmallTypes.nextOf (.ref i1) >>= _) _ _ _
 have za1 : St1 i ha := D1.over st1 sa S.zf1
 have za2 : St2 i ha := D2.over st2 sa S.zf2
 have za3 : St3 i ha := D3.over st3 sa S.zf3
 by_cases e1 : i = n1
 ·subst e1
  refine wpAny_bind (D1.done ⟨ha, g, d, tk0, os⟩ _ _ za1 fun hb e sb he => ?_)
  exact hE hb tk0 e (fun c o c1 c2 _ _ x => sb _ _ c2 (sa.extBut _ _ c1 x)) he
 ·refine wpAny_bind (D1.item i ⟨ha, g, d, tk0, os⟩ _ _ (by omega) za1 fun x hb tb px sb1 sb => wpAny_pure (wpAny_pure ?_))
  apply wpAny_bind
  apply wpAny_bind
  apply wpAny_holding
  show wpAny _ _ (Builtin.SmallTypes.nextOf (.ref i2) >>= _) _ _ _
  have zb2 : St2 i hb := D2.over za2 sb S.sep1_2
  have zb3 : St3 i hb := D3.over za3 sb S.sep1_3
  by_cases e2 : i = n2
  ·rw [e2] at zb2
   refine wpAny_bind (D2.done ⟨hb, g, d, tb, os⟩ _ _ zb2 fun hc e sc he => ?_)
   exact hE hc tb e (fun c o c1 c2 c3 _ x => sc _ _ c3 (sb.extBut _ _ c2 (sa.extBut _ _ c1 x))) he
  ·have e3 : i = n3 := (fin.resolve_left e1).resolve_left e2
   refine wpAny_bind (D2.item i ⟨hb, g, d, tb, os⟩ _ _ (by omega) zb2 fun y hc tc py sc1 sc => wpAny_pure (wpAny_pure ?_))
   apply wpAny_bind
   apply wpAny_bind
   apply wpAny_holding
   show wpAny _ _ (Builtin.SmallTypes.nextOf (.ref i3) >>= _) _ _ _
   have zc3 : St3 i hc := D3.over zb3 sc S.sep2_3
   rw [e3] at zc3
   refine wpAny_bind (D3.done ⟨hc, g, d, tc, os⟩ _ _ zc3 fun hd e sd he => ?_)
   exact hE hd tc e (fun c o c1 c2 c3 c4 x => sd _ _ c4 (sc.extBut _ _ c3 (sb.extBut _ _ c2 (sa.extBut _ _ c1 x)))) he
theorem next3Held_item {Q : Option Value → Shared → Prop} (S : ZipSep3 z TI TO i1 i2 i3 fp1 fp2 fp3) (D1 : Draws prog w A.in1 i1 fp1 n1 P1 St1) (D2 : Draws prog w A.in1 i2 fp2 n2 P2 St2) (D3 : Draws prog w A.in1 i3 fp3 n3 P3 St3)
  (hz : IsZipHeld s.heap z TI TO T f) (hT : s.heap.get? T = some oT) (hTI : IsTupOf3 s.heap TI (.ref i1) (.ref i2) (.ref i3)) (st1 : St1 i s.heap) (st2 : St2 i s.heap) (st3 : St3 i s.heap) (l1 : i < n1) (l2 : i < n2) (l3 : i < n3)
  (hQ : ∀ x y u h' tk, P1 i x → P2 i y → P3 i u → IsZipHeld h' z TI TO T true → St1 (i + 1) h' → St2 (i + 1) h' → St3 (i + 1) h' → IsTupOf3 h' s.heap.objs.size x y u → h'.objs.size = s.heap.objs.size + 1 →
   (∀ c o, c ≠ z → c ≠ i1 → c ≠ i2 → c ≠ i3 → s.heap.get? c = some o → h'.get? c = some o) → Q (some (.ref s.heap.objs.size)) { s with heap := h', toks := tk }) :
  wpAny (model prog w) A (pyNext (.ref z)) Q E s := by
 have ty : s.TypeIs (.ref z) "zip" := ⟨_, hz, rfl⟩
 unfold pyNext
 exact wpAny_bind (wpAny_attempt (wpAny_callSpecial?_slot (name := Str.ofString "__next__") ty F.slot_zip_next (wpAny_call_entry F.slot_zip_next ty F.entry_zip_next
  (zip3Held_item S D1 D2 D3 hz hT hTI st1 st2 st3 l1 l2 l3 fun x y u h' tk a b c d e g k m n r => wpAny_pure (hQ x y u h' tk a b c d e g k m n r)) (F.args_zip_next_1 _))))
theorem next3Held_end {Q : Option Value → Shared → Prop} (S : ZipSep3 z TI TO i1 i2 i3 fp1 fp2 fp3) (D1 : Draws prog w A.in1 i1 fp1 n1 P1 St1) (D2 : Draws prog w A.in1 i2 fp2 n2 P2 St2) (D3 : Draws prog w A.in1 i3 fp3 n3 P3 St3)
  (hz : IsZipHeld s.heap z TI TO T f) (hT : s.heap.get? T = some oT) (hTI : IsTupOf3 s.heap TI (.ref i1) (.ref i2) (.ref i3)) (st1 : St1 i s.heap) (st2 : St2 i s.heap) (st3 : St3 i s.heap) (l1 : i ≤ n1) (l2 : i ≤ n2) (l3 : i ≤ n3) (fin : i = n1 ∨ i = n2 ∨ i = n3)
  (hQ : ∀ h' tk, (∀ c o, c ≠ z → c ≠ i1 → c ≠ i2 → c ≠ i3 → s.heap.get? c = some o → h'.get? c = some o) → Q none { s with heap := h', toks := tk }) : wpAny (model prog w) A (pyNext (.ref z)) Q E s := by
 have ty : s.TypeIs (.ref z) "zip" := ⟨_, hz, rfl⟩
 unfold pyNext
 refine wpAny_bind (wpAny_attempt (wpAny_callSpecial?_slot (name := Str.ofString "__next__") ty F.slot_zip_next (wpAny_call_entry F.slot_zip_next ty F.entry_zip_next
  (zip3Held_end S D1 D2 D3 hz hT hTI st1 st2 st3 l1 l2 l3 fin fun h' tk e hk he => ?_) (F.args_zip_next_1 _))))
 obtain ⟨o, ho, hc⟩ := he
 exact wpAny_bind (wpAny_isInstance (T := "StopIteration") (b := true) ⟨o, ho, hc⟩ isSubtype_stop (wpAny_pure (hQ _ _ hk)))
end
structure ColSrc (prog : Program) (w : World) (A : Around) (I S : Addr) (wr : List Addr) (n : Nat) (Y : Nat → Value → Heap → Prop) (St : Nat → Heap → Prop) : Prop where
 out : S ∉ wr
 frame : ∀ i h h', St i h → (∀ b o, b ≠ S → h.get? b = some o → h'.get? b = some o) → St i h'
 keep : ∀ j v h h', Y j v h → (∀ b o, b ∉ wr → b ≠ S → h.get? b = some o → h'.get? b = some o) → Y j v h'
 live : ∀ j v h, Y j v h → ∃ T o, v = .ref T ∧ h.get? T = some o
 item : ∀ i (s : Shared) (Q : Option Value → Shared → Prop) (E : Value → Shared → Prop), i < n → St i s.heap → S < s.heap.objs.size →
  (∀ v h' tk, Y i v h' → (∀ T, v = .ref T → s.heap.get? T = none) → St (i + 1) h' → (∀ b o, b ∉ wr → s.heap.get? b = some o → h'.get? b = some o) → Q (some v) { s with heap := h', toks := tk }) → wpAny (model prog w) A (pyNext (.ref I)) Q E s
 done : ∀ (s : Shared) (Q : Option Value → Shared → Prop) (E : Value → Shared → Prop), St n s.heap →
  (∀ h' tk, (∀ b o, b ∉ wr → s.heap.get? b = some o → h'.get? b = some o) → Q none { s with heap := h', toks := tk }) → wpAny (model prog w) A (pyNext (.ref I)) Q E s
def ColOf (Y : Nat → Value → Heap → Prop) (h : Heap) (acc : Array Value) (i : Nat) : Prop := acc.size = i ∧ (∀ j v, acc[j]? = some v → Y j v h) ∧ acc.toList.Nodup
section
variable {prog : Program} {w : World} {A : Around} {E : Value → Shared → Prop} {R : Result → Shared → Prop} {I S : Addr} {wr : List Addr} {n : Nat} {Y : Nat → Value → Heap → Prop} {St : Nat → Heap → Prop}
theorem ColOf.keep {h h' : Heap} {acc : Array Value} {i : Nat} (W : ColSrc prog w A I S wr n Y St) (c : ColOf Y h acc i) (k : ∀ b o, b ∉ wr → b ≠ S → h.get? b = some o → h'.get? b = some o) : ColOf Y h' acc i := ⟨c.1, fun j v e => W.keep j v h h' (c.2.1 j v e) k, c.2.2⟩
theorem ColOf.push {h : Heap} {acc : Array Value} {i : Nat} {x : Value} (c : ColOf Y h acc i) (hx : Y i x h) (hn : x ∉ acc.toList) : ColOf Y h (acc.push x) (i + 1) := by
 refine ⟨by rw [Array.size_push, c.1], fun j v hj => ?_, ?_⟩
 ·rw [Array.getElem?_push] at hj
  split at hj
  ·rename_i e; rw [c.1] at e; cases hj; rw [e]; exact hx
  ·exact c.2.1 j v hj
 ·rw [Array.toList_push, List.nodup_append]
  exact ⟨c.2.2, by simp, fun a ha b hb e => hn (by rw [← List.mem_singleton.mp hb, ← e]; exact ha)⟩
theorem ColOf.out {h : Heap} {acc : Array Value} {i : Nat} {x : Value} (W : ColSrc prog w A I S wr n Y St) (c : ColOf Y h acc i) (hx : ∀ T, x = .ref T → h.get? T = none) : x ∉ acc.toList := fun hm => by
 obtain ⟨j, hj⟩ := List.mem_iff_getElem?.mp hm
 rw [Array.getElem?_toList] at hj
 obtain ⟨T, o, e, hT⟩ := W.live j x h (c.2.1 j x hj)
 rw [hx T e] at hT
 cases hT
theorem extend_loopY (W : ColSrc prog w A.in1 I S wr n Y St) (hn : n ≤ sizeLine) (res : Value) :
  ∀ (k i : Nat) (s : Shared) (acc : Array Value) (c : Nat), n - i = k → i ≤ n → St i s.heap → s.heap.get? S = some { cls := .type "list", dict := none, data := .seq acc c, slots := #[] } → ColOf Y s.heap acc i →
  (∀ h' tk acc' c', (∀ b o, b ∉ wr → b ≠ S → s.heap.get? b = some o → h'.get? b = some o) → h'.get? S = some { cls := .type "list", dict := none, data := .seq acc' c', slots := #[] } → ColOf Y h' acc' n → R (.ok (.ret res)) { s with heap := h', toks := tk }) →
  codeAny (model prog w) A (.builtin "list.extend.loop" ⟨[.ref S, .ref I, res], []⟩) R s := by
 intro k
 induction k with
 | zero =>
  intro i s acc c hk hi hst hS hacc hR
  have hin : i = n := by omega
  subst hin
  refine codeAny_builtin F.entry_extend_loop ?_
  rw [Around.under_plainId F.plain_extend_loop _]
  show wpAny _ A.in1 (pyNext (.ref I) >>= _) _ _ s
  refine wpAny_bind (W.done s _ _ hst fun h' tk hm => ?_)
  exact wpAny_pure (hR h' tk acc c (fun b o h1 _ e => hm b o h1 e) (hm S _ W.out hS) (hacc.keep W fun b o h1 _ e => hm b o h1 e))
 | succ k ih =>
  intro i s acc c hk hi hst hS hacc hR
  have hlt : i < n := by omega
  refine codeAny_builtin F.entry_extend_loop ?_
  rw [Around.under_plainId F.plain_extend_loop _]
  show wpAny _ A.in1 (pyNext (.ref I) >>= _) _ _ s
  refine wpAny_bind (W.item i s _ _ hlt hst (Heap.lt_size hS) fun v h' tk hP hnew hst' hm => ?_)
  have hS' := hm S _ W.out hS
  show wpAny _ A.in1 (updateSeq S (·.push v) >>= _) _ _ _
  refine wpAny_bind ?_
  have up : ∀ b o, b ≠ S → h'.get? b = some o → (h'.update S (Obj.mapSeq (·.push v))).get? b = some o := fun b o hb e => (Heap.get?_update_other _ _ (Ne.symm hb)).trans e
  have hacc' : ColOf Y h' acc i := hacc.keep W fun b o h1 _ e => hm b o h1 e
  refine wpAny_updateSeq hS' rfl (wpAny_pure ⟨plainId_quiet F.plain_extend_loop _, ih (i + 1) _ (acc.push v) _ (by omega) hlt (W.frame _ h' _ hst' up) (Heap.get?_update_self _ hS' rfl) ((hacc'.push hP (hacc.out W hnew)).keep W fun b o _ hb e => up b o hb e) fun h'' tk'' acc'' c'' hm'' hS'' hacc'' => ?_⟩)
   (by rw [hacc.1]; omega) (by show (acc.push v).size ≤ sizeLine + 1; rw [Array.size_push, hacc.1]; omega)
  exact hR h'' tk'' acc'' c'' (fun b o h1 h2 e => hm'' b o h1 h2 (up b o h2 (hm b o h1 e))) hS'' hacc''
theorem zip_no_len : typeLookup (.type "zip") "__len__" = pure none := by rw [typeLookup_type, builtinLookup_eq_fast]; kernel_rfl
theorem zip_no_hint : typeLookup (.type "zip") "__length_hint__" = pure none := by rw [typeLookup_type, builtinLookup_eq_fast]; kernel_rfl
end
section
variable {prog : Program} {w : World} {A : Around} {E : Value → Shared → Prop} {s : Shared} {I TI TO : Addr} {ow : Value} {wr : List Addr} {n : Nat} {Y : Nat → Value → Heap → Prop} {St : Nat → Heap → Prop}
theorem collect_zip {Q : List Value → Shared → Prop} (W : ColSrc prog w A.in1 I s.heap.objs.size wr n Y St) (hz : IsZip s.heap I TI TO ow) (hst : St 0 s.heap)
  (hn : n ≤ sizeLine) (hQ : ∀ h' tk acc, (∀ b o, b ∉ wr → s.heap.get? b = some o → h'.get? b = some o) → ColOf Y h' acc n → Q acc.toList { s with heap := h', toks := tk }) : wpAny (model prog w) A (collect (.ref I)) Q E s := by
 have hSI : s.heap.objs.size ≠ I := Nat.ne_of_gt (Heap.lt_size hz)
 unfold collect
 refine wpAny_bind (wpAny_runValue (codeAny_builtin F.entry_proto_collect ?_))
 rw [Around.under_plainId F.plain_proto_collect _]
 show wpAny _ A.in1 (newList [] >>= fun l => again (.builtin "list.__iadd__" ⟨[l, .ref I], []⟩)) _ _ s
 refine wpAny_bind (wpAny_newObj_type ?_)
 refine wpAny_pure ⟨plainId_quiet F.plain_list_iadd _, codeAny_builtin F.entry_list_iadd ?_⟩
 rw [Around.under_plainId F.plain_list_iadd _]
 have pu : ∀ b o, s.heap.get? b = some o → (s.heap.push { cls := .type "list", data := .seq ([] : List Value).toArray }).get? b = some o := fun b o e => Heap.get?_push_of_some _ e
 have hst₁ := W.frame 0 s.heap (s.heap.push { cls := .type "list", data := .seq ([] : List Value).toArray }) hst fun b o _ e => pu b o e
 have hz₁ : IsZip (s.heap.push { cls := .type "list", data := .seq ([] : List Value).toArray }) I TI TO ow := pu _ _ hz
 show wpAny _ A.in1 (Builtin.List.listExtendWith (.ref s.heap.objs.size) (.ref I) (.ref s.heap.objs.size)) _ _ _
 unfold Builtin.List.listExtendWith
 refine wpAny_bind (wpAny_typeOf (T := "zip") ⟨_, hz₁, rfl⟩ ?_)
 have h1 : Builtin.List.listSameRef (.ref s.heap.objs.size) (.ref I) = false := by simp [Builtin.List.listSameRef, hSI]
 have h2 : (Value.type "zip" == Value.type "list") = false := by decide
 have h3 : (Value.type "zip" == Value.type "tuple") = false := by decide
 simp only [h1, h2, h3, Bool.or_false, Bool.false_eq_true, if_false]
 refine wpAny_bind (wpAny_pyIter_zip hz₁ ?_)
 refine wpAny_bind (wpAny_holding ?_)
 unfold Builtin.List.listLengthHint
 refine wpAny_bind (wpAny_specialOf (T := "zip") ⟨_, hz₁, rfl⟩ zip_no_len ?_)
 show wpAny _ A.in1 (specialOf (Value.ref I) (Str.ofString "__length_hint__") >>= _) _ _ _
 refine wpAny_bind (wpAny_specialOf (T := "zip") ⟨_, hz₁, rfl⟩ zip_no_hint ?_)
 refine wpAny_pure ?_
 show wpAny _ A.in1 (rule "list.extend.makes-room" >>= fun _ => Builtin.List.listTouch (.ref s.heap.objs.size) >>= fun _ =>
  again (.builtin "list.extend.loop" ⟨[.ref s.heap.objs.size, .ref I, .ref s.heap.objs.size], []⟩)) _ _ _
 refine wpAny_bind (wpAny_rule ?_)
 have hS₁ : (s.heap.push { cls := .type "list", data := .seq ([] : List Value).toArray }).get? s.heap.objs.size = some { cls := .type "list", data := .seq ([] : List Value).toArray } := Heap.get?_push_size _ rfl
 refine wpAny_bind ?_
 show wpAny _ A.in1 (updateSeq s.heap.objs.size (·.push .none) >>= fun _ => updateSeq s.heap.objs.size (·.pop)) _ _ _
 refine wpAny_bind (wpAny_updateSeq hS₁ rfl ?_)
 have hS₂ := Heap.get?_update_self (Obj.mapSeq (·.push Value.none)) hS₁ rfl
 refine wpAny_updateSeq hS₂ rfl ?_
 have hS₃ := Heap.get?_update_self (Obj.mapSeq (·.pop)) hS₂ rfl
 have oth : ∀ b o, b ≠ s.heap.objs.size → (s.heap.push { cls := .type "list", data := .seq ([] : List Value).toArray }).get? b = some o →
   (((s.heap.push { cls := .type "list", data := .seq ([] : List Value).toArray }).update s.heap.objs.size (Obj.mapSeq (·.push Value.none))).update s.heap.objs.size (Obj.mapSeq (·.pop))).get? b = some o :=
  fun b o hb e => (Heap.get?_update_other _ _ (Ne.symm hb)).trans ((Heap.get?_update_other _ _ (Ne.symm hb)).trans e)
 refine wpAny_pure ⟨plainId_quiet F.plain_extend_loop _, extend_loopY W hn _ n 0 _ _ _ rfl (Nat.zero_le _) (W.frame 0 _ _ hst₁ oth) hS₃ ⟨rfl, fun j v e => by simp at e, List.nodup_nil⟩ fun h' tk acc' c' hm hS' hacc => ?_⟩
 show wpAny _ A (load s.heap.objs.size >>= _) _ _ _
 refine wpAny_bind (wpAny_load hS' ?_)
 refine wpAny_pure (hQ h' tk acc' (fun b o hb e => ?_) hacc)
 have bs : b ≠ s.heap.objs.size := Nat.ne_of_lt (Heap.lt_size e)
 exact hm b o hb bs (oth b o bs (pu b o e))
end
section
variable {prog : Program} {w : World} {A : Around} {z TI TO i1 i2 i3 S : Addr} {fp1 fp2 fp3 : List Addr} {n1 n2 n3 : Nat} {P1 P2 P3 : Nat → Value → Prop} {St1 St2 St3 : Nat → Heap → Prop}
def Zip3Y (P1 P2 P3 : Nat → Value → Prop) (wr : List Addr) (S : Addr) (j : Nat) (v : Value) (h : Heap) : Prop := ∃ T x y u, v = .ref T ∧ IsTupOf3 h T x y u ∧ P1 j x ∧ P2 j y ∧ P3 j u ∧ T ∉ wr ∧ T ≠ S ∧ S < T
theorem colZip3 (Z : ZipSep3 z TI TO i1 i2 i3 fp1 fp2 fp3) (E1 : Draws prog w A.in1 i1 fp1 n1 P1 St1) (E2 : Draws prog w A.in1 i2 fp2 n2 P2 St2) (E3 : Draws prog w A.in1 i3 fp3 n3 P3 St3) (hd : S ∉ z :: TI :: TO :: (fp1 ++ fp2 ++ fp3)) :
  ColSrc prog w A z S [z, TO, i1, i2, i3] (min (min n1 n2) n3) (Zip3Y P1 P2 P3 [z, TO, i1, i2, i3] S)
   (fun i h => i ≤ n1 ∧ i ≤ n2 ∧ i ≤ n3 ∧ IsTupOf3 h TI (.ref i1) (.ref i2) (.ref i3) ∧ St1 i h ∧ St2 i h ∧ St3 i h ∧ (∃ a b c, IsTupOf3 h TO a b c) ∧
    (IsZip h z TI TO .none ∨ ∃ T f oT, IsZipHeld h z TI TO T f ∧ h.get? T = some oT ∧ T ≠ z ∧ T ≠ i1 ∧ T ≠ i2 ∧ T ≠ i3 ∧ T ≠ S)) := by
 simp only [List.mem_cons, List.mem_append, not_or] at hd
 obtain ⟨dz, dTI, dTO, ⟨df1, df2⟩, df3⟩ := hd
 have di1 : S ≠ i1 := fun e => df1 (e ▸ Z.mem1)
 have di2 : S ≠ i2 := fun e => df2 (e ▸ Z.mem2)
 have di3 : S ≠ i3 := fun e => df3 (e ▸ Z.mem3)
 refine ⟨by simp [dz, dTO, di1, di2, di3], fun i ha hb st hk => ?_, fun j v h h' ⟨T, x, y, u, e, ht, p1, p2, p3, q1, q2, q3⟩ k => ⟨T, x, y, u, e, k _ _ q1 q2 ht, p1, p2, p3, q1, q2, q3⟩, fun j v h ⟨T, x, y, u, e, ht, _⟩ => ⟨T, _, e, ht⟩, fun i s1 Q1 F1 hi st hds hQ => ?_, fun s1 Q1 F1 st hQ => ?_⟩
 ·obtain ⟨m1, m2, m3, t, u1, u2, u3, ⟨a, b, c, hTO⟩, hz⟩ := st
  refine ⟨m1, m2, m3, hk _ _ (Ne.symm dTI) t, E1.frame _ _ _ u1 fun x hx o e => hk x o (fun q => df1 (q ▸ hx)) e, E2.frame _ _ _ u2 fun x hx o e => hk x o (fun q => df2 (q ▸ hx)) e, E3.frame _ _ _ u3 fun x hx o e => hk x o (fun q => df3 (q ▸ hx)) e, ⟨a, b, c, hk _ _ (Ne.symm dTO) hTO⟩, ?_⟩
  rcases hz with hz | ⟨T, f, oT, hz, hT, r1, r2, r3, r4, r5⟩
  ·exact .inl (hk _ _ (Ne.symm dz) hz)
  ·exact .inr ⟨T, f, oT, hk _ _ (Ne.symm dz) hz, hk _ _ r5 hT, r1, r2, r3, r4, r5⟩
 ·obtain ⟨m1, m2, m3, t, u1, u2, u3, ⟨a, b, c, hTO⟩, hz⟩ := st
  have l1 : i < n1 := by omega
  have l2 : i < n2 := by omega
  have l3 : i < n3 := by omega
  have new : ∀ {c o}, s1.heap.get? c = some o → s1.heap.objs.size ≠ c := fun e => Nat.ne_of_gt (Heap.lt_size e)
  have n1' : s1.heap.objs.size ≠ i1 := let ⟨_, e⟩ := E1.live _ _ u1; new e
  have n2' : s1.heap.objs.size ≠ i2 := let ⟨_, e⟩ := E2.live _ _ u2; new e
  have n3' : s1.heap.objs.size ≠ i3 := let ⟨_, e⟩ := E3.live _ _ u3; new e
  have nS : s1.heap.objs.size ≠ S := Nat.ne_of_gt hds
  have fresh : ∀ T, (Value.ref s1.heap.objs.size) = .ref T → s1.heap.get? T = none := fun T e => by
   cases e
   cases h : s1.heap.get? s1.heap.objs.size with
   | none => rfl
   | some o => exact absurd (Heap.lt_size h) (Nat.lt_irrefl _)
  rcases hz with hz | ⟨T, f, oT, hz, hT, r1, r2, r3, r4, r5⟩
  ·refine wpAny_pyNext_zipD3_item Z E1 E2 E3 hz t hTO u1 u2 u3 l1 l2 l3 fun x y u h' tk px py pu a1 a2 v1 v2 v3 a5 a6 hk => ?_
   exact hQ (.ref s1.heap.objs.size) h' tk ⟨_, x, y, u, rfl, a5, px, py, pu, by simp [new hz, new hTO, n1', n2', n3'], nS, hds⟩ fresh
    ⟨l1, l2, l3, hk _ _ Z.TIz Z.TITO Z.TIi1 Z.TIi2 Z.TIi3 t, v1, v2, v3, ⟨_, _, _, a2⟩, .inr ⟨s1.heap.objs.size, false, _, a1, a5, new hz, n1', n2', n3', nS⟩⟩
    fun c o hc e => hk c o (fun q => hc (by simp [q])) (fun q => hc (by simp [q])) (fun q => hc (by simp [q])) (fun q => hc (by simp [q])) (fun q => hc (by simp [q])) e
  ·refine next3Held_item Z E1 E2 E3 hz hT t u1 u2 u3 l1 l2 l3 fun x y u h' tk px py pu a1 v1 v2 v3 a5 a6 hk => ?_
   exact hQ (.ref s1.heap.objs.size) h' tk ⟨_, x, y, u, rfl, a5, px, py, pu, by simp [new hz, new hTO, n1', n2', n3'], nS, hds⟩ fresh
    ⟨l1, l2, l3, hk _ _ Z.TIz Z.TIi1 Z.TIi2 Z.TIi3 t, v1, v2, v3, ⟨a, b, c, hk _ _ Z.TOz Z.Ti1 Z.Ti2 Z.Ti3 hTO⟩, .inr ⟨T, true, oT, a1, hk _ _ r1 r2 r3 r4 hT, r1, r2, r3, r4, r5⟩⟩
    fun c o hc e => hk c o (fun q => hc (by simp [q])) (fun q => hc (by simp [q])) (fun q => hc (by simp [q])) (fun q => hc (by simp [q])) e
 ·obtain ⟨m1, m2, m3, t, u1, u2, u3, ⟨a, b, c, hTO⟩, hz⟩ := st
  have fin : min (min n1 n2) n3 = n1 ∨ min (min n1 n2) n3 = n2 ∨ min (min n1 n2) n3 = n3 := by omega
  rcases hz with hz | ⟨T, f, oT, hz, hT, r1, r2, r3, r4, r5⟩
  ·exact wpAny_pyNext_zipD3_end Z E1 E2 E3 hz t hTO u1 u2 u3 m1 m2 m3 fin fun h' tk hk => hQ h' tk fun c o hc e => hk c o (fun q => hc (by simp [q])) (fun q => hc (by simp [q])) (fun q => hc (by simp [q])) (fun q => hc (by simp [q])) (fun q => hc (by simp [q])) e
  ·exact next3Held_end Z E1 E2 E3 hz hT t u1 u2 u3 m1 m2 m3 fin fun h' tk hk => hQ h' tk fun c o hc e => hk c o (fun q => hc (by simp [q])) (fun q => hc (by simp [q])) (fun q => hc (by simp [q])) (fun q => hc (by simp [q])) e
end
section
open PySem.Calls PyProof.Rows
variable {prog : Program} {w : World} {A : Around} {E : Value → Shared → Prop} {s : Shared} {I TI TO : Addr} {ow : Value} {wr : List Addr} {n : Nat} {Y : Nat → Value → Heap → Prop} {St : Nat → Heap → Prop}
theorem sorted_col {Q : Value → Shared → Prop} (W : ColSrc prog w A.in1.in1 I s.heap.objs.size wr n Y St) (hz : IsZip s.heap I TI TO ow) (hst : St 0 s.heap) (hn : n ≤ sizeLine)
  (h : ∀ h' tk acc, (∀ b o, b ∉ wr → s.heap.get? b = some o → h'.get? b = some o) → ColOf Y h' acc n →
   wpAny (model prog w) A.in1 (call (.builtin "list.sort") [.ref h'.objs.size]) (fun _ s' => Q (.ref h'.objs.size) s') E { s with heap := h'.push { cls := .type "list", data := .seq acc.toList.toArray }, toks := tk }) :
  wpAny (model prog w) A (call (.builtin "sorted") [.ref I]) Q E s := by
 refine call_function_entry kind_sorted plain_sorted entry_sorted (args_sorted1 _) ?_
 unfold Builtin.«sorted»
 refine wpAny_bind (m := checkCount "sorted" 1 1 _) (wpAny_pure ?_)
 refine wpAny_bind (collect_zip (A := A.in1) W hz hst hn fun h' tk acc hk hacc => ?_)
 have hl : acc.toList.length = n := by rw [Array.length_toList]; exact hacc.1
 refine wpAny_bind (wpAny_newList ?_ (by rw [hl]; exact hn))
 have hg := h h' tk acc hk hacc
 refine wpAny_bind (wpAny_holding (wpAny_mono hg (fun _ s' x => ?_) fun _ _ e => e))
 exact wpAny_pure ⟨_, rfl, x⟩
end
def updTs (H : Hp) : List (Addr × List V) → Hp
 | [] => H
 | p :: l => updTs (upd H p.1 (.tup p.2)) l
theorem inv_tups {X : Cx} {pins : List (Addr × Obj)} {σ : L2.St} {h' : Heap} {tk : Nat} : ∀ (Ts : List (Addr × List V)) {H : Hp} {s : Shared}, Inv X pins σ H s → (∀ b u, s.heap.get? b = some u → h'.get? b = some u) → (Ts.map (·.1)).Nodup →
  (∀ p ∈ Ts, s.heap.get? p.1 = none ∧ H p.1 = none ∧ p.2.length ≤ sizeLine ∧ ∃ its : List Value, Vals p.2 its ∧ h'.IsTuple p.1 its.toArray) → Inv X pins σ (updTs H Ts) { s with heap := h', toks := tk }
 | [], H, s, I, k, _, _ => I.kept k
 | p :: l, H, s, I, k, nd, hp => by
  rw [List.map_cons, List.nodup_cons] at nd
  obtain ⟨nm, nd⟩ := nd
  obtain ⟨G, g1, g2⟩ := restrict h' fun b => !decide (b ∈ l.map (·.1))
  have gin : ∀ b u, G.get? b = some u → h'.get? b = some u := fun b u e => by
   by_cases c : b ∈ l.map (·.1)
   ·rw [g2 b (by simp [c])] at e; cases e
   ·rw [← g1 b (by simp [c])]; exact e
  have gk : ∀ b u, s.heap.get? b = some u → G.get? b = some u := fun b u e => by
   by_cases c : b ∈ l.map (·.1)
   ·obtain ⟨q, hq, rfl⟩ := List.mem_map.mp c
    rw [(hp q (List.mem_cons_of_mem _ hq)).1] at e
    cases e
   ·rw [g1 b (by simp [c])]; exact k b u e
  obtain ⟨a1, a2, a3, its, a4, a5⟩ := hp p List.mem_cons_self
  have tG : G.IsTuple p.1 its.toArray := by
   have e : G.get? p.1 = h'.get? p.1 := g1 p.1 (by simp only [Bool.not_eq_true', decide_eq_false_iff_not]; exact nm)
   obtain ⟨o, ho, r⟩ := a5
   exact ⟨o, e.trans ho, r⟩
  have I1 : Inv X pins σ (upd H p.1 (.tup p.2)) { s with heap := G, toks := tk } := I.laidN gk a1 a2 ⟨a3, its, a4, tG⟩
  have := inv_tups (h' := h') (tk := tk) l I1 gin nd fun q hq => by
   obtain ⟨b1, b2, b3, b4⟩ := hp q (List.mem_cons_of_mem _ hq)
   refine ⟨g2 q.1 (by simp only [Bool.not_eq_false', decide_eq_true_iff]; exact List.mem_map.mpr ⟨q, hq, rfl⟩), ?_, b3, b4⟩
   have ne : q.1 ≠ p.1 := fun e => nm (by rw [← e]; exact List.mem_map.mpr ⟨q, hq, rfl⟩)
   rw [upd_ne ne]
   exact b2
  exact this
section
open PySem.Calls PyProof.Rows
variable {prog : Program} {w : World} {A : Around} {E : Value → Shared → Prop} {s : Shared} {β : Type} {enc : β → PyData} {R : Value → β → Prop}
theorem sort_new {h' : Heap} {tk : Nat} {vs : List Value} {bs : List β} {Q : Value → Shared → Prop} (e : PySem.W.EachIs R vs bs) (er : PySem.W.EachIs (fun v b => ∃ as, Reads h' v (enc b) as) vs bs) (hal : PySem.W.AllAlike (bs.map enc)) (hk : PySem.W.Sortable (bs.map enc)) (hL : bs.length ≤ sizeLine)
  (hu : ∀ b, b ∈ bs → A.units + 1 + (enc b).depth < cLine)
  (h : ∀ out, out.length = bs.length → PySem.W.EachIs R out (bs.mergeSort (PySem.W.dataLe false enc)) → Q .none { s with heap := sortedHeap (h'.push (seqObj "list" vs.toArray 0)) h'.objs.size vs (List.toArray out), toks := tk }) :
  wpAny (model prog w) A (call (.builtin "list.sort") [.ref h'.objs.size]) Q E { s with heap := h'.push (seqObj "list" vs.toArray 0), toks := tk } := by
 have ho : (h'.push (seqObj "list" vs.toArray 0)).get? h'.objs.size = some (seqObj "list" vs.toArray 0) := Heap.get?_push_size _ rfl
 have er' : PySem.W.EachIs (fun v b => ∃ as, Reads (sortingHeap (h'.push (seqObj "list" vs.toArray 0)) h'.objs.size vs) v (enc b) as) vs bs := er.mono fun _ _ ⟨as, r⟩ => ⟨as, PyProof.Rows.Reads.keeps (fun _ _ q => sortingHeap_old (Nat.ne_of_lt (Heap.lt_size q)) (Heap.get?_push_of_some _ q)) r⟩
 refine wpAny_call_entry slot_list_sort ⟨_, ho, rfl⟩ entry_list_sort (list_sort_vals (κ := dataKind (sortingHeap (h'.push (seqObj "list" vs.toArray 0)) h'.objs.size vs) (bs.map enc)) ho (SortsAt.data (s := { s with heap := sortingHeap (h'.push (seqObj "list" vs.toArray 0)) h'.objs.size vs, toks := tk }) (each_map (R := fun v d => ∃ as, Reads (sortingHeap (h'.push (seqObj "list" vs.toArray 0)) h'.objs.size vs) v d as) enc er') hal hk (bound_map hu)) (by rw [e.length]; exact hL) ⟨.none, rfl, ?_⟩) (args_list_sort _)
 exact h _ (by rw [sortVals_length false rfl]; exact e.length) (sortVals_data false e er' hal)
end
end Dv
set_option Elab.async false
set_option linter.all false
set_option maxRecDepth 100000
namespace Dv
open PySem PySem.Spec L2
section
variable {X : Cx} {C : FC} {o e f : Expr} {apos cpos pos : Pos} {k : Nat}
end
end Dv
set_option Elab.async false
set_option linter.all false
set_option maxRecDepth 100000
set_option autoImplicit false
namespace Dv
open PySem PySem.Spec L2
end Dv
set_option Elab.async false
set_option linter.all false
set_option maxRecDepth 100000
set_option autoImplicit false
namespace PySem.SeqAt
open MeetsSeq
end PySem.SeqAt
namespace Dv
open PySem PySem.Spec L2
section
variable {X : Cx} {C : FC} {k : Nat} {a b : Expr} {ta tb : DE} {pos : Pos}
end
section
variable {X : Cx} {C : FC} {a : Expr} {tA : DA} {p pos : Pos}
end
end Dv
set_option Elab.async false
set_option linter.all false
set_option maxRecDepth 100000
set_option maxHeartbeats 1000000
namespace Dv
open PySem PySem.Spec PySem.W L2
open PyProof.Rows (Call_)
def zip3V : List V → List V → List V → List (List V)
 | x :: xs, y :: ys, u :: us => [x, y, u] :: zip3V xs ys us
 | _, _, _ => []
theorem zip3V_len : ∀ xs ys us : List V, (zip3V xs ys us).length = min (min xs.length ys.length) us.length
 | [], _, _ => by simp [zip3V]
 | _ :: _, [], _ => by simp [zip3V]
 | _ :: _, _ :: _, [] => by simp [zip3V]
 | x :: xs, y :: ys, u :: us => by
  simp only [zip3V, List.length_cons]
  rw [zip3V_len xs ys us]
  omega
theorem zip3V_get : ∀ {xs ys us : List V} {j : Nat} {r : List V}, (zip3V xs ys us)[j]? = some r → ∃ x y u, xs[j]? = some x ∧ ys[j]? = some y ∧ us[j]? = some u ∧ r = [x, y, u]
 | [], _, _, j, r, h => by simp [zip3V] at h
 | _ :: _, [], _, j, r, h => by simp [zip3V] at h
 | _ :: _, _ :: _, [], j, r, h => by simp [zip3V] at h
 | x :: xs, y :: ys, u :: us, 0, r, h => by
  simp only [zip3V, List.getElem?_cons_zero] at h
  cases h
  exact ⟨x, y, u, rfl, rfl, rfl, rfl⟩
 | x :: xs, y :: ys, u :: us, j + 1, r, h => by
  simp only [zip3V, List.getElem?_cons_succ] at h ⊢
  exact zip3V_get h
theorem vals_refs : ∀ Ts : List Addr, Vals (Ts.map V.ref) (Ts.map Value.ref)
 | [] => .nil
 | T :: Ts => .cons rfl (vals_refs Ts)
theorem col_rows {its1 its2 its3 : List Value} {wr : List Addr} {S n : Nat} {h : Heap} {acc : Array Value} {xs ys us : List V} (c : ColOf (Zip3Y (fun i v => its1[i]? = some v) (fun i v => its2[i]? = some v) (fun i v => its3[i]? = some v) wr S) h acc n) (rv1 : Vals xs its1) (rv2 : Vals ys its2) (rv3 : Vals us its3) :
  ∃ Ts : List Addr, acc.toList = Ts.map Value.ref ∧ Ts.Nodup ∧ Ts.length = n ∧ (∀ T ∈ Ts, S < T ∧ ∃ o, h.get? T = some o) ∧ ∀ p ∈ Ts.zip (zip3V xs ys us), p.2.length ≤ sizeLine ∧ ∃ its : List Value, Vals p.2 its ∧ h.IsTuple p.1 its.toArray := by
 obtain ⟨cn, cy, cd⟩ := c
 have rf : ∀ v ∈ acc.toList, ∃ T, v = .ref T ∧ S < T ∧ ∃ o, h.get? T = some o := fun v hv => by
  obtain ⟨j, hj⟩ := List.mem_iff_getElem?.mp hv
  rw [Array.getElem?_toList] at hj
  obtain ⟨T, x, y, u, e, ht, _, _, _, _, _, lt⟩ := cy j v hj
  exact ⟨T, e, lt, _, ht⟩
 obtain ⟨Ts, eT⟩ : ∃ Ts : List Addr, acc.toList = Ts.map Value.ref := by
  refine ⟨acc.toList.map fun v => match v with | .ref T => T | _ => 0, ?_⟩
  rw [List.map_map]
  conv => lhs; rw [← List.map_id acc.toList]
  refine List.map_congr_left fun v hv => ?_
  obtain ⟨T, e, _⟩ := rf v hv
  subst e
  rfl
 refine ⟨Ts, eT, ?_, ?_, fun T hT => ?_, fun p hp => ?_⟩
 ·rw [eT] at cd
  exact List.Pairwise.of_map Value.ref (fun a b hab e => hab (by rw [e])) cd
 ·have := congrArg List.length eT
  rw [List.length_map, Array.length_toList, cn] at this
  exact this.symm
 ·obtain ⟨T', e, r⟩ := rf (.ref T) (by rw [eT]; exact List.mem_map.mpr ⟨T, hT, rfl⟩)
  cases e
  exact r
 ·obtain ⟨j, hj⟩ := List.mem_iff_getElem?.mp hp
  obtain ⟨j1, j2⟩ := List.getElem?_zip_eq_some.mp hj
  have ja : acc[j]? = some (.ref p.1) := by rw [← Array.getElem?_toList, eT, List.getElem?_map, j1]; rfl
  obtain ⟨T, x, y, u, e, ht, q1, q2, q3, _⟩ := cy j _ ja
  cases e
  obtain ⟨x0, y0, u0, a1, a2, a3, er⟩ := zip3V_get j2
  obtain ⟨x1, b1, r1⟩ := rv1.get a1
  obtain ⟨y1, b2, r2⟩ := rv2.get a2
  obtain ⟨u1, b3, r3⟩ := rv3.get a3
  rw [q1] at b1; cases b1
  rw [q2] at b2; cases b2
  rw [q3] at b3; cases b3
  rw [er]
  exact ⟨by show 3 ≤ sizeLine; decide, [x, y, u], .cons r1 (.cons r2 (.cons r3 .nil)), ⟨_, ht, rfl, _, rfl⟩⟩
def tSortZip3 (K : PySem.W.Frag) (ta : TA) : TE := fun σ H Q => ta σ H fun vs H1 => ∃ (a b c : Addr) (xs ys us : List V), vs = [.ref a, .ref b, .ref c] ∧ (SqL K H1 a xs ∨ SqT K H1 a xs) ∧ (SqL K H1 b ys ∨ SqT K H1 b ys) ∧ (SqL K H1 c us ∨ SqT K H1 c us) ∧ (zip3V xs ys us).length ≤ sizeLine ∧
 ∀ (Ts : List Addr) (p : Addr), Ts.length = (zip3V xs ys us).length → (p :: Ts).Nodup → (∀ t ∈ p :: Ts, H1 t = none) → ∃ ds : List PyData, DpAll K (updTs H1 (Ts.zip (zip3V xs ys us))) (Ts.map V.ref) ds ∧ PySem.W.AllAlike ds ∧ PySem.W.Sortable ds ∧ (∀ d ∈ ds, d.depth ≤ 60) ∧
  Q (.ref p) (upd (updTs H1 (Ts.zip (zip3V xs ys us))) p (.lst ((((Ts.map V.ref).zip ds).mergeSort (PySem.W.dataLe false Prod.snd)).map Prod.fst)))
section
variable {X : Cx} {C : FC} {e1 e2 e3 : Expr} {p p2 q2 pos : Pos}
theorem pe_sortZip3 {ta : TA} (hc : X.calm = true) (hu : X.A.units + 65 < cLine) (hg : Gl X "sorted") (hm : X.mg "sorted" = none) (hg2 : Gl X "zip") (hm2 : X.mg "zip" = none) (ha : PA X [e1, e2, e3] ta)
  (hs : starEach [e1, e2, e3] X.env = (false, eval e1 X.env) :: starEach [e2, e3] X.env := by rfl) (hpl : (backTo q2 (starEach [e2, e3] X.env)).any (·.1) = false := by rfl)
  (hs2 : starEach [.Call (.Name "zip" p2) [e1, e2, e3] [] q2] X.env = (false, eval (.Call (.Name "zip" p2) [e1, e2, e3] [] q2) X.env) :: starEach [] X.env := by rfl) :
  PE X (.Call (.Name "sorted" p) [.Call (.Name "zip" p2) [e1, e2, e3] [] q2] [] pos) (tSortZip3 X.K ta) := by
 refine ⟨fun pins s σ H Q I h => ?_⟩
 refine Call_ (ld_blt I hg hm (show bootBuiltins "sorted" = some (.builtin "sorted") by decide +kernel) ?_)
 refine PyProof.Rows.callWith_builtin1 (PyProof.Rows.args_cons ?_ hs2) hs2 rfl
 refine Call_ (ld_blt I hg2 hm2 PyProof.Rows.boot_zip (PyProof.Rows.callWith_type1 (thn (ha.run q2 pins s σ H _ I h) fun us0 s1 ⟨vs, H1, I1, r1, q1⟩ => ?_) hs hpl))
 obtain ⟨a, b, c, xs, ys, us, ex, ha1, hb1, hc1, hlen, q⟩ := q1
 subst ex
 cases r1 with
 | cons r rr =>
  cases rr with
  | cons r' rr =>
   cases rr with
   | cons r'' rr =>
    cases rr
    cases r
    cases r'
    cases r''
    have src : ∀ {c : Addr} {xs : List V}, (SqL X.K H1 c xs ∨ SqT X.K H1 c xs) → ∃ its, Vals xs its ∧ Src X.prog X.w s1.heap c its := fun h => by
     rcases h with h | h
     ·obtain ⟨its, rv, p1, _⟩ := I1.list h
      exact ⟨its, rv, Src.list p1.isList⟩
     ·obtain ⟨its, rv, p1, _⟩ := I1.tuple h
      exact ⟨its, rv, Src.tuple p1⟩
    obtain ⟨its1, rv1, S1⟩ := src ha1
    obtain ⟨its2, rv2, S2⟩ := src hb1
    obtain ⟨its3, rv3, S3⟩ := src hc1
    obtain ⟨o1, Q1, B1, k1, lt1, F1⟩ := S1.ex
    obtain ⟨o2, Q2, B2, k2, lt2, F2⟩ := S2.ex
    obtain ⟨o3, Q3, B3, k3, lt3, F3⟩ := S3.ex
    obtain ⟨St1, D1, L1, z1⟩ := F1 s1.heap.objs.size (Nat.ne_of_lt lt1)
    obtain ⟨St2, D2, L2, z2⟩ := F2 (s1.heap.objs.size + 1) (Nat.ne_of_lt (Nat.lt_succ_of_lt lt2))
    obtain ⟨St3, D3, L3, z3⟩ := F3 (s1.heap.objs.size + 2) (Nat.ne_of_lt (Nat.lt_succ_of_lt (Nat.lt_succ_of_lt lt3)))
    refine zip_begins3 B1 B2 B3 k1 k2 k3 fun h' hz hTI hTO g1 g2 g3 hsz hk => ?_
    refine PyProof.Rows.args_nil ?_
    have sep := zip_sep3 (N := s1.heap.objs.size) (fp1 := [a]) (fp2 := [b]) (fp3 := [c]) (fun x hx => by simp at hx; subst hx; exact lt1) (fun x hx => by simp at hx; subst hx; exact lt2) (fun x hx => by simp at hx; subst hx; exact lt3)
    have hd : ∀ A : Around, A.in1.in1.in1.handled = A.handled := fun _ => rfl
    have hA : X.A.in1.in1.in1.handled = none := I1.ok.hd hc
    have out : h'.objs.size ∉ (s1.heap.objs.size + 5) :: (s1.heap.objs.size + 3) :: (s1.heap.objs.size + 4) :: ([s1.heap.objs.size, a] ++ [s1.heap.objs.size + 1, b] ++ [s1.heap.objs.size + 2, c]) := by
     rw [hsz]
     simp only [List.mem_cons, List.mem_append, List.not_mem_nil, or_false, not_or]
     have lt1 : a < s1.heap.objs.size := lt1
     have lt2 : b < s1.heap.objs.size := lt2
     have lt3 : c < s1.heap.objs.size := lt3
     have nf : ∀ {m n : Nat}, m < n → n ≠ m := fun h => Nat.ne_of_gt h
     refine ⟨nf (Nat.lt_succ_self _), nf (by show s1.heap.objs.size + 3 < s1.heap.objs.size + 6; omega), nf (by show s1.heap.objs.size + 4 < s1.heap.objs.size + 6; omega), ⟨⟨nf (by show s1.heap.objs.size < s1.heap.objs.size + 6; omega), nf (Nat.lt_of_lt_of_le lt1 (Nat.le_add_right _ _))⟩, nf (by show s1.heap.objs.size + 1 < s1.heap.objs.size + 6; omega), nf (Nat.lt_of_lt_of_le lt2 (Nat.le_add_right _ _))⟩, nf (by show s1.heap.objs.size + 2 < s1.heap.objs.size + 6; omega), nf (Nat.lt_of_lt_of_le lt3 (Nat.le_add_right _ _))⟩
    have W := colZip3 (A := X.A.in1.in1) (S := h'.objs.size) sep (D1 _ hA) (D2 _ hA) (D3 _ hA) out
    have e1 := rv1.length
    have e2 := rv2.length
    have e3 := rv3.length
    have zl := zip3V_len xs ys us
    have hn : min (min its1.length its2.length) its3.length ≤ sizeLine := by rw [← e1, ← e2, ← e3, ← zl]; exact hlen
    refine sorted_col (s := { s1 with heap := h' }) W hz ⟨Nat.zero_le _, Nat.zero_le _, Nat.zero_le _, hTI, z1 h' g1 fun o e => hk _ _ e, z2 h' g2 fun o e => hk _ _ e, z3 h' g3 fun o e => hk _ _ e, ⟨_, _, _, hTO⟩, .inl hz⟩ hn fun h2 tk acc hk2 hacc => ?_
    obtain ⟨Ts, eT, nd, lT, tT, rT⟩ := col_rows hacc rv1 rv2 rv3
    have old : ∀ x o, s1.heap.get? x = some o → h2.get? x = some o := fun x o e => hk2 x o (fun hm => by
     have lt : x < s1.heap.objs.size := Heap.lt_size e
     simp only [List.mem_cons, List.not_mem_nil, or_false] at hm
     rcases hm with e | e | e | e | e
     ·exact Nat.ne_of_lt (Nat.lt_of_lt_of_le lt (Nat.le_add_right _ 5)) e
     ·exact Nat.ne_of_lt (Nat.lt_of_lt_of_le lt (Nat.le_add_right _ 4)) e
     ·exact Nat.ne_of_lt lt e
     ·exact Nat.ne_of_lt (Nat.lt_of_lt_of_le lt (Nat.le_add_right _ 1)) e
     ·exact Nat.ne_of_lt (Nat.lt_of_lt_of_le lt (Nat.le_add_right _ 2)) e) (hk x o e)
    have new : ∀ T ∈ Ts, s1.heap.objs.size ≤ T := fun T hT => by
     have h1 := (tT T hT).1
     rw [hsz] at h1
     exact Nat.le_trans (Nat.le_add_right _ 6) (Nat.le_of_lt h1)
    have non : ∀ {T : Addr}, s1.heap.objs.size ≤ T → s1.heap.get? T = none := fun {T} hT => by
     cases e : s1.heap.get? T with
     | none => rfl
     | some o => exact absurd (Heap.lt_size e) (Nat.not_lt.mpr hT)
    have lR : Ts.length = (zip3V xs ys us).length := by rw [lT, zl, e1, e2, e3]
    have em : (Ts.zip (zip3V xs ys us)).map (·.1) = Ts := List.map_fst_zip (by omega)
    have I2 := inv_tups (h' := h2) (tk := tk) (Ts.zip (zip3V xs ys us)) I1 old (by rw [em]; exact nd) fun p hp => by
     have hT : p.1 ∈ Ts := by rw [← em]; exact List.mem_map.mpr ⟨p, hp, rfl⟩
     exact ⟨non (new _ hT), I1.hok.fresh (new _ hT), (rT p hp).1, (rT p hp).2⟩
    have ss : s1.heap.objs.size ≤ h2.objs.size := by
     have e := hk2 (s1.heap.objs.size + 3) _ (fun hm => by
      simp only [List.mem_cons, List.not_mem_nil, or_false] at hm
      rcases hm with e | e | e | e | e
      ·exact absurd (Nat.add_left_cancel e) (by decide)
      ·exact absurd (Nat.add_left_cancel e) (by decide)
      ·exact absurd (Nat.add_left_cancel (e.trans (Nat.add_zero _).symm)) (by decide)
      ·exact absurd (Nat.add_left_cancel e) (by decide)
      ·exact absurd (Nat.add_left_cancel e) (by decide)) hTI
     exact Nat.le_trans (Nat.le_add_right _ 3) (Nat.le_of_lt (Heap.lt_size e))
    have pT : h2.objs.size ∉ Ts := fun hT => by
     obtain ⟨o, e⟩ := (tT _ hT).2
     exact absurd (Heap.lt_size e) (Nat.lt_irrefl _)
    obtain ⟨ds, hdp, hal, hso, hde, hq⟩ := q Ts h2.objs.size lR (List.nodup_cons.mpr ⟨pT, nd⟩) fun t ht => by
     rcases List.mem_cons.mp ht with e | e
     ·rw [e]; exact I1.hok.fresh ss
     ·exact I1.hok.fresh (new _ e)
    obtain ⟨f1, f2⟩ := each_zip I2 (vals_refs Ts) hdp
    have dl := dp_len hdp
    rw [List.length_map] at dl
    have es : ((Ts.map V.ref).zip ds).map Prod.snd = ds := List.map_snd_zip (by rw [List.length_map]; omega)
    have zl2 : ((Ts.map V.ref).zip ds).length = Ts.length := by rw [List.length_zip, List.length_map]; omega
    rw [eT]
    refine sort_new (s := s1) (enc := Prod.snd) f1 f2 (by rw [es]; exact hal) (by rw [es]; exact hso) (by rw [zl2, lT]; exact hn) (fun b hb => ?_) fun out ho eo => ?_
    ·have := hde b.2 (by rw [← es]; exact List.mem_map.mpr ⟨b, hb, rfl⟩)
     show X.A.units + 1 + 1 + b.2.depth < cLine
     omega
    ·obtain ⟨ep, he'⟩ := PyProof.Rows.sortedHeap_at (vs := Ts.map Value.ref) (out := out.toArray) (show (h2.push (PyProof.Rows.seqObj "list" (Ts.map Value.ref).toArray 0)).get? h2.objs.size = some (PyProof.Rows.seqObj "list" (Ts.map Value.ref).toArray 0) from Heap.get?_push_size _ rfl)
     exact ⟨.ref _, upd (updTs H1 (Ts.zip (zip3V xs ys us))) h2.objs.size (.lst _), I2.laid (t' := tk) (fun x o e => (PyProof.Rows.sortedHeap_old (Nat.ne_of_lt (Heap.lt_size e)) (Heap.lt_size (Heap.get?_push_of_some _ e))).trans (Heap.get?_push_of_some _ e)) (Nat.le_refl _) ⟨by simp [zl2]; omega, out, ep, each_vals eo, he'⟩, rfl, hq⟩
end
def zip3D : List PyData → List PyData → List PyData → List PyData
 | x :: xs, y :: ys, u :: us => .tuple [x, y, u] :: zip3D xs ys us
 | _, _, _ => []
theorem zip3D_len : ∀ {K : PySem.W.Frag} {F : Hp} {xs ys us : List V} {dx dy du : List PyData}, RepAll K F xs dx → RepAll K F ys dy → RepAll K F us du → (zip3D dx dy du).length = (zip3V xs ys us).length
 | _, _, _, _, _, _, _, _, .nil, _, _ => rfl
 | _, _, _, _, _, _, _, _, .cons _ _, .nil, _ => rfl
 | _, _, _, _, _, _, _, _, .cons _ _, .cons _ _, .nil => rfl
 | _, _, _, _, _, _, _, _, .cons _ r1, .cons _ r2, .cons _ r3 => by
  simp only [zip3D, zip3V, List.length_cons]
  rw [zip3D_len r1 r2 r3]
theorem updTs_ne {p : Addr} : ∀ {l : List (Addr × List V)} {H : Hp}, p ∉ l.map (·.1) → updTs H l p = H p
 | [], _, _ => rfl
 | a :: l, H, h => by
  rw [List.map_cons, List.mem_cons, not_or] at h
  show updTs (upd H a.1 (.tup a.2)) l p = H p
  rw [updTs_ne h.2, upd_ne h.1]
theorem gr_tups {K : PySem.W.Frag} : ∀ (Ts : List Addr) {F H : Hp} {xs ys us : List V} {dx dy du : List PyData}, Same F H → RepAll K F xs dx → RepAll K F ys dy → RepAll K F us du → Ts.length = (zip3V xs ys us).length → Ts.Nodup → (∀ t ∈ Ts, H t = none) →
  Gr F H (updTs F (Ts.zip (zip3V xs ys us))) (updTs H (Ts.zip (zip3V xs ys us))) ∧ RepAll K (updTs F (Ts.zip (zip3V xs ys us))) (Ts.map V.ref) (zip3D dx dy du)
 | [], F, H, xs, ys, us, dx, dy, du, s, r1, r2, r3, hl, _, _ => by
  have e : zip3D dx dy du = [] := List.eq_nil_of_length_eq_zero (by rw [zip3D_len r1 r2 r3, ← hl]; rfl)
  rw [e]
  exact ⟨Gr.refl s, .nil⟩
 | T :: Ts, F, H, xs, ys, us, dx, dy, du, s, r1, r2, r3, hl, nd, hn => by
  cases r1 with
  | nil => simp [zip3V] at hl
  | @cons x xs dx0 dxs a1 r1 =>
   cases r2 with
   | nil => simp [zip3V] at hl
   | @cons y ys dy0 dys a2 r2 =>
    cases r3 with
    | nil => simp [zip3V] at hl
    | @cons u us du0 dus a3 r3 =>
     have g1 : Gr F H (upd F T (.tup [x, y, u])) (upd H T (.tup [x, y, u])) := Gr.new s (hn T List.mem_cons_self)
     rw [List.nodup_cons] at nd
     obtain ⟨i1, i2⟩ := gr_tups Ts g1.s (r1.mono g1.f) (r2.mono g1.f) (r3.mono g1.f) (by simpa [zip3V] using hl) nd.2 fun t ht => by
      rw [upd_ne (fun e => nd.1 (by rw [← e]; exact ht))]
      exact hn t (List.mem_cons_of_mem _ ht)
     refine ⟨g1.trans i1, .cons ?_ i2⟩
     have rr : RepAll K (upd F T (.tup [x, y, u])) [x, y, u] [dx0, dy0, du0] := .cons (a1.mono g1.f) (.cons (a2.mono g1.f) (.cons (a3.mono g1.f) .nil))
     exact .tup (sqT_mono i1.f (SqT.of upd_same)) (rr.mono i1.f)
def dSortZ3 (t : DA) : DO := fun ρ Q => t ρ fun os ρ1 => withAll ρ1 os fun ds => match ds with
 | [a, b, c] => match seqOf a, seqOf b, seqOf c with
  | some xs, some ys, some us => Srt (zip3D xs ys us) ∧ Q (.list (sortD (zip3D xs ys us))) ρ1
  | _, _, _ => False
 | _ => False
section
variable {X : Cx} {C : FC} {e1 e2 e3 : Expr} {tA : DA} {p p2 q2 pos : Pos} {k : Nat}
theorem o_sortZip3 (hr : Room k X.A) (hc : X.calm = true) (hm : X.mg "sorted" = none) (hm2 : X.mg "zip" = none) (ha : QA X C [e1, e2, e3] tA) (hg : Gl X "sorted" := by rfl) (hg2 : Gl X "zip" := by rfl)
  (hs : starEach [e1, e2, e3] X.env = (false, eval e1 X.env) :: starEach [e2, e3] X.env := by rfl) (hpl : (backTo q2 (starEach [e2, e3] X.env)).any (·.1) = false := by rfl)
  (hs2 : starEach [.Call (.Name "zip" p2) [e1, e2, e3] [] q2] X.env = (false, eval (.Call (.Name "zip" p2) [e1, e2, e3] [] q2) X.env) :: starEach [] X.env := by rfl) :
  QO X C (.Call (.Name "sorted" p) [.Call (.Name "zip" p2) [e1, e2, e3] [] q2] [] pos) (dSortZ3 tA) :=
 QO.of (pe_sortZip3 hc (by have := hr.un; omega) hg hm hg2 hm2 ha.pa hs hpl hs2) fun σ H Q ⟨F, ρ, q, S, ht, k⟩ => by
  refine ⟨F, ρ, _, S, ht, fun os ρ1 F1 H1 vs h1 S1 s1 d1 => ?_⟩
  obtain ⟨ds, v1, w1⟩ := S1.seeAll d1 h1
  match ds, v1, w1 with
  | [a, b, c], v1, w1 =>
   cases v1 with
   | cons hu v1 =>
    cases v1 with
    | cons hu2 v1 =>
     cases v1 with
     | cons hu3 v1 =>
      cases v1
      have w1 : (match seqOf a, seqOf b, seqOf c with
       | some xs, some ys, some us => Srt (zip3D xs ys us) ∧ q (.list (sortD (zip3D xs ys us))) ρ1
       | _, _, _ => False) := w1
      split at w1
      ·rename_i xs ys us ea eb ec
       obtain ⟨hs, w⟩ := w1
       obtain ⟨A1, x1, rfl, g1, r1⟩ := seq_view S1.sub hu ea
       obtain ⟨A2, x2, rfl, g2, r2⟩ := seq_view S1.sub hu2 eb
       obtain ⟨A3, x3, rfl, g3, r3⟩ := seq_view S1.sub hu3 ec
       have zl := zip3D_len r1 r2 r3
       refine ⟨A1, A2, A3, x1, x2, x3, rfl, g1, g2, g3, ?_, fun Ts p lT nd nn => ?_⟩
       ·rw [← zl]
        exact le_line hs.ln
       ·rw [List.nodup_cons] at nd
        obtain ⟨G, R⟩ := gr_tups Ts S1.sub r1 r2 r3 lT nd.2 fun t ht => nn t (List.mem_cons_of_mem _ ht)
        have hcan : PyData.canLayAll0 (zip3D xs ys us) = true := canAll_iff.mpr fun d hd => (hs.sh d hd).can
        refine ⟨zip3D xs ys us, R.dp G.s hcan, hs.al, hs.so, fun d hd => (hs.sh d hd).dep, ?_⟩
        have em0 : (Ts.zip (zip3V x1 x2 x3)).map (·.1) = Ts := List.map_fst_zip (by omega)
        have hp : updTs H1 (Ts.zip (zip3V x1 x2 x3)) p = none := by
         rw [updTs_ne (by rw [em0]; exact nd.1)]
         exact nn p List.mem_cons_self
        have em : ((Ts.map V.ref).zip (zip3D xs ys us)).map Prod.snd = zip3D xs ys us := List.map_snd_zip (by rw [R.length]; exact Nat.le_refl _)
        have e : (((Ts.map V.ref).zip (zip3D xs ys us)).mergeSort (PySem.W.dataLe false Prod.snd)).map Prod.snd = sortD (zip3D xs ys us) := by
         have z := PySem.W.sort_maps (r := PySem.W.dataLe false (Prod.snd : V × PyData → PyData)) (s := PySem.W.dataLe false id) Prod.snd (l := (Ts.map V.ref).zip (zip3D xs ys us)) (fun _ _ _ _ => rfl)
         rw [em] at z
         exact z
        rw [← e] at w
        obtain ⟨S3, fr⟩ := (S1.grow G).layL hp (repAll_of (bs := ((Ts.map V.ref).zip (zip3D xs ys us)).mergeSort (PySem.W.dataLe false Prod.snd)) fun c hc => repAll_zip R c ((List.mergeSort_perm _ _).mem_iff.mp hc))
        exact k _ _ _ _ _ w S3 (s1.trans G.f) fr
      ·exact w1.elim
end
end Dv
set_option Elab.async false
set_option linter.all false
set_option maxRecDepth 100000
set_option autoImplicit false
namespace Dv
open PySem PySem.Spec L2
section
variable {K : PySem.W.Frag} {C : FC} {F H : Hp} {ρ : DEnv} {σ : L2.St} {P : List Bool} {i : Nat} {a : Addr}
end
section
variable {X : Cx} {C : FC} {P : List Bool} {tg : Expr} {body : List Stmt} {pos p : Pos} {g : DG} {t : DS} {x : Str} {i : Nat}
end
end Dv
set_option linter.all false
set_option maxRecDepth 100000
namespace Th
open PySem PySem.Spec L2 Dv
def RisOk (n : Int) (ks : List Int) : Prop := (∀ k ∈ ks, 0 ≤ k ∧ k < n) ∧ ks.Pairwise (· < ·)
theorem eqv_str (a b : Str) : PyData.eqv (.str a) (.str b) = decide (a = b) := by
 by_cases h : a = b
 ·subst h; simp [PyData.eqv]
 ·simp [PyData.eqv, h]
theorem eqv_int (a b : Int) : PyData.eqv (.int a) (.int b) = decide (a = b) := by
 by_cases h : a = b
 ·subst h; simp [PyData.eqv]
 ·simp [PyData.eqv, h]
structure Sheet where
 wires : List (Str × Str × Int)
 turns : List (Str × Int)
 spots : List (List Int × List Int × Int)
abbrev Wire := Str × Str × Int
abbrev Turn := Str × Int
abbrev Spot := List Int × List Int × Int
def wireD (x : Wire) : PyData := .tuple [.str x.1, .str x.2.1, .int x.2.2]
def turnD (x : Turn) : PyData := .tuple [.str x.1, .int x.2]
def spotD (x : Spot) : PyData := .tuple [.tuple (x.1.map .int), .tuple (x.2.1.map .int), .int x.2.2]
def sheetD (s : Sheet) : PyData := .tuple [.tuple (s.wires.map wireD), .tuple (s.turns.map turnD), .tuple (s.spots.map spotD)]
def Bit (v : Int) : Prop := 0 ≤ v ∧ v < 2
structure SheetOk (s : Sheet) : Prop where
 wtx : ∀ x ∈ s.wires, Tx 8 x.1 ∧ Tx 8 x.2.1 ∧ Bit x.2.2
 wnd : (s.wires.map (·.1)).Nodup
 wl : s.wires.length ≤ 8
 ttx : ∀ x ∈ s.turns, x.1 ∈ s.wires.map (·.1) ∧ Bit x.2
 tl : s.turns.length ≤ 24
 sok : ∀ x ∈ s.spots, RisOk s.turns.length x.1 ∧ RisOk s.turns.length x.2.1 ∧ Bit x.2.2
 sl : s.spots.length ≤ 60
def sAsk : Str := Str.ofString "ask"
def sAns : Str := Str.ofString "answer"
theorem tx_ask : Tx 8 sAsk := Tx.lit (by decide +kernel)
theorem tx_answer : Tx 8 sAns := Tx.lit (by decide +kernel)
def bars (s : Sheet) (ms : List Int) (k : Int) : Bool := (s.spots.zip ms).any fun p => p.2 == 0 && p.1.2.1.contains k
def mays (s : Sheet) (ms : List Int) : List Int := ((List.range s.turns.length).map fun (i : Nat) => (i : Int)).filter fun k => !bars s ms k
def standD (ms vs : List Int) : PyData := .tuple [.tuple (ms.map .int), .tuple (vs.map .int)]
def bmark (k : Int) (x : Spot) (m : Int) : Int := if x.1.contains k then 1 else if x.2.1.contains k then 0 else m
def bval (z : Str) (w : Int) (x : Wire) (v : Int) : Int := if PyData.eqv (.str x.1) (.str z) then w else v
def bmarks (s : Sheet) (ms : List Int) (k : Int) : List Int := List.zipWith (bmark k) s.spots ms
def bvals (s : Sheet) (t : Turn) (vs : List Int) : List Int := List.zipWith (bval t.1 t.2) s.wires vs
def taken (s : Sheet) (j k : Int) : Bool := s.spots.any fun x => x.2.1.contains j && x.2.1.contains k
def askN (s : Sheet) (z : Str) : Bool := match s.wires.find? (fun w => decide (w.1 = z)) with
 | some w => decide (w.2.1 = Str.ofString "ask")
 | none => false
def crowd (s : Sheet) (ms : List Int) (k : Int) : Bool := (s.spots.zip ms).any fun p => (decide (p.2 = 1) && p.1.1.contains k) && !p.1.2.1.contains k
def valD (s : Sheet) (vs : List Int) (z : Str) : PyData := match (s.wires.zip vs).find? (fun p => decide (p.1.1 = z)) with
 | some p => .int p.2
 | none => .none
def turnAt (s : Sheet) (k : Int) : Turn := s.turns.getD k.toNat ("", 0)
def choiceD (j k : Int) : PyData := .tuple [.str (Str.ofString "choice"), .int j, .int k]
def twiceD (j k : Int) : PyData := .tuple [.str (Str.ofString "twice"), .int j, .int k]
def crowdD (k : Int) : PyData := .tuple [.str (Str.ofString "crowd"), .int k]
def wayD (k : Int) : PyData := .tuple [.str (Str.ofString "way"), .int k]
def endD : PyData := .tuple [.str (Str.ofString "end")]
def pairF (s : Sheet) (j k : Int) : List PyData :=
 (if taken s j k && !(askN s (turnAt s j).1 && askN s (turnAt s k).1) then [choiceD j k] else []) ++ (if (turnAt s j).1 = (turnAt s k).1 then [twiceD j k] else [])
def oneF (s : Sheet) (ms vs : List Int) (k : Int) : List PyData :=
 (if crowd s ms k then [crowdD k] else []) ++ (if PyData.eqv (valD s vs (turnAt s k).1) (.int (turnAt s k).2) then [wayD k] else [])
def pairsF (s : Sheet) : List Int → List PyData
 | [] => []
 | j :: r => r.flatMap (pairF s j) ++ pairsF s r
def endF (l : List Int) : List PyData := if l = [] then [endD] else []
def progF (s : Sheet) (ms vs : List Int) : List PyData := pairsF s (mays s ms) ++ (mays s ms).flatMap (oneF s ms vs) ++ endF (mays s ms)
def Nums (s : Sheet) (l : List Int) : Prop := ∀ k ∈ l, 0 ≤ k ∧ k < s.turns.length
theorem mays_nums (s : Sheet) (ms : List Int) : Nums s (mays s ms) := fun k hk => by
 obtain ⟨i, hi, rfl⟩ := List.mem_map.mp (List.mem_filter.mp hk).1
 have := List.mem_range.mp hi
 omega
theorem mem_mays {s : Sheet} {ms : List Int} {k : Int} : k ∈ mays s ms ↔ (0 ≤ k ∧ k < s.turns.length) ∧ bars s ms k = false := by
 unfold mays
 rw [List.mem_filter]
 constructor
 ·rintro ⟨h1, h2⟩
  obtain ⟨i, hi, rfl⟩ := List.mem_map.mp h1
  have := List.mem_range.mp hi
  exact ⟨by omega, by simpa using h2⟩
 ·rintro ⟨⟨h0, h1⟩, h2⟩
  exact ⟨List.mem_map.mpr ⟨k.toNat, List.mem_range.mpr (by omega), by omega⟩, by rw [h2]; rfl⟩
theorem mays_rise (s : Sheet) (ms : List Int) : (mays s ms).Pairwise (· < ·) := by
 refine List.Pairwise.filter _ ?_
 rw [List.pairwise_map]
 exact List.pairwise_lt_range.imp fun h => by omega
theorem turn_at {s : Sheet} {k : Int} (h0 : 0 ≤ k) (h1 : k < s.turns.length) : atI (s.turns.map turnD) k = some (turnD (turnAt s k)) ∧ turnAt s k ∈ s.turns := by
 obtain ⟨t, e1, e2⟩ := at_map (f := turnD) h0 h1
 have : turnAt s k = t := by unfold turnAt; rw [List.getD_eq_getElem?_getD, e2]; rfl
 rw [this]
 exact ⟨e1, List.mem_of_getElem? e2⟩
abbrev Stand := List Int × List Int
def stD (x : Stand) : PyData := standD x.1 x.2
def firstS (s : Sheet) : Stand := (s.spots.map (·.2.2), s.wires.map (·.2.2))
def nextS (s : Sheet) (x : Stand) (k : Int) : Stand := (bmarks s x.1 k, bvals s (turnAt s k) x.2)
def clean (s : Sheet) (x : Stand) : Prop := progF s x.1 x.2 = []
inductive Reach (s : Sheet) : Stand → Prop
 | first : Reach s (firstS s)
 | next {x : Stand} {k : Int} : Reach s x → clean s x → k ∈ mays s x.1 → Reach s (nextS s x k)
def Sound (s : Sheet) : Prop := ∀ x, Reach s x → clean s x
structure StOk (s : Sheet) (x : Stand) : Prop where
 m : x.1.length = s.spots.length
 v : x.2.length = s.wires.length
 mb : ∀ m ∈ x.1, Bit m
 vb : ∀ v ∈ x.2, Bit v
theorem bit0 : Bit 0 := ⟨by decide, by decide⟩
theorem bit1 : Bit 1 := ⟨by decide, by decide⟩
theorem StOk.first {s : Sheet} (h : SheetOk s) : StOk s (firstS s) := by
 refine ⟨by simp [firstS], by simp [firstS], fun m hm => ?_, fun v hv => ?_⟩
 ·obtain ⟨x, hx, rfl⟩ := List.mem_map.mp hm; exact (h.sok x hx).2.2
 ·obtain ⟨x, hx, rfl⟩ := List.mem_map.mp hv; exact (h.wtx x hx).2.2
theorem mem_zipWith {α β γ : Type} {f : α → β → γ} : ∀ {l : List α} {m : List β} {z : γ}, z ∈ List.zipWith f l m → ∃ a b, a ∈ l ∧ b ∈ m ∧ z = f a b
 | [], _, _, h => by simp at h
 | _ :: _, [], _, h => by simp at h
 | a :: l, b :: m, z, h => by
  rw [List.zipWith_cons_cons] at h
  rcases List.mem_cons.mp h with rfl | h
  ·exact ⟨a, b, List.mem_cons_self, List.mem_cons_self, rfl⟩
  ·obtain ⟨x, y, hx, hy, e⟩ := mem_zipWith h
   exact ⟨x, y, List.mem_cons_of_mem _ hx, List.mem_cons_of_mem _ hy, e⟩
theorem StOk.next {s : Sheet} (h : SheetOk s) {x : Stand} (hx : StOk s x) {k : Int} (h0 : 0 ≤ k) (h1 : k < s.turns.length) : StOk s (nextS s x k) := by
 have := hx.m
 have := hx.v
 refine ⟨by simp [nextS, bmarks]; omega, by simp [nextS, bvals]; omega, fun m hm => ?_, fun v hv => ?_⟩
 ·obtain ⟨a, b, _, hb, rfl⟩ := mem_zipWith hm
  unfold bmark
  split
  ·exact bit1
  ·split
   ·exact bit0
   ·exact hx.mb b hb
 ·obtain ⟨a, b, _, hb, rfl⟩ := mem_zipWith hv
  unfold bval
  split
  ·exact (h.ttx _ (turn_at h0 h1).2).2
  ·exact hx.vb b hb
theorem Reach.ok {s : Sheet} (h : SheetOk s) {x : Stand} (r : Reach s x) : StOk s x := by
 induction r with
 | first => exact StOk.first h
 | next _ _ hk ih => exact ih.next h (mays_nums s _ _ hk).1 (mays_nums s _ _ hk).2
inductive Path (s : Sheet) : List Int → Stand → Prop
 | nil : Path s [] (firstS s)
 | snoc {r : List Int} {x : Stand} {k : Int} : Path s r x → clean s x → k ∈ mays s x.1 → Path s (r ++ [k]) (nextS s x k)
theorem Path.reach {s : Sheet} {r : List Int} {x : Stand} (h : Path s r x) : Reach s x := by
 induction h with
 | nil => exact .first
 | snoc _ c k ih => exact .next ih c k
def Few (s : Sheet) (n : Nat) : Prop := ∃ l : List Stand, l.length ≤ n ∧ ∀ x, Reach s x → x ∈ l
theorem nodup_le {α : Type} [DecidableEq α] : ∀ {l m : List α}, l.Nodup → (∀ x ∈ l, x ∈ m) → l.length ≤ m.length
 | [], _, _, _ => by simp
 | a :: l, m, nd, h => by
  rw [List.nodup_cons] at nd
  have ha : a ∈ m := h a List.mem_cons_self
  have := nodup_le (l := l) (m := m.erase a) nd.2 fun x hx => by
   have hne : x ≠ a := fun e => nd.1 (e ▸ hx)
   exact (List.mem_erase_of_ne hne).mpr (h x (List.mem_cons_of_mem _ hx))
  rw [List.length_erase_of_mem ha] at this
  have : 0 < m.length := List.length_pos_of_mem ha
  rw [List.length_cons]
  omega
end Th
set_option linter.all false
set_option autoImplicit false
namespace Th
open PySem PySem.Spec
open Classical in
theorem Few.mono {s : Sheet} {m n : Nat} (h : Few s m) (hn : m ≤ n) : Few s n := let ⟨l, h1, h2⟩ := h; ⟨l, Nat.le_trans h1 hn, h2⟩
end Th
set_option linter.all false
set_option autoImplicit false
namespace Th
open PySem PySem.Spec
end Th
set_option linter.all false
set_option autoImplicit false
namespace Th
open PySem PySem.Spec
def hotM (n i L : Nat) : List Int := (List.range L).map fun m => if m < n then (if m = i then 1 else 0) else 1
theorem hotM_at {n i L m : Nat} (h : m < L) : (hotM n i L)[m]? = some (if m < n then (if m = i then 1 else 0) else 1) := by
 unfold hotM
 rw [List.getElem?_map, List.getElem?_range h]
 rfl
theorem hotM_len (n i L : Nat) : (hotM n i L).length = L := by simp [hotM]
structure Mach (s : Sheet) (n i0 : Nat) (A B : Nat → Nat) : Prop where
 ln : n ≤ s.spots.length
 a : ∀ k, k < s.turns.length → A k < n
 b : ∀ k, k < s.turns.length → B k < n
 beh : ∀ (m : Nat) (x : Spot), s.spots[m]? = some x → ∀ k, k < s.turns.length → x.2.1.contains (k : Int) = (if m < n then decide (A k = m) else x.1.contains (k : Int))
 bef : ∀ (m : Nat) (x : Spot), s.spots[m]? = some x → m < n → ∀ k, k < s.turns.length → x.1.contains (k : Int) = decide (B k = m)
 st : s.spots.map (·.2.2) = hotM n i0 s.spots.length
 si : i0 < n
theorem mays_iff {s : Sheet} {ms : List Int} {k : Int} : k ∈ mays s ms ↔ ∃ a : Nat, k = a ∧ a < s.turns.length ∧ bars s ms a = false := by
 unfold mays
 rw [List.mem_filter, List.mem_map]
 constructor
 ·rintro ⟨⟨a, ha, rfl⟩, h⟩
  exact ⟨a, rfl, List.mem_range.mp ha, by simpa using h⟩
 ·rintro ⟨a, rfl, ha, h⟩
  exact ⟨⟨a, List.mem_range.mpr ha, rfl⟩, by simp [h]⟩
section
variable {s : Sheet} {n i0 : Nat} {A B : Nat → Nat}
theorem Mach.may (M : Mach s n i0 A B) {i k : Nat} (hk : k < s.turns.length) (h : bars s (hotM n i s.spots.length) k = false) : A k = i := by
 have ha := M.a k hk
 have hl : A k < s.spots.length := Nat.lt_of_lt_of_le ha M.ln
 have hx := List.getElem?_eq_getElem hl
 have hb := M.beh (A k) _ hx k hk
 rw [if_pos ha, decide_eq_true rfl] at hb
 by_cases e : A k = i
 ·exact e
 ·exfalso
  unfold bars at h
  rw [List.any_eq_false] at h
  refine h (s.spots[A k], 0) ?_ (by simp only [hb]; decide)
  refine List.mem_iff_getElem?.mpr ⟨A k, ?_⟩
  rw [List.getElem?_zip_eq_some]
  exact ⟨hx, by rw [hotM_at hl, if_pos ha, if_neg e]⟩
theorem Mach.step (M : Mach s n i0 A B) {i k : Nat} (hk : k < s.turns.length) (e : A k = i) : bmarks s (hotM n i s.spots.length) k = hotM n (B k) s.spots.length := by
 apply List.ext_getElem?
 intro m
 unfold bmarks
 rw [List.getElem?_zipWith]
 cases hx : s.spots[m]? with
 | none =>
  have := List.getElem?_eq_none_iff.mp hx
  rw [List.getElem?_eq_none (l := hotM n i s.spots.length) (by rw [hotM_len]; exact this), List.getElem?_eq_none (l := hotM n (B k) s.spots.length) (by rw [hotM_len]; exact this)]
 | some x =>
  have hm := (List.getElem?_eq_some_iff.mp hx).1
  rw [hotM_at hm, hotM_at hm]
  refine congrArg some ?_
  unfold bmark
  have hb := M.beh m x hx k hk
  by_cases hn : m < n
  ·rw [M.bef m x hx hn k hk, hb]
   simp only [if_pos hn]
   by_cases h1 : B k = m
   ·simp [h1]
   ·have h1' : ¬ m = B k := fun z => h1 z.symm
    by_cases h2 : A k = m
    ·simp [h1, h1', h2]
    ·have h2' : ¬ m = i := fun z => h2 (e.trans z.symm)
     simp [h1, h1', h2, h2']
  ·simp only [if_neg hn] at hb ⊢
   rw [hb]
   by_cases h1 : x.1.contains (k : Int) = true
   ·simp [h1]
   ·simp [h1]
theorem Mach.reach (M : Mach s n i0 A B) {x : Stand} (r : Reach s x) : ∃ i, i < n ∧ x.1 = hotM n i s.spots.length := by
 induction r with
 | first => exact ⟨i0, M.si, M.st⟩
 | next _ _ hk ih =>
  obtain ⟨i, hi, e⟩ := ih
  obtain ⟨a, rfl, ha, hb⟩ := mays_iff.mp hk
  rw [e] at hb
  refine ⟨B a, M.b a ha, ?_⟩
  show bmarks s _ (a : Int) = _
  rw [e]
  exact M.step ha (M.may ha hb)
end
structure MachV (s : Sheet) (n i0 : Nat) (A B : Nat → Nat) (V : Nat → List Int) : Prop extends Mach s n i0 A B where
 v0 : s.wires.map (·.2.2) = V i0
 vn : ∀ k, k < s.turns.length → bvals s (turnAt s k) (V (A k)) = V (B k)
section
variable {s : Sheet} {n i0 : Nat} {A B : Nat → Nat} {V : Nat → List Int}
theorem MachV.reach (M : MachV s n i0 A B V) {x : Stand} (r : Reach s x) : ∃ i, i < n ∧ x = (hotM n i s.spots.length, V i) := by
 induction r with
 | first => exact ⟨i0, M.si, Prod.ext M.st M.v0⟩
 | next _ _ hk ih =>
  obtain ⟨i, hi, rfl⟩ := ih
  obtain ⟨a, rfl, ha, hb⟩ := mays_iff.mp hk
  have e := M.toMach.may ha hb
  refine ⟨B a, M.b a ha, Prod.ext (M.toMach.step ha e) ?_⟩
  show bvals s (turnAt s a) (V i) = V (B a)
  rw [← e]
  exact M.vn a ha
theorem MachV.few (M : MachV s n i0 A B V) : Few s n :=
 ⟨(List.range n).map fun i => (hotM n i s.spots.length, V i), by simp, fun x hx => by
  obtain ⟨i, hi, e⟩ := M.reach hx
  exact List.mem_map.mpr ⟨i, List.mem_range.mpr hi, e.symm⟩⟩
end
section
variable {s : Sheet} {n i0 : Nat} {A B : Nat → Nat} {V : Nat → List Int}
end
end Th
set_option linter.all false
set_option maxRecDepth 100000
namespace Th
abbrev Spot1 := Nat × Nat × Int
def NN (sp : List Spot1) (c : Nat → Int) : Prop := ∀ x ∈ sp, 0 ≤ x.2.2 + c x.1 - c x.2.1
def bump (c : Nat → Int) (k : Nat) : Nat → Int := fun a => if a = k then c a + 1 else c a
structure Word {α : Type} (T : Nat) (sp : List Spot1) (ρ : Nat → Nat) (nm : Nat → α) : Prop where
 lt : ∀ x ∈ sp, x.1 < T ∧ x.2.1 < T
 mrk : ∀ x ∈ sp, x.2.2 = if ρ x.1 < ρ x.2.1 then 0 else 1
 safe : ∀ c, NN sp c → ∀ x ∈ sp, x.2.2 + c x.1 - c x.2.1 ≤ 1
 ord : ∀ c, NN sp c → ∀ a b, a < T → b < T → nm a = nm b → ρ a < ρ b → c b ≤ c a ∧ c a ≤ c b + 1
 inj : ∀ a b, a < T → b < T → ρ a = ρ b → a = b
def Enab (sp : List Spot1) (c : Nat → Int) (k : Nat) : Prop := ∀ x ∈ sp, x.2.1 = k → x.2.2 + c x.1 - c x.2.1 ≠ 0
theorem nn_bump {sp : List Spot1} {c : Nat → Int} {k : Nat} (h : NN sp c) (he : Enab sp c k) : NN sp (bump c k) := fun x hx => by
 have h1 := h x hx
 have h2 := he x hx
 unfold bump
 by_cases e1 : x.1 = k <;> by_cases e2 : x.2.1 = k
 ·rw [if_pos e1, if_pos e2]; omega
 ·rw [if_pos e1, if_neg e2]; omega
 ·rw [if_neg e1, if_pos e2]; have := h2 e2; omega
 ·rw [if_neg e1, if_neg e2]; omega
section
variable {α : Type} {T : Nat} {sp : List Spot1} {ρ : Nat → Nat} {nm : Nat → α} (W : Word T sp ρ nm)
include W
theorem Word.mark {c : Nat → Int} {k : Nat} (h : NN sp c) (he : Enab sp c k) {x : Spot1} (hx : x ∈ sp) :
  (if x.1 = k then (1 : Int) else if x.2.1 = k then 0 else x.2.2 + c x.1 - c x.2.1) = x.2.2 + bump c k x.1 - bump c k x.2.1 := by
 have h1 := h x hx
 have h2 := he x hx
 have h3 := W.safe c h x hx
 have h4 := nn_bump h he x hx
 have h5 := W.safe _ (nn_bump h he) x hx
 unfold bump at h4 h5 ⊢
 by_cases e1 : x.1 = k <;> by_cases e2 : x.2.1 = k
 ·rw [if_pos e1, if_pos e2] at h4 h5 ⊢; have := h2 e2; simp [e1] at *; omega
 ·rw [if_pos e1, if_neg e2] at h4 h5 ⊢; rw [if_pos e1]; omega
 ·rw [if_neg e1, if_pos e2] at h4 h5 ⊢; have := h2 e2; rw [if_neg e1, if_pos e2]; omega
 ·rw [if_neg e1, if_neg e2] at h4 h5 ⊢; rw [if_neg e1, if_neg e2]
theorem Word.live (c : Nat → Int) (hT : 0 < T) : ∃ k, k < T ∧ Enab sp c k := by
 have key : ∀ n, n ≤ T → 0 < n → ∃ k, k < n ∧ ∀ a, a < n → c k < c a ∨ (c k = c a ∧ ρ k ≤ ρ a) := by
  intro n
  induction n with
  | zero => intro _ h; omega
  | succ n ih =>
   intro h1 _
   by_cases hn : n = 0
   ·subst hn
    refine ⟨0, by omega, fun a ha => ?_⟩
    have e : a = 0 := by omega
    subst e
    right; omega
   ·obtain ⟨k, hk, hm⟩ := ih (by omega) (by omega)
    by_cases hb : c n < c k ∨ (c n = c k ∧ ρ n < ρ k)
    ·refine ⟨n, by omega, fun a ha => ?_⟩
     by_cases e : a = n
     ·subst e; right; omega
     ·have := hm a (by omega); omega
    ·refine ⟨k, by omega, fun a ha => ?_⟩
     by_cases e : a = n
     ·subst e; omega
     ·exact hm a (by omega)
 obtain ⟨k, hk, hm⟩ := key T (Nat.le_refl T) hT
 refine ⟨k, hk, fun x hx hxk => ?_⟩
 have h1 := W.mrk x hx
 obtain ⟨h2, h3⟩ := W.lt x hx
 have h4 := hm x.1 h2
 rw [hxk] at h1 ⊢
 by_cases hr : ρ x.1 < ρ k
 ·rw [if_pos hr] at h1; omega
 ·rw [if_neg hr] at h1; omega
theorem Word.once {c : Nat → Int} {a b : Nat} (h : NN sp c) (ha : a < T) (hb : b < T) (hab : a ≠ b) (hn : nm a = nm b) (ea : Enab sp c a) (eb : Enab sp c b) : False := by
 have key : ∀ a b, a < T → b < T → nm a = nm b → ρ a < ρ b → Enab sp c a → Enab sp c b → False := fun a b ha hb hn hr ea eb => by
  have hne : a ≠ b := fun e => by subst e; omega
  have h1 := W.ord c h a b ha hb hn hr
  have h2 := W.ord _ (nn_bump h ea) a b ha hb hn hr
  have h3 := W.ord _ (nn_bump h eb) a b ha hb hn hr
  unfold bump at h2 h3
  rw [if_pos rfl, if_neg (fun e => hne e.symm)] at h2
  rw [if_pos rfl, if_neg hne] at h3
  omega
 rcases Nat.lt_trichotomy (ρ a) (ρ b) with r | r | r
 ·exact key a b ha hb hn r ea eb
 ·exact hab (W.inj a b ha hb r)
 ·exact key b a hb ha hn.symm r eb ea
end
section
variable {α : Type} [DecidableEq α]
def owns (T : Nat) (nm : Nat → α) (z : α) : List Nat := (List.range T).filter fun k => decide (nm k = z)
def many (T : Nat) (nm : Nat → α) (z : α) (c : Nat → Int) : Int := ((owns T nm z).map c).sum
theorem mem_owns {T : Nat} {nm : Nat → α} {z : α} {k : Nat} : k ∈ owns T nm z ↔ k < T ∧ nm k = z := by simp [owns]
theorem owns_nodup (T : Nat) (nm : Nat → α) (z : α) : (owns T nm z).Nodup := List.nodup_range.filter _
theorem sum_less (l : List Nat) (ρ : Nat → Nat) (r : Nat) (q : Int) (c : Nat → Int) (h : ∀ a ∈ l, c a = if r < ρ a then q - 1 else q) : (l.map c).sum = l.length * q - (l.countP fun a => decide (r < ρ a)) := by
 induction l with
 | nil => simp
 | cons a l ih =>
  have h1 := h a List.mem_cons_self
  have h2 := ih fun b hb => h b (List.mem_cons_of_mem _ hb)
  rw [List.map_cons, List.sum_cons, h2, h1, List.countP_cons, List.length_cons]
  by_cases hr : r < ρ a
  ·simp [hr, Int.add_mul]; omega
  ·simp [hr, Int.add_mul]; omega
theorem split_count (l : List Nat) (ρ : Nat → Nat) (k : Nat) (hnd : l.Nodup) (hk : k ∈ l) (inj : ∀ a ∈ l, ρ a = ρ k → a = k) :
  l.length = (l.countP fun a => decide (ρ a < ρ k)) + 1 + l.countP fun a => decide (ρ k < ρ a) := by
 induction l with
 | nil => simp at hk
 | cons a l ih =>
  rw [List.nodup_cons] at hnd
  rw [List.length_cons, List.countP_cons, List.countP_cons]
  by_cases e : a = k
  ·subst e
   have : ∀ m : List Nat, (∀ b ∈ m, ρ b ≠ ρ a) → m.length = (m.countP fun b => decide (ρ b < ρ a)) + m.countP fun b => decide (ρ a < ρ b) := by
    intro m
    induction m with
    | nil => intro _; rfl
    | cons b m im =>
     intro hm
     have h1 := im fun x hx => hm x (List.mem_cons_of_mem _ hx)
     have h2 := hm b List.mem_cons_self
     rw [List.length_cons, List.countP_cons, List.countP_cons, h1]
     by_cases hb : ρ b < ρ a
     ·have : ¬ ρ a < ρ b := by omega
      simp [hb, this]; omega
     ·have : ρ a < ρ b := by omega
      simp [hb, this]; omega
   have := this l fun b hb e2 => hnd.1 (inj b (List.mem_cons_of_mem _ hb) e2 ▸ hb)
   simp only [Nat.lt_irrefl, decide_false, Bool.false_eq_true, if_false]
   omega
  ·have hk' : k ∈ l := by
    rcases List.mem_cons.mp hk with z | z
    ·exact absurd z.symm e
    ·exact z
   have h1 := ih hnd.2 hk' fun b hb => inj b (List.mem_cons_of_mem _ hb)
   have h2 : ρ a ≠ ρ k := fun z => e (inj a List.mem_cons_self z)
   by_cases hb : ρ a < ρ k
   ·have : ¬ ρ k < ρ a := by omega
    simp [hb, this]; omega
   ·have : ρ k < ρ a := by omega
    simp [hb, this]; omega
theorem many_other {T : Nat} {nm : Nat → α} {z : α} {c : Nat → Int} {k : Nat} (h : nm k ≠ z) : many T nm z (bump c k) = many T nm z c := by
 unfold many
 congr 1
 refine List.map_congr_left fun a ha => ?_
 have := (mem_owns.mp ha).2
 unfold bump
 rw [if_neg (fun (e : a = k) => h (e ▸ this))]
theorem Word.parity {T : Nat} {sp : List Spot1} {ρ : Nat → Nat} {nm : Nat → α} (W : Word T sp ρ nm) {c : Nat → Int} {k : Nat} (hk : k < T) (h : NN sp c) (he : Enab sp c k)
  (hev : (owns T nm (nm k)).length % 2 = 0) : many T nm (nm k) (bump c k) % 2 = (((owns T nm (nm k)).countP fun a => decide (ρ a < ρ k) : Nat) + 1 : Int) % 2 := by
 have hs := split_count (owns T nm (nm k)) ρ k (owns_nodup _ _ _) (mem_owns.mpr ⟨hk, rfl⟩) fun a ha e => W.inj a k (mem_owns.mp ha).1 hk e
 have hb := nn_bump h he
 have hsum := sum_less (owns T nm (nm k)) ρ (ρ k) (c k + 1) (bump c k) fun a ha => by
  obtain ⟨h1, h2⟩ := mem_owns.mp ha
  by_cases e : a = k
  ·subst e; unfold bump; simp
  ·rcases Nat.lt_trichotomy (ρ a) (ρ k) with r | r | r
   ·have h3 := W.ord c h a k h1 hk h2 r
    have h4 := W.ord _ hb a k h1 hk h2 r
    unfold bump at h4 ⊢
    rw [if_neg e, if_pos rfl] at h4
    rw [if_neg e, if_neg (by omega)]
    omega
   ·exact absurd (W.inj a k h1 hk r) e
   ·have h3 := W.ord c h k a hk h1 h2.symm r
    have h4 := W.ord _ hb k a hk h1 h2.symm r
    unfold bump at h4 ⊢
    rw [if_neg e, if_pos rfl] at h4
    rw [if_neg e, if_pos r]
    omega
 unfold many
 rw [hsum]
 obtain ⟨n2, hn2⟩ : ∃ n2, (owns T nm (nm k)).length = 2 * n2 := ⟨(owns T nm (nm k)).length / 2, by omega⟩
 have e3 : ((owns T nm (nm k)).length : Int) * (c k + 1) = 2 * ((n2 : Int) * (c k + 1)) := by rw [hn2, Int.natCast_mul, Int.mul_assoc]; rfl
 rw [e3]
 generalize ((n2 : Int) * (c k + 1)) = y
 omega
end
def ringOf (own : List Nat) : List Spot1 := (List.range own.length).map fun at' => (own.getD (if at' = 0 then own.length - 1 else at' - 1) 0, own.getD at' 0, if at' = 0 then 1 else 0)
theorem mem_ring {own : List Nat} {x : Spot1} : x ∈ ringOf own ↔ ∃ i, i < own.length ∧ x = (own.getD (if i = 0 then own.length - 1 else i - 1) 0, own.getD i 0, if i = 0 then 1 else 0) := by
 unfold ringOf
 rw [List.mem_map]
 constructor
 ·rintro ⟨i, hi, rfl⟩; exact ⟨i, List.mem_range.mp hi, rfl⟩
 ·rintro ⟨i, hi, rfl⟩; exact ⟨i, List.mem_range.mpr hi, rfl⟩
theorem ring_down {own : List Nat} {c : Nat → Int} (h : NN (ringOf own) c) : ∀ d i, i + d < own.length → c (own.getD (i + d) 0) ≤ c (own.getD i 0)
 | 0, i, _ => Int.le_refl _
 | d + 1, i, hl => by
  have h1 := ring_down h d i (by omega)
  have h2 := h _ (mem_ring.mpr ⟨i + d + 1, by omega, rfl⟩)
  simp only [Nat.add_one_ne_zero, if_false, Nat.add_sub_cancel] at h2
  rw [← Nat.add_assoc]
  omega
theorem ring_near {own : List Nat} {c : Nat → Int} (h : NN (ringOf own) c) {i j : Nat} (hij : i ≤ j) (hj : j < own.length) : c (own.getD j 0) ≤ c (own.getD i 0) ∧ c (own.getD i 0) ≤ c (own.getD j 0) + 1 := by
 have h1 := ring_down h (j - i) i (by omega)
 have h2 := ring_down h i 0 (by omega)
 have h3 := ring_down h (own.length - 1 - j) j (by omega)
 have h4 := h _ (mem_ring.mpr ⟨0, by omega, rfl⟩)
 simp only [if_true] at h4
 rw [show i + (j - i) = j by omega] at h1
 rw [show j + (own.length - 1 - j) = own.length - 1 by omega] at h3
 rw [Nat.zero_add] at h2
 omega
theorem getD_lt {own : List Nat} (hp : own.Pairwise (· < ·)) {i j : Nat} (hij : i < j) (hj : j < own.length) : own.getD i 0 < own.getD j 0 := by
 have := (List.pairwise_iff_getElem.mp hp) i j (by omega) hj hij
 rw [List.getD_eq_getElem?_getD, List.getD_eq_getElem?_getD, List.getElem?_eq_getElem (by omega), List.getElem?_eq_getElem hj]
 exact this
theorem ring_mark {own : List Nat} (hp : own.Pairwise (· < ·)) {x : Spot1} (hx : x ∈ ringOf own) : x.2.2 = if x.1 < x.2.1 then 0 else 1 := by
 obtain ⟨i, hi, rfl⟩ := mem_ring.mp hx
 by_cases e : i = 0
 ·subst e
  simp only [if_true]
  by_cases hl : own.length - 1 = 0
  ·rw [hl]; simp
  ·have := getD_lt hp (show 0 < own.length - 1 by omega) (by omega)
   rw [if_neg (by omega)]
 ·have := getD_lt hp (show i - 1 < i by omega) hi
  simp only [e, if_false]
  rw [if_pos this]
theorem ring_mem {own : List Nat} {x : Spot1} (hx : x ∈ ringOf own) : x.1 ∈ own ∧ x.2.1 ∈ own := by
 obtain ⟨i, hi, rfl⟩ := mem_ring.mp hx
 have key : ∀ j, j < own.length → own.getD j 0 ∈ own := fun j hj => by
  rw [List.getD_eq_getElem?_getD, List.getElem?_eq_getElem hj]
  exact List.getElem_mem hj
 refine ⟨key _ ?_, key _ hi⟩
 split <;> omega
theorem ring_safe {own : List Nat} {c : Nat → Int} (h : NN (ringOf own) c) {x : Spot1} (hx : x ∈ ringOf own) : x.2.2 + c x.1 - c x.2.1 ≤ 1 := by
 obtain ⟨i, hi, rfl⟩ := mem_ring.mp hx
 by_cases e : i = 0
 ·subst e
  have := ring_near h (show 0 ≤ own.length - 1 by omega) (by omega)
  simp only [if_true]
  omega
 ·have := ring_near h (show i - 1 ≤ i by omega) hi
  simp only [e, if_false]
  omega
theorem word_of {α : Type} {T : Nat} {sp : List Spot1} {nm : Nat → α} (hl : ∀ x ∈ sp, x.1 < T ∧ x.2.1 < T) (hm : ∀ x ∈ sp, x.2.2 = if x.1 < x.2.1 then 0 else 1)
  (cyc : ∀ x ∈ sp, (∃ y ∈ sp, y.1 = x.2.1 ∧ y.2.1 = x.1 ∧ x.2.2 + y.2.2 = 1) ∨ ∃ own, (∀ y ∈ ringOf own, y ∈ sp) ∧ x ∈ ringOf own)
  (rg : ∀ a b, a < T → b < T → nm a = nm b → a < b → ∃ own : List Nat, own.Pairwise (· < ·) ∧ (∀ y ∈ ringOf own, y ∈ sp) ∧ a ∈ own ∧ b ∈ own) : Word T sp id nm where
 lt := hl
 mrk := hm
 safe := fun c h x hx => by
  rcases cyc x hx with ⟨y, hy, e1, e2, e3⟩ | ⟨own, ho, hxo⟩
  ·have h1 := h y hy
   rw [e1, e2] at h1
   omega
  ·exact ring_safe (fun y hy => h y (ho y hy)) hxo
 ord := fun c h a b ha hb hn hab => by
  obtain ⟨own, hp, ho, hao, hbo⟩ := rg a b ha hb hn hab
  obtain ⟨i, hi, ei⟩ := List.getElem_of_mem hao
  obtain ⟨j, hj, ej⟩ := List.getElem_of_mem hbo
  have di : own.getD i 0 = a := by rw [List.getD_eq_getElem?_getD, List.getElem?_eq_getElem hi]; exact ei
  have dj : own.getD j 0 = b := by rw [List.getD_eq_getElem?_getD, List.getElem?_eq_getElem hj]; exact ej
  have hab : a < b := hab
  have hij : i ≤ j := by
   rcases Nat.lt_or_ge j i with z | z
   ·have := getD_lt hp z hi; omega
   ·exact z
  have := ring_near (fun y hy => h y (ho y hy)) hij hj
  rw [di, dj] at this
  exact this
 inj := fun a b _ _ e => e
end Th
set_option linter.all false
set_option maxRecDepth 100000
namespace Th
open PySem PySem.Spec L2 Dv
def nmOf (ts : List Turn) (k : Nat) : Str := (ts.getD k (Str.ofString "", 0)).1
theorem getD_at {α : Type} {l : List α} {i : Nat} {d x : α} (h : l[i]? = some x) : l.getD i d = x := by rw [List.getD_eq_getElem?_getD, h]; rfl
def enc1 (x : Spot1) : Spot := ([(x.1 : Int)], [(x.2.1 : Int)], x.2.2)
def wsheet (ws : List Wire) (ts : List Turn) (sp : List Spot1) : Sheet := ⟨ws, ts, sp.map enc1⟩
structure WSh (ws : List Wire) (ts : List Turn) (sp : List Spot1) (ρ : Nat → Nat) : Prop where
 nd : (ws.map (·.1)).Nodup
 bit : ∀ w ∈ ws, Bit w.2.2
 way : ∀ (k : Nat) (y : Int), ∀ w ∈ ws, ts[k]? = some (w.1, y) → y = (w.2.2 + (((owns ts.length (nmOf ts) w.1).countP fun a => decide (ρ a < ρ k) : Nat) : Int) + 1) % 2
 ev : ∀ w ∈ ws, (owns ts.length (nmOf ts) w.1).length % 2 = 0
 mem : ∀ t ∈ ts, t.1 ∈ ws.map (·.1)
 tl : 1 ≤ ts.length
 W : Word ts.length sp ρ (nmOf ts)
def marksOf (sp : List Spot1) (c : Nat → Int) : List Int := sp.map fun x => x.2.2 + c x.1 - c x.2.1
def valsOf (ws : List Wire) (ts : List Turn) (c : Nat → Int) : List Int := ws.map fun w => (w.2.2 + many ts.length (nmOf ts) w.1 c) % 2
def stOf (ws : List Wire) (ts : List Turn) (sp : List Spot1) (c : Nat → Int) : Stand := (marksOf sp c, valsOf ws ts c)
section
variable {ws : List Wire} {ts : List Turn} {sp : List Spot1} {ρ : Nat → Nat}
theorem many_const (T : Nat) (nm : Nat → Str) (z : Str) (q : Int) : many T nm z (fun _ => q) = (owns T nm z).length * q := by
 unfold many
 generalize owns T nm z = l
 induction l with
 | nil => simp
 | cons a l ih => rw [List.map_cons, List.sum_cons, ih, List.length_cons, Int.natCast_add, Int.add_mul]; simp; omega
theorem first_is (h : WSh ws ts sp ρ) : firstS (wsheet ws ts sp) = stOf ws ts sp fun _ => 0 := by
 unfold firstS stOf marksOf valsOf wsheet
 refine Prod.ext ?_ ?_
 ·show (sp.map enc1).map (·.2.2) = sp.map _
  rw [List.map_map]
  refine List.map_congr_left fun x _ => ?_
  simp [enc1]
 ·show ws.map (·.2.2) = ws.map _
  refine List.map_congr_left fun w hw => ?_
  have := h.bit w hw
  unfold Bit at this
  rw [many_const]
  omega
theorem bars_is {c : Nat → Int} {k : Nat} : bars (wsheet ws ts sp) (marksOf sp c) (k : Int) = false ↔ Enab sp c k := by
 have e : (wsheet ws ts sp).spots.zip (marksOf sp c) = sp.map fun x => (enc1 x, x.2.2 + c x.1 - c x.2.1) := by
  show (sp.map enc1).zip (sp.map _) = _
  generalize hg : (fun x : Spot1 => x.2.2 + c x.1 - c x.2.1) = g
  have : ∀ l : List Spot1, (l.map enc1).zip (l.map g) = l.map fun x => (enc1 x, g x) := fun l => by
   induction l with
   | nil => rfl
   | cons a l ih => simp [ih]
  rw [this, ← hg]
 unfold bars Enab
 rw [e, List.any_map, List.any_eq_false]
 constructor
 ·intro h x hx hk
  have h1 := h x hx
  intro h0
  refine h1 ?_
  simp [enc1, hk]
  rw [hk] at h0
  exact h0
 ·intro h x hx
  have := h x hx
  simp [enc1]
  intro h0 hk
  exact this (by omega) (by omega)
theorem mays_is {c : Nat → Int} {k : Int} : k ∈ mays (wsheet ws ts sp) (marksOf sp c) ↔ ∃ a : Nat, k = a ∧ a < ts.length ∧ Enab sp c a := by
 unfold mays
 rw [List.mem_filter, List.mem_map]
 constructor
 ·rintro ⟨⟨a, ha, rfl⟩, hb⟩
  refine ⟨a, rfl, List.mem_range.mp ha, bars_is.mp (by simpa using hb)⟩
 ·rintro ⟨a, rfl, ha, he⟩
  exact ⟨⟨a, List.mem_range.mpr ha, rfl⟩, by rw [bars_is.mpr he]; rfl⟩
theorem marks_step (W : Word ts.length sp ρ (nmOf ts)) {c : Nat → Int} {k : Nat} (h : NN sp c) (he : Enab sp c k) : bmarks (wsheet ws ts sp) (marksOf sp c) (k : Int) = marksOf sp (bump c k) := by
 unfold bmarks marksOf
 show List.zipWith (bmark (k : Int)) (sp.map enc1) (sp.map _) = _
 rw [List.zipWith_map, List.zipWith_self]
 refine List.map_congr_left fun x hx => ?_
 rw [← W.mark h he hx]
 unfold bmark enc1
 by_cases e1 : x.1 = k
 ·simp [e1]
 ·have e1' : ¬ k = x.1 := fun e => e1 e.symm
  by_cases e2 : x.2.1 = k
  ·have e2' : (k : Int) = x.2.1 := by omega
   simp [e1, e2]
   intro h'; omega
  ·have e2' : ¬ k = x.2.1 := fun e => e2 e.symm
   simp [e1, e2]
   rw [if_neg (by omega), if_neg (by omega)]
theorem vals_step (h : WSh ws ts sp ρ) {c : Nat → Int} {k : Nat} {t : Str × Int} (hn : NN sp c) (he : Enab sp c k) (hk : ts[k]? = some t) : bvals (wsheet ws ts sp) t (valsOf ws ts c) = valsOf ws ts (bump c k) := by
 have hkl := (List.getElem?_eq_some_iff.mp hk).1
 have en : nmOf ts k = t.1 := by
  show (ts.getD k (Str.ofString "", 0)).1 = t.1
  rw [getD_at hk]
 unfold bvals valsOf
 show List.zipWith (bval t.1 t.2) ws (ws.map _) = _
 rw [List.zipWith_map_right, List.zipWith_self]
 refine List.map_congr_left fun w hw => ?_
 unfold bval
 rw [eqv_str]
 by_cases e : w.1 = t.1
 ·rw [if_pos (decide_eq_true e)]
  have hwy := h.way k t.2 w hw (by rw [e]; exact hk)
  have hp := h.W.parity hkl hn he (by rw [en, ← e]; exact h.ev w hw)
  rw [en, ← e] at hp
  omega
 ·rw [if_neg (by simpa using e), many_other (by rw [en]; exact fun z => e z.symm)]
theorem NN.zero (h : WSh ws ts sp ρ) : NN sp fun _ => 0 := fun x hx => by
 have := h.W.mrk x hx
 show 0 ≤ x.2.2 + 0 - 0
 rw [this]
 split <;> omega
theorem reach_word (h : WSh ws ts sp ρ) {x : Stand} (r : Reach (wsheet ws ts sp) x) : ∃ c, NN sp c ∧ x = stOf ws ts sp c := by
 induction r with
 | first => exact ⟨_, NN.zero h, first_is h⟩
 | @next x k _ _ hk ih =>
  obtain ⟨c, hn, rfl⟩ := ih
  obtain ⟨a, rfl, ha, he⟩ := mays_is.mp hk
  refine ⟨bump c a, nn_bump hn he, ?_⟩
  have et : ts[a]? = some (turnAt (wsheet ws ts sp) (a : Int)) := by
   unfold turnAt wsheet
   show ts[a]? = some (ts.getD ((a : Int)).toNat ("", 0))
   rw [List.getD_eq_getElem?_getD, show ((a : Int)).toNat = a by omega, List.getElem?_eq_getElem ha]
   rfl
  unfold nextS stOf
  exact Prod.ext (marks_step h.W hn he) (vals_step h hn he et)
theorem pairsF_nil {s : Sheet} : ∀ {l : List Int}, l.Pairwise (· < ·) → (∀ j ∈ l, ∀ k ∈ l, j < k → pairF s j k = []) → pairsF s l = []
 | [], _, _ => rfl
 | j :: r, hp, h => by
  rw [List.pairwise_cons] at hp
  rw [pairsF, pairsF_nil hp.2 fun a ha b hb hab => h a (List.mem_cons_of_mem _ ha) b (List.mem_cons_of_mem _ hb) hab, List.append_nil]
  rw [List.flatMap_eq_nil_iff]
  exact fun k hk => h j List.mem_cons_self k (List.mem_cons_of_mem _ hk) (hp.1 k hk)
theorem find_zip_map {f : Wire → Int} {z : Str} : ∀ {l : List Wire} {w : Wire}, (l.map (·.1)).Nodup → w ∈ l → w.1 = z → (l.zip (l.map f)).find? (fun p => decide (p.1.1 = z)) = some (w, f w)
 | [], _, _, h, _ => by simp at h
 | a :: l, w, nd, h, e => by
  simp only [List.map_cons, List.nodup_cons] at nd
  rw [List.map_cons, List.zip_cons_cons, List.find?_cons]
  by_cases c : a.1 = z
  ·have ea : w = a := by
    rcases List.mem_cons.mp h with h | h
    ·exact h
    ·exact absurd (List.mem_map.mpr ⟨w, h, e.trans c.symm⟩) nd.1
   subst ea
   rw [decide_eq_true c]
  ·rw [decide_eq_false c]
   have hw : w ∈ l := by
    rcases List.mem_cons.mp h with h | h
    ·exact absurd (h ▸ e) c
    ·exact h
   exact find_zip_map nd.2 hw e
theorem many_self {T : Nat} {α : Type} [DecidableEq α] {nm : Nat → α} {z : α} {c : Nat → Int} {k : Nat} (hk : k < T) (h : nm k = z) : many T nm z (bump c k) = many T nm z c + 1 := by
 unfold many
 have hm : k ∈ owns T nm z := mem_owns.mpr ⟨hk, h⟩
 have nd := owns_nodup T nm z
 generalize owns T nm z = l at hm nd
 induction l with
 | nil => simp at hm
 | cons a l ih =>
  rw [List.nodup_cons] at nd
  rw [List.map_cons, List.map_cons, List.sum_cons, List.sum_cons]
  rcases List.mem_cons.mp hm with e | hm'
  ·subst e
   have e2 : l.map (bump c k) = l.map c := List.map_congr_left fun b hb => by
    unfold bump
    rw [if_neg]
    intro e
    subst e
    exact nd.1 hb
   rw [e2]
   unfold bump
   rw [if_pos rfl]
   omega
  ·have hne : a ≠ k := fun e => nd.1 (e ▸ hm')
   rw [ih hm' nd.2]
   unfold bump
   rw [if_neg hne]
   omega
theorem nm_turnAt {a : Nat} : (turnAt (wsheet ws ts sp) (a : Int)).1 = nmOf ts a := by
 unfold turnAt nmOf wsheet
 rw [show ((a : Int)).toNat = a by omega]
theorem turnAt_at {a : Nat} (ha : a < ts.length) : ts[a]? = some (turnAt (wsheet ws ts sp) (a : Int)) := by
 unfold turnAt wsheet
 show ts[a]? = some (ts.getD ((a : Int)).toNat ("", 0))
 rw [List.getD_eq_getElem?_getD, show ((a : Int)).toNat = a by omega, List.getElem?_eq_getElem ha]
 rfl
theorem clean_word (h : WSh ws ts sp ρ) {c : Nat → Int} (hn : NN sp c) : clean (wsheet ws ts sp) (stOf ws ts sp c) := by
 have zip : (wsheet ws ts sp).spots.zip (marksOf sp c) = sp.map fun x => (enc1 x, x.2.2 + c x.1 - c x.2.1) := by
  show (sp.map enc1).zip (sp.map _) = _
  have : ∀ (g : Spot1 → Int) (l : List Spot1), (l.map enc1).zip (l.map g) = l.map fun x => (enc1 x, g x) := fun g l => by
   induction l with
   | nil => rfl
   | cons a l ih => simp [ih]
  exact this _ sp
 have pairs : pairsF (wsheet ws ts sp) (mays (wsheet ws ts sp) (marksOf sp c)) = [] := by
  refine pairsF_nil (mays_rise _ _) fun j hj k hk hjk => ?_
  obtain ⟨a, rfl, ha, ea⟩ := mays_is.mp hj
  obtain ⟨b, rfl, hb, eb⟩ := mays_is.mp hk
  have hab : a ≠ b := by omega
  have tk : taken (wsheet ws ts sp) (a : Int) (b : Int) = false := by
   unfold taken wsheet
   rw [List.any_eq_false]
   intro x hx
   obtain ⟨y, _, rfl⟩ := List.mem_map.mp hx
   simp [enc1]
   intro e1 e2
   omega
  have nn : ¬ (turnAt (wsheet ws ts sp) (a : Int)).1 = (turnAt (wsheet ws ts sp) (b : Int)).1 := by
   rw [nm_turnAt, nm_turnAt]
   exact fun e => h.W.once hn ha hb hab e ea eb
  unfold pairF
  rw [tk, if_neg nn]
  rfl
 have ones : (mays (wsheet ws ts sp) (marksOf sp c)).flatMap (oneF (wsheet ws ts sp) (marksOf sp c) (valsOf ws ts c)) = [] := by
  rw [List.flatMap_eq_nil_iff]
  intro k hk
  obtain ⟨a, rfl, ha, ea⟩ := mays_is.mp hk
  have cr : crowd (wsheet ws ts sp) (marksOf sp c) (a : Int) = false := by
   unfold crowd
   rw [zip, List.any_map, List.any_eq_false]
   intro x hx
   have sf := h.W.safe _ (nn_bump hn ea) x hx
   unfold bump at sf
   simp only [Function.comp, enc1, List.contains_cons, List.contains_nil, Bool.or_false, Bool.and_eq_true, decide_eq_true_eq, beq_iff_eq, Bool.not_eq_true', beq_eq_false_iff_ne, ne_eq]
   rintro ⟨⟨h1, h2⟩, h3⟩
   have e1 : x.1 = a := by omega
   have e2 : ¬ x.2.1 = a := by omega
   rw [if_pos e1, if_neg e2] at sf
   omega
  have et := turnAt_at (ws := ws) (sp := sp) ha
  have hm := h.mem _ (List.mem_of_getElem? et)
  obtain ⟨w, hw, ew⟩ := List.mem_map.mp hm
  have ev : valD (wsheet ws ts sp) (valsOf ws ts c) (turnAt (wsheet ws ts sp) (a : Int)).1 = .int ((w.2.2 + many ts.length (nmOf ts) w.1 c) % 2) := by
   unfold valD valsOf
   have := find_zip_map (f := fun w : Wire => (w.2.2 + many ts.length (nmOf ts) w.1 c) % 2) h.nd hw ew
   show (match (ws.zip (ws.map _)).find? _ with | some p => PyData.int p.2 | none => .none) = _
   rw [this]
  have en : nmOf ts a = w.1 := by rw [ew, nm_turnAt]
  have hwy := h.way a (turnAt (wsheet ws ts sp) (a : Int)).2 w hw (by rw [ew]; exact et)
  have hp := h.W.parity ha hn ea (by rw [en]; exact h.ev w hw)
  rw [en, many_self ha en] at hp
  have ne : PyData.eqv (valD (wsheet ws ts sp) (valsOf ws ts c) (turnAt (wsheet ws ts sp) (a : Int)).1) (.int (turnAt (wsheet ws ts sp) (a : Int)).2) = false := by
   rw [ev, eqv_int]
   exact decide_eq_false (by omega)
  unfold oneF
  rw [cr, ne]
  rfl
 have live : mays (wsheet ws ts sp) (marksOf sp c) ≠ [] := by
  obtain ⟨k, hk, he⟩ := h.W.live c h.tl
  have : (k : Int) ∈ mays (wsheet ws ts sp) (marksOf sp c) := mays_is.mpr ⟨k, rfl, hk, he⟩
  intro e
  rw [e] at this
  cases this
 unfold clean progF
 show pairsF _ (mays (wsheet ws ts sp) (marksOf sp c)) ++ (mays (wsheet ws ts sp) (marksOf sp c)).flatMap (oneF (wsheet ws ts sp) (marksOf sp c) (valsOf ws ts c)) ++ endF (mays (wsheet ws ts sp) (marksOf sp c)) = []
 rw [pairs, ones]
 unfold endF
 rw [if_neg live]
 rfl
theorem sound_word (h : WSh ws ts sp ρ) : Sound (wsheet ws ts sp) := fun x r => by
 obtain ⟨c, hn, rfl⟩ := reach_word h r
 exact clean_word h hn
end
end Th
set_option linter.all false
set_option autoImplicit false
namespace Th
open PySem PySem.Spec L2 Dv
end Th
set_option linter.all false
set_option maxRecDepth 100000
namespace Th
open PySem PySem.Spec L2 Dv
inductive Come (s : Sheet) : Stand → Prop
 | first : Come s (firstS s)
 | next {x : Stand} {k : Int} : Come s x → k ∈ mays s x.1 → Come s (nextS s x k)
theorem Reach.come {s : Sheet} {x : Stand} (h : Reach s x) : Come s x := by
 induction h with
 | first => exact .first
 | next _ _ hk ih => exact .next ih hk
theorem Come.reach {s : Sheet} (hs : Sound s) {x : Stand} (h : Come s x) : Reach s x := by
 induction h with
 | first => exact .first
 | next _ hk ih => exact .next ih (hs _ ih) hk
theorem Come.ok {s : Sheet} (h : SheetOk s) {x : Stand} (r : Come s x) : StOk s x := by
 induction r with
 | first => exact StOk.first h
 | next _ hk ih => exact ih.next h (mays_nums s _ _ hk).1 (mays_nums s _ _ hk).2
def FewC (s : Sheet) (n : Nat) : Prop := ∃ l : List Stand, l.length ≤ n ∧ ∀ x, Come s x → x ∈ l
theorem FewC.few {s : Sheet} {n : Nat} (h : FewC s n) : Few s n := let ⟨l, h1, h2⟩ := h; ⟨l, h1, fun x hx => h2 x hx.come⟩
theorem Few.come {s : Sheet} {n : Nat} (hs : Sound s) (h : Few s n) : FewC s n := let ⟨l, h1, h2⟩ := h; ⟨l, h1, fun x hx => h2 x (hx.reach hs)⟩
theorem clean_may {s : Sheet} {x : Stand} (h : clean s x) : mays s x.1 ≠ [] := fun e => by
 have h : progF s x.1 x.2 = [] := h
 unfold progF at h
 rw [e] at h
 simp [pairsF, endF] at h
section
variable {ws : List Wire} {ts : List Turn} {sp : List Spot1} {ρ : Nat → Nat}
def ringAll (n : Nat) : List Spot1 := (List.range (n - 1)).map (fun i => (i, i + 1, 0)) ++ [(n - 1, 0, 1)]
end
end Th
set_option linter.all false
set_option autoImplicit false
namespace Th
open PySem PySem.Spec L2 Dv
def rot {α : Type} (r : Nat) (l : List α) : List α := l.drop r ++ l.take r
theorem any_rot {α : Type} (r : Nat) (l : List α) (p : α → Bool) : (rot r l).any p = l.any p := by
 unfold rot
 conv => rhs; rw [← List.take_append_drop r l]
 rw [List.any_append, List.any_append, Bool.or_comm]
theorem rot_map {α β : Type} (f : α → β) (r : Nat) (l : List α) : (rot r l).map f = rot r (l.map f) := by
 unfold rot; rw [List.map_append, List.map_drop, List.map_take]
theorem zipWith_rot {α β γ : Type} (f : α → β → γ) (r : Nat) {l : List α} {m : List β} (h : l.length = m.length) : List.zipWith f (rot r l) (rot r m) = rot r (List.zipWith f l m) := by
 unfold rot
 rw [List.zipWith_append (by rw [List.length_drop, List.length_drop, h]), List.drop_zipWith, List.take_zipWith]
theorem zip_rot {α β : Type} (r : Nat) {l : List α} {m : List β} (h : l.length = m.length) : (rot r l).zip (rot r m) = rot r (l.zip m) := zipWith_rot Prod.mk r h
structure SpR (T : Nat) (π : Nat → Nat) (x y : Spot) : Prop where
 m : x.2.2 = y.2.2
 b : ∀ p, p < T → x.1.contains (π p : Int) = y.1.contains (p : Int)
 h : ∀ p, p < T → x.2.1.contains (π p : Int) = y.2.1.contains (p : Int)
structure Iso (s' s : Sheet) (π : Nat → Nat) (r : Nat) (f : Spot → Spot) : Prop where
 tl : s'.turns.length = s.turns.length
 plt : ∀ p, p < s.turns.length → π p < s.turns.length
 inj : ∀ p q, p < s.turns.length → q < s.turns.length → π p = π q → p = q
 sur : ∀ k, k < s.turns.length → ∃ p, p < s.turns.length ∧ π p = k
 trn : ∀ p, p < s.turns.length → s'.turns[π p]? = s.turns[p]?
 sp : s'.spots = rot r (s.spots.map f)
 fr : ∀ y ∈ s.spots, SpR s.turns.length π (f y) y
 wp : s'.wires.Perm s.wires
 nd : (s.wires.map (·.1)).Nodup
def valW (ws : List Wire) (vs : List Int) (z : Str) : Int := match (ws.zip vs).find? (fun p => decide (p.1.1 = z)) with
 | some p => p.2
 | none => 0
theorem valW_map {ws : List Wire} (nd : (ws.map (·.1)).Nodup) (g : Str → Int) {w : Wire} (hw : w ∈ ws) : valW ws (ws.map fun w => g w.1) w.1 = g w.1 := by
 unfold valW
 rw [find_zip_map (f := fun w => g w.1) nd hw rfl]
theorem valF {ws : List Wire} (nd : (ws.map (·.1)).Nodup) {w : Wire} (hw : w ∈ ws) : valW ws (ws.map (·.2.2)) w.1 = w.2.2 := by
 unfold valW
 rw [find_zip_map (f := fun w : Wire => w.2.2) nd hw rfl]
section
variable {s' s : Sheet} {π : Nat → Nat} {r : Nat} {f : Spot → Spot}
theorem Iso.turn (I : Iso s' s π r f) {p : Nat} (hp : p < s.turns.length) : turnAt s' (π p : Int) = turnAt s (p : Int) := by
 unfold turnAt
 rw [Int.toNat_natCast, Int.toNat_natCast, List.getD_eq_getElem?_getD, List.getD_eq_getElem?_getD, I.trn p hp]
theorem any_zip_map {α β γ : Type} (f : α → γ) (p : γ × β → Bool) (q : α × β → Bool) : ∀ {l : List α} {m : List β}, (∀ x ∈ l, ∀ y, p (f x, y) = q (x, y)) → ((l.map f).zip m).any p = (l.zip m).any q
 | [], _, _ => by simp
 | _ :: _, [], _ => by simp
 | x :: l, y :: m, h => by
  rw [List.map_cons, List.zip_cons_cons, List.zip_cons_cons, List.any_cons, List.any_cons, h x List.mem_cons_self y, any_zip_map f p q fun z hz => h z (List.mem_cons_of_mem _ hz)]
theorem Iso.bars (I : Iso s' s π r f) {ms : List Int} (hl : ms.length = s.spots.length) {p : Nat} (hp : p < s.turns.length) : bars s' (rot r ms) (π p : Int) = Th.bars s ms (p : Int) := by
 unfold Th.bars
 rw [I.sp, zip_rot r (by rw [List.length_map, hl]), any_rot]
 refine any_zip_map f _ _ fun x hx y => ?_
 rw [(I.fr x hx).h p hp]
theorem Iso.mays (I : Iso s' s π r f) {ms : List Int} (hl : ms.length = s.spots.length) {k : Int} : k ∈ mays s' (rot r ms) ↔ ∃ p : Nat, p < s.turns.length ∧ k = π p ∧ (p : Int) ∈ Th.mays s ms := by
 rw [mem_mays]
 constructor
 ·rintro ⟨⟨h0, h1⟩, h2⟩
  rw [I.tl] at h1
  obtain ⟨p, hp, e⟩ := I.sur k.toNat (by omega)
  have ek : k = (π p : Int) := by omega
  rw [ek, I.bars hl hp] at h2
  exact ⟨p, hp, ek, mem_mays.mpr ⟨⟨by omega, by omega⟩, h2⟩⟩
 ·rintro ⟨p, hp, rfl, h⟩
  have := I.plt p hp
  rw [I.tl, I.bars hl hp]
  exact ⟨⟨by omega, by omega⟩, (mem_mays.mp h).2⟩
def IsoR (s' s : Sheet) (r : Nat) (x' x : Stand) : Prop := x'.1 = rot r x.1 ∧ x.1.length = s.spots.length ∧ ∃ g : Str → Int, x'.2 = s'.wires.map (fun w => g w.1) ∧ x.2 = s.wires.map fun w => g w.1
theorem Iso.first (I : Iso s' s π r f) : IsoR s' s r (firstS s') (firstS s) := by
 refine ⟨?_, by simp [firstS], fun z => valW s.wires (s.wires.map (·.2.2)) z, ?_, ?_⟩
 ·show s'.spots.map (·.2.2) = rot r (s.spots.map (·.2.2))
  rw [I.sp, rot_map, List.map_map]
  congr 1
  exact List.map_congr_left fun y hy => (I.fr y hy).m
 ·refine List.map_congr_left fun w hw => ?_
  exact (valF I.nd (I.wp.mem_iff.mp hw)).symm
 ·refine List.map_congr_left fun w hw => ?_
  exact (valF I.nd hw).symm
theorem zipWith_congr {α β γ δ : Type} (f : α → γ) (p : γ → β → δ) (q : α → β → δ) : ∀ {l : List α} {m : List β}, (∀ x ∈ l, ∀ y, p (f x) y = q x y) → List.zipWith p (l.map f) m = List.zipWith q l m
 | [], _, _ => by simp
 | _ :: _, [], _ => by simp
 | x :: l, y :: m, h => by
  rw [List.map_cons, List.zipWith_cons_cons, List.zipWith_cons_cons, h x List.mem_cons_self y, zipWith_congr f p q fun z hz => h z (List.mem_cons_of_mem _ hz)]
theorem zip_self (ws : List Wire) (t : Turn) (g : Str → Int) : List.zipWith (bval t.1 t.2) ws (ws.map fun w => g w.1) = ws.map fun w => (fun z => if PyData.eqv (.str z) (.str t.1) then t.2 else g z) w.1 := by
 induction ws with
 | nil => rfl
 | cons w ws ih =>
  rw [List.map_cons, List.zipWith_cons_cons, ih]
  rfl
theorem Iso.next (I : Iso s' s π r f) {x' x : Stand} (h : IsoR s' s r x' x) {p : Nat} (hp : p < s.turns.length) : IsoR s' s r (nextS s' x' (π p)) (nextS s x p) := by
 obtain ⟨h1, h2, g, h3, h4⟩ := h
 refine ⟨?_, by simp [nextS, bmarks]; omega, fun z => if PyData.eqv (.str z) (.str (turnAt s (p : Int)).1) then (turnAt s (p : Int)).2 else g z, ?_, ?_⟩
 ·show bmarks s' x'.1 (π p) = rot r (bmarks s x.1 p)
  unfold bmarks
  rw [h1, I.sp, zipWith_rot _ r (by rw [List.length_map, h2])]
  congr 1
  refine zipWith_congr f _ _ fun y hy m => ?_
  unfold bmark
  rw [(I.fr y hy).b p hp, (I.fr y hy).h p hp]
 ·show bvals s' (turnAt s' (π p : Int)) x'.2 = _
  rw [I.turn hp, h3]
  exact zip_self s'.wires (turnAt s (p : Int)) g
 ·show bvals s (turnAt s (p : Int)) x.2 = _
  rw [h4]
  exact zip_self s.wires (turnAt s (p : Int)) g
theorem Iso.val (I : Iso s' s π r f) {x' x : Stand} (h : IsoR s' s r x' x) (z : Str) : valD s' x'.2 z = valD s x.2 z := by
 obtain ⟨h1, h2, g, h3, h4⟩ := h
 have ndl : (s'.wires.map (·.1)).Nodup := (I.wp.map _).nodup_iff.mpr I.nd
 have none : ∀ {ws : List Wire} {vs : List Int}, z ∉ ws.map (·.1) → (ws.zip vs).find? (fun p => decide (p.1.1 = z)) = none := fun {ws vs} hz => by
  rw [List.find?_eq_none]
  rintro ⟨w, v⟩ hw
  simp
  exact fun e => hz (List.mem_map.mpr ⟨w, (List.of_mem_zip hw).1, e⟩)
 unfold valD
 by_cases hz : z ∈ s.wires.map (·.1)
 ·obtain ⟨w, hw, rfl⟩ := List.mem_map.mp hz
  rw [h3, h4, find_zip_map (f := fun w : Wire => g w.1) I.nd hw rfl, find_zip_map (f := fun w : Wire => g w.1) ndl (I.wp.mem_iff.mpr hw) rfl]
 ·rw [none hz, none fun c => hz ((I.wp.map _).mem_iff.mp c)]
theorem Iso.reach (I : Iso s' s π r f) (snd : Sound s) {x' : Stand} (hx : Reach s' x') : ∃ x, Reach s x ∧ IsoR s' s r x' x := by
 induction hx with
 | first => exact ⟨_, .first, I.first⟩
 | @next x' k _ _ hk ih =>
  obtain ⟨x, hr, hR⟩ := ih
  rw [hR.1] at hk
  obtain ⟨p, hp, rfl, hpm⟩ := (I.mays hR.2.1).mp hk
  exact ⟨_, .next hr (snd x hr) hpm, I.next hR hp⟩
theorem Iso.few (I : Iso s' s π r f) (snd : Sound s) {n : Nat} (h : Few s n) : Few s' n := by
 obtain ⟨l, h1, h2⟩ := h
 refine ⟨l.map fun x => (rot r x.1, s'.wires.map fun w => valW s.wires x.2 w.1), by rw [List.length_map]; exact h1, fun x' hx => ?_⟩
 obtain ⟨x, hr, e1, e2, g, e3, e4⟩ := I.reach snd hx
 refine List.mem_map.mpr ⟨x, h2 x hr, Prod.ext e1.symm ?_⟩
 rw [e3]
 refine List.map_congr_left fun w hw => ?_
 show valW s.wires x.2 w.1 = g w.1
 rw [e4]
 exact valW_map I.nd g (I.wp.mem_iff.mp hw)
end
end Th
set_option linter.all false
set_option autoImplicit false
set_option maxRecDepth 100000
namespace Th
open PySem PySem.Spec L2 Dv
def toF (fs : List Nat) (w : List Nat) (k i : Nat) : Nat := (fs.getD k 0 + (w.take i).count k) % 2
def turnsU (zs : List Str) (fs : List Nat) (w : List Nat) : List (Str × Int) := (List.range w.length).map fun p => (zs.getD (w.getD p 0) Str.empty, ((toF fs w (w.getD p 0) (p + 1) : Nat) : Int))
def placesU (w : List Nat) (k : Nat) : List Nat := (List.range w.length).filter fun p => decide (w.getD p 0 = k)
def chainU (own : List Nat) : List Spot1 := (own.zip own.tail).map (fun p => (p.1, p.2, 0)) ++ [(own.getD (own.length - 1) 0, own.getD 0 0, 1)]
def chainsU (w : List Nat) (n : Nat) : List Spot1 := (List.range n).flatMap fun k => chainU (placesU w k)
theorem places_ris (w : List Nat) (k : Nat) : (placesU w k).Pairwise (· < ·) := List.pairwise_lt_range.filter _
theorem mem_places {w : List Nat} {k p : Nat} : p ∈ placesU w k ↔ p < w.length ∧ w.getD p 0 = k := by
 unfold placesU
 rw [List.mem_filter, List.mem_range, decide_eq_true_iff]
theorem places_count : ∀ (w : List Nat) (k : Nat), (placesU w k).length = w.count k := by
 intro w k
 unfold placesU
 have : ∀ n, n ≤ w.length → ((List.range n).filter fun p => decide (w.getD p 0 = k)).length = (w.take n).count k := by
  intro n
  induction n with
  | zero => intro _; simp
  | succ n ih =>
   intro hn
   rw [List.range_succ, List.filter_append, List.length_append, ih (by omega), List.take_add_one, List.getElem?_eq_getElem (by omega), List.count_append]
   congr 1
   have e : w.getD n 0 = w[n] := by rw [List.getD_eq_getElem?_getD, List.getElem?_eq_getElem (by omega)]; rfl
   by_cases h : w[n] = k
   ·rw [List.filter_cons_of_pos (by rw [e, decide_eq_true_iff]; exact h), h]
    simp
   ·rw [List.filter_cons_of_neg (by rw [e, decide_eq_true_iff]; exact h)]
    have : ([w[n]] : List Nat).count k = 0 := List.count_eq_zero.mpr fun hm => h (List.mem_singleton.mp hm).symm
    show 0 = ([w[n]] : List Nat).count k
    rw [this]
 rw [this w.length (Nat.le_refl _), List.take_length]
theorem mem_chain {own : List Nat} (h : own ≠ []) {x : Spot1} : x ∈ chainU own ↔ x ∈ ringOf own := by
 have hl : 0 < own.length := List.length_pos_iff.mpr h
 rw [mem_ring]
 unfold chainU
 rw [List.mem_append, List.mem_singleton]
 constructor
 ·rintro (hx | rfl)
  ·obtain ⟨p, hp, rfl⟩ := List.mem_map.mp hx
   obtain ⟨i, hi, e⟩ := List.getElem_of_mem hp
   rw [List.length_zip, List.length_tail] at hi
   rw [List.getElem_zip, List.getElem_tail] at e
   refine ⟨i + 1, by omega, ?_⟩
   rw [← e, if_neg (by omega), if_neg (by omega), List.getD_eq_getElem?_getD, List.getD_eq_getElem?_getD, Nat.add_sub_cancel, List.getElem?_eq_getElem (by omega), List.getElem?_eq_getElem (by omega)]
   rfl
  ·exact ⟨0, hl, by rw [if_pos rfl, if_pos rfl]⟩
 ·rintro ⟨i, hi, rfl⟩
  by_cases h0 : i = 0
  ·subst h0
   right
   rw [if_pos rfl, if_pos rfl]
  ·left
   rw [if_neg h0, if_neg h0]
   refine List.mem_map.mpr ⟨(own[i - 1]'(by omega), own[i]), ?_, ?_⟩
   ·have : (own.zip own.tail)[i - 1]'(by rw [List.length_zip, List.length_tail]; omega) = (own[i - 1]'(by omega), own[i]) := by
     rw [List.getElem_zip, List.getElem_tail]
     congr 2
     omega
    rw [← this]
    exact List.getElem_mem _
   ·rw [List.getD_eq_getElem?_getD, List.getD_eq_getElem?_getD, List.getElem?_eq_getElem (by omega), List.getElem?_eq_getElem hi]
    rfl
def PairOk (T : Nat) (sp : List Spot1) : Prop := ∀ x ∈ sp, x.1 < T ∧ x.2.1 < T ∧ ((x.1 < x.2.1 ∧ x.2.2 = 0 ∧ (x.2.1, x.1, 1) ∈ sp) ∨ (x.2.1 < x.1 ∧ x.2.2 = 1 ∧ (x.2.1, x.1, 0) ∈ sp) ∨ (x.1 = x.2.1 ∧ x.2.2 = 1))
structure WordE (n : Nat) (w : List Nat) : Prop where
 lt : ∀ k ∈ w, k < n
 ct : ∀ k, k < n → w.count k % 2 = 0 ∧ 2 ≤ w.count k
 l2 : 2 ≤ w.length
def wiresU (zs sds : List Str) (fs : List Nat) : List Th.Wire := (List.range zs.length).map fun k => (zs.getD k Str.empty, sds.getD k Str.empty, ((fs.getD k 0 : Nat) : Int))
def SpotsU (w : List Nat) (n : Nat) (sp : List Spot1) : Prop :=
 (∃ ps, PairOk w.length ps ∧ ∀ x, x ∈ sp ↔ x ∈ chainsU w n ∨ x ∈ ps) ∨ (∀ x, x ∈ sp ↔ x ∈ ringAll w.length)
structure WP (n : Nat) (zs sds : List Str) (fs w : List Nat) : Prop where
 nz : n ≤ zs.length
 ls : sds.length = zs.length
 lf : fs.length = zs.length
 nd : zs.Nodup
 f1 : ∀ f ∈ fs, f ≤ 1
 W : WordE n w
 n1 : 1 ≤ n
section
variable {n : Nat} {zs sds : List Str} {fs w : List Nat} {sp : List Spot1}
theorem WP.wl (h  : WP n zs sds fs w) : 2 ≤ w.length := h.W.l2
theorem WP.at (h  : WP n zs sds fs w) {a : Nat} (ha : a < w.length) : w.getD a 0 < n := by
 rw [List.getD_eq_getElem?_getD, List.getElem?_eq_getElem ha]
 exact h.W.lt _ (List.getElem_mem ha)
theorem turns_len : (turnsU zs fs w).length = w.length := by unfold turnsU; rw [List.length_map, List.length_range]
theorem turns_at {k : Nat} (hk : k < w.length) : (turnsU zs fs w)[k]? = some (zs.getD (w.getD k 0) Str.empty, ((toF fs w (w.getD k 0) (k + 1) : Nat) : Int)) := by
 unfold turnsU
 rw [List.getElem?_map, List.getElem?_range hk]
 rfl
theorem nm_at {k : Nat} (hk : k < w.length) : nmOf (turnsU zs fs w) k = zs.getD (w.getD k 0) Str.empty := by
 unfold nmOf
 rw [List.getD_eq_getElem?_getD, turns_at hk]
 rfl
theorem zs_inj (nd : zs.Nodup) {i j : Nat} (hi : i < zs.length) (hj : j < zs.length) (h : zs.getD i Str.empty = zs.getD j Str.empty) : i = j := by
 rw [List.getD_eq_getElem?_getD, List.getD_eq_getElem?_getD, List.getElem?_eq_getElem hi, List.getElem?_eq_getElem hj] at h
 exact (List.getElem_inj nd).mp h
theorem WP.nm_eq (h  : WP n zs sds fs w) {a j : Nat} (ha : a < w.length) (hj : j < zs.length) : nmOf (turnsU zs fs w) a = zs.getD j Str.empty ↔ w.getD a 0 = j := by
 rw [nm_at ha]
 exact ⟨fun e => zs_inj h.nd (by have := h.at ha; have := h.nz; omega) hj e, fun e => by rw [e]⟩
theorem WP.owns_eq (h  : WP n zs sds fs w) {j : Nat} (hj : j < zs.length) : owns (turnsU zs fs w).length (nmOf (turnsU zs fs w)) (zs.getD j Str.empty) = placesU w j := by
 unfold owns placesU
 rw [turns_len]
 refine List.filter_congr fun a ha => ?_
 have ha := List.mem_range.mp ha
 by_cases e : w.getD a 0 = j
 ·rw [decide_eq_true e, decide_eq_true ((h.nm_eq ha hj).mpr e)]
 ·rw [decide_eq_false e, decide_eq_false (fun c => e ((h.nm_eq ha hj).mp c))]
theorem range_count {j : Nat} : ∀ n, n ≤ w.length → ((List.range n).filter fun p => decide (w.getD p 0 = j)).length = (w.take n).count j := by
 intro n
 induction n with
 | zero => intro _; simp
 | succ n ih =>
  intro hn
  rw [List.range_succ, List.filter_append, List.length_append, ih (by omega), List.take_add_one, List.getElem?_eq_getElem (by omega), List.count_append]
  congr 1
  have e : w.getD n 0 = w[n] := by rw [List.getD_eq_getElem?_getD, List.getElem?_eq_getElem (by omega)]; rfl
  by_cases h : w[n] = j
  ·rw [List.filter_cons_of_pos (by rw [e, decide_eq_true_iff]; exact h), h]
   simp
  ·rw [List.filter_cons_of_neg (by rw [e, decide_eq_true_iff]; exact h)]
   have : ([w[n]] : List Nat).count j = 0 := List.count_eq_zero.mpr fun hm => h (List.mem_singleton.mp hm).symm
   show 0 = ([w[n]] : List Nat).count j
   rw [this]
theorem count_places {k j : Nat} (hk : k ≤ w.length) : (placesU w j).countP (fun a => decide (a < k)) = (w.take k).count j := by
 rw [← range_count k hk, List.countP_eq_length_filter]
 unfold placesU
 rw [List.filter_filter]
 have e : List.range w.length = List.range k ++ (List.range (w.length - k)).map (k + ·) := by
  rw [← List.range_add]
  congr 1
  omega
 rw [e, List.filter_append, List.length_append]
 have e2 : ((List.range (w.length - k)).map (k + ·)).filter (fun a => decide (a < k) && decide (w.getD a 0 = j)) = [] := by
  rw [List.filter_eq_nil_iff]
  intro a ha
  obtain ⟨b, _, rfl⟩ := List.mem_map.mp ha
  simp
  intro c
  omega
 rw [e2, List.length_nil, Nat.add_zero]
 congr 1
 refine List.filter_congr fun a ha => ?_
 rw [decide_eq_true (List.mem_range.mp ha), Bool.true_and]
theorem WP.word (h  : WP n zs sds fs w) (hs : SpotsU w n sp) : Word (turnsU zs fs w).length sp id (nmOf (turnsU zs fs w)) := by
 rw [turns_len]
 have hwl := h.wl
 have pl : ∀ k, k < n → placesU w k ≠ [] := fun k hk e => by
  have := places_count w k
  rw [e] at this
  have := h.W.ct k hk
  simp at *
  omega
 rcases hs with ⟨ps, hps, hm⟩ | hm
 ·have ring : ∀ k, k < n → ∀ x ∈ ringOf (placesU w k), x ∈ sp := fun k hk x hx => (hm x).mpr (.inl (List.mem_flatMap.mpr ⟨k, List.mem_range.mpr hk, (mem_chain (pl k hk)).mpr hx⟩))
  have kind : ∀ x ∈ sp, (∃ k, k < n ∧ x ∈ ringOf (placesU w k)) ∨ x ∈ ps := fun x hx => by
   rcases (hm x).mp hx with hx | hx
   ·obtain ⟨k, hk, hx⟩ := List.mem_flatMap.mp hx
    have hk := List.mem_range.mp hk
    exact .inl ⟨k, hk, (mem_chain (pl k hk)).mp hx⟩
   ·exact .inr hx
  refine Th.word_of (fun x hx => ?_) (fun x hx => ?_) (fun x hx => ?_) (fun a b ha hb hab hlt => ?_)
  ·rcases kind x hx with ⟨k, hk, hx⟩ | hx
   ·obtain ⟨h1, h2⟩ := Th.ring_mem hx
    exact ⟨(mem_places.mp h1).1, (mem_places.mp h2).1⟩
   ·exact ⟨(hps x hx).1, (hps x hx).2.1⟩
  ·rcases kind x hx with ⟨k, hk, hx⟩ | hx
   ·exact Th.ring_mark (places_ris w k) hx
   ·rcases (hps x hx).2.2 with ⟨h1, h2, _⟩ | ⟨h1, h2, _⟩ | ⟨h1, h2⟩
    ·rw [if_pos h1]; exact h2
    ·rw [if_neg (by omega)]; exact h2
    ·rw [if_neg (by omega)]; exact h2
  ·rcases kind x hx with ⟨k, hk, hx⟩ | hx
   ·exact .inr ⟨_, ring k hk, hx⟩
   ·rcases (hps x hx).2.2 with ⟨h1, h2, h3⟩ | ⟨h1, h2, h3⟩ | ⟨h1, h2⟩
    ·exact .inl ⟨_, (hm _).mpr (.inr h3), rfl, rfl, by rw [h2]; rfl⟩
    ·exact .inl ⟨_, (hm _).mpr (.inr h3), rfl, rfl, by rw [h2]; rfl⟩
    ·refine .inr ⟨[x.1], fun y hy => ?_, ?_⟩
     ·obtain ⟨i, hi, rfl⟩ := mem_ring.mp hy
      have : i = 0 := by simp at hi; omega
      subst this
      have e : x = (x.1, x.1, 1) := Prod.ext rfl (Prod.ext h1.symm h2)
      show (x.1, x.1, (1 : Int)) ∈ sp
      rw [← e]
      exact hx |> fun hx => (hm x).mpr (.inr hx)
     ·exact mem_ring.mpr ⟨0, by simp, Prod.ext rfl (Prod.ext h1.symm h2)⟩
  ·rw [nm_at ha, nm_at hb] at hab
   have := h.nz
   have e := zs_inj h.nd (by have := h.at ha; omega) (by have := h.at hb; omega) hab
   exact ⟨placesU w (w.getD a 0), places_ris w _, ring _ (h.at ha), mem_places.mpr ⟨ha, rfl⟩, mem_places.mpr ⟨hb, e.symm⟩⟩
 ·have ring : ∀ x, x ∈ ringOf (List.range w.length) ↔ x ∈ sp := fun x => by
   rw [hm, mem_ring]
   unfold ringAll
   rw [List.mem_append, List.mem_singleton, List.mem_map]
   have gd : ∀ i, i < w.length → (List.range w.length).getD i 0 = i := fun i hi => by rw [List.getD_eq_getElem?_getD, List.getElem?_range hi]; rfl
   rw [List.length_range]
   constructor
   ·rintro ⟨i, hi, rfl⟩
    by_cases h0 : i = 0
    ·subst h0
     right
     rw [if_pos rfl, if_pos rfl, gd _ (by omega), gd 0 hi]
    ·left
     rw [if_neg h0, if_neg h0, gd _ (by omega), gd i hi]
     exact ⟨i - 1, List.mem_range.mpr (by omega), by rw [Nat.sub_add_cancel (by omega)]⟩
   ·rintro (⟨i, hi, rfl⟩ | rfl)
    ·have hi := List.mem_range.mp hi
     exact ⟨i + 1, by omega, by rw [if_neg (by omega), if_neg (by omega), gd _ (by omega), gd _ (by omega), Nat.add_sub_cancel]⟩
    ·exact ⟨0, by omega, by rw [if_pos rfl, if_pos rfl, gd _ (by omega), gd 0 (by omega)]⟩
  have ris : (List.range w.length).Pairwise (· < ·) := List.pairwise_lt_range
  refine Th.word_of (fun x hx => ?_) (fun x hx => ?_) (fun x hx => .inr ⟨_, fun y hy => (ring y).mp hy, (ring x).mpr hx⟩) (fun a b ha hb hab hlt => ⟨_, ris, fun y hy => (ring y).mp hy, List.mem_range.mpr ha, List.mem_range.mpr hb⟩)
  ·obtain ⟨h1, h2⟩ := Th.ring_mem ((ring x).mpr hx)
   exact ⟨List.mem_range.mp h1, List.mem_range.mp h2⟩
  ·exact Th.ring_mark ris ((ring x).mpr hx)
theorem WP.wsh (h  : WP n zs sds fs w) (hs : SpotsU w n sp) : WSh (wiresU zs sds fs) (turnsU zs fs w) sp id := by
 have wat : ∀ x ∈ wiresU zs sds fs, ∃ j, j < zs.length ∧ x = (zs.getD j Str.empty, sds.getD j Str.empty, ((fs.getD j 0 : Nat) : Int)) := fun x hx => by
  obtain ⟨j, hj, rfl⟩ := List.mem_map.mp hx
  exact ⟨j, List.mem_range.mp hj, rfl⟩
 have en : (wiresU zs sds fs).map (·.1) = zs := by
  unfold wiresU
  rw [List.map_map]
  apply List.ext_getElem?
  intro i
  rw [List.getElem?_map]
  by_cases hi : i < zs.length
  ·rw [List.getElem?_range hi]
   show some (zs.getD i Str.empty) = _
   rw [List.getD_eq_getElem?_getD, List.getElem?_eq_getElem hi]
   rfl
  ·rw [List.getElem?_eq_none (by simp; omega), List.getElem?_eq_none (by omega)]
   rfl
 have fb : ∀ j, j < zs.length → fs.getD j 0 ≤ 1 := fun j hj => by
  have := h.lf
  rw [List.getD_eq_getElem?_getD, List.getElem?_eq_getElem (by omega)]
  exact h.f1 _ (List.getElem_mem _)
 refine ⟨by rw [en]; exact h.nd, fun x hx => ?_, fun k y x hx ht => ?_, fun x hx => ?_, fun t ht => ?_, by rw [turns_len]; have := h.wl; omega, h.word hs⟩
 ·obtain ⟨j, hj, rfl⟩ := wat x hx
  have := fb j hj
  show 0 ≤ ((fs.getD j 0 : Nat) : Int) ∧ ((fs.getD j 0 : Nat) : Int) < 2
  omega
 ·obtain ⟨j, hj, rfl⟩ := wat x hx
  have hk : k < w.length := by
   have := (List.getElem?_eq_some_iff.mp ht).1
   rwa [turns_len] at this
  rw [turns_at hk] at ht
  have ht := Option.some.inj ht
  have e1 : zs.getD (w.getD k 0) Str.empty = zs.getD j Str.empty := (Prod.ext_iff.mp ht).1
  have e2 : ((toF fs w (w.getD k 0) (k + 1) : Nat) : Int) = y := (Prod.ext_iff.mp ht).2
  have hn := h.nz
  have ej := zs_inj h.nd (by have := h.at hk; omega) hj e1
  rw [ej] at e2
  show y = ((fs.getD j 0 : Nat) + (((owns (turnsU zs fs w).length (nmOf (turnsU zs fs w)) (zs.getD j Str.empty)).countP fun a => decide (a < k) : Nat) : Int) + 1) % 2
  rw [h.owns_eq hj, count_places (by omega), ← e2]
  have hc : (w.take (k + 1)).count j = (w.take k).count j + 1 := by
   rw [List.take_add_one, List.getElem?_eq_getElem hk, List.count_append]
   have : w[k] = j := by rw [← ej, List.getD_eq_getElem?_getD, List.getElem?_eq_getElem hk]; rfl
   rw [this]
   simp
  unfold toF
  rw [hc]
  omega
 ·obtain ⟨j, hj, rfl⟩ := wat x hx
  show (owns (turnsU zs fs w).length (nmOf (turnsU zs fs w)) (zs.getD j Str.empty)).length % 2 = 0
  rw [h.owns_eq hj, places_count]
  by_cases hjn : j < n
  ·have := h.W.ct j hjn; omega
  ·have : w.count j = 0 := List.count_eq_zero.mpr fun hm => hjn (h.W.lt j hm)
   omega
 ·rw [en]
  obtain ⟨k, hk⟩ := List.mem_iff_getElem?.mp ht
  have hkl : k < w.length := by
   have := (List.getElem?_eq_some_iff.mp hk).1
   rwa [turns_len] at this
  rw [turns_at hkl] at hk
  rw [← Option.some.inj hk]
  have := h.at hkl
  have := h.nz
  show zs.getD (w.getD k 0) Str.empty ∈ zs
  rw [List.getD_eq_getElem?_getD, List.getElem?_eq_getElem (by omega)]
  exact List.getElem_mem _
end
end Th
set_option linter.all false
set_option autoImplicit false
namespace Th
open PySem PySem.Spec L2 Dv
def begunW (w : Wire) (v : Int) : Wire := (w.1, w.2.1, v)
def begunP (p : Spot) (m : Int) : Spot := (p.1, p.2.1, m)
def begunS (s : Sheet) (x : Stand) : Sheet := ⟨List.zipWith begunW s.wires x.2, s.turns, List.zipWith begunP s.spots x.1⟩
def Live (s : Sheet) : Prop := ∀ x, Come s x → mays s x.1 ≠ []
theorem Sound.live {s : Sheet} (h : Sound s) : Live s := fun x hx => clean_may (h x (hx.reach h))
section
variable {s : Sheet} {x : Stand}
theorem zw_any {α β γ δ : Type} {g : α → β → γ} {p : γ × δ → Bool} {q : α × δ → Bool} (h : ∀ a b c, p (g a b, c) = q (a, c)) : ∀ {l : List α} {m : List β} {n : List δ}, m.length = l.length → ((List.zipWith g l m).zip n).any p = (l.zip n).any q
 | [], [], n, _ => by simp
 | [], _ :: _, _, e => by simp at e
 | _ :: _, [], _, e => by simp at e
 | a :: l, b :: m, [], _ => by simp
 | a :: l, b :: m, c :: n, e => by
  rw [List.zipWith_cons_cons, List.zip_cons_cons, List.zip_cons_cons, List.any_cons, List.any_cons, h, zw_any h (by simpa using e)]
theorem zw_map {α β γ δ : Type} {g : α → β → γ} {p : γ → δ} {q : α → δ} (h : ∀ a b, p (g a b) = q a) : ∀ {l : List α} {m : List β}, m.length = l.length → (List.zipWith g l m).map p = l.map q
 | [], [], _ => rfl
 | [], _ :: _, e => by simp at e
 | _ :: _, [], e => by simp at e
 | a :: l, b :: m, e => by rw [List.zipWith_cons_cons, List.map_cons, List.map_cons, h, zw_map h (by simpa using e)]
theorem zw_snd {α β γ : Type} {g : α → β → γ} {p : γ → β} (h : ∀ a b, p (g a b) = b) : ∀ {l : List α} {m : List β}, m.length = l.length → (List.zipWith g l m).map p = m
 | [], [], _ => rfl
 | [], _ :: _, e => by simp at e
 | _ :: _, [], e => by simp at e
 | a :: l, b :: m, e => by rw [List.zipWith_cons_cons, List.map_cons, h, zw_snd h (by simpa using e)]
theorem zw_zw {α β γ δ ε : Type} {g : α → β → γ} {p : γ → δ → ε} {q : α → δ → ε} (h : ∀ a b c, p (g a b) c = q a c) : ∀ {l : List α} {m : List β} {n : List δ}, m.length = l.length → List.zipWith p (List.zipWith g l m) n = List.zipWith q l n
 | [], [], n, _ => by simp
 | [], _ :: _, _, e => by simp at e
 | _ :: _, [], _, e => by simp at e
 | a :: l, b :: m, [], _ => by simp
 | a :: l, b :: m, c :: n, e => by
  rw [List.zipWith_cons_cons, List.zipWith_cons_cons, List.zipWith_cons_cons, h, zw_zw h (by simpa using e)]
variable (hm : x.1.length = s.spots.length) (hv : x.2.length = s.wires.length)
include hm hv
theorem begun_first : firstS (begunS s x) = x := by
 unfold firstS begunS
 exact Prod.ext (zw_snd (g := begunP) (p := fun p : Spot => p.2.2) (fun _ _ => rfl) hm) (zw_snd (g := begunW) (p := fun w : Wire => w.2.2) (fun _ _ => rfl) hv)
theorem begun_spots : (begunS s x).spots.length = s.spots.length := by unfold begunS; simp only [List.length_zipWith]; omega
theorem begun_wires : (begunS s x).wires.length = s.wires.length := by unfold begunS; simp only [List.length_zipWith]; omega
theorem begun_names : (begunS s x).wires.map (·.1) = s.wires.map (·.1) := zw_map (g := begunW) (p := fun w : Wire => w.1) (q := fun w : Wire => w.1) (fun _ _ => rfl) hv
theorem begun_bars (ms : List Int) (k : Int) : bars (begunS s x) ms k = bars s ms k := by
 unfold bars begunS
 exact zw_any (g := begunP) (p := fun p : Spot × Int => p.2 == 0 && p.1.2.1.contains k) (q := fun p : Spot × Int => p.2 == 0 && p.1.2.1.contains k) (fun _ _ _ => rfl) hm
theorem begun_mays (ms : List Int) : mays (begunS s x) ms = mays s ms := by
 unfold mays
 show List.filter (fun k => !bars (begunS s x) ms k) ((List.range s.turns.length).map _) = _
 refine List.filter_congr fun k _ => ?_
 rw [begun_bars hm hv]
theorem begun_next (y : Stand) (k : Int) : nextS (begunS s x) y k = nextS s y k := by
 unfold nextS bmarks bvals
 refine Prod.ext ?_ ?_
 ·exact zw_zw (g := begunP) (p := bmark k) (q := bmark k) (fun _ _ _ => rfl) hm
 ·exact zw_zw (g := begunW) (p := bval (turnAt s k).1 (turnAt s k).2) (q := bval (turnAt s k).1 (turnAt s k).2) (fun _ _ _ => rfl) hv
theorem begun_come (hx : Come s x) {y : Stand} (h : Come (begunS s x) y) : Come s y := by
 induction h with
 | first => rw [begun_first hm hv]; exact hx
 | @next y k _ hk ih =>
  rw [begun_mays hm hv] at hk
  rw [begun_next hm hv]
  exact .next ih hk
theorem begun_live (hl : Live s) (hx : Come s x) : Live (begunS s x) := fun y h => by
 rw [begun_mays hm hv]
 exact hl y (begun_come hm hv hx h)
end
theorem begun_ok {s : Sheet} {x : Stand} (h : SheetOk s) (hx : StOk s x) : SheetOk (begunS s x) := by
 refine ⟨fun w hw => ?_, ?_, ?_, fun t ht => ?_, h.tl, fun p hp => ?_, ?_⟩
 ·obtain ⟨a, b, ha, hb, rfl⟩ := mem_zipWith hw
  have := h.wtx a ha
  exact ⟨this.1, this.2.1, hx.vb b hb⟩
 ·rw [begun_names hx.m hx.v]; exact h.wnd
 ·rw [begun_wires hx.m hx.v]; exact h.wl
 ·rw [begun_names hx.m hx.v]; exact h.ttx t ht
 ·obtain ⟨a, b, ha, hb, rfl⟩ := mem_zipWith hp
  have := h.sok a ha
  exact ⟨this.1, this.2.1, hx.mb b hb⟩
 ·rw [begun_spots hx.m hx.v]; exact h.sl
end Th
set_option linter.all false
set_option autoImplicit false
namespace Th
open PySem PySem.Spec L2 Dv
inductive Plus (E : Nat → Nat → Prop) : Nat → Nat → Prop
 | one {a b : Nat} : E a b → Plus E a b
 | more {a b c : Nat} : Plus E a b → E b c → Plus E a c
theorem Plus.trans {E : Nat → Nat → Prop} {a b c : Nat} (h : Plus E a b) (k : Plus E b c) : Plus E a c := by
 induction k with
 | one e => exact .more h e
 | more _ e ih => exact .more ih e
theorem Plus.mono {E F : Nat → Nat → Prop} (h : ∀ a b, E a b → F a b) {a b : Nat} (k : Plus E a b) : Plus F a b := by
 induction k with
 | one e => exact .one (h _ _ e)
 | more _ e ih => exact .more ih (h _ _ e)
theorem Plus.rank {E : Nat → Nat → Prop} {R : Nat → Int} (h : ∀ a b, E a b → R a < R b) {a b : Nat} (k : Plus E a b) : R a < R b := by
 induction k with
 | one e => exact h _ _ e
 | more _ e ih => have := h _ _ e; omega
def edge (sp : List Spot1) (a b : Nat) : Prop := ∃ m, (a, b, m) ∈ sp
def bare (sp : List Spot1) (a b : Nat) : Prop := (a, b, (0 : Int)) ∈ sp
structure Rnd (T : Nat) (sp : List Spot1) : Prop where
 t1 : 1 ≤ T
 ne : sp ≠ []
 lt : ∀ x ∈ sp, x.1 < T ∧ x.2.1 < T
 bit : ∀ x ∈ sp, Bit x.2.2
 conn : ∀ a b, a < T → b < T → Plus (edge sp) a b
 acyc : ∃ R : Nat → Int, ∀ a b, bare sp a b → R a < R b
theorem Rnd.more {T : Nat} {sp sp' : List Spot1} (h : Rnd T sp) (h1 : ∀ x ∈ sp, x ∈ sp') (h2 : ∀ x ∈ sp', x ∈ sp ∨ (x.2.2 = 1 ∧ x.1 < T ∧ x.2.1 < T)) : Rnd T sp' := by
 refine ⟨h.t1, ?_, fun x hx => ?_, fun x hx => ?_, fun a b ha hb => (h.conn a b ha hb).mono fun a b ⟨m, hm⟩ => ⟨m, h1 _ hm⟩, ?_⟩
 ·intro e
  obtain ⟨x, hx⟩ := List.exists_mem_of_ne_nil _ h.ne
  have := h1 x hx
  rw [e] at this; cases this
 ·rcases h2 x hx with h' | h'
  ·exact h.lt x h'
  ·exact h'.2
 ·rcases h2 x hx with h' | h'
  ·exact h.bit x h'
  ·rw [h'.1]; exact bit1
 ·obtain ⟨R, hR⟩ := h.acyc
  refine ⟨R, fun a b hb => hR a b ?_⟩
  rcases h2 _ hb with h' | h'
  ·exact h'
  ·exact absurd (show (0 : Int) = 1 from h'.1) (by decide)
def remark (sp : List Spot1) (c : Nat → Int) : List Spot1 := sp.map fun x => (x.1, x.2.1, x.2.2 + c x.1 - c x.2.1)
theorem edge_remark {sp : List Spot1} {c : Nat → Int} {a b : Nat} (h : edge sp a b) : edge (remark sp c) a b := let ⟨m, hm⟩ := h; ⟨m + c a - c b, List.mem_map.mpr ⟨_, hm, rfl⟩⟩
theorem Word.acyc {α : Type} {T : Nat} {sp : List Spot1} {nm : Nat → α} (W : Word T sp id nm) (c : Nat → Int) : ∀ a b, bare (remark sp c) a b → c a * T + a < c b * T + b := fun a b h => by
 obtain ⟨x, hx, e⟩ := List.mem_map.mp h
 obtain ⟨h1, h2⟩ := W.lt x hx
 have hm := W.mrk x hx
 injection e with e1 e
 injection e with e2 e3
 subst e1
 subst e2
 simp only [id] at hm
 by_cases l : x.1 < x.2.1
 ·rw [if_pos l] at hm
  have : c x.1 = c x.2.1 := by omega
  rw [this]; omega
 ·rw [if_neg l] at hm
  have e4 : c x.2.1 = c x.1 + 1 := by omega
  rw [e4, Int.add_mul, Int.one_mul]
  omega
theorem ring_conn {own : List Nat} {sp : List Spot1} (h : ∀ y ∈ ringOf own, y ∈ sp) : ∀ i j, i < own.length → j < own.length → Plus (edge sp) (own.getD i 0) (own.getD j 0) := by
 have step : ∀ i, i + 1 < own.length → edge sp (own.getD i 0) (own.getD (i + 1) 0) := fun i hi => ⟨0, h _ (mem_ring.mpr ⟨i + 1, hi, by simp⟩)⟩
 have back : ∀ _ : 0 < own.length, edge sp (own.getD (own.length - 1) 0) (own.getD 0 0) := fun hl => ⟨1, h _ (mem_ring.mpr ⟨0, hl, by simp⟩)⟩
 have up : ∀ d i, i + d + 1 < own.length → Plus (edge sp) (own.getD i 0) (own.getD (i + d + 1) 0) := fun d => by
  induction d with
  | zero => intro i hi; exact .one (step i hi)
  | succ d ih => intro i hi; exact .more (ih i (by omega)) (step _ hi)
 have toLast : ∀ i, i < own.length → own.getD i 0 = own.getD (own.length - 1) 0 ∨ Plus (edge sp) (own.getD i 0) (own.getD (own.length - 1) 0) := fun i hi => by
  by_cases e : i = own.length - 1
  ·left; rw [e]
  ·right
   have := up (own.length - 1 - i - 1) i (by omega)
   rwa [show i + (own.length - 1 - i - 1) + 1 = own.length - 1 by omega] at this
 have toFirst : ∀ i, i < own.length → Plus (edge sp) (own.getD i 0) (own.getD 0 0) := fun i hi => by
  rcases toLast i hi with e | p
  ·rw [e]; exact .one (back (by omega))
  ·exact .more p (back (by omega))
 intro i j hi hj
 by_cases e : j = 0
 ·rw [e]; exact toFirst i hi
 ·have := up (j - 1) 0 (by omega)
  rw [show 0 + (j - 1) + 1 = j by omega] at this
  exact (toFirst i hi).trans this
theorem wires_conn {T n : Nat} {sp : List Spot1} {wr : Nat → Nat} (hw : ∀ a, a < T → wr a < n) (own : Nat → List Nat) (ho : ∀ k, k < n → ∀ y ∈ ringOf (own k), y ∈ sp) (mem : ∀ a, a < T → a ∈ own (wr a))
  (join : ∀ k, 0 < k → k < n → ∃ a b, a < T ∧ b < T ∧ wr a = k ∧ wr b < k ∧ edge sp a b ∧ edge sp b a) : ∀ a b, a < T → b < T → Plus (edge sp) a b := by
 have same : ∀ a b, a < T → b < T → wr a = wr b → Plus (edge sp) a b := fun a b ha hb e => by
  obtain ⟨i, hi, ei⟩ := List.getElem_of_mem (mem a ha)
  have mb : b ∈ own (wr a) := by rw [e]; exact mem b hb
  obtain ⟨j, hj, ej⟩ := List.getElem_of_mem mb
  have := ring_conn (ho (wr a) (hw a ha)) i j hi hj
  rw [List.getD_eq_getElem?_getD, List.getElem?_eq_getElem hi, List.getD_eq_getElem?_getD, List.getElem?_eq_getElem hj] at this
  simp only [Option.getD_some] at this
  rw [ei, ej] at this
  exact this
 have zero : ∀ k, k < n → ∀ a b, a < T → b < T → wr a = k → wr b = 0 → Plus (edge sp) a b ∧ Plus (edge sp) b a := fun k => by
  induction k using Nat.strongRecOn with
  | ind k ih =>
   intro hk a b ha hb ea eb
   by_cases h0 : k = 0
   ·exact ⟨same a b ha hb (by omega), same b a hb ha (by omega)⟩
   ·obtain ⟨u, v, hu, hv, eu, ev, e1, e2⟩ := join k (by omega) hk
    obtain ⟨p, q⟩ := ih (wr v) ev (by omega) v b hv hb rfl eb
    exact ⟨((same a u ha hu (by omega)).more e1).trans p, (q.more e2).trans (same u a hu ha (by omega))⟩
 intro a b ha hb
 by_cases hz : ∃ z, z < T ∧ wr z = 0
 ·obtain ⟨z, hz, ez⟩ := hz
  exact (zero _ (hw a ha) a z ha hz rfl ez).1.trans (zero _ (hw b hb) b z hb hz rfl ez).2
 ·exfalso
  have key : ∀ k, ∀ a, a < T → wr a = k → False := fun k => by
   induction k using Nat.strongRecOn with
   | ind k ih =>
    intro a ha ea
    by_cases h0 : k = 0
    ·exact hz ⟨a, ha, by omega⟩
    ·obtain ⟨u, v, hu, hv, eu, ev, _, _⟩ := join k (by omega) (by have := hw a ha; omega)
     exact ih (wr v) ev v hv rfl
  exact key _ a ha rfl
end Th
set_option linter.all false
set_option autoImplicit false
namespace Th
open PySem PySem.Spec L2 Dv
structure RndB (ws : List Wire) (ts : List Turn) (sp : List Spot1) : Prop where
 wsh : WSh ws ts sp id
 ok : SheetOk (wsheet ws ts sp)
 conn : ∀ a b, a < ts.length → b < ts.length → Plus (edge sp) a b
 ne : sp ≠ []
structure RndQ (ws : List Wire) (ts : List Turn) (sp : List Spot1) (c : Nat → Int) (s : Sheet) : Prop extends RndB ws ts sp where
 eq : s = begunS (wsheet ws ts sp) (stOf ws ts sp c)
 nn : NN sp c
 come : Come (wsheet ws ts sp) (stOf ws ts sp c)
section
variable {ws : List Wire} {ts : List Turn} {sp : List Spot1} {c : Nat → Int} {s : Sheet}
theorem come_word (h : WSh ws ts sp id) {x : Stand} (hx : Come (wsheet ws ts sp) x) : ∃ c, NN sp c ∧ x = stOf ws ts sp c := reach_word h (hx.reach (sound_word h))
theorem begun_word_spots : (begunS (wsheet ws ts sp) (stOf ws ts sp c)).spots = (remark sp c).map enc1 := by
 show List.zipWith begunP (sp.map enc1) (marksOf sp c) = _
 unfold marksOf remark
 rw [List.zipWith_map, List.zipWith_self, List.map_map]
 rfl
theorem RndB.of (h : RndB ws ts sp) {x : Stand} (hx : Come (wsheet ws ts sp) x) : ∃ c, RndQ ws ts sp c (begunS (wsheet ws ts sp) x) := by
 obtain ⟨c, nc, rfl⟩ := come_word h.wsh hx
 exact ⟨c, h, rfl, nc, hx⟩
theorem RndQ.spots (h : RndQ ws ts sp c s) : s.spots = (remark sp c).map enc1 := by rw [h.eq]; exact begun_word_spots
theorem RndQ.turns (h : RndQ ws ts sp c s) : s.turns = ts := by rw [h.eq]; rfl
theorem stOf_m : (stOf ws ts sp c).1.length = (wsheet ws ts sp).spots.length := by unfold stOf marksOf wsheet; simp
theorem stOf_v : (stOf ws ts sp c).2.length = (wsheet ws ts sp).wires.length := by unfold stOf valsOf wsheet; simp
theorem stOf_ok (h : WSh ws ts sp id) (hn : NN sp c) : StOk (wsheet ws ts sp) (stOf ws ts sp c) := by
 refine ⟨stOf_m, stOf_v, fun m hm => ?_, fun v hv => ?_⟩
 ·obtain ⟨x, hx, rfl⟩ := List.mem_map.mp hm
  have h1 := hn x hx
  have h2 := h.W.safe c hn x hx
  unfold Bit
  omega
 ·obtain ⟨w, hw, rfl⟩ := List.mem_map.mp hv
  unfold Bit
  omega
theorem RndQ.ok' (h : RndQ ws ts sp c s) : SheetOk s := by rw [h.eq]; exact begun_ok h.ok (stOf_ok h.wsh h.nn)
theorem RndQ.rnd (h : RndQ ws ts sp c s) : Rnd ts.length (remark sp c) := by
 refine ⟨h.wsh.tl, fun e => h.ne (List.map_eq_nil_iff.mp e), fun x hx => ?_, fun x hx => ?_, fun a b ha hb => (h.conn a b ha hb).mono fun _ _ => edge_remark, ?_⟩
 ·obtain ⟨y, hy, rfl⟩ := List.mem_map.mp hx
  exact h.wsh.W.lt y hy
 ·obtain ⟨y, hy, rfl⟩ := List.mem_map.mp hx
  have h1 := h.nn y hy
  have h2 := h.wsh.W.safe c h.nn y hy
  show Bit (y.2.2 + c y.1 - c y.2.1)
  unfold Bit
  omega
 ·exact ⟨_, h.wsh.W.acyc c⟩
theorem begun_begun {s : Sheet} {x y : Stand} (hm : x.1.length = s.spots.length) (hv : x.2.length = s.wires.length) : begunS (begunS s x) y = begunS s y := by
 unfold begunS
 congr 1
 ·exact zw_zw (g := begunW) (p := begunW) (q := begunW) (fun _ _ _ => rfl) hv
 ·exact zw_zw (g := begunP) (p := begunP) (q := begunP) (fun _ _ _ => rfl) hm
theorem RndQ.on (h : RndQ ws ts sp c s) {x : Stand} (hx : Come s x) : ∃ c', RndQ ws ts sp c' (begunS s x) := by
 rw [h.eq] at hx ⊢
 have hx2 := begun_come stOf_m stOf_v h.come hx
 rw [begun_begun stOf_m stOf_v]
 exact h.toRndB.of hx2
theorem RndQ.live (h : RndQ ws ts sp c s) : Live s := by
 rw [h.eq]
 exact begun_live stOf_m stOf_v (sound_word h.wsh).live h.come
end
end Th
set_option linter.all false
set_option autoImplicit false
namespace Th
open PySem PySem.Spec L2 Dv
def mxf (a b : Int) : Int := if b > a then b else a
def mx (l : List Int) : Int := l.foldl mxf 0
theorem mx_snoc (l : List Int) (b : Int) : mx (l ++ [b]) = mxf (mx l) b := by unfold mx; rw [List.foldl_append]; rfl
theorem mxf_l (a b : Int) : a ≤ mxf a b := by unfold mxf; split <;> omega
theorem mxf_r (a b : Int) : b ≤ mxf a b := by unfold mxf; split <;> omega
theorem mxf_le {a b c : Int} (h1 : a ≤ c) (h2 : b ≤ c) : mxf a b ≤ c := by unfold mxf; split <;> omega
theorem fold_mx (l : List Int) : ∀ a, a ≤ l.foldl mxf a ∧ (∀ x ∈ l, x ≤ l.foldl mxf a) ∧ ∀ B, a ≤ B → (∀ x ∈ l, x ≤ B) → l.foldl mxf a ≤ B := by
 induction l with
 | nil => exact fun a => ⟨Int.le_refl _, fun x hx => (by cases hx), fun B h _ => h⟩
 | cons y l ih =>
  intro a
  obtain ⟨h1, h2, h3⟩ := ih (mxf a y)
  rw [List.foldl_cons]
  refine ⟨Int.le_trans (mxf_l a y) h1, fun x hx => ?_, fun B ha hB => h3 B (mxf_le ha (hB y (by simp))) fun x hx => hB x (by simp [hx])⟩
  rcases List.mem_cons.mp hx with rfl | hx
  ·exact Int.le_trans (mxf_r a x) h1
  ·exact h2 x hx
theorem mx_nn (l : List Int) : 0 ≤ mx l := (fold_mx l 0).1
theorem le_mx {l : List Int} {x : Int} (h : x ∈ l) : x ≤ mx l := (fold_mx l 0).2.1 x h
theorem mx_le {l : List Int} {B : Int} (h0 : 0 ≤ B) (h : ∀ x ∈ l, x ≤ B) : mx l ≤ B := (fold_mx l 0).2.2 B h0 h
def cn (F L : Nat → Int) (k : Nat) (x : Spot1) : Int := if x.2.1 = k then (if x.2.2 = 0 then F x.1 else L x.1) else 0
def IsRow (T : Nat) (sp : List Spot1) (d L F : Nat → Int) : Prop := ∀ k, k < T → F k = mx (sp.map (cn F L k)) + d k
structure OrdOk (T : Nat) (sp : List Spot1) (o : List Nat) : Prop where
 nd : o.Nodup
 mem : ∀ j, j ∈ o ↔ j < T
 ahead : ∀ i k a, o[i]? = some k → bare sp a k → a ∈ o.take i
theorem exists_min {R : Nat → Int} : ∀ {l : List Nat}, l ≠ [] → ∃ k ∈ l, ∀ a ∈ l, R k ≤ R a
 | [], h => absurd rfl h
 | [a], _ => ⟨a, by simp, fun b hb => by simp at hb; subst hb; exact Int.le_refl _⟩
 | a :: b :: l, _ => by
  obtain ⟨k, hk, h⟩ := exists_min (R := R) (l := b :: l) (by simp)
  by_cases c : R a ≤ R k
  ·refine ⟨a, by simp, fun x hx => ?_⟩
   rcases List.mem_cons.mp hx with rfl | hx
   ·exact Int.le_refl _
   ·exact Int.le_trans c (h x hx)
  ·refine ⟨k, by simp [List.mem_cons.mp hk], fun x hx => ?_⟩
   rcases List.mem_cons.mp hx with rfl | hx
   ·omega
   ·exact h x hx
structure OrdI (T : Nat) (sp : List Spot1) (o l : List Nat) : Prop where
 nd : o.Nodup
 ndl : l.Nodup
 mem : ∀ j, j < T ↔ j ∈ o ∨ j ∈ l
 off : ∀ j ∈ l, j ∉ o
 ahead : ∀ i k a, o[i]? = some k → bare sp a k → a ∈ o.take i
def waits (sp : List Spot1) (l : List Nat) : List Nat := (sp.filter fun x => decide (x.2.2 = 0) && decide (x.1 ∈ l)).map (·.2.1)
theorem mem_waits {sp : List Spot1} {l : List Nat} {k : Nat} : k ∈ waits sp l ↔ ∃ a ∈ l, bare sp a k := by
 unfold waits bare
 rw [List.mem_map]
 constructor
 ·rintro ⟨⟨a, b, m⟩, h, rfl⟩
  obtain ⟨h1, h2⟩ := List.mem_filter.mp h
  simp at h2
  exact ⟨a, h2.2, by rw [← h2.1]; exact h1⟩
 ·rintro ⟨a, ha, h⟩
  exact ⟨(a, k, 0), List.mem_filter.mpr ⟨h, by simp [ha]⟩, rfl⟩
section
variable {T : Nat} {sp : List Spot1} {o l : List Nat}
theorem OrdI.start : OrdI T sp [] (List.range T) := ⟨List.nodup_nil, List.nodup_range, fun j => by simp, fun j _ => by simp, fun i k a h => by simp at h⟩
theorem OrdI.step (hR : Rnd T sp) (h : OrdI T sp o l) : OrdI T sp (o ++ l.filter fun k => decide (k ∉ waits sp l)) (l.filter fun k => decide (k ∈ waits sp l)) := by
 refine ⟨?_, h.ndl.filter _, fun j => ?_, fun j hj => ?_, fun i k a hk hb => ?_⟩
 ·rw [List.nodup_append]
  refine ⟨h.nd, h.ndl.filter _, fun a ha b hb e => ?_⟩
  subst e
  exact h.off a (List.mem_filter.mp hb).1 ha
 ·rw [h.mem j, List.mem_append, List.mem_filter, List.mem_filter]
  by_cases c : j ∈ waits sp l
  ·simp [c]
  ·simp [c]
 ·obtain ⟨h1, h2⟩ := List.mem_filter.mp hj
  simp at h2
  rw [List.mem_append, List.mem_filter]
  rintro (c | c)
  ·exact h.off j h1 c
  ·simp at c; exact c.2 h2
 ·by_cases c : i < o.length
  ·rw [List.getElem?_append_left c] at hk
   rw [List.take_append_of_le_length (by omega)]
   exact h.ahead i k a hk hb
  ·rw [List.getElem?_append_right (by omega)] at hk
   obtain ⟨m1, m2⟩ := List.mem_filter.mp (List.mem_of_getElem? hk)
   simp at m2
   have ha : a < T := (hR.lt _ hb).1
   rcases (h.mem a).mp ha with z | z
   ·rw [List.take_append]
    refine List.mem_append_left _ ?_
    rw [List.take_of_length_le (by omega)]
    exact z
   ·exact absurd (mem_waits.mpr ⟨a, z, hb⟩) m2
theorem OrdI.less (hR : Rnd T sp) (h : OrdI T sp o l) (hl : l ≠ []) : (l.filter fun k => decide (k ∈ waits sp l)).length < l.length := by
 obtain ⟨R, hr⟩ := hR.acyc
 obtain ⟨k, hk, hm⟩ := exists_min (R := R) hl
 refine Nat.lt_of_le_of_ne (List.length_filter_le _ _) fun e => ?_
 have := (List.filter_eq_self.mp (List.Sublist.eq_of_length List.filter_sublist e)) k hk
 simp at this
 obtain ⟨a, ha, hb⟩ := mem_waits.mp this
 have := hr _ _ hb
 have := hm a ha
 omega
theorem OrdI.fin (h : OrdI T sp o []) : OrdOk T sp o := ⟨h.nd, fun j => by rw [h.mem j]; simp, h.ahead⟩
end
section
variable {T : Nat} {sp : List Spot1} {o : List Nat} {d L F G : Nat → Int} {x : Spot1} {p i k : Nat}
theorem IsRow.le (h : IsRow T sp d L F) (hx : x ∈ sp) (hk : x.2.1 < T) : (if x.2.2 = 0 then F x.1 else L x.1) + d x.2.1 ≤ F x.2.1 := by
 have e := h _ hk
 have := le_mx (List.mem_map.mpr ⟨x, hx, rfl⟩ : cn F L x.2.1 x ∈ sp.map (cn F L x.2.1))
 have e2 : cn F L x.2.1 x = if x.2.2 = 0 then F x.1 else L x.1 := by unfold cn; rw [if_pos rfl]
 rw [e2] at this
 omega
structure Rel (T : Nat) (sp : List Spot1) (o : List Nat) (d L F : Nat → Int) (p : Nat) (G : Nat → Int) : Prop where
 lo : ∀ k, k < T → d k ≤ G k
 up : ∀ k, k < T → G k ≤ F k
 mrk : ∀ x ∈ sp, x.2.2 ≠ 0 → L x.1 + d x.2.1 ≤ G x.2.1
 eq : ∀ k ∈ o.take p, G k = F k
def putF (G : Nat → Int) (k : Nat) (v : Int) : Nat → Int := fun j => if j = k then v else G j
theorem put_ge {v : Int} (h : G k ≤ v) (j : Nat) : G j ≤ putF G k v j := by unfold putF; split <;> simp_all
theorem Rel.relax (hR : Rnd T sp) (hF : IsRow T sp d L F) (h : Rel T sp o d L F p G) (hx : x ∈ sp) (h0 : x.2.2 = 0) : Rel T sp o d L F p (putF G x.2.1 (mxf (G x.2.1) (G x.1 + d x.2.1))) := by
 have ⟨l1, l2⟩ := hR.lt x hx
 have le := hF.le hx l2
 rw [if_pos h0] at le
 have u1 := h.up _ l1
 have hv : mxf (G x.2.1) (G x.1 + d x.2.1) ≤ F x.2.1 := mxf_le (h.up _ l2) (by omega)
 have ge := fun j => put_ge (G := G) (k := x.2.1) (mxf_l (G x.2.1) (G x.1 + d x.2.1)) j
 have up : ∀ k, k < T → putF G x.2.1 (mxf (G x.2.1) (G x.1 + d x.2.1)) k ≤ F k := fun k hk => by
  unfold putF
  split
  ·next e => rw [e]; exact hv
  ·exact h.up k hk
 refine ⟨fun k hk => Int.le_trans (h.lo k hk) (ge k), up, fun y hy e => Int.le_trans (h.mrk y hy e) (ge _), fun k hk => ?_⟩
 have e := h.eq k hk
 unfold putF
 split
 ·next e1 =>
  subst e1
  have := mxf_l (G x.2.1) (G x.1 + d x.2.1)
  omega
 ·exact e
theorem Rel.next (hR : Rnd T sp) (hO : OrdOk T sp o) (hF : IsRow T sp d L F) (h : Rel T sp o d L F p G) (ek : o[p]? = some k) (hd : 0 ≤ d k) (hs : ∀ x ∈ sp, x.2.1 = k → x.2.2 = 0 → F x.1 + d k ≤ G k) : Rel T sp o d L F (p + 1) G := by
 refine ⟨h.lo, h.up, h.mrk, fun j hj => ?_⟩
 rw [List.take_add_one, ek] at hj
 rcases List.mem_append.mp hj with hj | hj
 ·exact h.eq j hj
 ·simp at hj
  subst hj
  have kT : j < T := (hO.mem j).mp (List.mem_of_getElem? ek)
  refine Int.le_antisymm (h.up j kT) ?_
  rw [hF j kT]
  have lo := h.lo j kT
  have : mx (sp.map (cn F L j)) ≤ G j - d j := mx_le (by omega) fun y hy => by
   obtain ⟨x, hx, rfl⟩ := List.mem_map.mp hy
   unfold cn
   split
   ·next e =>
    split
    ·next e0 => have := hs x hx e e0; omega
    ·next e0 => have := h.mrk x hx e0; rw [e] at this; omega
   ·omega
  omega
end
end Th
set_option linter.all false
set_option autoImplicit false
namespace Th
open PySem PySem.Spec L2 Dv
section
variable {T : Nat} {sp : List Spot1} {o : List Nat} {d L F G : Nat → Int} {x : Spot1} {p i j k : Nat}
structure RelM (T : Nat) (sp : List Spot1) (d L F : Nat → Int) (j : Nat) (G : Nat → Int) : Prop where
 lo : ∀ k, k < T → d k ≤ G k
 up : ∀ k, k < T → G k ≤ F k
 mrk : ∀ x ∈ sp.take j, x.2.2 ≠ 0 → L x.1 + d x.2.1 ≤ G x.2.1
theorem RelM.start (hF : IsRow T sp d L F) : RelM T sp d L F 0 d := ⟨fun k _ => Int.le_refl _, fun k hk => by have := hF k hk; have := mx_nn (sp.map (cn F L k)); omega, fun x hx => by simp at hx⟩
theorem RelM.skip (h : RelM T sp d L F j G) (ex : sp[j]? = some x) (hx : x.2.2 ≠ 0 → L x.1 + d x.2.1 ≤ G x.2.1) : RelM T sp d L F (j + 1) G := by
 refine ⟨h.lo, h.up, fun y hy e => ?_⟩
 rw [List.take_add_one, ex] at hy
 rcases List.mem_append.mp hy with hy | hy
 ·exact h.mrk y hy e
 ·simp at hy; subst hy; exact hx e
theorem RelM.add (hR : Rnd T sp) (hF : IsRow T sp d L F) (h : RelM T sp d L F j G) (ex : sp[j]? = some x) (hn : x.2.2 ≠ 0) : RelM T sp d L F (j + 1) (putF G x.2.1 (mxf (G x.2.1) (L x.1 + d x.2.1))) := by
 have hx := List.mem_of_getElem? ex
 have ⟨l1, l2⟩ := hR.lt x hx
 have le := hF.le hx l2
 rw [if_neg hn] at le
 have hv : mxf (G x.2.1) (L x.1 + d x.2.1) ≤ F x.2.1 := mxf_le (h.up _ l2) (by omega)
 have ge := fun i => put_ge (G := G) (k := x.2.1) (mxf_l (G x.2.1) (L x.1 + d x.2.1)) i
 refine ⟨fun k hk => Int.le_trans (h.lo k hk) (ge k), fun k hk => ?_, fun y hy e => ?_⟩
 ·unfold putF
  split
  ·next e => rw [e]; exact hv
  ·exact h.up k hk
 ·rw [List.take_add_one, ex] at hy
  rcases List.mem_append.mp hy with hy | hy
  ·exact Int.le_trans (h.mrk y hy e) (ge _)
  ·simp at hy; subst hy
   unfold putF
   rw [if_pos rfl]
   exact mxf_r _ _
theorem RelM.rel (h : RelM T sp d L F sp.length G) : Rel T sp o d L F 0 G := ⟨h.lo, h.up, fun x hx => h.mrk x (by rw [List.take_length]; exact hx), fun k hk => by simp at hk⟩
def Pass (sp : List Spot1) (d F : Nat → Int) (k j : Nat) (G : Nat → Int) : Prop := ∀ x ∈ sp.take j, x.2.1 = k → x.2.2 = 0 → F x.1 + d k ≤ G k
theorem Pass.skip (h : Pass sp d F k j G) (ex : sp[j]? = some x) (hn : x.2.2 ≠ 0) : Pass sp d F k (j + 1) G := fun y hy e1 e2 => by
 rw [List.take_add_one, ex] at hy
 rcases List.mem_append.mp hy with hy | hy
 ·exact h y hy e1 e2
 ·simp at hy; subst hy; exact absurd e2 hn
theorem Pass.add (hO : OrdOk T sp o) (hr : Rel T sp o d L F p G) (ek : o[p]? = some k) (h : Pass sp d F k j G) (ex : sp[j]? = some x) (h0 : x.2.2 = 0) : Pass sp d F k (j + 1) (putF G x.2.1 (mxf (G x.2.1) (G x.1 + d x.2.1))) := fun y hy e1 e2 => by
 have ge := fun i => put_ge (G := G) (k := x.2.1) (mxf_l (G x.2.1) (G x.1 + d x.2.1)) i
 rw [List.take_add_one, ex] at hy
 rcases List.mem_append.mp hy with hy | hy
 ·exact Int.le_trans (h y hy e1 e2) (ge _)
 ·simp at hy; subst hy
  have hb : bare sp y.1 k := by
   have : y = (y.1, k, (0 : Int)) := by rw [← e1, ← e2]
   show (y.1, k, (0 : Int)) ∈ sp
   rw [← this]; exact List.mem_of_getElem? ex
  have e := hr.eq y.1 (hO.ahead p k y.1 ek hb)
  unfold putF
  rw [if_pos e1.symm]
  have := mxf_r (G y.2.1) (G y.1 + d y.2.1)
  rw [e1] at this ⊢
  omega
def lastF : Option (Nat → Int) → Nat → Int
 | none => fun _ => 0
 | some L => L
def RowsOk (T : Nat) (sp : List Spot1) (d : Nat → Int) (rows : List (Nat → Int)) : Prop := ∀ i F, rows[i]? = some F → IsRow T sp d (lastF (rows.take i).getLast?) F
theorem RowsOk.nil : RowsOk T sp d [] := fun i F h => by simp at h
theorem RowsOk.snoc {rows : List (Nat → Int)} (h : RowsOk T sp d rows) (hF : IsRow T sp d (lastF rows.getLast?) F) : RowsOk T sp d (rows ++ [F]) := fun i H e => by
 by_cases c : i < rows.length
 ·rw [List.getElem?_append_left c] at e
  rw [List.take_append_of_le_length (by omega)]
  exact h i H e
 ·rw [List.getElem?_append_right (by omega)] at e
  have hi : i = rows.length := by
   have := (List.getElem?_eq_some_iff.mp e).1
   simp at this
   omega
  subst hi
  simp at e
  subst e
  rw [List.take_append_of_le_length (by omega), List.take_length]
  exact hF
theorem OrdOk.len (h : OrdOk T sp o) : o.length = T := by
 have h1 := nodup_le (l := List.range T) (m := o) List.nodup_range fun j hj => (h.mem j).mpr (List.mem_range.mp hj)
 have h2 := nodup_le (l := o) (m := List.range T) h.nd fun j hj => List.mem_range.mpr ((h.mem j).mp hj)
 rw [List.length_range] at h1 h2
 omega
end
end Th
set_option linter.all false
set_option autoImplicit false
namespace Th
open PySem PySem.Spec L2 Dv
section
variable {T : Nat} {sp : List Spot1} {o : List Nat} {d L F : Nat → Int} {B : Int}
theorem IsRow.bound (hR : Rnd T sp) (hO : OrdOk T sp o) (hF : IsRow T sp d L F) (hd : ∀ k, k < T → 0 ≤ d k ∧ d k ≤ 1000000) (hB : 0 ≤ B) (hL : ∀ k, k < T → L k ≤ B) : ∀ (p k : Nat), o[p]? = some k → 0 ≤ F k ∧ F k ≤ B + 1000000 * ((p : Int) + 1) := fun p => by
 induction p using Nat.strongRecOn with
 | ind p ih =>
  intro k ek
  have kT : k < T := (hO.mem k).mp (List.mem_of_getElem? ek)
  have ⟨d0, d1⟩ := hd k kT
  have n0 := mx_nn (sp.map (cn F L k))
  have le : mx (sp.map (cn F L k)) ≤ B + 1000000 * (p : Int) := mx_le (by omega) fun y hy => by
   obtain ⟨x, hx, rfl⟩ := List.mem_map.mp hy
   unfold cn
   split
   ·next e1 =>
    split
    ·next e2 =>
     have hb : bare sp x.1 k := by
      have : x = (x.1, k, (0 : Int)) := by rw [← e1, ← e2]
      show (x.1, k, (0 : Int)) ∈ sp
      rw [← this]; exact hx
     obtain ⟨j, hj, e⟩ := List.getElem_of_mem (hO.ahead p k x.1 ek hb)
     rw [List.length_take] at hj
     rw [List.getElem_take] at e
     have := (ih j (by omega) x.1 (List.getElem?_eq_some_iff.mpr ⟨by omega, e⟩)).2
     omega
    ·have := hL x.1 (hR.lt x hx).1
     omega
   ·omega
  rw [hF k kT]
  omega
theorem IsRow.bound24 (hR : Rnd T sp) (hO : OrdOk T sp o) (hF : IsRow T sp d L F) (hd : ∀ k, k < T → 0 ≤ d k ∧ d k ≤ 1000000) (hB : 0 ≤ B) (hL : ∀ k, k < T → L k ≤ B) (hT : T ≤ 24) : ∀ k, k < T → 0 ≤ F k ∧ F k ≤ B + 24000000 := fun k hk => by
 obtain ⟨p, hp, e⟩ := List.getElem_of_mem ((hO.mem k).mpr hk)
 have ol := hO.len
 have := hF.bound hR hO hd hB hL p k (List.getElem?_eq_some_iff.mpr ⟨hp, e⟩)
 omega
theorem RowsOk.bound {rows : List (Nat → Int)} (hR : Rnd T sp) (hO : OrdOk T sp o) (h : RowsOk T sp d rows) (hd : ∀ k, k < T → 0 ≤ d k ∧ d k ≤ 1000000) (hT : T ≤ 24) : ∀ (i : Nat) (F : Nat → Int), rows[i]? = some F → ∀ k, k < T → 0 ≤ F k ∧ F k ≤ 24000000 * ((i : Int) + 1) := fun i => by
 induction i with
 | zero =>
  intro F e k hk
  have := (h 0 F e).bound24 hR hO hd (B := 0) (by omega) (fun k hk => by show (0 : Int) ≤ 0; omega) hT k hk
  omega
 | succ i ih =>
  intro F e k hk
  have hi : i + 1 < rows.length := (List.getElem?_eq_some_iff.mp e).1
  have ei : rows[i]? = some (rows[i]'(by omega)) := List.getElem?_eq_getElem (by omega)
  have row := h (i + 1) F e
  rw [List.take_add_one, ei] at row
  have row : IsRow T sp d (lastF (rows.take i ++ [rows[i]'(by omega)]).getLast?) F := row
  rw [List.getLast?_concat] at row
  have := row.bound24 hR hO hd (B := 24000000 * ((i : Int) + 1)) (by omega) (fun k hk => (ih _ ei k hk).2) hT k hk
  omega
end
end Th
set_option Elab.async false
set_option linter.all false
set_option maxRecDepth 100000
set_option maxHeartbeats 4000000
set_option autoImplicit false
namespace My
open PySem PySem.Spec L2 Dv
def topS (i : Nat) : Stmt := PySem.Challenge.pw_delaygates_k51_times_told.main.body.getD i (.Pass ⟨0, 0, 0, 0⟩)
structure Mg (mg : Str → Option Value) : Prop where
 b_abs : mg "abs" = none
 b_any : mg "any" = none
 b_bool : mg "bool" = none
 b_enumerate : mg "enumerate" = none
 b_int : mg "int" = none
 b_isinstance : mg "isinstance" = none
 b_len : mg "len" = none
 b_list : mg "list" = none
 b_max : mg "max" = none
 b_min : mg "min" = none
 b_range : mg "range" = none
 b_repr : mg "repr" = none
 b_set : mg "set" = none
 b_sorted : mg "sorted" = none
 b_sum : mg "sum" = none
 b_tuple : mg "tuple" = none
 b_zip : mg "zip" = none
 c_MOST_DELAY : ∃ t, mg "MOST_DELAY" = some (.int 1000000 t)
section
variable {Pg : Program} {w : World} {K : PySem.W.Frag} {mg : Str → Option Value} {base : Heap}
abbrev s_led_from : Stmt := topS 5
abbrev N_led_from : List Str := ["sheet", "start", "bare", "found", "left", "here", "befores", "behinds", "mark"]
abbrev P_led_from : List Bool := [false, false, false]
theorem sc_led_from : FnScope N_led_from ["sheet", "start", "bare"] (defScope s_led_from) := ⟨rfl, rfl, rfl, by decide +kernel, rfl, by decide +kernel, by decide +kernel⟩
def g_led_from_L8 : DS :=
  (dDrop (dMut P_led_from "list" 4 appendD (dCons (dBin ixD (dVar 7) (dC (.int 0))) dNil)))
def g_led_from_L6 : DS :=
  (dIf (dAnd (dTest (dBin eqD (dBin ixD (dVar 6) (dC (.int 0))) (dVar 5))) (dAnd (dTest (dBin (inD false) (dBin ixD (dVar 7) (dC (.int 0))) (dVar 3))) (dOr (dTest (dBin eqD (dVar 8) (dC (.int 0)))) (dNot (dTest (dVar 2))))))
     (dSeq (dDrop (dMut P_led_from "list" 3 appendD (dCons (dBin ixD (dVar 7) (dC (.int 0))) dNil)))
     (g_led_from_L8))
     dNext)
def g_led_from_L5 : DS :=
  (dFor (dSeqI P_led_from (dBin ixD (dVar 0) (dC (.int 2)))) (gTup' 3 (gCons' (gN 6) (gCons' (gN 7) (gCons' (gN 8) gNil'))))
    (g_led_from_L6))
def g_led_from_L4 : DS :=
  (dSeq (dSet P_led_from 5 (dMut0 "list" 4 popD))
   (g_led_from_L5))
def g_led_from_L9 : DS :=
  (dRet P_led_from (dVar 3))
def g_led_from_L3 : DS :=
  (dSeq (dWhile (dTest (dBin neD (dVar 4) (dFroz (dLst P_led_from dNil))))
   (g_led_from_L4))
  (g_led_from_L9))
def g_led_from_L2 : DS :=
  (dSeq (dSetO 4 (dLst P_led_from (dCons (dVar 1) dNil)))
  (g_led_from_L3))
def g_led_from : DS :=
  (dSeq (dSetO 3 (dLst P_led_from dNil))
  (g_led_from_L2))
theorem d_led_from {k : Nat} {f : Addr} {cdv : Value} {A : Around} {outer : List Env} {s : Shared} {H : Hp} {E : XK} {C : FC} (T : Mg mg)
  (hr : RG k (A.deeper (PyProof.Rows.envOfC "led_from" (defScope s_led_from) s.heap.objs.size f cdv))) (hP : C.Tags P_led_from) :
  QSs (cxOf CX0 Pg w K mg base N_led_from "led_from" (defScope s_led_from) f cdv A outer s H E).nox C (defBody s_led_from) (g_led_from) :=
  have nd := sc_led_from.nd
  (s_cons (s_setO (i := 3) hP nd (o_lst hP a_nil))
  (s_cons (s_setO (i := 4) hP nd (o_lst hP (a_cons (qv 1) a_nil)))
  (s_cons (s_while PassesOwn.never (t_ne hr.r (qv 4) (q_froz (o_lst hP a_nil)))
   (s_cons (s_set (i := 5) hP nd (m_pop (i := 4)))
   (s_one (s_for PassesOwn.never rfl (i_seq hP (q_idx hr.r (qv 0) q_int)) (g_tup rfl (gs_cons (g_name (i := 6) hP nd) (gs_cons (g_name (i := 7) hP nd) (gs_cons (g_name (i := 8) hP nd) gs_nil))))
    (s_one (s_if (t_w (w_and (t_eq hr.r (q_idx hr.r (qv 6) q_int) (qv 5)) (w_and (t_notin (q_idx hr.r (qv 7) q_int) (qv 3)) (w_and1 (t_w (w_or (t_eq hr.r (qv 8) q_int) (w_or1 (t_not (t_val (qv 2))))))))))
     (s_cons (s_expr (m_append (i := 3) hP (a_cons (q_idx hr.r (qv 7) q_int) a_nil)))
     (s_one (s_expr (m_append (i := 4) hP (a_cons (q_idx hr.r (qv 7) q_int) a_nil)))))
     s_nil))))))
  (s_one (s_ret hP (qv 3))))))
theorem at_led_from {k : Nat} {S : SpD} (T : Mg mg) (FA : FunAt K mg "led_from" s_led_from ["sheet", "start", "bare"])
  (pure : ∀ ds q, S ds q → ds.length = P_led_from.length → g_led_from (endsOf P_led_from q) (startE N_led_from.length P_led_from ds)) : FnAt Pg w K mg base (k + 1) "led_from" ["sheet", "start", "bare"] P_led_from S :=
  fn_at FA sc_led_from rfl (by decide) (fun f cdv A outer s H E C hr hP => d_led_from T hr hP) pure
abbrev s_is_round : Stmt := topS 6
abbrev N_is_round : List Str := ["sheet", "wires", "turns", "spots", "k", "spot"]
abbrev P_is_round : List Bool := [false]
theorem sc_is_round : FnScope N_is_round ["sheet"] (defScope s_is_round) := ⟨rfl, rfl, rfl, by decide +kernel, rfl, by decide +kernel, by decide +kernel⟩
def g_is_round_L5 (S_led_from : SpD) : DS :=
  (dIf (dOr (dTest (dBin ltD (dCB lenD (dCons (dCall P_is_round [false, false, false] S_led_from (dCons (dVar 0) (dCons (dVar 4) (dCons (dC (.bool false)) dNil)))) dNil)) (dCB lenD (dCons (dVar 2) dNil)))) (dTest (dBin (inD true) (dVar 4) (dCall P_is_round [false, false, false] S_led_from (dCons (dVar 0) (dCons (dVar 4) (dCons (dC (.bool true)) dNil)))))))
    (dRet P_is_round (dC (.bool false)))
    dNext)
def g_is_round_L7 (S_led_from : SpD) : DS :=
  (dRet P_is_round (dC (.bool true)))
def g_is_round_L4 (S_led_from : SpD) : DS :=
  (dSeq (dFor (dRng1 (dCons (dCB lenD (dCons (dVar 2) dNil)) dNil)) (gN 4)
   (g_is_round_L5 S_led_from))
  (g_is_round_L7 S_led_from))
def g_is_round_L2 (S_led_from : SpD) : DS :=
  (dSeq (dIf (dOr (dTest (dBin eqD (dVar 3) (dTup P_is_round dNil))) (dTest (dCB anyD (dCons (dFroz (dLc P_is_round (dSeqI P_is_round (dVar 3)) (gN 5) dYes (dOrV (dBin gtD (dCB lenD (dCons (dBin ixD (dVar 5) (dC (.int 0))) dNil)) (dC (.int 1))) (dBin gtD (dCB lenD (dCons (dBin ixD (dVar 5) (dC (.int 1))) dNil)) (dC (.int 1)))) [5])) dNil))))
   (dRet P_is_round (dC (.bool false)))
   dNext)
  (g_is_round_L4 S_led_from))
def g_is_round (S_led_from : SpD) : DS :=
  (dSeq (dAsg P_is_round (dVar 0) (gTup' 3 (gCons' (gN 1) (gCons' (gN 2) (gCons' (gN 3) gNil')))))
  (g_is_round_L2 S_led_from))
theorem d_is_round {S_led_from : SpD} {k : Nat} {f : Addr} {cdv : Value} {A : Around} {outer : List Env} {s : Shared} {H : Hp} {E : XK} {C : FC} (T : Mg mg) (h_led_from : FnAt Pg w K mg base k "led_from" ["sheet", "start", "bare"] [false, false, false] S_led_from)
  (hr : RG k (A.deeper (PyProof.Rows.envOfC "is_round" (defScope s_is_round) s.heap.objs.size f cdv))) (hP : C.Tags P_is_round) :
  QSs (cxOf CX0 Pg w K mg base N_is_round "is_round" (defScope s_is_round) f cdv A outer s H E).nox C (defBody s_is_round) (g_is_round S_led_from) :=
  have nd := sc_is_round.nd
  (s_cons (s_asg hP (qv 0) (g_tup rfl (gs_cons (g_name (i := 1) hP nd) (gs_cons (g_name (i := 2) hP nd) (gs_cons (g_name (i := 3) hP nd) gs_nil)))))
  (s_cons (s_if (t_w (w_or (t_eq hr.r (qv 3) (q_tup hP a_nil)) (w_or1 (t_val (q_any rfl T.b_any (a_cons (q_froz (o_lc (own := [("spot", 5)]) hP rfl nd (i_seq hP (qv 3)) (blkOk_by (own := [("spot", 5)]) (N := N_is_round) (sc := defScope s_is_round) (by decide +kernel)) (fun _ _ _ _ _ => pg_name (i := 5) nd rfl (Or.inl rfl)) (tgt_name (i := 5) (by decide) (by decide)) (fun _ _ _ _ _ _ _ => ts_nil) (fun _ _ _ _ _ _ hP => (q_or (q_gt (q_len T.b_len (a_cons (q_idx hr.r (qv 5) q_int) a_nil)) q_int) (q_one (q_gt (q_len T.b_len (a_cons (q_idx hr.r (qv 5) q_int) a_nil)) q_int)))))) a_nil))))))
   (s_one (s_ret hP q_bl))
   s_nil)
  (s_cons (s_for PassesOwn.never rfl (i_range1 T.b_range (a_cons (q_len T.b_len (a_cons (qv 2) a_nil)) a_nil)) (g_name (i := 4) hP nd)
   (s_one (s_if (t_w (w_or (t_lt (q_len T.b_len (a_cons (q_callF hP h_led_from hr (a_cons (qv 0) (a_cons (qv 4) (a_cons q_bl a_nil)))) a_nil)) (q_len T.b_len (a_cons (qv 2) a_nil))) (w_or1 (t_in (qv 4) (q_callF hP h_led_from hr (a_cons (qv 0) (a_cons (qv 4) (a_cons q_bl a_nil))))))))
    (s_one (s_ret hP q_bl))
    s_nil)))
  (s_one (s_ret hP q_bl)))))
theorem at_is_round {S_led_from : SpD} {k : Nat} {S : SpD} (T : Mg mg) (FA : FunAt K mg "is_round" s_is_round ["sheet"]) (h_led_from : FnAt Pg w K mg base k "led_from" ["sheet", "start", "bare"] [false, false, false] S_led_from)
  (pure : ∀ ds q, S ds q → ds.length = P_is_round.length → g_is_round S_led_from (endsOf P_is_round q) (startE N_is_round.length P_is_round ds)) : FnAt Pg w K mg base (k + 1) "is_round" ["sheet"] P_is_round S :=
  fn_at FA sc_is_round rfl (by decide) (fun f cdv A outer s H E C hr hP => d_is_round T h_led_from hr hP) pure
abbrev s_are_delays : Stmt := topS 7
abbrev N_are_delays : List Str := ["sheet", "thing", "delay"]
abbrev P_are_delays : List Bool := [false, false]
theorem sc_are_delays : FnScope N_are_delays ["sheet", "thing"] (defScope s_are_delays) := ⟨rfl, rfl, rfl, by decide +kernel, rfl, by decide +kernel, by decide +kernel⟩
def g_are_delays_L4 : DS :=
  (dIf (dOr (dNot (dTest (dIsi "int" (dVar 2)))) (dOr (dTest (dIsi "bool" (dVar 2))) (dNot (dTest (dChain leD leD (dC (.int 0)) (dVar 2) (dC (.int 1000000)))))))
    (dRet P_are_delays (dC (.bool false)))
    dNext)
def g_are_delays_L6 : DS :=
  (dRet P_are_delays (dC (.bool true)))
def g_are_delays_L3 : DS :=
  (dSeq (dFor (dSeqI P_are_delays (dVar 1)) (gN 2)
   (g_are_delays_L4))
  (g_are_delays_L6))
def g_are_delays : DS :=
  (dSeq (dIf (dOr (dNot (dTest (dIsi "tuple" (dVar 1)))) (dTest (dBin neD (dCB lenD (dCons (dVar 1) dNil)) (dCB lenD (dCons (dBin ixD (dVar 0) (dC (.int 1))) dNil)))))
   (dRet P_are_delays (dC (.bool false)))
   dNext)
  (g_are_delays_L3))
theorem d_are_delays {k : Nat} {f : Addr} {cdv : Value} {A : Around} {outer : List Env} {s : Shared} {H : Hp} {E : XK} {C : FC} (T : Mg mg)
  (hr : RG k (A.deeper (PyProof.Rows.envOfC "are_delays" (defScope s_are_delays) s.heap.objs.size f cdv))) (hP : C.Tags P_are_delays) :
  QSs (cxOf CX0 Pg w K mg base N_are_delays "are_delays" (defScope s_are_delays) f cdv A outer s H E).nox C (defBody s_are_delays) (g_are_delays) :=
  have nd := sc_are_delays.nd
  (s_cons (s_if (t_w (w_or (t_not (t_val (q_isi (T := "tuple") (by decide) T.b_isinstance T.b_tuple (by decide +kernel) (qv 1)))) (w_or1 (t_ne hr.r (q_len T.b_len (a_cons (qv 1) a_nil)) (q_len T.b_len (a_cons (q_idx hr.r (qv 0) q_int) a_nil))))))
   (s_one (s_ret hP q_bl))
   s_nil)
  (s_cons (s_for PassesOwn.never rfl (i_seq hP (qv 1)) (g_name (i := 2) hP nd)
   (s_one (s_if (t_w (w_or (t_not (t_val (q_isi (T := "int") (by decide) T.b_isinstance T.b_int (by decide +kernel) (qv 2)))) (w_or (t_val (q_isi (T := "bool") (by decide) T.b_isinstance T.b_bool (by decide +kernel) (qv 2))) (w_or1 (t_not (t_lele q_int (qv 2) (q_gint' T.c_MOST_DELAY)))))))
    (s_one (s_ret hP q_bl))
    s_nil)))
  (s_one (s_ret hP q_bl))))
theorem at_are_delays {k : Nat} {S : SpD} (T : Mg mg) (FA : FunAt K mg "are_delays" s_are_delays ["sheet", "thing"])
  (pure : ∀ ds q, S ds q → ds.length = P_are_delays.length → g_are_delays (endsOf P_are_delays q) (startE N_are_delays.length P_are_delays ds)) : FnAt Pg w K mg base (k + 1) "are_delays" ["sheet", "thing"] P_are_delays S :=
  fn_at FA sc_are_delays rfl (by decide) (fun f cdv A outer s H E C hr hP => d_are_delays T hr hP) pure
abbrev s_look_at : Stmt := topS 8
abbrev N_look_at : List Str := ["sheet", "delays"]
abbrev P_look_at : List Bool := [false, false]
theorem sc_look_at : FnScope N_look_at ["sheet", "delays"] (defScope s_look_at) := ⟨rfl, rfl, rfl, by decide +kernel, rfl, by decide +kernel, by decide +kernel⟩
def g_look_at (S_is_round S_are_delays : SpD) : DS :=
  (dIf (dOr (dNot (dTest (dCall P_look_at [false] S_is_round (dCons (dVar 0) dNil)))) (dNot (dTest (dCall P_look_at [false, false] S_are_delays (dCons (dVar 0) (dCons (dVar 1) dNil))))))
   dNever
   dNext)
theorem d_look_at {S_is_round S_are_delays : SpD} {k : Nat} {f : Addr} {cdv : Value} {A : Around} {outer : List Env} {s : Shared} {H : Hp} {E : XK} {C : FC} (T : Mg mg) (h_is_round : FnAt Pg w K mg base k "is_round" ["sheet"] [false] S_is_round) (h_are_delays : FnAt Pg w K mg base k "are_delays" ["sheet", "thing"] [false, false] S_are_delays)
  (hr : RG k (A.deeper (PyProof.Rows.envOfC "look_at" (defScope s_look_at) s.heap.objs.size f cdv))) (hP : C.Tags P_look_at) :
  QSs (cxOf CX0 Pg w K mg base N_look_at "look_at" (defScope s_look_at) f cdv A outer s H E).nox C (defBody s_look_at) (g_look_at S_is_round S_are_delays) :=
  have nd := sc_look_at.nd
  (s_one (s_if (t_w (w_or (t_not (t_val (q_callF hP h_is_round hr (a_cons (qv 0) a_nil)))) (w_or1 (t_not (t_val (q_callF hP h_are_delays hr (a_cons (qv 0) (a_cons (qv 1) a_nil))))))))
   (s_one s_never)
   s_nil))
theorem at_look_at {S_is_round S_are_delays : SpD} {k : Nat} {S : SpD} (T : Mg mg) (FA : FunAt K mg "look_at" s_look_at ["sheet", "delays"]) (h_is_round : FnAt Pg w K mg base k "is_round" ["sheet"] [false] S_is_round) (h_are_delays : FnAt Pg w K mg base k "are_delays" ["sheet", "thing"] [false, false] S_are_delays)
  (pure : ∀ ds q, S ds q → ds.length = P_look_at.length → g_look_at S_is_round S_are_delays (endsOf P_look_at q) (startE N_look_at.length P_look_at ds)) : FnAt Pg w K mg base (k + 1) "look_at" ["sheet", "delays"] P_look_at S :=
  fn_at FA sc_look_at rfl (by decide) (fun f cdv A outer s H E C hr hP => d_look_at T h_is_round h_are_delays hr hP) pure
abbrev s_in_order : Stmt := topS 9
abbrev N_in_order : List Str := ["sheet", "found", "left", "waiting", "ready", "spot", "k"]
abbrev P_in_order : List Bool := [false]
theorem sc_in_order : FnScope N_in_order ["sheet"] (defScope s_in_order) := ⟨rfl, rfl, rfl, by decide +kernel, rfl, by decide +kernel, by decide +kernel⟩
def g_in_order_L7 : DS :=
  (dSet P_in_order 2 (dFroz (dLc P_in_order (dSeqI P_in_order (dVar 2)) (gN 6) (dTest (dBin (inD true) (dVar 6) (dVar 3))) (dVar 6) [6])))
def g_in_order_L6 : DS :=
  (dSeq (dSet P_in_order 1 (dBin addAD (dVar 1) (dVar 4)))
   (g_in_order_L7))
def g_in_order_L5 : DS :=
  (dSeq (dSet P_in_order 4 (dFroz (dLc P_in_order (dSeqI P_in_order (dVar 2)) (gN 6) (dTest (dBin (inD false) (dVar 6) (dVar 3))) (dVar 6) [6])))
   (g_in_order_L6))
def g_in_order_L4 : DS :=
  (dSeq (dSet P_in_order 3 (dFroz (dLc P_in_order (dSeqI P_in_order (dBin ixD (dVar 0) (dC (.int 2)))) (gN 5) (dAnd (dTest (dBin eqD (dBin ixD (dVar 5) (dC (.int 2))) (dC (.int 0)))) (dTest (dBin (inD true) (dBin ixD (dBin ixD (dVar 5) (dC (.int 0))) (dC (.int 0))) (dVar 2)))) (dBin ixD (dBin ixD (dVar 5) (dC (.int 1))) (dC (.int 0))) [5])))
   (g_in_order_L5))
def g_in_order_L8 : DS :=
  (dRet P_in_order (dVar 1))
def g_in_order_L3 : DS :=
  (dSeq (dWhile (dTest (dBin neD (dVar 2) (dFroz (dLst P_in_order dNil))))
   (g_in_order_L4))
  (g_in_order_L8))
def g_in_order_L2 : DS :=
  (dSeq (dSet P_in_order 2 (dFroz (dLstR (dCB lenD (dCons (dBin ixD (dVar 0) (dC (.int 1))) dNil)))))
  (g_in_order_L3))
def g_in_order : DS :=
  (dSeq (dSet P_in_order 1 (dFroz (dLst P_in_order dNil)))
  (g_in_order_L2))
theorem d_in_order {k : Nat} {f : Addr} {cdv : Value} {A : Around} {outer : List Env} {s : Shared} {H : Hp} {E : XK} {C : FC} (T : Mg mg)
  (hr : RG k (A.deeper (PyProof.Rows.envOfC "in_order" (defScope s_in_order) s.heap.objs.size f cdv))) (hP : C.Tags P_in_order) :
  QSs (cxOf CX0 Pg w K mg base N_in_order "in_order" (defScope s_in_order) f cdv A outer s H E).nox C (defBody s_in_order) (g_in_order) :=
  have nd := sc_in_order.nd
  (s_cons (s_set (i := 1) hP nd (q_froz (o_lst hP a_nil)))
  (s_cons (s_set (i := 2) hP nd (q_froz (o_lstR rfl T.b_list T.b_range (q_len T.b_len (a_cons (q_idx hr.r (qv 0) q_int) a_nil)))))
  (s_cons (s_while PassesOwn.never (t_ne hr.r (qv 2) (q_froz (o_lst hP a_nil)))
   (s_cons (s_set (i := 3) hP nd (q_froz (o_lc (own := [("spot", 5)]) hP rfl nd (i_seq hP (q_idx hr.r (qv 0) q_int)) (blkOk_by (own := [("spot", 5)]) (N := N_in_order) (sc := defScope s_in_order) (by decide +kernel)) (fun _ _ _ _ _ => pg_name (i := 5) nd rfl (Or.inl rfl)) (tgt_name (i := 5) (by decide) (by decide)) (fun _ _ _ _ _ _ hP => ts_one (t_w (w_and (t_eq hr.r (q_idx hr.r (qv 5) q_int) q_int) (w_and1 (t_in (q_idx hr.r (q_idx hr.r (qv 5) q_int) q_int) (qv 2)))))) (fun _ _ _ _ _ _ hP => (q_idx hr.r (q_idx hr.r (qv 5) q_int) q_int)))))
   (s_cons (s_setLc (own := [("k", 6)]) (i := 4) hP rfl nd (i_seq hP (qv 2)) (blkOk_by (own := [("k", 6)]) (N := N_in_order) (sc := defScope s_in_order) (by decide +kernel)) (fun _ _ _ _ _ => pg_name (i := 6) nd rfl (Or.inl rfl)) (tgt_name (i := 6) (by decide) (by decide)) (fun _ _ _ _ _ _ hP => ts_one (t_notin (qv 6) (qv 3))) (fun _ _ _ _ _ _ hP => (qv 6)) (sw_true rfl rfl rfl (by decide +kernel)))
   (s_cons (s_set (i := 1) hP nd (q_addA (qv 1) (qv 4)))
   (s_one (s_set (i := 2) hP nd (q_froz (o_lc (own := [("k", 6)]) hP rfl nd (i_seq hP (qv 2)) (blkOk_by (own := [("k", 6)]) (N := N_in_order) (sc := defScope s_in_order) (by decide +kernel)) (fun _ _ _ _ _ => pg_name (i := 6) nd rfl (Or.inl rfl)) (tgt_name (i := 6) (by decide) (by decide)) (fun _ _ _ _ _ _ hP => ts_one (t_in (qv 6) (qv 3))) (fun _ _ _ _ _ _ hP => (qv 6))))))))))
  (s_one (s_ret hP (qv 1))))))
theorem at_in_order {k : Nat} {S : SpD} (T : Mg mg) (FA : FunAt K mg "in_order" s_in_order ["sheet"])
  (pure : ∀ ds q, S ds q → ds.length = P_in_order.length → g_in_order (endsOf P_in_order q) (startE N_in_order.length P_in_order ds)) : FnAt Pg w K mg base (k + 1) "in_order" ["sheet"] P_in_order S :=
  fn_at FA sc_in_order rfl (by decide) (fun f cdv A outer s H E C hr hP => d_in_order T hr hP) pure
abbrev s_one_round : Stmt := topS 10
abbrev N_one_round : List Str := ["sheet", "delays", "order", "last", "found", "k", "begin", "befores", "behinds", "mark"]
abbrev P_one_round : List Bool := [false, false, false, false]
theorem sc_one_round : FnScope N_one_round ["sheet", "delays", "order", "last"] (defScope s_one_round) := ⟨rfl, rfl, rfl, by decide +kernel, rfl, by decide +kernel, by decide +kernel⟩
def g_one_round_L5 : DS :=
  (dIf (dAnd (dTest (dBin eqD (dBin ixD (dVar 8) (dC (.int 0))) (dVar 5))) (dTest (dBin eqD (dVar 9) (dC (.int 0)))))
     (dSet P_one_round 6 (dCB max2D (dCons (dVar 6) (dCons (dBin ixD (dVar 4) (dBin ixD (dVar 7) (dC (.int 0)))) dNil))))
     (dIf (dAnd (dTest (dBin eqD (dBin ixD (dVar 8) (dC (.int 0))) (dVar 5))) (dTest (dBin (isND false) (dVar 3) (dC .none))))
      (dSet P_one_round 6 (dCB max2D (dCons (dVar 6) (dCons (dBin ixD (dVar 3) (dBin ixD (dVar 7) (dC (.int 0)))) dNil))))
      dNext))
def g_one_round_L9 : DS :=
  (dSetIx P_one_round 4 setD (dBin addAD (dVar 6) (dBin ixD (dVar 1) (dVar 5))) (dVar 5))
def g_one_round_L4 : DS :=
  (dSeq (dFor (dSeqI P_one_round (dBin ixD (dVar 0) (dC (.int 2)))) (gTup' 3 (gCons' (gN 7) (gCons' (gN 8) (gCons' (gN 9) gNil'))))
    (g_one_round_L5))
   (g_one_round_L9))
def g_one_round_L3 : DS :=
  (dSeq (dSet P_one_round 6 (dC (.int 0)))
   (g_one_round_L4))
def g_one_round_L10 : DS :=
  (dRet P_one_round (dVar 4))
def g_one_round_L2 : DS :=
  (dSeq (dFor (dSeqI P_one_round (dVar 2)) (gN 5)
   (g_one_round_L3))
  (g_one_round_L10))
def g_one_round : DS :=
  (dSeq (dSetO 4 dDict0)
  (g_one_round_L2))
theorem d_one_round {k : Nat} {f : Addr} {cdv : Value} {A : Around} {outer : List Env} {s : Shared} {H : Hp} {E : XK} {C : FC} (T : Mg mg)
  (hr : RG k (A.deeper (PyProof.Rows.envOfC "one_round" (defScope s_one_round) s.heap.objs.size f cdv))) (hP : C.Tags P_one_round) :
  QSs (cxOf CX0 Pg w K mg base N_one_round "one_round" (defScope s_one_round) f cdv A outer s H E).nox C (defBody s_one_round) (g_one_round) :=
  have nd := sc_one_round.nd
  (s_cons (s_setO (i := 4) hP nd o_dict0)
  (s_cons (s_for PassesOwn.never rfl (i_seq hP (qv 2)) (g_name (i := 5) hP nd)
   (s_cons (s_set (i := 6) hP nd q_int)
   (s_cons (s_for PassesOwn.never rfl (i_seq hP (q_idx hr.r (qv 0) q_int)) (g_tup rfl (gs_cons (g_name (i := 7) hP nd) (gs_cons (g_name (i := 8) hP nd) (gs_cons (g_name (i := 9) hP nd) gs_nil))))
    (s_one (s_if (t_w (w_and (t_eq hr.r (q_idx hr.r (qv 8) q_int) (qv 5)) (w_and1 (t_eq hr.r (qv 9) q_int))))
     (s_one (s_set (i := 6) hP nd (q_max2 rfl T.b_max (a_cons (qv 6) (a_cons (q_idx hr.r (qv 4) (q_idx hr.r (qv 7) q_int)) a_nil)))))
     (s_one (s_if (t_w (w_and (t_eq hr.r (q_idx hr.r (qv 8) q_int) (qv 5)) (w_and1 (t_notN (qv 3) q_non))))
      (s_one (s_set (i := 6) hP nd (q_max2 rfl T.b_max (a_cons (qv 6) (a_cons (q_idx hr.r (qv 3) (q_idx hr.r (qv 7) q_int)) a_nil)))))
      s_nil)))))
   (s_one (s_put (i := 4) hP hr.r (q_addA (qv 6) (q_idx hr.r (qv 1) (qv 5))) (qv 5))))))
  (s_one (s_ret hP (qv 4)))))
theorem at_one_round {k : Nat} {S : SpD} (T : Mg mg) (FA : FunAt K mg "one_round" s_one_round ["sheet", "delays", "order", "last"])
  (pure : ∀ ds q, S ds q → ds.length = P_one_round.length → g_one_round (endsOf P_one_round q) (startE N_one_round.length P_one_round ds)) : FnAt Pg w K mg base (k + 1) "one_round" ["sheet", "delays", "order", "last"] P_one_round S :=
  fn_at FA sc_one_round rfl (by decide) (fun f cdv A outer s H E C hr hP => d_one_round T hr hP) pure
abbrev s_times : Stmt := topS 11
abbrev N_times : List Str := ["sheet", "delays", "rounds", "order", "found", "last", "number", "k", "row"]
abbrev P_times : List Bool := [false, false, false]
theorem sc_times : FnScope N_times ["sheet", "delays", "rounds"] (defScope s_times) := ⟨rfl, rfl, rfl, by decide +kernel, rfl, by decide +kernel, by decide +kernel⟩
def g_times_L7 (S_look_at S_in_order S_one_round : SpD) : DS :=
  (dDrop (dMut P_times "list" 4 appendD (dCons (dVar 5) dNil)))
def g_times_L6 (S_look_at S_in_order S_one_round : SpD) : DS :=
  (dSeq (dSet P_times 5 (dCall P_times [false, false, false, false] S_one_round (dCons (dVar 0) (dCons (dVar 1) (dCons (dVar 3) (dCons (dVar 5) dNil))))))
   (g_times_L7 S_look_at S_in_order S_one_round))
def g_times_L8 (S_look_at S_in_order S_one_round : SpD) : DS :=
  (dRet P_times (dCB tupleSD (dCons (dFroz (dLc P_times (dRng1 (dCons (dCB lenD (dCons (dVar 1) dNil)) dNil)) (gN 7) dYes (dCB tupleSD (dCons (dFroz (dLc P_times (dSeqI P_times (dVar 4)) (gN 8) dYes (dBin ixD (dVar 8) (dVar 7)) [8])) dNil)) [7])) dNil)))
def g_times_L5 (S_look_at S_in_order S_one_round : SpD) : DS :=
  (dSeq (dFor (dRng1 (dCons (dVar 2) dNil)) (gN 6)
   (g_times_L6 S_look_at S_in_order S_one_round))
  (g_times_L8 S_look_at S_in_order S_one_round))
def g_times_L4 (S_look_at S_in_order S_one_round : SpD) : DS :=
  (dSeq (dSet P_times 5 (dC .none))
  (g_times_L5 S_look_at S_in_order S_one_round))
def g_times_L3 (S_look_at S_in_order S_one_round : SpD) : DS :=
  (dSeq (dSetO 4 (dLst P_times dNil))
  (g_times_L4 S_look_at S_in_order S_one_round))
def g_times_L2 (S_look_at S_in_order S_one_round : SpD) : DS :=
  (dSeq (dSet P_times 3 (dCall P_times [false] S_in_order (dCons (dVar 0) dNil)))
  (g_times_L3 S_look_at S_in_order S_one_round))
def g_times (S_look_at S_in_order S_one_round : SpD) : DS :=
  (dSeq (dDrop (dCall P_times [false, false] S_look_at (dCons (dVar 0) (dCons (dVar 1) dNil))))
  (g_times_L2 S_look_at S_in_order S_one_round))
theorem d_times {S_look_at S_in_order S_one_round : SpD} {k : Nat} {f : Addr} {cdv : Value} {A : Around} {outer : List Env} {s : Shared} {H : Hp} {E : XK} {C : FC} (T : Mg mg) (h_look_at : FnAt Pg w K mg base k "look_at" ["sheet", "delays"] [false, false] S_look_at) (h_in_order : FnAt Pg w K mg base k "in_order" ["sheet"] [false] S_in_order) (h_one_round : FnAt Pg w K mg base k "one_round" ["sheet", "delays", "order", "last"] [false, false, false, false] S_one_round)
  (hr : RG k (A.deeper (PyProof.Rows.envOfC "times" (defScope s_times) s.heap.objs.size f cdv))) (hP : C.Tags P_times) :
  QSs (cxOf CX0 Pg w K mg base N_times "times" (defScope s_times) f cdv A outer s H E).nox C (defBody s_times) (g_times S_look_at S_in_order S_one_round) :=
  have nd := sc_times.nd
  (s_cons (s_expr (q_callF hP h_look_at hr (a_cons (qv 0) (a_cons (qv 1) a_nil))))
  (s_cons (s_set (i := 3) hP nd (q_callF hP h_in_order hr (a_cons (qv 0) a_nil)))
  (s_cons (s_setO (i := 4) hP nd (o_lst hP a_nil))
  (s_cons (s_set (i := 5) hP nd q_non)
  (s_cons (s_for PassesOwn.never rfl (i_range1 T.b_range (a_cons (qv 2) a_nil)) (g_name (i := 6) hP nd)
   (s_cons (s_set (i := 5) hP nd (q_callF hP h_one_round hr (a_cons (qv 0) (a_cons (qv 1) (a_cons (qv 3) (a_cons (qv 5) a_nil))))))
   (s_one (s_expr (m_append (i := 4) hP (a_cons (qv 5) a_nil))))))
  (s_one (s_ret hP (q_tupleS rfl T.b_tuple (a_cons (q_froz (o_lc (own := [("k", 7)]) hP rfl nd (i_range1 T.b_range (a_cons (q_len T.b_len (a_cons (qv 1) a_nil)) a_nil)) (blkOk_by (own := [("k", 7)]) (N := N_times) (sc := defScope s_times) (by decide +kernel)) (fun _ _ _ _ _ => pg_name (i := 7) nd rfl (Or.inr rfl)) (tgt_name (i := 7) (by decide) (by decide)) (fun _ _ _ _ _ _ _ => ts_nil) (fun _ _ _ _ _ _ hP => (q_tupleS rfl T.b_tuple (a_cons (q_froz (o_lc (own := [("row", 8)]) hP rfl nd (i_seq hP (qv 4)) (blkOk_by (own := [("row", 8)]) (N := N_times) (by kernel_rfl)) (fun _ _ _ _ _ => pg_name (i := 8) nd rfl (Or.inl rfl)) (tgt_name (i := 8) (by decide) (by decide)) (fun _ _ _ _ _ _ _ => ts_nil) (fun _ _ _ _ _ _ hP => (q_idx hr.r (qv 8) (qv 7))))) a_nil))))) a_nil)))))))))
theorem at_times {S_look_at S_in_order S_one_round : SpD} {k : Nat} {S : SpD} (T : Mg mg) (FA : FunAt K mg "times" s_times ["sheet", "delays", "rounds"]) (h_look_at : FnAt Pg w K mg base k "look_at" ["sheet", "delays"] [false, false] S_look_at) (h_in_order : FnAt Pg w K mg base k "in_order" ["sheet"] [false] S_in_order) (h_one_round : FnAt Pg w K mg base k "one_round" ["sheet", "delays", "order", "last"] [false, false, false, false] S_one_round)
  (pure : ∀ ds q, S ds q → ds.length = P_times.length → g_times S_look_at S_in_order S_one_round (endsOf P_times q) (startE N_times.length P_times ds)) : FnAt Pg w K mg base (k + 1) "times" ["sheet", "delays", "rounds"] P_times S :=
  fn_at FA sc_times rfl (by decide) (fun f cdv A outer s H E C hr hP => d_times T h_look_at h_in_order h_one_round hr hP) pure
abbrev s__law_pen : Stmt := topS 13
abbrev N__law_pen : List Str := ["_law_script"]
abbrev P__law_pen : List Bool := [false]
theorem sc__law_pen : FnScope N__law_pen ["_law_script"] (defScope s__law_pen) := ⟨rfl, rfl, rfl, by decide +kernel, rfl, by decide +kernel, by decide +kernel⟩
def g__law_pen : DS :=
  (dRetO (dDisp P__law_pen [((dC (.str "script")), (dVar 0)), ((dC (.str "at")), (dC (.int 0))), ((dC (.str "left")), (dC (.int 0)))]))
theorem d__law_pen {k : Nat} {f : Addr} {cdv : Value} {A : Around} {outer : List Env} {s : Shared} {H : Hp} {E : XK} {C : FC} (T : Mg mg)
  (hr : RG k (A.deeper (PyProof.Rows.envOfC "_law_pen" (defScope s__law_pen) s.heap.objs.size f cdv))) (hP : C.Tags P__law_pen) :
  QSs (cxOf CX0 Pg w K mg base N__law_pen "_law_pen" (defScope s__law_pen) f cdv A outer s H E).nox C (defBody s__law_pen) (g__law_pen) :=
  have nd := sc__law_pen.nd
  (s_one (s_retO (o_disp hP (ps_cons' (fun _ hP => q_str) (fun _ hP => (qv 0)) (ps_cons' (fun _ hP => q_str) (fun _ hP => q_int) (ps_cons' (fun _ hP => q_str) (fun _ hP => q_int) ps_nil'))))))
theorem at__law_pen {k : Nat} {S : SpD} (T : Mg mg) (FA : FunAt K mg "_law_pen" s__law_pen ["_law_script"])
  (pure : ∀ ds q, S ds q → ds.length = P__law_pen.length → g__law_pen (endsOf P__law_pen q) (startE N__law_pen.length P__law_pen ds)) : FnAt Pg w K mg base (k + 1) "_law_pen" ["_law_script"] P__law_pen S :=
  fn_at FA sc__law_pen rfl (by decide) (fun f cdv A outer s H E C hr hP => d__law_pen T hr hP) pure
abbrev s__law_draw : Stmt := topS 14
abbrev N__law_draw : List Str := ["_law_pen_here", "_law_many", "_law_script", "_law_at", "_law_cell", "_law_primes", "_law_number", "_law_digit"]
abbrev P__law_draw : List Bool := [true, false]
theorem sc__law_draw : FnScope N__law_draw ["_law_pen_here", "_law_many"] (defScope s__law_draw) := ⟨rfl, rfl, rfl, by decide +kernel, rfl, by decide +kernel, by decide +kernel⟩
def g__law_draw_L4 : DS :=
  (dRet P__law_draw (dVar 7))
def g__law_draw_L3 : DS :=
  (dSeq (dSetIx P__law_draw 0 setD (dBin fdivD (dBin ixD (dVar 0) (dC (.str "left"))) (dVar 1)) (dC (.str "left")))
   (g__law_draw_L4))
def g__law_draw_L13 : DS :=
  (dRet P__law_draw (dBin modD (dCB absD (dCons (dVar 4) dNil)) (dVar 1)))
def g__law_draw_L18 : DS :=
  (dRet P__law_draw (dBin modD (dBin fdivD (dVar 6) (dC (.int 64))) (dVar 1)))
def g__law_draw_L17 : DS :=
  (dSeq (dSet P__law_draw 6 (dBin modD (dBin powD (dBin addAD (dBin mulAD (dVar 6) (dBin addAD (dBin mulAD (dC (.int 2)) (dVar 3)) (dC (.int 40503)))) (dVar 3)) (dC (.int 3))) (dBin ixD (dVar 5) (dBin modD (dBin addAD (dVar 3) (dC (.int 5))) (dC (.int 12))))))
  (g__law_draw_L18))
def g__law_draw_L16 : DS :=
  (dSeq (dSet P__law_draw 6 (dBin modD (dBin powD (dBin addAD (dBin addAD (dBin modD (dVar 4) (dC (.int 2147483647))) (dBin mulAD (dC (.int 48271)) (dVar 3))) (dC (.int 11))) (dC (.int 3))) (dBin ixD (dVar 5) (dBin modD (dVar 3) (dC (.int 12))))))
  (g__law_draw_L17))
def g__law_draw_L15 : DS :=
  (dSeq (dSet P__law_draw 5 (dBin addAD (dVar 5) (dFroz (dLst P__law_draw (dCons (dC (.int 2147483477)) (dCons (dC (.int 2147483423)) (dCons (dC (.int 2147483399)) (dCons (dC (.int 2147483353)) dNil))))))))
  (g__law_draw_L16))
def g__law_draw_L14 : DS :=
  (dSeq (dSet P__law_draw 5 (dFroz (dLst P__law_draw (dCons (dC (.int 2147483629)) (dCons (dC (.int 2147483587)) (dCons (dC (.int 2147483579)) (dCons (dC (.int 2147483563)) (dCons (dC (.int 2147483549)) (dCons (dC (.int 2147483543)) (dCons (dC (.int 2147483497)) (dCons (dC (.int 2147483489)) dNil)))))))))))
  (g__law_draw_L15))
def g__law_draw_L11 : DS :=
  (dSeq (dIf (dAnd (dTest (dBin ltD (dVar 3) (dCB lenD (dCons (dVar 2) dNil)))) (dTest (dBin geD (dCB absD (dCons (dVar 4) dNil)) (dBin powD (dC (.int 10)) (dC (.int 18))))))
   (dSeq (dSetIx P__law_draw 0 setD (dBin fdivD (dCB absD (dCons (dVar 4) dNil)) (dVar 1)) (dC (.str "left")))
   (g__law_draw_L13))
   dNext)
  (g__law_draw_L14))
def g__law_draw_L9 : DS :=
  (dSeq (dIf (dTest (dBin neD (dVar 2) (dFroz (dLst P__law_draw dNil))))
   (dSet P__law_draw 4 (dBin ixD (dVar 2) (dBin modD (dVar 3) (dCB lenD (dCons (dVar 2) dNil)))))
   dNext)
  (g__law_draw_L11))
def g__law_draw_L8 : DS :=
  (dSeq (dSet P__law_draw 4 (dC (.int 1013)))
  (g__law_draw_L9))
def g__law_draw_L7 : DS :=
  (dSeq (dSetIx P__law_draw 0 setD (dBin addAD (dVar 3) (dC (.int 1))) (dC (.str "at")))
  (g__law_draw_L8))
def g__law_draw_L6 : DS :=
  (dSeq (dSet P__law_draw 3 (dBin ixD (dVar 0) (dC (.str "at"))))
  (g__law_draw_L7))
def g__law_draw_L5 : DS :=
  (dSeq (dSet P__law_draw 2 (dBin ixD (dVar 0) (dC (.str "script"))))
  (g__law_draw_L6))
def g__law_draw : DS :=
  (dSeq (dIf (dTest (dBin gtD (dBin ixD (dVar 0) (dC (.str "left"))) (dC (.int 0))))
   (dSeq (dSet P__law_draw 7 (dBin modD (dBin ixD (dVar 0) (dC (.str "left"))) (dVar 1)))
   (g__law_draw_L3))
   dNext)
  (g__law_draw_L5))
theorem d__law_draw {k : Nat} {f : Addr} {cdv : Value} {A : Around} {outer : List Env} {s : Shared} {H : Hp} {E : XK} {C : FC} (T : Mg mg)
  (hr : RG k (A.deeper (PyProof.Rows.envOfC "_law_draw" (defScope s__law_draw) s.heap.objs.size f cdv))) (hP : C.Tags P__law_draw) :
  QSs (cxOf CX0 Pg w K mg base N__law_draw "_law_draw" (defScope s__law_draw) f cdv A outer s H E).nox C (defBody s__law_draw) (g__law_draw) :=
  have nd := sc__law_draw.nd
  (s_cons (s_if (t_gt (q_idx hr.r (qv 0) q_str) q_int)
   (s_cons (s_set (i := 7) hP nd (q_mod (q_idx hr.r (qv 0) q_str) (qv 1)))
   (s_cons (s_put (i := 0) hP hr.r (q_fdiv (q_idx hr.r (qv 0) q_str) (qv 1)) q_str)
   (s_one (s_ret hP (qv 7)))))
   s_nil)
  (s_cons (s_set (i := 2) hP nd (q_idx hr.r (qv 0) q_str))
  (s_cons (s_set (i := 3) hP nd (q_idx hr.r (qv 0) q_str))
  (s_cons (s_put (i := 0) hP hr.r (q_addA (qv 3) q_int) q_str)
  (s_cons (s_set (i := 4) hP nd q_int)
  (s_cons (s_if (t_ne hr.r (qv 2) (q_froz (o_lst hP a_nil)))
   (s_one (s_set (i := 4) hP nd (q_idx hr.r (qv 2) (q_mod (qv 3) (q_len T.b_len (a_cons (qv 2) a_nil))))))
   s_nil)
  (s_cons (s_if (t_w (w_and (t_lt (qv 3) (q_len T.b_len (a_cons (qv 2) a_nil))) (w_and1 (t_ge (q_abs T.b_abs (a_cons (qv 4) a_nil)) (q_pow q_int q_int)))))
   (s_cons (s_put (i := 0) hP hr.r (q_fdiv (q_abs T.b_abs (a_cons (qv 4) a_nil)) (qv 1)) q_str)
   (s_one (s_ret hP (q_mod (q_abs T.b_abs (a_cons (qv 4) a_nil)) (qv 1)))))
   s_nil)
  (s_cons (s_set (i := 5) hP nd (q_froz (o_lst hP (a_cons q_int (a_cons q_int (a_cons q_int (a_cons q_int (a_cons q_int (a_cons q_int (a_cons q_int (a_cons q_int a_nil)))))))))))
  (s_cons (s_set (i := 5) hP nd (q_addA (qv 5) (q_froz (o_lst hP (a_cons q_int (a_cons q_int (a_cons q_int (a_cons q_int a_nil))))))))
  (s_cons (s_set (i := 6) hP nd (q_mod (q_pow (q_addA (q_addA (q_mod (qv 4) q_int) (q_mulA q_int (qv 3))) q_int) q_int) (q_idx hr.r (qv 5) (q_mod (qv 3) q_int))))
  (s_cons (s_set (i := 6) hP nd (q_mod (q_pow (q_addA (q_mulA (qv 6) (q_addA (q_mulA q_int (qv 3)) q_int)) (qv 3)) q_int) (q_idx hr.r (qv 5) (q_mod (q_addA (qv 3) q_int) q_int))))
  (s_one (s_ret hP (q_mod (q_fdiv (qv 6) q_int) (qv 1)))))))))))))))
theorem at__law_draw {k : Nat} {S : SpD} (T : Mg mg) (FA : FunAt K mg "_law_draw" s__law_draw ["_law_pen_here", "_law_many"])
  (pure : ∀ ds q, S ds q → ds.length = P__law_draw.length → g__law_draw (endsOf P__law_draw q) (startE N__law_draw.length P__law_draw ds)) : FnAt Pg w K mg base (k + 1) "_law_draw" ["_law_pen_here", "_law_many"] P__law_draw S :=
  fn_at FA sc__law_draw rfl (by decide) (fun f cdv A outer s H E C hr hP => d__law_draw T hr hP) pure
abbrev s__law_names : Stmt := topS 15
abbrev N__law_names : List Str := ["_law_pen_here", "_law_many", "_law_letters", "_law_way", "_law_first_here", "_law_step", "_law_base", "_law_at", "_law_found", "_law_k", "_law_sign", "_law_name"]
abbrev P__law_names : List Bool := [true, false]
theorem sc__law_names : FnScope N__law_names ["_law_pen_here", "_law_many"] (defScope s__law_names) := ⟨rfl, rfl, rfl, by decide +kernel, rfl, by decide +kernel, by decide +kernel⟩
def g__law_names_L15 (S__law_draw : SpD) : DS :=
  (dDrop (dMut P__law_names "list" 8 appendD (dCons (dVar 11) dNil)))
def g__law_names_L13 (S__law_draw : SpD) : DS :=
  (dSeq (dIf (dTest (dBin eqD (dVar 3) (dC (.int 2))))
    (dSet P__law_names 11 (dSlA (dBin addAD (dVar 6) (dBin mulXD (dBin ixD (dVar 2) (dVar 4)) (dC (.int 9)))) dNoP (dPart (dBin addAD (dVar 9) (dC (.int 1))))))
    dNext)
   (g__law_names_L15 S__law_draw))
def g__law_names_L11 (S__law_draw : SpD) : DS :=
  (dSeq (dIf (dTest (dBin eqD (dVar 3) (dC (.int 1))))
    (dSet P__law_names 11 (dVar 10))
    dNext)
   (g__law_names_L13 S__law_draw))
def g__law_names_L10 (S__law_draw : SpD) : DS :=
  (dSeq (dSet P__law_names 11 (dBin addAD (dBin addAD (dSlA (dVar 6) dNoP (dPart (dVar 7))) (dVar 10)) (dSlA (dVar 6) (dPart (dVar 7)) dNoP)))
   (g__law_names_L11 S__law_draw))
def g__law_names_L9 (S__law_draw : SpD) : DS :=
  (dSeq (dSet P__law_names 10 (dBin ixD (dVar 2) (dBin modD (dBin addAD (dVar 4) (dBin mulAD (dVar 5) (dVar 9))) (dC (.int 26)))))
   (g__law_names_L10 S__law_draw))
def g__law_names_L16 (S__law_draw : SpD) : DS :=
  (dRet P__law_names (dVar 8))
def g__law_names_L8 (S__law_draw : SpD) : DS :=
  (dSeq (dFor (dRng1 (dCons (dVar 1) dNil)) (gN 9)
   (g__law_names_L9 S__law_draw))
  (g__law_names_L16 S__law_draw))
def g__law_names_L7 (S__law_draw : SpD) : DS :=
  (dSeq (dSetO 8 (dLst P__law_names dNil))
  (g__law_names_L8 S__law_draw))
def g__law_names_L6 (S__law_draw : SpD) : DS :=
  (dSeq (dSet P__law_names 7 (dCall P__law_names [true, false] S__law_draw (dCons (dVar 0) (dCons (dBin addAD (dCB lenD (dCons (dVar 6) dNil)) (dC (.int 1))) dNil))))
  (g__law_names_L7 S__law_draw))
def g__law_names_L5 (S__law_draw : SpD) : DS :=
  (dSeq (dSet P__law_names 6 (dBM "str" joinD (dC (.str "")) (dCons (dFroz (dLc P__law_names (dRng1 (dCons (dCall P__law_names [true, false] S__law_draw (dCons (dVar 0) (dCons (dC (.int 8)) dNil))) dNil)) (gN 9) dYes (dBin ixD (dVar 2) (dCall P__law_names [true, false] S__law_draw (dCons (dVar 0) (dCons (dC (.int 26)) dNil)))) [9])) dNil)))
  (g__law_names_L6 S__law_draw))
def g__law_names_L4 (S__law_draw : SpD) : DS :=
  (dSeq (dSet P__law_names 5 (dBin ixD (dFroz (dLst P__law_names (dCons (dC (.int 1)) (dCons (dC (.int 3)) (dCons (dC (.int 5)) (dCons (dC (.int 7)) (dCons (dC (.int 9)) (dCons (dC (.int 11)) (dCons (dC (.int 15)) (dCons (dC (.int 17)) dNil)))))))))) (dCall P__law_names [true, false] S__law_draw (dCons (dVar 0) (dCons (dC (.int 8)) dNil)))))
  (g__law_names_L5 S__law_draw))
def g__law_names_L3 (S__law_draw : SpD) : DS :=
  (dSeq (dSet P__law_names 4 (dCall P__law_names [true, false] S__law_draw (dCons (dVar 0) (dCons (dC (.int 26)) dNil))))
  (g__law_names_L4 S__law_draw))
def g__law_names_L2 (S__law_draw : SpD) : DS :=
  (dSeq (dSet P__law_names 3 (dCall P__law_names [true, false] S__law_draw (dCons (dVar 0) (dCons (dC (.int 3)) dNil))))
  (g__law_names_L3 S__law_draw))
def g__law_names (S__law_draw : SpD) : DS :=
  (dSeq (dSet P__law_names 2 (dC (.str "abcdefghijklmnopqrstuvwxyz")))
  (g__law_names_L2 S__law_draw))
theorem d__law_names {S__law_draw : SpD} {k : Nat} {f : Addr} {cdv : Value} {A : Around} {outer : List Env} {s : Shared} {H : Hp} {E : XK} {C : FC} (T : Mg mg) (h__law_draw : FnAt Pg w K mg base k "_law_draw" ["_law_pen_here", "_law_many"] [true, false] S__law_draw)
  (hr : RG k (A.deeper (PyProof.Rows.envOfC "_law_names" (defScope s__law_names) s.heap.objs.size f cdv))) (hP : C.Tags P__law_names) :
  QSs (cxOf CX0 Pg w K mg base N__law_names "_law_names" (defScope s__law_names) f cdv A outer s H E).nox C (defBody s__law_names) (g__law_names S__law_draw) :=
  have nd := sc__law_names.nd
  (s_cons (s_set (i := 2) hP nd q_str)
  (s_cons (s_set (i := 3) hP nd (q_callF hP h__law_draw hr (a_cons (qv 0) (a_cons q_int a_nil))))
  (s_cons (s_set (i := 4) hP nd (q_callF hP h__law_draw hr (a_cons (qv 0) (a_cons q_int a_nil))))
  (s_cons (s_set (i := 5) hP nd (q_idx hr.r (q_froz (o_lst hP (a_cons q_int (a_cons q_int (a_cons q_int (a_cons q_int (a_cons q_int (a_cons q_int (a_cons q_int (a_cons q_int a_nil)))))))))) (q_callF hP h__law_draw hr (a_cons (qv 0) (a_cons q_int a_nil)))))
  (s_cons (s_set (i := 6) hP nd (q_join q_str (a_cons (q_froz (o_lc (own := [("_law_k", 9)]) hP rfl nd (i_range1 T.b_range (a_cons (q_callF hP h__law_draw hr (a_cons (qv 0) (a_cons q_int a_nil))) a_nil)) (blkOk_by (own := [("_law_k", 9)]) (N := N__law_names) (sc := defScope s__law_names) (by decide +kernel)) (fun _ _ _ _ _ => pg_name (i := 9) nd rfl (Or.inl rfl)) (tgt_name (i := 9) (by decide) (by decide)) (fun _ _ _ _ _ _ _ => ts_nil) (fun _ _ _ _ _ _ hP => (q_idx hr.r (qv 2) (q_callF hP h__law_draw hr (a_cons (qv 0) (a_cons q_int a_nil))))))) a_nil)))
  (s_cons (s_set (i := 7) hP nd (q_callF hP h__law_draw hr (a_cons (qv 0) (a_cons (q_addA (q_len T.b_len (a_cons (qv 6) a_nil)) q_int) a_nil))))
  (s_cons (s_setO (i := 8) hP nd (o_lst hP a_nil))
  (s_cons (s_for PassesOwn.never rfl (i_range1 T.b_range (a_cons (qv 1) a_nil)) (g_name (i := 9) hP nd)
   (s_cons (s_set (i := 10) hP nd (q_idx hr.r (qv 2) (q_mod (q_addA (qv 4) (q_mulA (qv 5) (qv 9))) q_int)))
   (s_cons (s_set (i := 11) hP nd (q_addA (q_addA (q_sliceA (qv 6) p_none (p_some (qv 7))) (qv 10)) (q_sliceA (qv 6) (p_some (qv 7)) p_none)))
   (s_cons (s_if (t_eq hr.r (qv 3) q_int)
    (s_one (s_set (i := 11) hP nd (qv 10)))
    s_nil)
   (s_cons (s_if (t_eq hr.r (qv 3) q_int)
    (s_one (s_set (i := 11) hP nd (q_sliceA (q_addA (qv 6) (q_mulX (q_idx hr.r (qv 2) (qv 4)) q_int)) p_none (p_some (q_addA (qv 9) q_int)))))
    s_nil)
   (s_one (s_expr (m_append (i := 8) hP (a_cons (qv 11) a_nil)))))))))
  (s_one (s_ret hP (qv 8)))))))))))
theorem at__law_names {S__law_draw : SpD} {k : Nat} {S : SpD} (T : Mg mg) (FA : FunAt K mg "_law_names" s__law_names ["_law_pen_here", "_law_many"]) (h__law_draw : FnAt Pg w K mg base k "_law_draw" ["_law_pen_here", "_law_many"] [true, false] S__law_draw)
  (pure : ∀ ds q, S ds q → ds.length = P__law_names.length → g__law_names S__law_draw (endsOf P__law_names q) (startE N__law_names.length P__law_names ds)) : FnAt Pg w K mg base (k + 1) "_law_names" ["_law_pen_here", "_law_many"] P__law_names S :=
  fn_at FA sc__law_names rfl (by decide) (fun f cdv A outer s H E C hr hP => d__law_names T h__law_draw hr hP) pure
abbrev s__law_word : Stmt := topS 16
abbrev N__law_word : List Str := ["_law_pen_here", "_law_room", "_law_most", "_law_longs", "_law_k", "_law_firsts", "_law_left", "_law_word_here", "_law_long", "_law_some"]
abbrev P__law_word : List Bool := [true, false, false]
theorem sc__law_word : FnScope N__law_word ["_law_pen_here", "_law_room", "_law_most"] (defScope s__law_word) := ⟨rfl, rfl, rfl, by decide +kernel, rfl, by decide +kernel, by decide +kernel⟩
def g__law_word_L6 (S__law_draw : SpD) : DS :=
  (dSet P__law_word 1 (dBin fdivD (dVar 1) (dVar 8)))
def g__law_word_L4 (S__law_draw : SpD) : DS :=
  (dIf (dAnd (dTest (dBin leD (dVar 8) (dVar 1))) (dTest (dBin leD (dBin addAD (dCB sumD (dCons (dVar 3) dNil)) (dVar 8)) (dVar 2))))
    (dSeq (dDrop (dMut P__law_word "list" 3 appendD (dCons (dVar 8) dNil)))
    (g__law_word_L6 S__law_draw))
    dNext)
def g__law_word_L3 (S__law_draw : SpD) : DS :=
  (dSeq (dSet P__law_word 8 (dBin ixD (dFroz (dLst P__law_word (dCons (dC (.int 2)) (dCons (dC (.int 2)) (dCons (dC (.int 4)) (dCons (dC (.int 6)) dNil)))))) (dCall P__law_word [true, false] S__law_draw (dCons (dVar 0) (dCons (dC (.int 4)) dNil)))))
   (g__law_word_L4 S__law_draw))
def g__law_word_L15 (S__law_draw : SpD) : DS :=
  (dSetIx P__law_word 6 setD (dBin subD (dBin ixD (dVar 6) (dVar 4)) (dC (.int 1))) (dVar 4))
def g__law_word_L14 (S__law_draw : SpD) : DS :=
  (dSeq (dDrop (dMut P__law_word "list" 7 appendD (dCons (dTup P__law_word (dCons (dVar 4) (dCons (dBin modD (dBin subD (dBin addAD (dBin addAD (dBin ixD (dVar 5) (dVar 4)) (dC (.int 1))) (dBin ixD (dVar 3) (dVar 4))) (dBin ixD (dVar 6) (dVar 4))) (dC (.int 2))) dNil))) dNil)))
   (g__law_word_L15 S__law_draw))
def g__law_word_L13 (S__law_draw : SpD) : DS :=
  (dSeq (dSet P__law_word 4 (dBin ixD (dVar 9) (dCall P__law_word [true, false] S__law_draw (dCons (dVar 0) (dCons (dCB lenD (dCons (dVar 9) dNil)) dNil)))))
   (g__law_word_L14 S__law_draw))
def g__law_word_L12 (S__law_draw : SpD) : DS :=
  (dSeq (dSet P__law_word 9 (dFroz (dLc P__law_word (dRng1 (dCons (dCB lenD (dCons (dVar 6) dNil)) dNil)) (gN 4) (dTest (dBin gtD (dBin ixD (dVar 6) (dVar 4)) (dC (.int 0)))) (dVar 4) [4])))
   (g__law_word_L13 S__law_draw))
def g__law_word_L16 (S__law_draw : SpD) : DS :=
  (dRet P__law_word (dFroz (dLst P__law_word (dCons (dVar 7) (dCons (dVar 5) dNil)))))
def g__law_word_L11 (S__law_draw : SpD) : DS :=
  (dSeq (dWhile (dTest (dBin gtD (dCB sumD (dCons (dVar 6) dNil)) (dC (.int 0))))
   (g__law_word_L12 S__law_draw))
  (g__law_word_L16 S__law_draw))
def g__law_word_L10 (S__law_draw : SpD) : DS :=
  (dSeq (dSetO 7 (dLst P__law_word dNil))
  (g__law_word_L11 S__law_draw))
def g__law_word_L9 (S__law_draw : SpD) : DS :=
  (dSeq (dSetO 6 (dCBL listSD (dCons (dVar 3) dNil)))
  (g__law_word_L10 S__law_draw))
def g__law_word_L8 (S__law_draw : SpD) : DS :=
  (dSeq (dSet P__law_word 5 (dFroz (dLc P__law_word (dSeqI P__law_word (dVar 3)) (gN 8) dYes (dCall P__law_word [true, false] S__law_draw (dCons (dVar 0) (dCons (dC (.int 2)) dNil))) [8])))
  (g__law_word_L9 S__law_draw))
def g__law_word_L7 (S__law_draw : SpD) : DS :=
  (dSeq (dSetO 3 (dBinL catD (dVar 3) (dBin mulAD (dFroz (dLst P__law_word (dCons (dC (.int 2)) dNil))) (dCB intOfD (dCons (dBin eqD (dVar 3) (dFroz (dLst P__law_word dNil))) dNil)))))
  (g__law_word_L8 S__law_draw))
def g__law_word_L2 (S__law_draw : SpD) : DS :=
  (dSeq (dFor (dRng1 (dCons (dBin addAD (dC (.int 1)) (dCall P__law_word [true, false] S__law_draw (dCons (dVar 0) (dCons (dC (.int 6)) dNil)))) dNil)) (gN 4)
   (g__law_word_L3 S__law_draw))
  (g__law_word_L7 S__law_draw))
def g__law_word (S__law_draw : SpD) : DS :=
  (dSeq (dSetO 3 (dLst P__law_word dNil))
  (g__law_word_L2 S__law_draw))
theorem d__law_word {S__law_draw : SpD} {k : Nat} {f : Addr} {cdv : Value} {A : Around} {outer : List Env} {s : Shared} {H : Hp} {E : XK} {C : FC} (T : Mg mg) (h__law_draw : FnAt Pg w K mg base k "_law_draw" ["_law_pen_here", "_law_many"] [true, false] S__law_draw)
  (hr : RG k (A.deeper (PyProof.Rows.envOfC "_law_word" (defScope s__law_word) s.heap.objs.size f cdv))) (hP : C.Tags P__law_word) :
  QSs (cxOf CX0 Pg w K mg base N__law_word "_law_word" (defScope s__law_word) f cdv A outer s H E).nox C (defBody s__law_word) (g__law_word S__law_draw) :=
  have nd := sc__law_word.nd
  (s_cons (s_setO (i := 3) hP nd (o_lst hP a_nil))
  (s_cons (s_for PassesOwn.never rfl (i_range1 T.b_range (a_cons (q_addA q_int (q_callF hP h__law_draw hr (a_cons (qv 0) (a_cons q_int a_nil)))) a_nil)) (g_name (i := 4) hP nd)
   (s_cons (s_set (i := 8) hP nd (q_idx hr.r (q_froz (o_lst hP (a_cons q_int (a_cons q_int (a_cons q_int (a_cons q_int a_nil)))))) (q_callF hP h__law_draw hr (a_cons (qv 0) (a_cons q_int a_nil)))))
   (s_one (s_if (t_w (w_and (t_le (qv 8) (qv 1)) (w_and1 (t_le (q_addA (q_sum rfl T.b_sum (a_cons (qv 3) a_nil)) (qv 8)) (qv 2)))))
    (s_cons (s_expr (m_append (i := 3) hP (a_cons (qv 8) a_nil)))
    (s_one (s_set (i := 1) hP nd (q_fdiv (qv 1) (qv 8)))))
    s_nil))))
  (s_cons (s_setO (i := 3) hP nd (o_cat (qv 3) (q_mulA (q_froz (o_lst hP (a_cons q_int a_nil))) (q_intOf T.b_int (a_cons (q_eq hr.r (qv 3) (q_froz (o_lst hP a_nil))) a_nil)))))
  (s_cons (s_setLc (own := [("_law_long", 8)]) (i := 5) hP rfl nd (i_seq hP (qv 3)) (blkOk_by (own := [("_law_long", 8)]) (N := N__law_word) (sc := defScope s__law_word) (by decide +kernel)) (fun _ _ _ _ _ => pg_name (i := 8) nd rfl (Or.inl rfl)) (tgt_name (i := 8) (by decide) (by decide)) (fun _ _ _ _ _ _ _ => ts_nil) (fun _ _ _ _ _ _ hP => (q_callF hP h__law_draw hr (a_cons (qv 0) (a_cons q_int a_nil)))) (sw_true rfl rfl rfl (by decide +kernel)))
  (s_cons (s_setO (i := 6) hP nd (o_listS rfl T.b_list (a_cons (qv 3) a_nil)))
  (s_cons (s_setO (i := 7) hP nd (o_lst hP a_nil))
  (s_cons (s_while PassesOwn.never (t_gt (q_sum rfl T.b_sum (a_cons (qv 6) a_nil)) q_int)
   (s_cons (s_setLc (own := [("_law_k", 4)]) (i := 9) hP rfl nd (i_range1 T.b_range (a_cons (q_len T.b_len (a_cons (qv 6) a_nil)) a_nil)) (blkOk_by (own := [("_law_k", 4)]) (N := N__law_word) (sc := defScope s__law_word) (by decide +kernel)) (fun _ _ _ _ _ => pg_name (i := 4) nd rfl (Or.inl rfl)) (tgt_name (i := 4) (by decide) (by decide)) (fun _ _ _ _ _ _ hP => ts_one (t_gt (q_idx hr.r (qv 6) (qv 4)) q_int)) (fun _ _ _ _ _ _ hP => (qv 4)) (sw_true rfl rfl rfl (by decide +kernel)))
   (s_cons (s_set (i := 4) hP nd (q_idx hr.r (qv 9) (q_callF hP h__law_draw hr (a_cons (qv 0) (a_cons (q_len T.b_len (a_cons (qv 9) a_nil)) a_nil)))))
   (s_cons (s_expr (m_append (i := 7) hP (a_cons (q_tup hP (a_cons (qv 4) (a_cons (q_mod (q_sub (q_addA (q_addA (q_idx hr.r (qv 5) (qv 4)) q_int) (q_idx hr.r (qv 3) (qv 4))) (q_idx hr.r (qv 6) (qv 4))) q_int) a_nil))) a_nil)))
   (s_one (s_put (i := 6) hP hr.r (q_sub (q_idx hr.r (qv 6) (qv 4)) q_int) (qv 4)))))))
  (s_one (s_ret hP (q_froz (o_lst hP (a_cons (qv 7) (a_cons (qv 5) a_nil)))))))))))))
theorem at__law_word {S__law_draw : SpD} {k : Nat} {S : SpD} (T : Mg mg) (FA : FunAt K mg "_law_word" s__law_word ["_law_pen_here", "_law_room", "_law_most"]) (h__law_draw : FnAt Pg w K mg base k "_law_draw" ["_law_pen_here", "_law_many"] [true, false] S__law_draw)
  (pure : ∀ ds q, S ds q → ds.length = P__law_word.length → g__law_word S__law_draw (endsOf P__law_word q) (startE N__law_word.length P__law_word ds)) : FnAt Pg w K mg base (k + 1) "_law_word" ["_law_pen_here", "_law_room", "_law_most"] P__law_word S :=
  fn_at FA sc__law_word rfl (by decide) (fun f cdv A outer s H E C hr hP => d__law_word T h__law_draw hr hP) pure
abbrev s__law_may : Stmt := topS 17
abbrev N__law_may : List Str := ["_law_sheet", "_law_marks", "_law_found", "_law_k", "_law_at", "_law_spot"]
abbrev P__law_may : List Bool := [false, false]
theorem sc__law_may : FnScope N__law_may ["_law_sheet", "_law_marks"] (defScope s__law_may) := ⟨rfl, rfl, rfl, by decide +kernel, rfl, by decide +kernel, by decide +kernel⟩
def g__law_may_L3 : DS :=
  (dIf (dTest (dBin eqD (dFroz (dLc P__law_may (dEnum P__law_may (dCons (dBin ixD (dVar 0) (dC (.int 2))) dNil)) (gTup' 2 (gNs' [4, 5])) (dAnd (dTest (dBin (inD true) (dVar 3) (dBin ixD (dVar 5) (dC (.int 1))))) (dTest (dBin eqD (dBin ixD (dVar 1) (dVar 4)) (dC (.int 0))))) (dVar 4) [4, 5])) (dFroz (dLst P__law_may dNil))))
    (dDrop (dMut P__law_may "list" 2 appendD (dCons (dVar 3) dNil)))
    dNext)
def g__law_may_L5 : DS :=
  (dRet P__law_may (dVar 2))
def g__law_may_L2 : DS :=
  (dSeq (dFor (dRng1 (dCons (dCB lenD (dCons (dBin ixD (dVar 0) (dC (.int 1))) dNil)) dNil)) (gN 3)
   (g__law_may_L3))
  (g__law_may_L5))
def g__law_may : DS :=
  (dSeq (dSetO 2 (dLst P__law_may dNil))
  (g__law_may_L2))
theorem d__law_may {k : Nat} {f : Addr} {cdv : Value} {A : Around} {outer : List Env} {s : Shared} {H : Hp} {E : XK} {C : FC} (T : Mg mg)
  (hr : RG k (A.deeper (PyProof.Rows.envOfC "_law_may" (defScope s__law_may) s.heap.objs.size f cdv))) (hP : C.Tags P__law_may) :
  QSs (cxOf CX0 Pg w K mg base N__law_may "_law_may" (defScope s__law_may) f cdv A outer s H E).nox C (defBody s__law_may) (g__law_may) :=
  have nd := sc__law_may.nd
  (s_cons (s_setO (i := 2) hP nd (o_lst hP a_nil))
  (s_cons (s_for PassesOwn.never rfl (i_range1 T.b_range (a_cons (q_len T.b_len (a_cons (q_idx hr.r (qv 0) q_int) a_nil)) a_nil)) (g_name (i := 3) hP nd)
   (s_one (s_if (t_eq hr.r (q_froz (o_lc (own := [("_law_at", 4), ("_law_spot", 5)]) hP rfl nd (i_enum hP T.b_enumerate (a_cons (q_idx hr.r (qv 0) q_int) a_nil)) (blkOk_by (own := [("_law_at", 4), ("_law_spot", 5)]) (N := N__law_may) (sc := defScope s__law_may) (by decide +kernel)) (fun _ _ _ _ _ => pg_tup rfl (pgs_cons (pg_name (i := 4) nd rfl (Or.inl rfl)) (pgs_cons (pg_name (i := 5) nd rfl (Or.inl rfl)) pgs_nil))) (tgt_tup (is := [4, 5]) (by decide)) (fun _ _ _ _ _ _ hP => ts_one (t_w (w_and (t_in (qv 3) (q_idx hr.r (qv 5) q_int)) (w_and1 (t_eq hr.r (q_idx hr.r (qv 1) (qv 4)) q_int))))) (fun _ _ _ _ _ _ hP => (qv 4)))) (q_froz (o_lst hP a_nil)))
    (s_one (s_expr (m_append (i := 2) hP (a_cons (qv 3) a_nil))))
    s_nil)))
  (s_one (s_ret hP (qv 2)))))
theorem at__law_may {k : Nat} {S : SpD} (T : Mg mg) (FA : FunAt K mg "_law_may" s__law_may ["_law_sheet", "_law_marks"])
  (pure : ∀ ds q, S ds q → ds.length = P__law_may.length → g__law_may (endsOf P__law_may q) (startE N__law_may.length P__law_may ds)) : FnAt Pg w K mg base (k + 1) "_law_may" ["_law_sheet", "_law_marks"] P__law_may S :=
  fn_at FA sc__law_may rfl (by decide) (fun f cdv A outer s H E C hr hP => d__law_may T hr hP) pure
abbrev s__law_first : Stmt := topS 18
abbrev N__law_first : List Str := ["_law_sheet", "_law_spot", "_law_wire"]
abbrev P__law_first : List Bool := [false]
theorem sc__law_first : FnScope N__law_first ["_law_sheet"] (defScope s__law_first) := ⟨rfl, rfl, rfl, by decide +kernel, rfl, by decide +kernel, by decide +kernel⟩
def g__law_first : DS :=
  (dRet P__law_first (dTup P__law_first (dCons (dCB tupleSD (dCons (dFroz (dLc P__law_first (dSeqI P__law_first (dBin ixD (dVar 0) (dC (.int 2)))) (gN 1) dYes (dBin ixD (dVar 1) (dC (.int 2))) [1])) dNil)) (dCons (dCB tupleSD (dCons (dFroz (dLc P__law_first (dSeqI P__law_first (dBin ixD (dVar 0) (dC (.int 0)))) (gN 2) dYes (dBin ixD (dVar 2) (dC (.int 2))) [2])) dNil)) dNil))))
theorem d__law_first {k : Nat} {f : Addr} {cdv : Value} {A : Around} {outer : List Env} {s : Shared} {H : Hp} {E : XK} {C : FC} (T : Mg mg)
  (hr : RG k (A.deeper (PyProof.Rows.envOfC "_law_first" (defScope s__law_first) s.heap.objs.size f cdv))) (hP : C.Tags P__law_first) :
  QSs (cxOf CX0 Pg w K mg base N__law_first "_law_first" (defScope s__law_first) f cdv A outer s H E).nox C (defBody s__law_first) (g__law_first) :=
  have nd := sc__law_first.nd
  (s_one (s_ret hP (q_tup hP (a_cons (q_tupleS rfl T.b_tuple (a_cons (q_froz (o_lc (own := [("_law_spot", 1)]) hP rfl nd (i_seq hP (q_idx hr.r (qv 0) q_int)) (blkOk_by (own := [("_law_spot", 1)]) (N := N__law_first) (sc := defScope s__law_first) (by decide +kernel)) (fun _ _ _ _ _ => pg_name (i := 1) nd rfl (Or.inl rfl)) (tgt_name (i := 1) (by decide) (by decide)) (fun _ _ _ _ _ _ _ => ts_nil) (fun _ _ _ _ _ _ hP => (q_idx hr.r (qv 1) q_int)))) a_nil)) (a_cons (q_tupleS rfl T.b_tuple (a_cons (q_froz (o_lc (own := [("_law_wire", 2)]) hP rfl nd (i_seq hP (q_idx hr.r (qv 0) q_int)) (blkOk_by (own := [("_law_wire", 2)]) (N := N__law_first) (sc := defScope s__law_first) (by decide +kernel)) (fun _ _ _ _ _ => pg_name (i := 2) nd rfl (Or.inl rfl)) (tgt_name (i := 2) (by decide) (by decide)) (fun _ _ _ _ _ _ _ => ts_nil) (fun _ _ _ _ _ _ hP => (q_idx hr.r (qv 2) q_int)))) a_nil)) a_nil)))))
theorem at__law_first {k : Nat} {S : SpD} (T : Mg mg) (FA : FunAt K mg "_law_first" s__law_first ["_law_sheet"])
  (pure : ∀ ds q, S ds q → ds.length = P__law_first.length → g__law_first (endsOf P__law_first q) (startE N__law_first.length P__law_first ds)) : FnAt Pg w K mg base (k + 1) "_law_first" ["_law_sheet"] P__law_first S :=
  fn_at FA sc__law_first rfl (by decide) (fun f cdv A outer s H E C hr hP => d__law_first T hr hP) pure
abbrev s__law_behind : Stmt := topS 19
abbrev N__law_behind : List Str := ["_law_sheet", "_law_stand", "_law_k", "_law_marks", "_law_at", "_law_befores", "_law_behinds", "_law_mark", "_law_name", "_law_way", "_law_values", "_law_wire"]
abbrev P__law_behind : List Bool := [false, false, false]
theorem sc__law_behind : FnScope N__law_behind ["_law_sheet", "_law_stand", "_law_k"] (defScope s__law_behind) := ⟨rfl, rfl, rfl, by decide +kernel, rfl, by decide +kernel, by decide +kernel⟩
def g__law_behind_L5 : DS :=
  (dIf (dTest (dBin (inD true) (dVar 2) (dVar 5)))
    (dSetIx P__law_behind 3 setD (dC (.int 1)) (dVar 4))
    dNext)
def g__law_behind_L3 : DS :=
  (dSeq (dIf (dTest (dBin (inD true) (dVar 2) (dVar 6)))
    (dSetIx P__law_behind 3 setD (dC (.int 0)) (dVar 4))
    dNext)
   (g__law_behind_L5))
def g__law_behind_L10 : DS :=
  (dRet P__law_behind (dTup P__law_behind (dCons (dCB tupleSD (dCons (dVar 3) dNil)) (dCons (dCB tupleSD (dCons (dVar 10) dNil)) dNil))))
def g__law_behind_L9 : DS :=
  (dSeq (dSetIx P__law_behind 10 setD (dVar 9) (dBM "list" indexD (dFroz (dLc P__law_behind (dSeqI P__law_behind (dBin ixD (dVar 0) (dC (.int 0)))) (gN 11) dYes (dBin ixD (dVar 11) (dC (.int 0))) [11])) (dCons (dVar 8) dNil)))
  (g__law_behind_L10))
def g__law_behind_L8 : DS :=
  (dSeq (dSetO 10 (dCBL listSD (dCons (dBin ixD (dVar 1) (dC (.int 1))) dNil)))
  (g__law_behind_L9))
def g__law_behind_L7 : DS :=
  (dSeq (dAsg P__law_behind (dBin ixD (dBin ixD (dVar 0) (dC (.int 1))) (dVar 2)) (gTup' 2 (gCons' (gN 8) (gCons' (gN 9) gNil'))))
  (g__law_behind_L8))
def g__law_behind_L2 : DS :=
  (dSeq (dFor (dEnum P__law_behind (dCons (dBin ixD (dVar 0) (dC (.int 2))) dNil)) (gTup' 2 (gCons' (gN 4) (gCons' (gTup' 3 (gCons' (gN 5) (gCons' (gN 6) (gCons' (gN 7) gNil')))) gNil')))
   (g__law_behind_L3))
  (g__law_behind_L7))
def g__law_behind : DS :=
  (dSeq (dSetO 3 (dCBL listSD (dCons (dBin ixD (dVar 1) (dC (.int 0))) dNil)))
  (g__law_behind_L2))
theorem d__law_behind {k : Nat} {f : Addr} {cdv : Value} {A : Around} {outer : List Env} {s : Shared} {H : Hp} {E : XK} {C : FC} (T : Mg mg)
  (hr : RG k (A.deeper (PyProof.Rows.envOfC "_law_behind" (defScope s__law_behind) s.heap.objs.size f cdv))) (hP : C.Tags P__law_behind) :
  QSs (cxOf CX0 Pg w K mg base N__law_behind "_law_behind" (defScope s__law_behind) f cdv A outer s H E).nox C (defBody s__law_behind) (g__law_behind) :=
  have nd := sc__law_behind.nd
  (s_cons (s_setO (i := 3) hP nd (o_listS rfl T.b_list (a_cons (q_idx hr.r (qv 1) q_int) a_nil)))
  (s_cons (s_for PassesOwn.never rfl (i_enum hP T.b_enumerate (a_cons (q_idx hr.r (qv 0) q_int) a_nil)) (g_tup rfl (gs_cons (g_name (i := 4) hP nd) (gs_cons (g_tup rfl (gs_cons (g_name (i := 5) hP nd) (gs_cons (g_name (i := 6) hP nd) (gs_cons (g_name (i := 7) hP nd) gs_nil)))) gs_nil)))
   (s_cons (s_if (t_in (qv 2) (qv 6))
    (s_one (s_put (i := 3) hP hr.r q_int (qv 4)))
    s_nil)
   (s_one (s_if (t_in (qv 2) (qv 5))
    (s_one (s_put (i := 3) hP hr.r q_int (qv 4)))
    s_nil))))
  (s_cons (s_asg hP (q_idx hr.r (q_idx hr.r (qv 0) q_int) (qv 2)) (g_tup rfl (gs_cons (g_name (i := 8) hP nd) (gs_cons (g_name (i := 9) hP nd) gs_nil))))
  (s_cons (s_setO (i := 10) hP nd (o_listS rfl T.b_list (a_cons (q_idx hr.r (qv 1) q_int) a_nil)))
  (s_cons (s_put (i := 10) hP hr.r (qv 9) (q_index hr.r (q_froz (o_lc (own := [("_law_wire", 11)]) hP rfl nd (i_seq hP (q_idx hr.r (qv 0) q_int)) (blkOk_by (own := [("_law_wire", 11)]) (N := N__law_behind) (sc := defScope s__law_behind) (by decide +kernel)) (fun _ _ _ _ _ => pg_name (i := 11) nd rfl (Or.inl rfl)) (tgt_name (i := 11) (by decide) (by decide)) (fun _ _ _ _ _ _ _ => ts_nil) (fun _ _ _ _ _ _ hP => (q_idx hr.r (qv 11) q_int)))) (a_cons (qv 8) a_nil)))
  (s_one (s_ret hP (q_tup hP (a_cons (q_tupleS rfl T.b_tuple (a_cons (qv 3) a_nil)) (a_cons (q_tupleS rfl T.b_tuple (a_cons (qv 10) a_nil)) a_nil))))))))))
theorem at__law_behind {k : Nat} {S : SpD} (T : Mg mg) (FA : FunAt K mg "_law_behind" s__law_behind ["_law_sheet", "_law_stand", "_law_k"])
  (pure : ∀ ds q, S ds q → ds.length = P__law_behind.length → g__law_behind (endsOf P__law_behind q) (startE N__law_behind.length P__law_behind ds)) : FnAt Pg w K mg base (k + 1) "_law_behind" ["_law_sheet", "_law_stand", "_law_k"] P__law_behind S :=
  fn_at FA sc__law_behind rfl (by decide) (fun f cdv A outer s H E C hr hP => d__law_behind T hr hP) pure
abbrev s__law_begun : Stmt := topS 20
abbrev N__law_begun : List Str := ["_law_pen_here", "_law_sheet", "_law_stand", "_law_k", "_law_wires", "_law_spots", "_law_may_here", "_law_wire", "_law_value", "_law_spot", "_law_mark"]
abbrev P__law_begun : List Bool := [true, false]
theorem sc__law_begun : FnScope N__law_begun ["_law_pen_here", "_law_sheet"] (defScope s__law_begun) := ⟨rfl, rfl, rfl, by decide +kernel, rfl, by decide +kernel, by decide +kernel⟩
def g__law_begun_L4 (S__law_first S__law_draw : SpD) (S__law_may S__law_behind : SpD) : DS :=
  (dSet P__law_begun 2 (dCall P__law_begun [false, false, false] S__law_behind (dCons (dVar 1) (dCons (dVar 2) (dCons (dBin ixD (dVar 6) (dCall P__law_begun [true, false] S__law_draw (dCons (dVar 0) (dCons (dCB lenD (dCons (dVar 6) dNil)) dNil)))) dNil)))))
def g__law_begun_L3 (S__law_first S__law_draw : SpD) (S__law_may S__law_behind : SpD) : DS :=
  (dSeq (dSet P__law_begun 6 (dCall P__law_begun [false, false] S__law_may (dCons (dVar 1) (dCons (dBin ixD (dVar 2) (dC (.int 0))) dNil))))
   (g__law_begun_L4 S__law_first S__law_draw S__law_may S__law_behind))
def g__law_begun_L7 (S__law_first S__law_draw : SpD) (S__law_may S__law_behind : SpD) : DS :=
  (dRet P__law_begun (dTup P__law_begun (dCons (dCB tupleSD (dCons (dVar 4) dNil)) (dCons (dBin ixD (dVar 1) (dC (.int 1))) (dCons (dCB tupleSD (dCons (dVar 5) dNil)) dNil)))))
def g__law_begun_L6 (S__law_first S__law_draw : SpD) (S__law_may S__law_behind : SpD) : DS :=
  (dSeq (dSet P__law_begun 5 (dFroz (dLc P__law_begun (dZip P__law_begun (dCons (dBin ixD (dVar 1) (dC (.int 2))) (dCons (dBin ixD (dVar 2) (dC (.int 0))) dNil))) (gTup' 2 (gNs' [9, 10])) dYes (dBin addAD (dSlA (dVar 9) dNoP (dPart (dC (.int 2)))) (dTup P__law_begun (dCons (dVar 10) dNil))) [9, 10])))
  (g__law_begun_L7 S__law_first S__law_draw S__law_may S__law_behind))
def g__law_begun_L5 (S__law_first S__law_draw : SpD) (S__law_may S__law_behind : SpD) : DS :=
  (dSeq (dSet P__law_begun 4 (dFroz (dLc P__law_begun (dZip P__law_begun (dCons (dBin ixD (dVar 1) (dC (.int 0))) (dCons (dBin ixD (dVar 2) (dC (.int 1))) dNil))) (gTup' 2 (gNs' [7, 8])) dYes (dBin addAD (dSlA (dVar 7) dNoP (dPart (dC (.int 2)))) (dTup P__law_begun (dCons (dVar 8) dNil))) [7, 8])))
  (g__law_begun_L6 S__law_first S__law_draw S__law_may S__law_behind))
def g__law_begun_L2 (S__law_first S__law_draw : SpD) (S__law_may S__law_behind : SpD) : DS :=
  (dSeq (dFor (dRng1 (dCons (dBin mulAD (dCall P__law_begun [true, false] S__law_draw (dCons (dVar 0) (dCons (dC (.int 2)) dNil))) (dCall P__law_begun [true, false] S__law_draw (dCons (dVar 0) (dCons (dBin addAD (dCB lenD (dCons (dBin ixD (dVar 1) (dC (.int 1))) dNil)) (dC (.int 1))) dNil)))) dNil)) (gN 3)
   (g__law_begun_L3 S__law_first S__law_draw S__law_may S__law_behind))
  (g__law_begun_L5 S__law_first S__law_draw S__law_may S__law_behind))
def g__law_begun (S__law_first S__law_draw : SpD) (S__law_may S__law_behind : SpD) : DS :=
  (dSeq (dSet P__law_begun 2 (dCall P__law_begun [false] S__law_first (dCons (dVar 1) dNil)))
  (g__law_begun_L2 S__law_first S__law_draw S__law_may S__law_behind))
theorem d__law_begun {S__law_first S__law_draw : SpD} {S__law_may S__law_behind : SpD} {k : Nat} {f : Addr} {cdv : Value} {A : Around} {outer : List Env} {s : Shared} {H : Hp} {E : XK} {C : FC} (T : Mg mg) (h__law_first : FnAt Pg w K mg base k "_law_first" ["_law_sheet"] [false] S__law_first) (h__law_draw : FnAt Pg w K mg base k "_law_draw" ["_law_pen_here", "_law_many"] [true, false] S__law_draw) (h__law_may : FnAt Pg w K mg base k "_law_may" ["_law_sheet", "_law_marks"] [false, false] S__law_may) (h__law_behind : FnAt Pg w K mg base k "_law_behind" ["_law_sheet", "_law_stand", "_law_k"] [false, false, false] S__law_behind)
  (hr : RG k (A.deeper (PyProof.Rows.envOfC "_law_begun" (defScope s__law_begun) s.heap.objs.size f cdv))) (hP : C.Tags P__law_begun) :
  QSs (cxOf CX0 Pg w K mg base N__law_begun "_law_begun" (defScope s__law_begun) f cdv A outer s H E).nox C (defBody s__law_begun) (g__law_begun S__law_first S__law_draw S__law_may S__law_behind) :=
  have nd := sc__law_begun.nd
  (s_cons (s_set (i := 2) hP nd (q_callF hP h__law_first hr (a_cons (qv 1) a_nil)))
  (s_cons (s_for PassesOwn.never rfl (i_range1 T.b_range (a_cons (q_mulA (q_callF hP h__law_draw hr (a_cons (qv 0) (a_cons q_int a_nil))) (q_callF hP h__law_draw hr (a_cons (qv 0) (a_cons (q_addA (q_len T.b_len (a_cons (q_idx hr.r (qv 1) q_int) a_nil)) q_int) a_nil)))) a_nil)) (g_name (i := 3) hP nd)
   (s_cons (s_set (i := 6) hP nd (q_callF hP h__law_may hr (a_cons (qv 1) (a_cons (q_idx hr.r (qv 2) q_int) a_nil))))
   (s_one (s_set (i := 2) hP nd (q_callF hP h__law_behind hr (a_cons (qv 1) (a_cons (qv 2) (a_cons (q_idx hr.r (qv 6) (q_callF hP h__law_draw hr (a_cons (qv 0) (a_cons (q_len T.b_len (a_cons (qv 6) a_nil)) a_nil)))) a_nil))))))))
  (s_cons (s_setLc (own := [("_law_wire", 7), ("_law_value", 8)]) (i := 4) hP rfl nd (i_zip2 hP T.b_zip (a_cons (q_idx hr.r (qv 1) q_int) (a_cons (q_idx hr.r (qv 2) q_int) a_nil))) (blkOk_by (own := [("_law_wire", 7), ("_law_value", 8)]) (N := N__law_begun) (sc := defScope s__law_begun) (by decide +kernel)) (fun _ _ _ _ _ => pg_tup rfl (pgs_cons (pg_name (i := 7) nd rfl (Or.inl rfl)) (pgs_cons (pg_name (i := 8) nd rfl (Or.inl rfl)) pgs_nil))) (tgt_tup (is := [7, 8]) (by decide)) (fun _ _ _ _ _ _ _ => ts_nil) (fun _ _ _ _ _ _ hP => (q_addA (q_sliceA (qv 7) p_none (p_some q_int)) (q_tup hP (a_cons (qv 8) a_nil)))) (sw_true rfl rfl rfl (by decide +kernel)))
  (s_cons (s_setLc (own := [("_law_spot", 9), ("_law_mark", 10)]) (i := 5) hP rfl nd (i_zip2 hP T.b_zip (a_cons (q_idx hr.r (qv 1) q_int) (a_cons (q_idx hr.r (qv 2) q_int) a_nil))) (blkOk_by (own := [("_law_spot", 9), ("_law_mark", 10)]) (N := N__law_begun) (sc := defScope s__law_begun) (by decide +kernel)) (fun _ _ _ _ _ => pg_tup rfl (pgs_cons (pg_name (i := 9) nd rfl (Or.inl rfl)) (pgs_cons (pg_name (i := 10) nd rfl (Or.inl rfl)) pgs_nil))) (tgt_tup (is := [9, 10]) (by decide)) (fun _ _ _ _ _ _ _ => ts_nil) (fun _ _ _ _ _ _ hP => (q_addA (q_sliceA (qv 9) p_none (p_some q_int)) (q_tup hP (a_cons (qv 10) a_nil)))) (sw_true rfl rfl rfl (by decide +kernel)))
  (s_one (s_ret hP (q_tup hP (a_cons (q_tupleS rfl T.b_tuple (a_cons (qv 4) a_nil)) (a_cons (q_idx hr.r (qv 1) q_int) (a_cons (q_tupleS rfl T.b_tuple (a_cons (qv 5) a_nil)) a_nil))))))))))
theorem at__law_begun {S__law_first S__law_draw : SpD} {S__law_may S__law_behind : SpD} {k : Nat} {S : SpD} (T : Mg mg) (FA : FunAt K mg "_law_begun" s__law_begun ["_law_pen_here", "_law_sheet"]) (h__law_first : FnAt Pg w K mg base k "_law_first" ["_law_sheet"] [false] S__law_first) (h__law_draw : FnAt Pg w K mg base k "_law_draw" ["_law_pen_here", "_law_many"] [true, false] S__law_draw) (h__law_may : FnAt Pg w K mg base k "_law_may" ["_law_sheet", "_law_marks"] [false, false] S__law_may) (h__law_behind : FnAt Pg w K mg base k "_law_behind" ["_law_sheet", "_law_stand", "_law_k"] [false, false, false] S__law_behind)
  (pure : ∀ ds q, S ds q → ds.length = P__law_begun.length → g__law_begun S__law_first S__law_draw S__law_may S__law_behind (endsOf P__law_begun q) (startE N__law_begun.length P__law_begun ds)) : FnAt Pg w K mg base (k + 1) "_law_begun" ["_law_pen_here", "_law_sheet"] P__law_begun S :=
  fn_at FA sc__law_begun rfl (by decide) (fun f cdv A outer s H E C hr hP => d__law_begun T h__law_first h__law_draw h__law_may h__law_behind hr hP) pure
abbrev s__law_pairs_joined : Stmt := topS 21
abbrev N__law_pairs_joined : List Str := ["_law_pen_here", "_law_word_here", "_law_most", "_law_spots", "_law_pairs", "_law_many", "_law_wire", "_law_k", "_law_one", "_law_other", "_law_own", "_law_others", "_law_j", "_law_turn"]
abbrev P__law_pairs_joined : List Bool := [true, false, false]
theorem sc__law_pairs_joined : FnScope N__law_pairs_joined ["_law_pen_here", "_law_word_here", "_law_most"] (defScope s__law_pairs_joined) := ⟨rfl, rfl, rfl, by decide +kernel, rfl, by decide +kernel, by decide +kernel⟩
def g__law_pairs_joined_L9 (S__law_draw : SpD) : DS :=
  (dIf (dTest (dBin neD (dVar 11) (dFroz (dLst P__law_pairs_joined dNil))))
    (dDrop (dMut P__law_pairs_joined "list" 4 appendD (dCons (dTup P__law_pairs_joined (dCons (dBin ixD (dVar 10) (dCall P__law_pairs_joined [true, false] S__law_draw (dCons (dVar 0) (dCons (dCB lenD (dCons (dVar 10) dNil)) dNil)))) (dCons (dBin ixD (dVar 11) (dCall P__law_pairs_joined [true, false] S__law_draw (dCons (dVar 0) (dCons (dCB lenD (dCons (dVar 11) dNil)) dNil)))) dNil))) dNil)))
    dNext)
def g__law_pairs_joined_L8 (S__law_draw : SpD) : DS :=
  (dSeq (dSet P__law_pairs_joined 11 (dFroz (dLc P__law_pairs_joined (dRng1 (dCons (dCB lenD (dCons (dVar 1) dNil)) dNil)) (gN 12) (dTest (dBin ltD (dBin ixD (dBin ixD (dVar 1) (dVar 12)) (dC (.int 0))) (dVar 6))) (dVar 12) [12])))
   (g__law_pairs_joined_L9 S__law_draw))
def g__law_pairs_joined_L7 (S__law_draw : SpD) : DS :=
  (dSeq (dDrop (dMut P__law_pairs_joined "list" 3 appendD (dCons (dTup P__law_pairs_joined (dCons (dTup P__law_pairs_joined (dCons (dBin ixD (dVar 10) (dNeg (dC (.int 1)))) dNil)) (dCons (dTup P__law_pairs_joined (dCons (dBin ixD (dVar 10) (dC (.int 0))) dNil)) (dCons (dC (.int 1)) dNil)))) dNil)))
   (g__law_pairs_joined_L8 S__law_draw))
def g__law_pairs_joined_L6 (S__law_draw : SpD) : DS :=
  (dSeq (dDrop (dMut P__law_pairs_joined "list" 3 extendAD (dCons (dFroz (dLc P__law_pairs_joined (dRng1 (dCons (dBin subD (dCB lenD (dCons (dVar 10) dNil)) (dC (.int 1))) dNil)) (gN 7) dYes (dTup P__law_pairs_joined (dCons (dTup P__law_pairs_joined (dCons (dBin ixD (dVar 10) (dVar 7)) dNil)) (dCons (dTup P__law_pairs_joined (dCons (dBin ixD (dVar 10) (dBin addAD (dVar 7) (dC (.int 1)))) dNil)) (dCons (dC (.int 0)) dNil)))) [7])) dNil)))
   (g__law_pairs_joined_L7 S__law_draw))
def g__law_pairs_joined_L5 (S__law_draw : SpD) : DS :=
  (dSeq (dSet P__law_pairs_joined 10 (dFroz (dLc P__law_pairs_joined (dRng1 (dCons (dCB lenD (dCons (dVar 1) dNil)) dNil)) (gN 12) (dTest (dBin eqD (dBin ixD (dBin ixD (dVar 1) (dVar 12)) (dC (.int 0))) (dVar 6))) (dVar 12) [12])))
   (g__law_pairs_joined_L6 S__law_draw))
def g__law_pairs_joined_L13 (S__law_draw : SpD) : DS :=
  (dDrop (dMut P__law_pairs_joined "list" 4 appendD (dCons (dTup P__law_pairs_joined (dCons (dVar 8) (dCons (dBin modD (dBin addAD (dBin addAD (dVar 8) (dC (.int 1))) (dCall P__law_pairs_joined [true, false] S__law_draw (dCons (dVar 0) (dCons (dBin subD (dCB lenD (dCons (dVar 1) dNil)) (dC (.int 1))) dNil)))) (dCB lenD (dCons (dVar 1) dNil))) dNil))) dNil)))
def g__law_pairs_joined_L12 (S__law_draw : SpD) : DS :=
  (dSeq (dSet P__law_pairs_joined 8 (dCall P__law_pairs_joined [true, false] S__law_draw (dCons (dVar 0) (dCons (dCB lenD (dCons (dVar 1) dNil)) dNil))))
   (g__law_pairs_joined_L13 S__law_draw))
def g__law_pairs_joined_L15 (S__law_draw : SpD) : DS :=
  (dSetO 3 (dBinL catD (dVar 3) (dFroz (dLst P__law_pairs_joined (dCons (dTup P__law_pairs_joined (dCons (dTup P__law_pairs_joined (dCons (dCB min2D (dCons (dVar 8) (dCons (dVar 9) dNil))) dNil)) (dCons (dTup P__law_pairs_joined (dCons (dCB max2D (dCons (dVar 8) (dCons (dVar 9) dNil))) dNil)) (dCons (dC (.int 0)) dNil)))) (dCons (dTup P__law_pairs_joined (dCons (dTup P__law_pairs_joined (dCons (dCB max2D (dCons (dVar 8) (dCons (dVar 9) dNil))) dNil)) (dCons (dTup P__law_pairs_joined (dCons (dCB min2D (dCons (dVar 8) (dCons (dVar 9) dNil))) dNil)) (dCons (dC (.int 1)) dNil)))) dNil))))))
def g__law_pairs_joined_L16 (S__law_draw : SpD) : DS :=
  (dRet P__law_pairs_joined (dVar 3))
def g__law_pairs_joined_L14 (S__law_draw : SpD) : DS :=
  (dSeq (dFor (dSeqI P__law_pairs_joined (dSlA (dVar 4) dNoP (dPart (dBin fdivD (dBin subD (dVar 2) (dCB lenD (dCons (dVar 3) dNil))) (dC (.int 2)))))) (gTup' 2 (gCons' (gN 8) (gCons' (gN 9) gNil')))
   (g__law_pairs_joined_L15 S__law_draw))
  (g__law_pairs_joined_L16 S__law_draw))
def g__law_pairs_joined_L11 (S__law_draw : SpD) : DS :=
  (dSeq (dFor (dRng1 (dCons (dCall P__law_pairs_joined [true, false] S__law_draw (dCons (dVar 0) (dCons (dBin addAD (dCB lenD (dCons (dVar 1) dNil)) (dC (.int 1))) dNil))) dNil)) (gN 7)
   (g__law_pairs_joined_L12 S__law_draw))
  (g__law_pairs_joined_L14 S__law_draw))
def g__law_pairs_joined_L4 (S__law_draw : SpD) : DS :=
  (dSeq (dFor (dRng1 (dCons (dVar 5) dNil)) (gN 6)
   (g__law_pairs_joined_L5 S__law_draw))
  (g__law_pairs_joined_L11 S__law_draw))
def g__law_pairs_joined_L3 (S__law_draw : SpD) : DS :=
  (dSeq (dSet P__law_pairs_joined 5 (dCB lenSetD (dCons (dFroz (dLc P__law_pairs_joined (dSeqI P__law_pairs_joined (dVar 1)) (gN 13) dYes (dBin ixD (dVar 13) (dC (.int 0))) [13])) dNil)))
  (g__law_pairs_joined_L4 S__law_draw))
def g__law_pairs_joined_L2 (S__law_draw : SpD) : DS :=
  (dSeq (dSetO 4 (dLst P__law_pairs_joined dNil))
  (g__law_pairs_joined_L3 S__law_draw))
def g__law_pairs_joined (S__law_draw : SpD) : DS :=
  (dSeq (dSetO 3 (dLst P__law_pairs_joined dNil))
  (g__law_pairs_joined_L2 S__law_draw))
theorem d__law_pairs_joined {S__law_draw : SpD} {k : Nat} {f : Addr} {cdv : Value} {A : Around} {outer : List Env} {s : Shared} {H : Hp} {E : XK} {C : FC} (T : Mg mg) (h__law_draw : FnAt Pg w K mg base k "_law_draw" ["_law_pen_here", "_law_many"] [true, false] S__law_draw)
  (hr : RG k (A.deeper (PyProof.Rows.envOfC "_law_pairs_joined" (defScope s__law_pairs_joined) s.heap.objs.size f cdv))) (hP : C.Tags P__law_pairs_joined) :
  QSs (cxOf CX0 Pg w K mg base N__law_pairs_joined "_law_pairs_joined" (defScope s__law_pairs_joined) f cdv A outer s H E).nox C (defBody s__law_pairs_joined) (g__law_pairs_joined S__law_draw) :=
  have nd := sc__law_pairs_joined.nd
  (s_cons (s_setO (i := 3) hP nd (o_lst hP a_nil))
  (s_cons (s_setO (i := 4) hP nd (o_lst hP a_nil))
  (s_cons (s_set (i := 5) hP nd (q_lenSet rfl T.b_len T.b_set (a_cons (q_froz (o_lc (own := [("_law_turn", 13)]) hP rfl nd (i_seq hP (qv 1)) (blkOk_by (own := [("_law_turn", 13)]) (N := N__law_pairs_joined) (sc := defScope s__law_pairs_joined) (by decide +kernel)) (fun _ _ _ _ _ => pg_name (i := 13) nd rfl (Or.inl rfl)) (tgt_name (i := 13) (by decide) (by decide)) (fun _ _ _ _ _ _ _ => ts_nil) (fun _ _ _ _ _ _ hP => (q_idx hr.r (qv 13) q_int)))) a_nil)))
  (s_cons (s_for PassesOwn.never rfl (i_range1 T.b_range (a_cons (qv 5) a_nil)) (g_name (i := 6) hP nd)
   (s_cons (s_set (i := 10) hP nd (q_froz (o_lc (own := [("_law_j", 12)]) hP rfl nd (i_range1 T.b_range (a_cons (q_len T.b_len (a_cons (qv 1) a_nil)) a_nil)) (blkOk_by (own := [("_law_j", 12)]) (N := N__law_pairs_joined) (sc := defScope s__law_pairs_joined) (by decide +kernel)) (fun _ _ _ _ _ => pg_name (i := 12) nd rfl (Or.inl rfl)) (tgt_name (i := 12) (by decide) (by decide)) (fun _ _ _ _ _ _ hP => ts_one (t_eq hr.r (q_idx hr.r (q_idx hr.r (qv 1) (qv 12)) q_int) (qv 6))) (fun _ _ _ _ _ _ hP => (qv 12)))))
   (s_cons (s_expr (m_extendA (i := 3) hP (a_cons (q_froz (o_lc (own := [("_law_k", 7)]) hP rfl nd (i_range1 T.b_range (a_cons (q_sub (q_len T.b_len (a_cons (qv 10) a_nil)) q_int) a_nil)) (blkOk_by (own := [("_law_k", 7)]) (N := N__law_pairs_joined) (sc := defScope s__law_pairs_joined) (by decide +kernel)) (fun _ _ _ _ _ => pg_name (i := 7) nd rfl (Or.inl rfl)) (tgt_name (i := 7) (by decide) (by decide)) (fun _ _ _ _ _ _ _ => ts_nil) (fun _ _ _ _ _ _ hP => (q_tup hP (a_cons (q_tup hP (a_cons (q_idx hr.r (qv 10) (qv 7)) a_nil)) (a_cons (q_tup hP (a_cons (q_idx hr.r (qv 10) (q_addA (qv 7) q_int)) a_nil)) (a_cons q_int a_nil))))))) a_nil)))
   (s_cons (s_expr (m_append (i := 3) hP (a_cons (q_tup hP (a_cons (q_tup hP (a_cons (q_idx hr.r (qv 10) (q_neg q_int)) a_nil)) (a_cons (q_tup hP (a_cons (q_idx hr.r (qv 10) q_int) a_nil)) (a_cons q_int a_nil)))) a_nil)))
   (s_cons (s_setLc (own := [("_law_j", 12)]) (i := 11) hP rfl nd (i_range1 T.b_range (a_cons (q_len T.b_len (a_cons (qv 1) a_nil)) a_nil)) (blkOk_by (own := [("_law_j", 12)]) (N := N__law_pairs_joined) (sc := defScope s__law_pairs_joined) (by decide +kernel)) (fun _ _ _ _ _ => pg_name (i := 12) nd rfl (Or.inl rfl)) (tgt_name (i := 12) (by decide) (by decide)) (fun _ _ _ _ _ _ hP => ts_one (t_lt (q_idx hr.r (q_idx hr.r (qv 1) (qv 12)) q_int) (qv 6))) (fun _ _ _ _ _ _ hP => (qv 12)) (sw_true rfl rfl rfl (by decide +kernel)))
   (s_one (s_if (t_ne hr.r (qv 11) (q_froz (o_lst hP a_nil)))
    (s_one (s_expr (m_append (i := 4) hP (a_cons (q_tup hP (a_cons (q_idx hr.r (qv 10) (q_callF hP h__law_draw hr (a_cons (qv 0) (a_cons (q_len T.b_len (a_cons (qv 10) a_nil)) a_nil)))) (a_cons (q_idx hr.r (qv 11) (q_callF hP h__law_draw hr (a_cons (qv 0) (a_cons (q_len T.b_len (a_cons (qv 11) a_nil)) a_nil)))) a_nil))) a_nil))))
    s_nil)))))))
  (s_cons (s_for PassesOwn.never rfl (i_range1 T.b_range (a_cons (q_callF hP h__law_draw hr (a_cons (qv 0) (a_cons (q_addA (q_len T.b_len (a_cons (qv 1) a_nil)) q_int) a_nil))) a_nil)) (g_name (i := 7) hP nd)
   (s_cons (s_set (i := 8) hP nd (q_callF hP h__law_draw hr (a_cons (qv 0) (a_cons (q_len T.b_len (a_cons (qv 1) a_nil)) a_nil))))
   (s_one (s_expr (m_append (i := 4) hP (a_cons (q_tup hP (a_cons (qv 8) (a_cons (q_mod (q_addA (q_addA (qv 8) q_int) (q_callF hP h__law_draw hr (a_cons (qv 0) (a_cons (q_sub (q_len T.b_len (a_cons (qv 1) a_nil)) q_int) a_nil)))) (q_len T.b_len (a_cons (qv 1) a_nil))) a_nil))) a_nil))))))
  (s_cons (s_for PassesOwn.never rfl (i_seq hP (q_sliceA (qv 4) p_none (p_some (q_fdiv (q_sub (qv 2) (q_len T.b_len (a_cons (qv 3) a_nil))) q_int)))) (g_tup rfl (gs_cons (g_name (i := 8) hP nd) (gs_cons (g_name (i := 9) hP nd) gs_nil)))
   (s_one (s_setO (i := 3) hP nd (o_cat (qv 3) (q_froz (o_lst hP (a_cons (q_tup hP (a_cons (q_tup hP (a_cons (q_min2 rfl T.b_min (a_cons (qv 8) (a_cons (qv 9) a_nil))) a_nil)) (a_cons (q_tup hP (a_cons (q_max2 rfl T.b_max (a_cons (qv 8) (a_cons (qv 9) a_nil))) a_nil)) (a_cons q_int a_nil)))) (a_cons (q_tup hP (a_cons (q_tup hP (a_cons (q_max2 rfl T.b_max (a_cons (qv 8) (a_cons (qv 9) a_nil))) a_nil)) (a_cons (q_tup hP (a_cons (q_min2 rfl T.b_min (a_cons (qv 8) (a_cons (qv 9) a_nil))) a_nil)) (a_cons q_int a_nil)))) a_nil))))))))
  (s_one (s_ret hP (qv 3)))))))))
theorem at__law_pairs_joined {S__law_draw : SpD} {k : Nat} {S : SpD} (T : Mg mg) (FA : FunAt K mg "_law_pairs_joined" s__law_pairs_joined ["_law_pen_here", "_law_word_here", "_law_most"]) (h__law_draw : FnAt Pg w K mg base k "_law_draw" ["_law_pen_here", "_law_many"] [true, false] S__law_draw)
  (pure : ∀ ds q, S ds q → ds.length = P__law_pairs_joined.length → g__law_pairs_joined S__law_draw (endsOf P__law_pairs_joined q) (startE N__law_pairs_joined.length P__law_pairs_joined ds)) : FnAt Pg w K mg base (k + 1) "_law_pairs_joined" ["_law_pen_here", "_law_word_here", "_law_most"] P__law_pairs_joined S :=
  fn_at FA sc__law_pairs_joined rfl (by decide) (fun f cdv A outer s H E C hr hP => d__law_pairs_joined T h__law_draw hr hP) pure
abbrev s__law_round : Stmt := topS 22
abbrev N__law_round : List Str := ["_law_pen_here", "_law_most", "_law_word_here", "_law_firsts", "_law_spots", "_law_names_here", "_law_sides", "_law_turns", "_law_value", "_law_wire", "_law_way"]
abbrev P__law_round : List Bool := [true, false]
theorem sc__law_round : FnScope N__law_round ["_law_pen_here", "_law_most"] (defScope s__law_round) := ⟨rfl, rfl, rfl, by decide +kernel, rfl, by decide +kernel, by decide +kernel⟩
def g__law_round_L6 (S__law_word S__law_pairs_joined : SpD) (S__law_names S__law_draw S__law_begun : SpD) : DS :=
  (dRet P__law_round (dCall P__law_round [true, false] S__law_begun (dCons (dVar 0) (dCons (dTup P__law_round (dCons (dCB tupleSD (dCons (dFroz (dSortZ3 (dCons (dVar 5) (dCons (dVar 6) (dCons (dVar 3) dNil))))) dNil)) (dCons (dCB tupleSD (dCons (dVar 7) dNil)) (dCons (dCB tupleSD (dCons (dVar 4) dNil)) dNil)))) dNil))))
def g__law_round_L5 (S__law_word S__law_pairs_joined : SpD) (S__law_names S__law_draw S__law_begun : SpD) : DS :=
  (dSeq (dSet P__law_round 7 (dFroz (dLc P__law_round (dSeqI P__law_round (dVar 2)) (gTup' 2 (gNs' [9, 10])) dYes (dTup P__law_round (dCons (dBin ixD (dVar 5) (dVar 9)) (dCons (dVar 10) dNil))) [9, 10])))
  (g__law_round_L6 S__law_word S__law_pairs_joined S__law_names S__law_draw S__law_begun))
def g__law_round_L4 (S__law_word S__law_pairs_joined : SpD) (S__law_names S__law_draw S__law_begun : SpD) : DS :=
  (dSeq (dSet P__law_round 6 (dFroz (dLc P__law_round (dSeqI P__law_round (dVar 3)) (gN 8) dYes (dBin ixD (dFroz (dLst P__law_round (dCons (dC (.str "ask")) (dCons (dC (.str "answer")) dNil)))) (dCall P__law_round [true, false] S__law_draw (dCons (dVar 0) (dCons (dC (.int 2)) dNil)))) [8])))
  (g__law_round_L5 S__law_word S__law_pairs_joined S__law_names S__law_draw S__law_begun))
def g__law_round_L3 (S__law_word S__law_pairs_joined : SpD) (S__law_names S__law_draw S__law_begun : SpD) : DS :=
  (dSeq (dSet P__law_round 5 (dCall P__law_round [true, false] S__law_names (dCons (dVar 0) (dCons (dBin addAD (dCB lenD (dCons (dVar 3) dNil)) (dC (.int 1))) dNil))))
  (g__law_round_L4 S__law_word S__law_pairs_joined S__law_names S__law_draw S__law_begun))
def g__law_round_L2 (S__law_word S__law_pairs_joined : SpD) (S__law_names S__law_draw S__law_begun : SpD) : DS :=
  (dSeq (dSet P__law_round 4 (dCall P__law_round [true, false, false] S__law_pairs_joined (dCons (dVar 0) (dCons (dVar 2) (dCons (dC (.int 34)) dNil)))))
  (g__law_round_L3 S__law_word S__law_pairs_joined S__law_names S__law_draw S__law_begun))
def g__law_round (S__law_word S__law_pairs_joined : SpD) (S__law_names S__law_draw S__law_begun : SpD) : DS :=
  (dSeq (dAsg P__law_round (dCall P__law_round [true, false, false] S__law_word (dCons (dVar 0) (dCons (dBin powD (dC (.int 10)) (dC (.int 9))) (dCons (dVar 1) dNil)))) (gUnl' 2 (gCons' (gN 2) (gCons' (gN 3) gNil'))))
  (g__law_round_L2 S__law_word S__law_pairs_joined S__law_names S__law_draw S__law_begun))
theorem d__law_round {S__law_word S__law_pairs_joined : SpD} {S__law_names S__law_draw S__law_begun : SpD} {k : Nat} {f : Addr} {cdv : Value} {A : Around} {outer : List Env} {s : Shared} {H : Hp} {E : XK} {C : FC} (T : Mg mg) (h__law_word : FnAt Pg w K mg base k "_law_word" ["_law_pen_here", "_law_room", "_law_most"] [true, false, false] S__law_word) (h__law_pairs_joined : FnAt Pg w K mg base k "_law_pairs_joined" ["_law_pen_here", "_law_word_here", "_law_most"] [true, false, false] S__law_pairs_joined) (h__law_names : FnAt Pg w K mg base k "_law_names" ["_law_pen_here", "_law_many"] [true, false] S__law_names) (h__law_draw : FnAt Pg w K mg base k "_law_draw" ["_law_pen_here", "_law_many"] [true, false] S__law_draw) (h__law_begun : FnAt Pg w K mg base k "_law_begun" ["_law_pen_here", "_law_sheet"] [true, false] S__law_begun)
  (hr : RG k (A.deeper (PyProof.Rows.envOfC "_law_round" (defScope s__law_round) s.heap.objs.size f cdv))) (hP : C.Tags P__law_round) :
  QSs (cxOf CX0 Pg w K mg base N__law_round "_law_round" (defScope s__law_round) f cdv A outer s H E).nox C (defBody s__law_round) (g__law_round S__law_word S__law_pairs_joined S__law_names S__law_draw S__law_begun) :=
  have nd := sc__law_round.nd
  (s_cons (s_asg hP (q_callF hP h__law_word hr (a_cons (qv 0) (a_cons (q_pow q_int q_int) (a_cons (qv 1) a_nil)))) (g_unl rfl (gs_cons (g_name (i := 2) hP nd) (gs_cons (g_name (i := 3) hP nd) gs_nil))))
  (s_cons (s_set (i := 4) hP nd (q_callF hP h__law_pairs_joined hr (a_cons (qv 0) (a_cons (qv 2) (a_cons q_int a_nil)))))
  (s_cons (s_set (i := 5) hP nd (q_callF hP h__law_names hr (a_cons (qv 0) (a_cons (q_addA (q_len T.b_len (a_cons (qv 3) a_nil)) q_int) a_nil))))
  (s_cons (s_setLc (own := [("_law_value", 8)]) (i := 6) hP rfl nd (i_seq hP (qv 3)) (blkOk_by (own := [("_law_value", 8)]) (N := N__law_round) (sc := defScope s__law_round) (by decide +kernel)) (fun _ _ _ _ _ => pg_name (i := 8) nd rfl (Or.inl rfl)) (tgt_name (i := 8) (by decide) (by decide)) (fun _ _ _ _ _ _ _ => ts_nil) (fun _ _ _ _ _ _ hP => (q_idx hr.r (q_froz (o_lst hP (a_cons q_str (a_cons q_str a_nil)))) (q_callF hP h__law_draw hr (a_cons (qv 0) (a_cons q_int a_nil))))) (sw_true rfl rfl rfl (by decide +kernel)))
  (s_cons (s_setLc (own := [("_law_wire", 9), ("_law_way", 10)]) (i := 7) hP rfl nd (i_seq hP (qv 2)) (blkOk_by (own := [("_law_wire", 9), ("_law_way", 10)]) (N := N__law_round) (sc := defScope s__law_round) (by decide +kernel)) (fun _ _ _ _ _ => pg_tup rfl (pgs_cons (pg_name (i := 9) nd rfl (Or.inl rfl)) (pgs_cons (pg_name (i := 10) nd rfl (Or.inl rfl)) pgs_nil))) (tgt_tup (is := [9, 10]) (by decide)) (fun _ _ _ _ _ _ _ => ts_nil) (fun _ _ _ _ _ _ hP => (q_tup hP (a_cons (q_idx hr.r (qv 5) (qv 9)) (a_cons (qv 10) a_nil)))) (sw_true rfl rfl rfl (by decide +kernel)))
  (s_one (s_ret hP (q_callF hP h__law_begun hr (a_cons (qv 0) (a_cons (q_tup hP (a_cons (q_tupleS rfl T.b_tuple (a_cons (q_froz (o_sortZip3 hr.r rfl T.b_sorted T.b_zip (a_cons (qv 5) (a_cons (qv 6) (a_cons (qv 3) a_nil))))) a_nil)) (a_cons (q_tupleS rfl T.b_tuple (a_cons (qv 7) a_nil)) (a_cons (q_tupleS rfl T.b_tuple (a_cons (qv 4) a_nil)) a_nil)))) a_nil))))))))))
theorem at__law_round {S__law_word S__law_pairs_joined : SpD} {S__law_names S__law_draw S__law_begun : SpD} {k : Nat} {S : SpD} (T : Mg mg) (FA : FunAt K mg "_law_round" s__law_round ["_law_pen_here", "_law_most"]) (h__law_word : FnAt Pg w K mg base k "_law_word" ["_law_pen_here", "_law_room", "_law_most"] [true, false, false] S__law_word) (h__law_pairs_joined : FnAt Pg w K mg base k "_law_pairs_joined" ["_law_pen_here", "_law_word_here", "_law_most"] [true, false, false] S__law_pairs_joined) (h__law_names : FnAt Pg w K mg base k "_law_names" ["_law_pen_here", "_law_many"] [true, false] S__law_names) (h__law_draw : FnAt Pg w K mg base k "_law_draw" ["_law_pen_here", "_law_many"] [true, false] S__law_draw) (h__law_begun : FnAt Pg w K mg base k "_law_begun" ["_law_pen_here", "_law_sheet"] [true, false] S__law_begun)
  (pure : ∀ ds q, S ds q → ds.length = P__law_round.length → g__law_round S__law_word S__law_pairs_joined S__law_names S__law_draw S__law_begun (endsOf P__law_round q) (startE N__law_round.length P__law_round ds)) : FnAt Pg w K mg base (k + 1) "_law_round" ["_law_pen_here", "_law_most"] P__law_round S :=
  fn_at FA sc__law_round rfl (by decide) (fun f cdv A outer s H E C hr hP => d__law_round T h__law_word h__law_pairs_joined h__law_names h__law_draw h__law_begun hr hP) pure
abbrev s__law_more : Stmt := topS 23
abbrev N__law_more : List Str := ["_law_pen_here", "_law_sheet", "_law_beside", "_law_spots", "_law_k", "_law_at", "_law_befores", "_law_behinds", "_law_mark"]
abbrev P__law_more : List Bool := [true, false, false]
theorem sc__law_more : FnScope N__law_more ["_law_pen_here", "_law_sheet", "_law_beside"] (defScope s__law_more) := ⟨rfl, rfl, rfl, by decide +kernel, rfl, by decide +kernel, by decide +kernel⟩
def g__law_more_L4 (S__law_draw : SpD) : DS :=
  (dDrop (dMut P__law_more "list" 3 appendD (dCons (dTup P__law_more (dCons (dTup P__law_more (dCons (dVar 5) dNil)) (dCons (dTup P__law_more (dCons (dVar 5) dNil)) (dCons (dC (.int 1)) dNil)))) dNil)))
def g__law_more_L3 (S__law_draw : SpD) : DS :=
  (dSeq (dSet P__law_more 5 (dCall P__law_more [true, false] S__law_draw (dCons (dVar 0) (dCons (dCB lenD (dCons (dBin ixD (dVar 1) (dC (.int 1))) dNil)) dNil))))
   (g__law_more_L4 S__law_draw))
def g__law_more_L7 (S__law_draw : SpD) : DS :=
  (dDrop (dMut P__law_more "list" 3 insertD (dCons (dCall P__law_more [true, false] S__law_draw (dCons (dVar 0) (dCons (dBin addAD (dCB lenD (dCons (dVar 3) dNil)) (dC (.int 1))) dNil))) (dCons (dTup P__law_more (dCons (dVar 6) (dCons (dVar 7) (dCons (dC (.int 1)) dNil)))) dNil))))
def g__law_more_L6 (S__law_draw : SpD) : DS :=
  (dSeq (dAsg P__law_more (dBin ixD (dVar 3) (dCall P__law_more [true, false] S__law_draw (dCons (dVar 0) (dCons (dCB lenD (dCons (dVar 3) dNil)) dNil)))) (gTup' 3 (gCons' (gN 6) (gCons' (gN 7) (gCons' (gN 8) gNil')))))
   (g__law_more_L7 S__law_draw))
def g__law_more_L8 (S__law_draw : SpD) : DS :=
  (dRet P__law_more (dTup P__law_more (dCons (dBin ixD (dVar 1) (dC (.int 0))) (dCons (dBin ixD (dVar 1) (dC (.int 1))) (dCons (dCB tupleSD (dCons (dVar 3) dNil)) dNil)))))
def g__law_more_L5 (S__law_draw : SpD) : DS :=
  (dSeq (dFor (dRng1 (dCons (dBin mulAD (dVar 2) (dCall P__law_more [true, false] S__law_draw (dCons (dVar 0) (dCons (dC (.int 4)) dNil)))) dNil)) (gN 4)
   (g__law_more_L6 S__law_draw))
  (g__law_more_L8 S__law_draw))
def g__law_more_L2 (S__law_draw : SpD) : DS :=
  (dSeq (dFor (dRng1 (dCons (dCall P__law_more [true, false] S__law_draw (dCons (dVar 0) (dCons (dC (.int 3)) dNil))) dNil)) (gN 4)
   (g__law_more_L3 S__law_draw))
  (g__law_more_L5 S__law_draw))
def g__law_more (S__law_draw : SpD) : DS :=
  (dSeq (dSetO 3 (dCBL listSD (dCons (dBin ixD (dVar 1) (dC (.int 2))) dNil)))
  (g__law_more_L2 S__law_draw))
theorem d__law_more {S__law_draw : SpD} {k : Nat} {f : Addr} {cdv : Value} {A : Around} {outer : List Env} {s : Shared} {H : Hp} {E : XK} {C : FC} (T : Mg mg) (h__law_draw : FnAt Pg w K mg base k "_law_draw" ["_law_pen_here", "_law_many"] [true, false] S__law_draw)
  (hr : RG k (A.deeper (PyProof.Rows.envOfC "_law_more" (defScope s__law_more) s.heap.objs.size f cdv))) (hP : C.Tags P__law_more) :
  QSs (cxOf CX0 Pg w K mg base N__law_more "_law_more" (defScope s__law_more) f cdv A outer s H E).nox C (defBody s__law_more) (g__law_more S__law_draw) :=
  have nd := sc__law_more.nd
  (s_cons (s_setO (i := 3) hP nd (o_listS rfl T.b_list (a_cons (q_idx hr.r (qv 1) q_int) a_nil)))
  (s_cons (s_for PassesOwn.never rfl (i_range1 T.b_range (a_cons (q_callF hP h__law_draw hr (a_cons (qv 0) (a_cons q_int a_nil))) a_nil)) (g_name (i := 4) hP nd)
   (s_cons (s_set (i := 5) hP nd (q_callF hP h__law_draw hr (a_cons (qv 0) (a_cons (q_len T.b_len (a_cons (q_idx hr.r (qv 1) q_int) a_nil)) a_nil))))
   (s_one (s_expr (m_append (i := 3) hP (a_cons (q_tup hP (a_cons (q_tup hP (a_cons (qv 5) a_nil)) (a_cons (q_tup hP (a_cons (qv 5) a_nil)) (a_cons q_int a_nil)))) a_nil))))))
  (s_cons (s_for PassesOwn.never rfl (i_range1 T.b_range (a_cons (q_mulA (qv 2) (q_callF hP h__law_draw hr (a_cons (qv 0) (a_cons q_int a_nil)))) a_nil)) (g_name (i := 4) hP nd)
   (s_cons (s_asg hP (q_idx hr.r (qv 3) (q_callF hP h__law_draw hr (a_cons (qv 0) (a_cons (q_len T.b_len (a_cons (qv 3) a_nil)) a_nil)))) (g_tup rfl (gs_cons (g_name (i := 6) hP nd) (gs_cons (g_name (i := 7) hP nd) (gs_cons (g_name (i := 8) hP nd) gs_nil)))))
   (s_one (s_expr (m_insert (i := 3) hP (a_cons (q_callF hP h__law_draw hr (a_cons (qv 0) (a_cons (q_addA (q_len T.b_len (a_cons (qv 3) a_nil)) q_int) a_nil))) (a_cons (q_tup hP (a_cons (qv 6) (a_cons (qv 7) (a_cons q_int a_nil)))) a_nil)))))))
  (s_one (s_ret hP (q_tup hP (a_cons (q_idx hr.r (qv 1) q_int) (a_cons (q_idx hr.r (qv 1) q_int) (a_cons (q_tupleS rfl T.b_tuple (a_cons (qv 3) a_nil)) a_nil)))))))))
theorem at__law_more {S__law_draw : SpD} {k : Nat} {S : SpD} (T : Mg mg) (FA : FunAt K mg "_law_more" s__law_more ["_law_pen_here", "_law_sheet", "_law_beside"]) (h__law_draw : FnAt Pg w K mg base k "_law_draw" ["_law_pen_here", "_law_many"] [true, false] S__law_draw)
  (pure : ∀ ds q, S ds q → ds.length = P__law_more.length → g__law_more S__law_draw (endsOf P__law_more q) (startE N__law_more.length P__law_more ds)) : FnAt Pg w K mg base (k + 1) "_law_more" ["_law_pen_here", "_law_sheet", "_law_beside"] P__law_more S :=
  fn_at FA sc__law_more rfl (by decide) (fun f cdv A outer s H E C hr hP => d__law_more T h__law_draw hr hP) pure
abbrev s__law_delays : Stmt := topS 24
abbrev N__law_delays : List Str := ["_law_pen_here", "_law_sheet", "_law_way", "_law_alike", "_law_found", "_law_turn", "_law_some"]
abbrev P__law_delays : List Bool := [true, false]
theorem sc__law_delays : FnScope N__law_delays ["_law_pen_here", "_law_sheet"] (defScope s__law_delays) := ⟨rfl, rfl, rfl, by decide +kernel, rfl, by decide +kernel, by decide +kernel⟩
def g__law_delays_L6 (S__law_draw : SpD) : DS :=
  (dDrop (dMut P__law_delays "list" 4 appendD (dCons (dBin ixD (dVar 6) (dVar 2)) dNil)))
def g__law_delays_L5 (S__law_draw : SpD) : DS :=
  (dSeq (dSet P__law_delays 6 (dFroz (dLst P__law_delays (dCons (dC (.int 0)) (dCons (dVar 3) (dCons (dCall P__law_delays [true, false] S__law_draw (dCons (dVar 0) (dCons (dC (.int 10)) dNil))) (dCons (dCall P__law_delays [true, false] S__law_draw (dCons (dVar 0) (dCons (dC (.int 1000001)) dNil))) (dCons (dBin ixD (dFroz (dLst P__law_delays (dCons (dC (.int 0)) (dCons (dC (.int 1000000)) dNil)))) (dCall P__law_delays [true, false] S__law_draw (dCons (dVar 0) (dCons (dC (.int 2)) dNil)))) dNil))))))))
   (g__law_delays_L6 S__law_draw))
def g__law_delays_L7 (S__law_draw : SpD) : DS :=
  (dRet P__law_delays (dCB tupleSD (dCons (dVar 4) dNil)))
def g__law_delays_L4 (S__law_draw : SpD) : DS :=
  (dSeq (dFor (dSeqI P__law_delays (dBin ixD (dVar 1) (dC (.int 1)))) (gN 5)
   (g__law_delays_L5 S__law_draw))
  (g__law_delays_L7 S__law_draw))
def g__law_delays_L3 (S__law_draw : SpD) : DS :=
  (dSeq (dSetO 4 (dLst P__law_delays dNil))
  (g__law_delays_L4 S__law_draw))
def g__law_delays_L2 (S__law_draw : SpD) : DS :=
  (dSeq (dSet P__law_delays 3 (dCall P__law_delays [true, false] S__law_draw (dCons (dVar 0) (dCons (dC (.int 1000001)) dNil))))
  (g__law_delays_L3 S__law_draw))
def g__law_delays (S__law_draw : SpD) : DS :=
  (dSeq (dSet P__law_delays 2 (dCall P__law_delays [true, false] S__law_draw (dCons (dVar 0) (dCons (dC (.int 5)) dNil))))
  (g__law_delays_L2 S__law_draw))
theorem d__law_delays {S__law_draw : SpD} {k : Nat} {f : Addr} {cdv : Value} {A : Around} {outer : List Env} {s : Shared} {H : Hp} {E : XK} {C : FC} (T : Mg mg) (h__law_draw : FnAt Pg w K mg base k "_law_draw" ["_law_pen_here", "_law_many"] [true, false] S__law_draw)
  (hr : RG k (A.deeper (PyProof.Rows.envOfC "_law_delays" (defScope s__law_delays) s.heap.objs.size f cdv))) (hP : C.Tags P__law_delays) :
  QSs (cxOf CX0 Pg w K mg base N__law_delays "_law_delays" (defScope s__law_delays) f cdv A outer s H E).nox C (defBody s__law_delays) (g__law_delays S__law_draw) :=
  have nd := sc__law_delays.nd
  (s_cons (s_set (i := 2) hP nd (q_callF hP h__law_draw hr (a_cons (qv 0) (a_cons q_int a_nil))))
  (s_cons (s_set (i := 3) hP nd (q_callF hP h__law_draw hr (a_cons (qv 0) (a_cons q_int a_nil))))
  (s_cons (s_setO (i := 4) hP nd (o_lst hP a_nil))
  (s_cons (s_for PassesOwn.never rfl (i_seq hP (q_idx hr.r (qv 1) q_int)) (g_name (i := 5) hP nd)
   (s_cons (s_set (i := 6) hP nd (q_froz (o_lst hP (a_cons q_int (a_cons (qv 3) (a_cons (q_callF hP h__law_draw hr (a_cons (qv 0) (a_cons q_int a_nil))) (a_cons (q_callF hP h__law_draw hr (a_cons (qv 0) (a_cons q_int a_nil))) (a_cons (q_idx hr.r (q_froz (o_lst hP (a_cons q_int (a_cons q_int a_nil)))) (q_callF hP h__law_draw hr (a_cons (qv 0) (a_cons q_int a_nil)))) a_nil))))))))
   (s_one (s_expr (m_append (i := 4) hP (a_cons (q_idx hr.r (qv 6) (qv 2)) a_nil))))))
  (s_one (s_ret hP (q_tupleS rfl T.b_tuple (a_cons (qv 4) a_nil))))))))
theorem at__law_delays {S__law_draw : SpD} {k : Nat} {S : SpD} (T : Mg mg) (FA : FunAt K mg "_law_delays" s__law_delays ["_law_pen_here", "_law_sheet"]) (h__law_draw : FnAt Pg w K mg base k "_law_draw" ["_law_pen_here", "_law_many"] [true, false] S__law_draw)
  (pure : ∀ ds q, S ds q → ds.length = P__law_delays.length → g__law_delays S__law_draw (endsOf P__law_delays q) (startE N__law_delays.length P__law_delays ds)) : FnAt Pg w K mg base (k + 1) "_law_delays" ["_law_pen_here", "_law_sheet"] P__law_delays S :=
  fn_at FA sc__law_delays rfl (by decide) (fun f cdv A outer s H E C hr hP => d__law_delays T h__law_draw hr hP) pure
abbrev s__law_one_round : Stmt := topS 25
abbrev N__law_one_round : List Str := ["_law_sheet", "_law_delays_here", "_law_last", "_law_found", "_law_befores", "_law_behinds", "_law_mark", "_law_turn"]
abbrev P__law_one_round : List Bool := [false, false, false]
theorem sc__law_one_round : FnScope N__law_one_round ["_law_sheet", "_law_delays_here", "_law_last"] (defScope s__law_one_round) := ⟨rfl, rfl, rfl, by decide +kernel, rfl, by decide +kernel, by decide +kernel⟩
def g__law_one_round_L3 : DS :=
  (dIf (dAnd (dTest (dBin eqD (dVar 6) (dC (.int 1)))) (dTest (dBin (isND false) (dVar 2) (dC .none))))
    (dSetIx P__law_one_round 3 setD (dCB max2D (dCons (dBin ixD (dVar 3) (dBin ixD (dVar 5) (dC (.int 0)))) (dCons (dBin addAD (dBin ixD (dVar 2) (dBin ixD (dVar 4) (dC (.int 0)))) (dBin ixD (dVar 1) (dBin ixD (dVar 5) (dC (.int 0))))) dNil))) (dBin ixD (dVar 5) (dC (.int 0))))
    dNext)
def g__law_one_round_L7 : DS :=
  (dIf (dTest (dBin eqD (dVar 6) (dC (.int 0))))
     (dSetIx P__law_one_round 3 setD (dCB max2D (dCons (dBin ixD (dVar 3) (dBin ixD (dVar 5) (dC (.int 0)))) (dCons (dBin addAD (dBin ixD (dVar 3) (dBin ixD (dVar 4) (dC (.int 0)))) (dBin ixD (dVar 1) (dBin ixD (dVar 5) (dC (.int 0))))) dNil))) (dBin ixD (dVar 5) (dC (.int 0))))
     dNext)
def g__law_one_round_L6 : DS :=
  (dFor (dSeqI P__law_one_round (dBin ixD (dVar 0) (dC (.int 2)))) (gTup' 3 (gCons' (gN 4) (gCons' (gN 5) (gCons' (gN 6) gNil'))))
    (g__law_one_round_L7))
def g__law_one_round_L9 : DS :=
  (dRet P__law_one_round (dVar 3))
def g__law_one_round_L5 : DS :=
  (dSeq (dFor (dSeqI P__law_one_round (dBin ixD (dVar 0) (dC (.int 1)))) (gN 7)
   (g__law_one_round_L6))
  (g__law_one_round_L9))
def g__law_one_round_L2 : DS :=
  (dSeq (dFor (dSeqI P__law_one_round (dBin ixD (dVar 0) (dC (.int 2)))) (gTup' 3 (gCons' (gN 4) (gCons' (gN 5) (gCons' (gN 6) gNil'))))
   (g__law_one_round_L3))
  (g__law_one_round_L5))
def g__law_one_round : DS :=
  (dSeq (dSetO 3 (dCBL listSD (dCons (dVar 1) dNil)))
  (g__law_one_round_L2))
theorem d__law_one_round {k : Nat} {f : Addr} {cdv : Value} {A : Around} {outer : List Env} {s : Shared} {H : Hp} {E : XK} {C : FC} (T : Mg mg)
  (hr : RG k (A.deeper (PyProof.Rows.envOfC "_law_one_round" (defScope s__law_one_round) s.heap.objs.size f cdv))) (hP : C.Tags P__law_one_round) :
  QSs (cxOf CX0 Pg w K mg base N__law_one_round "_law_one_round" (defScope s__law_one_round) f cdv A outer s H E).nox C (defBody s__law_one_round) (g__law_one_round) :=
  have nd := sc__law_one_round.nd
  (s_cons (s_setO (i := 3) hP nd (o_listS rfl T.b_list (a_cons (qv 1) a_nil)))
  (s_cons (s_for PassesOwn.never rfl (i_seq hP (q_idx hr.r (qv 0) q_int)) (g_tup rfl (gs_cons (g_name (i := 4) hP nd) (gs_cons (g_name (i := 5) hP nd) (gs_cons (g_name (i := 6) hP nd) gs_nil))))
   (s_one (s_if (t_w (w_and (t_eq hr.r (qv 6) q_int) (w_and1 (t_notN (qv 2) q_non))))
    (s_one (s_put (i := 3) hP hr.r (q_max2 rfl T.b_max (a_cons (q_idx hr.r (qv 3) (q_idx hr.r (qv 5) q_int)) (a_cons (q_addA (q_idx hr.r (qv 2) (q_idx hr.r (qv 4) q_int)) (q_idx hr.r (qv 1) (q_idx hr.r (qv 5) q_int))) a_nil))) (q_idx hr.r (qv 5) q_int)))
    s_nil)))
  (s_cons (s_for PassesOwn.never rfl (i_seq hP (q_idx hr.r (qv 0) q_int)) (g_name (i := 7) hP nd)
   (s_one (s_for PassesOwn.never rfl (i_seq hP (q_idx hr.r (qv 0) q_int)) (g_tup rfl (gs_cons (g_name (i := 4) hP nd) (gs_cons (g_name (i := 5) hP nd) (gs_cons (g_name (i := 6) hP nd) gs_nil))))
    (s_one (s_if (t_eq hr.r (qv 6) q_int)
     (s_one (s_put (i := 3) hP hr.r (q_max2 rfl T.b_max (a_cons (q_idx hr.r (qv 3) (q_idx hr.r (qv 5) q_int)) (a_cons (q_addA (q_idx hr.r (qv 3) (q_idx hr.r (qv 4) q_int)) (q_idx hr.r (qv 1) (q_idx hr.r (qv 5) q_int))) a_nil))) (q_idx hr.r (qv 5) q_int)))
     s_nil)))))
  (s_one (s_ret hP (qv 3))))))
theorem at__law_one_round {k : Nat} {S : SpD} (T : Mg mg) (FA : FunAt K mg "_law_one_round" s__law_one_round ["_law_sheet", "_law_delays_here", "_law_last"])
  (pure : ∀ ds q, S ds q → ds.length = P__law_one_round.length → g__law_one_round (endsOf P__law_one_round q) (startE N__law_one_round.length P__law_one_round ds)) : FnAt Pg w K mg base (k + 1) "_law_one_round" ["_law_sheet", "_law_delays_here", "_law_last"] P__law_one_round S :=
  fn_at FA sc__law_one_round rfl (by decide) (fun f cdv A outer s H E C hr hP => d__law_one_round T hr hP) pure
abbrev s__law_times : Stmt := topS 26
abbrev N__law_times : List Str := ["_law_sheet", "_law_delays_here", "_law_rounds", "_law_rows", "_law_last", "_law_number", "_law_k", "_law_row"]
abbrev P__law_times : List Bool := [false, false, false]
theorem sc__law_times : FnScope N__law_times ["_law_sheet", "_law_delays_here", "_law_rounds"] (defScope s__law_times) := ⟨rfl, rfl, rfl, by decide +kernel, rfl, by decide +kernel, by decide +kernel⟩
def g__law_times_L5 (S__law_one_round : SpD) : DS :=
  (dDrop (dMut P__law_times "list" 3 appendD (dCons (dVar 4) dNil)))
def g__law_times_L4 (S__law_one_round : SpD) : DS :=
  (dSeq (dSet P__law_times 4 (dCall P__law_times [false, false, false] S__law_one_round (dCons (dVar 0) (dCons (dVar 1) (dCons (dVar 4) dNil)))))
   (g__law_times_L5 S__law_one_round))
def g__law_times_L6 (S__law_one_round : SpD) : DS :=
  (dRet P__law_times (dCB tupleSD (dCons (dFroz (dLc P__law_times (dRng1 (dCons (dCB lenD (dCons (dVar 1) dNil)) dNil)) (gN 6) dYes (dCB tupleSD (dCons (dFroz (dLc P__law_times (dSeqI P__law_times (dVar 3)) (gN 7) dYes (dBin ixD (dVar 7) (dVar 6)) [7])) dNil)) [6])) dNil)))
def g__law_times_L3 (S__law_one_round : SpD) : DS :=
  (dSeq (dFor (dRng1 (dCons (dVar 2) dNil)) (gN 5)
   (g__law_times_L4 S__law_one_round))
  (g__law_times_L6 S__law_one_round))
def g__law_times_L2 (S__law_one_round : SpD) : DS :=
  (dSeq (dSet P__law_times 4 (dC .none))
  (g__law_times_L3 S__law_one_round))
def g__law_times (S__law_one_round : SpD) : DS :=
  (dSeq (dSetO 3 (dLst P__law_times dNil))
  (g__law_times_L2 S__law_one_round))
theorem d__law_times {S__law_one_round : SpD} {k : Nat} {f : Addr} {cdv : Value} {A : Around} {outer : List Env} {s : Shared} {H : Hp} {E : XK} {C : FC} (T : Mg mg) (h__law_one_round : FnAt Pg w K mg base k "_law_one_round" ["_law_sheet", "_law_delays_here", "_law_last"] [false, false, false] S__law_one_round)
  (hr : RG k (A.deeper (PyProof.Rows.envOfC "_law_times" (defScope s__law_times) s.heap.objs.size f cdv))) (hP : C.Tags P__law_times) :
  QSs (cxOf CX0 Pg w K mg base N__law_times "_law_times" (defScope s__law_times) f cdv A outer s H E).nox C (defBody s__law_times) (g__law_times S__law_one_round) :=
  have nd := sc__law_times.nd
  (s_cons (s_setO (i := 3) hP nd (o_lst hP a_nil))
  (s_cons (s_set (i := 4) hP nd q_non)
  (s_cons (s_for PassesOwn.never rfl (i_range1 T.b_range (a_cons (qv 2) a_nil)) (g_name (i := 5) hP nd)
   (s_cons (s_set (i := 4) hP nd (q_callF hP h__law_one_round hr (a_cons (qv 0) (a_cons (qv 1) (a_cons (qv 4) a_nil)))))
   (s_one (s_expr (m_append (i := 3) hP (a_cons (qv 4) a_nil))))))
  (s_one (s_ret hP (q_tupleS rfl T.b_tuple (a_cons (q_froz (o_lc (own := [("_law_k", 6)]) hP rfl nd (i_range1 T.b_range (a_cons (q_len T.b_len (a_cons (qv 1) a_nil)) a_nil)) (blkOk_by (own := [("_law_k", 6)]) (N := N__law_times) (sc := defScope s__law_times) (by decide +kernel)) (fun _ _ _ _ _ => pg_name (i := 6) nd rfl (Or.inr rfl)) (tgt_name (i := 6) (by decide) (by decide)) (fun _ _ _ _ _ _ _ => ts_nil) (fun _ _ _ _ _ _ hP => (q_tupleS rfl T.b_tuple (a_cons (q_froz (o_lc (own := [("_law_row", 7)]) hP rfl nd (i_seq hP (qv 3)) (blkOk_by (own := [("_law_row", 7)]) (N := N__law_times) (by kernel_rfl)) (fun _ _ _ _ _ => pg_name (i := 7) nd rfl (Or.inl rfl)) (tgt_name (i := 7) (by decide) (by decide)) (fun _ _ _ _ _ _ _ => ts_nil) (fun _ _ _ _ _ _ hP => (q_idx hr.r (qv 7) (qv 6))))) a_nil))))) a_nil)))))))
theorem at__law_times {S__law_one_round : SpD} {k : Nat} {S : SpD} (T : Mg mg) (FA : FunAt K mg "_law_times" s__law_times ["_law_sheet", "_law_delays_here", "_law_rounds"]) (h__law_one_round : FnAt Pg w K mg base k "_law_one_round" ["_law_sheet", "_law_delays_here", "_law_last"] [false, false, false] S__law_one_round)
  (pure : ∀ ds q, S ds q → ds.length = P__law_times.length → g__law_times S__law_one_round (endsOf P__law_times q) (startE N__law_times.length P__law_times ds)) : FnAt Pg w K mg base (k + 1) "_law_times" ["_law_sheet", "_law_delays_here", "_law_rounds"] P__law_times S :=
  fn_at FA sc__law_times rfl (by decide) (fun f cdv A outer s H E C hr hP => d__law_times T h__law_one_round hr hP) pure
abbrev s_law : Stmt := topS 27
abbrev N_law : List Str := ["_law_script", "_law_pen_here", "_law_rounds", "_law_other", "_law_sheet", "_law_delays_here", "_law_kept", "_law_some", "_law_often", "_law_found"]
abbrev P_law : List Bool := [false]
theorem sc_law : FnScope N_law ["_law_script"] (defScope s_law) := ⟨rfl, rfl, rfl, by decide +kernel, rfl, by decide +kernel, by decide +kernel⟩
def g_law_L10 (S__law_pen S__law_draw : SpD) (S__law_round S__law_more : SpD) (S__law_delays S__law_begun : SpD) (S_times S__law_times : SpD) : DS :=
  (dIf (dOr (dTest (dBin neSD (dCB reprD (dCons (dVar 9) dNil)) (dCB reprD (dCons (dCall P_law [false, false, false] S__law_times (dCons (dVar 7) (dCons (dVar 5) (dCons (dVar 2) dNil)))) dNil)))) (dTest (dBin neSD (dCB reprD (dCons (dFroz (dLst P_law (dCons (dVar 4) (dCons (dVar 5) dNil)))) dNil)) (dVar 6))))
    (dRet P_law (dC (.bool false)))
    dNext)
def g_law_L9 (S__law_pen S__law_draw : SpD) (S__law_round S__law_more : SpD) (S__law_delays S__law_begun : SpD) (S_times S__law_times : SpD) : DS :=
  (dSeq (dSet P_law 9 (dCall P_law [false, false, false] S_times (dCons (dVar 7) (dCons (dVar 5) (dCons (dVar 2) dNil)))))
   (g_law_L10 S__law_pen S__law_draw S__law_round S__law_more S__law_delays S__law_begun S_times S__law_times))
def g_law_L13 (S__law_pen S__law_draw : SpD) (S__law_round S__law_more : SpD) (S__law_delays S__law_begun : SpD) (S_times S__law_times : SpD) : DS :=
  (dIf (dTest (dBin neSD (dCB reprD (dCons (dCall P_law [false, false, false] S_times (dCons (dVar 4) (dCons (dVar 5) (dCons (dVar 8) dNil)))) dNil)) (dCB reprD (dCons (dCall P_law [false, false, false] S__law_times (dCons (dVar 4) (dCons (dVar 5) (dCons (dVar 8) dNil)))) dNil))))
    (dRet P_law (dC (.bool false)))
    dNext)
def g_law_L15 (S__law_pen S__law_draw : SpD) (S__law_round S__law_more : SpD) (S__law_delays S__law_begun : SpD) (S_times S__law_times : SpD) : DS :=
  (dRet P_law (dC (.bool true)))
def g_law_L12 (S__law_pen S__law_draw : SpD) (S__law_round S__law_more : SpD) (S__law_delays S__law_begun : SpD) (S_times S__law_times : SpD) : DS :=
  (dSeq (dFor (dSeqI P_law (dTup P_law (dCons (dCB max2D (dCons (dC (.int 1)) (dCons (dBin subD (dVar 2) (dC (.int 1))) dNil))) (dCons (dCB min2D (dCons (dC (.int 60)) (dCons (dBin addAD (dVar 2) (dC (.int 2))) dNil))) dNil)))) (gN 8)
   (g_law_L13 S__law_pen S__law_draw S__law_round S__law_more S__law_delays S__law_begun S_times S__law_times))
  (g_law_L15 S__law_pen S__law_draw S__law_round S__law_more S__law_delays S__law_begun S_times S__law_times))
def g_law_L8 (S__law_pen S__law_draw : SpD) (S__law_round S__law_more : SpD) (S__law_delays S__law_begun : SpD) (S_times S__law_times : SpD) : DS :=
  (dSeq (dFor (dSeqI P_law (dTup P_law (dCons (dVar 4) (dCons (dVar 3) (dCons (dVar 4) dNil))))) (gN 7)
   (g_law_L9 S__law_pen S__law_draw S__law_round S__law_more S__law_delays S__law_begun S_times S__law_times))
  (g_law_L12 S__law_pen S__law_draw S__law_round S__law_more S__law_delays S__law_begun S_times S__law_times))
def g_law_L7 (S__law_pen S__law_draw : SpD) (S__law_round S__law_more : SpD) (S__law_delays S__law_begun : SpD) (S_times S__law_times : SpD) : DS :=
  (dSeq (dSet P_law 6 (dCB reprD (dCons (dFroz (dLst P_law (dCons (dVar 4) (dCons (dVar 5) dNil)))) dNil)))
  (g_law_L8 S__law_pen S__law_draw S__law_round S__law_more S__law_delays S__law_begun S_times S__law_times))
def g_law_L6 (S__law_pen S__law_draw : SpD) (S__law_round S__law_more : SpD) (S__law_delays S__law_begun : SpD) (S_times S__law_times : SpD) : DS :=
  (dSeq (dSet P_law 3 (dTup P_law (dCons (dBin ixD (dVar 3) (dC (.int 0))) (dCons (dBin ixD (dVar 3) (dC (.int 1))) (dCons (dBin ixD (dCall P_law [true, false] S__law_begun (dCons (dVar 1) (dCons (dVar 3) dNil))) (dC (.int 2))) dNil)))))
  (g_law_L7 S__law_pen S__law_draw S__law_round S__law_more S__law_delays S__law_begun S_times S__law_times))
def g_law_L5 (S__law_pen S__law_draw : SpD) (S__law_round S__law_more : SpD) (S__law_delays S__law_begun : SpD) (S_times S__law_times : SpD) : DS :=
  (dSeq (dSet P_law 5 (dCall P_law [true, false] S__law_delays (dCons (dVar 1) (dCons (dVar 4) dNil))))
  (g_law_L6 S__law_pen S__law_draw S__law_round S__law_more S__law_delays S__law_begun S_times S__law_times))
def g_law_L4 (S__law_pen S__law_draw : SpD) (S__law_round S__law_more : SpD) (S__law_delays S__law_begun : SpD) (S_times S__law_times : SpD) : DS :=
  (dSeq (dSet P_law 4 (dCall P_law [true, false, false] S__law_more (dCons (dVar 1) (dCons (dVar 3) (dCons (dCall P_law [true, false] S__law_draw (dCons (dVar 1) (dCons (dC (.int 2)) dNil))) dNil)))))
  (g_law_L5 S__law_pen S__law_draw S__law_round S__law_more S__law_delays S__law_begun S_times S__law_times))
def g_law_L3 (S__law_pen S__law_draw : SpD) (S__law_round S__law_more : SpD) (S__law_delays S__law_begun : SpD) (S_times S__law_times : SpD) : DS :=
  (dSeq (dSet P_law 3 (dCall P_law [true, false] S__law_round (dCons (dVar 1) (dCons (dBin ixD (dFroz (dLst P_law (dCons (dC (.int 4)) (dCons (dC (.int 8)) (dCons (dC (.int 14)) (dCons (dC (.int 24)) dNil)))))) (dCall P_law [true, false] S__law_draw (dCons (dVar 1) (dCons (dC (.int 4)) dNil)))) dNil))))
  (g_law_L4 S__law_pen S__law_draw S__law_round S__law_more S__law_delays S__law_begun S_times S__law_times))
def g_law_L2 (S__law_pen S__law_draw : SpD) (S__law_round S__law_more : SpD) (S__law_delays S__law_begun : SpD) (S_times S__law_times : SpD) : DS :=
  (dSeq (dSet P_law 2 (dBin ixD (dFroz (dLst P_law (dCons (dBin addAD (dC (.int 1)) (dCall P_law [true, false] S__law_draw (dCons (dVar 1) (dCons (dC (.int 4)) dNil)))) (dCons (dBin addAD (dC (.int 1)) (dCall P_law [true, false] S__law_draw (dCons (dVar 1) (dCons (dC (.int 60)) dNil)))) dNil)))) (dCB intOfD (dCons (dBin eqD (dCall P_law [true, false] S__law_draw (dCons (dVar 1) (dCons (dC (.int 8)) dNil))) (dC (.int 0))) dNil))))
  (g_law_L3 S__law_pen S__law_draw S__law_round S__law_more S__law_delays S__law_begun S_times S__law_times))
def g_law (S__law_pen S__law_draw : SpD) (S__law_round S__law_more : SpD) (S__law_delays S__law_begun : SpD) (S_times S__law_times : SpD) : DS :=
  (dSeq (dSetO 1 (dCallO P_law [false] S__law_pen (dCons (dVar 0) dNil)))
  (g_law_L2 S__law_pen S__law_draw S__law_round S__law_more S__law_delays S__law_begun S_times S__law_times))
theorem d_law {S__law_pen S__law_draw : SpD} {S__law_round S__law_more : SpD} {S__law_delays S__law_begun : SpD} {S_times S__law_times : SpD} {k : Nat} {f : Addr} {cdv : Value} {A : Around} {outer : List Env} {s : Shared} {H : Hp} {E : XK} {C : FC} (T : Mg mg) (h__law_pen : FnAt Pg w K mg base k "_law_pen" ["_law_script"] [false] S__law_pen) (h__law_draw : FnAt Pg w K mg base k "_law_draw" ["_law_pen_here", "_law_many"] [true, false] S__law_draw) (h__law_round : FnAt Pg w K mg base k "_law_round" ["_law_pen_here", "_law_most"] [true, false] S__law_round) (h__law_more : FnAt Pg w K mg base k "_law_more" ["_law_pen_here", "_law_sheet", "_law_beside"] [true, false, false] S__law_more) (h__law_delays : FnAt Pg w K mg base k "_law_delays" ["_law_pen_here", "_law_sheet"] [true, false] S__law_delays) (h__law_begun : FnAt Pg w K mg base k "_law_begun" ["_law_pen_here", "_law_sheet"] [true, false] S__law_begun) (h_times : FnAt Pg w K mg base k "times" ["sheet", "delays", "rounds"] [false, false, false] S_times) (h__law_times : FnAt Pg w K mg base k "_law_times" ["_law_sheet", "_law_delays_here", "_law_rounds"] [false, false, false] S__law_times)
  (hr : RG k (A.deeper (PyProof.Rows.envOfC "law" (defScope s_law) s.heap.objs.size f cdv))) (hP : C.Tags P_law) :
  QSs (cxOf CX0 Pg w K mg base N_law "law" (defScope s_law) f cdv A outer s H E).nox C (defBody s_law) (g_law S__law_pen S__law_draw S__law_round S__law_more S__law_delays S__law_begun S_times S__law_times) :=
  have nd := sc_law.nd
  (s_cons (s_setO (i := 1) hP nd (o_callF hP h__law_pen hr (a_cons (qv 0) a_nil)))
  (s_cons (s_set (i := 2) hP nd (q_idx hr.r (q_froz (o_lst hP (a_cons (q_addA q_int (q_callF hP h__law_draw hr (a_cons (qv 1) (a_cons q_int a_nil)))) (a_cons (q_addA q_int (q_callF hP h__law_draw hr (a_cons (qv 1) (a_cons q_int a_nil)))) a_nil)))) (q_intOf T.b_int (a_cons (q_eq hr.r (q_callF hP h__law_draw hr (a_cons (qv 1) (a_cons q_int a_nil))) q_int) a_nil))))
  (s_cons (s_set (i := 3) hP nd (q_callF hP h__law_round hr (a_cons (qv 1) (a_cons (q_idx hr.r (q_froz (o_lst hP (a_cons q_int (a_cons q_int (a_cons q_int (a_cons q_int a_nil)))))) (q_callF hP h__law_draw hr (a_cons (qv 1) (a_cons q_int a_nil)))) a_nil))))
  (s_cons (s_set (i := 4) hP nd (q_callF hP h__law_more hr (a_cons (qv 1) (a_cons (qv 3) (a_cons (q_callF hP h__law_draw hr (a_cons (qv 1) (a_cons q_int a_nil))) a_nil)))))
  (s_cons (s_set (i := 5) hP nd (q_callF hP h__law_delays hr (a_cons (qv 1) (a_cons (qv 4) a_nil))))
  (s_cons (s_set (i := 3) hP nd (q_tup hP (a_cons (q_idx hr.r (qv 3) q_int) (a_cons (q_idx hr.r (qv 3) q_int) (a_cons (q_idx hr.r (q_callF hP h__law_begun hr (a_cons (qv 1) (a_cons (qv 3) a_nil))) q_int) a_nil)))))
  (s_cons (s_set (i := 6) hP nd (q_repr hr T.b_repr (a_cons (q_froz (o_lst hP (a_cons (qv 4) (a_cons (qv 5) a_nil)))) a_nil)))
  (s_cons (s_for PassesOwn.never rfl (i_seq hP (q_tup hP (a_cons (qv 4) (a_cons (qv 3) (a_cons (qv 4) a_nil))))) (g_name (i := 7) hP nd)
   (s_cons (s_set (i := 9) hP nd (q_callF hP h_times hr (a_cons (qv 7) (a_cons (qv 5) (a_cons (qv 2) a_nil)))))
   (s_one (s_if (t_w (w_or (t_neS (q_repr hr T.b_repr (a_cons (qv 9) a_nil)) (q_repr hr T.b_repr (a_cons (q_callF hP h__law_times hr (a_cons (qv 7) (a_cons (qv 5) (a_cons (qv 2) a_nil)))) a_nil))) (w_or1 (t_neS (q_repr hr T.b_repr (a_cons (q_froz (o_lst hP (a_cons (qv 4) (a_cons (qv 5) a_nil)))) a_nil)) (qv 6)))))
    (s_one (s_ret hP q_bl))
    s_nil))))
  (s_cons (s_for PassesOwn.never rfl (i_seq hP (q_tup hP (a_cons (q_max2 rfl T.b_max (a_cons q_int (a_cons (q_sub (qv 2) q_int) a_nil))) (a_cons (q_min2 rfl T.b_min (a_cons q_int (a_cons (q_addA (qv 2) q_int) a_nil))) a_nil)))) (g_name (i := 8) hP nd)
   (s_one (s_if (t_neS (q_repr hr T.b_repr (a_cons (q_callF hP h_times hr (a_cons (qv 4) (a_cons (qv 5) (a_cons (qv 8) a_nil)))) a_nil)) (q_repr hr T.b_repr (a_cons (q_callF hP h__law_times hr (a_cons (qv 4) (a_cons (qv 5) (a_cons (qv 8) a_nil)))) a_nil)))
    (s_one (s_ret hP q_bl))
    s_nil)))
  (s_one (s_ret hP q_bl)))))))))))
end
end My
set_option linter.all false
set_option maxRecDepth 100000
namespace My
open PySem PySem.Spec L2 Dv
def penC (ns : List Int) (a l : Int) : PyData := .dict [(.str "script", .list (ns.map .int)), (.str "at", .int a), (.str "left", .int l)]
def PenOk (m : Nat) (d : PyData) : Prop := ∃ ns a l, d = penC ns a l ∧ ns.length ≤ 63 ∧ 0 ≤ a ∧ a ≤ m ∧ 0 ≤ l
theorem PenOk.mono {m n : Nat} {d : PyData} (h : PenOk m d) (hmn : m ≤ n) : PenOk n d := let ⟨ns, a, l, e, h1, h2, h3, h4⟩ := h; ⟨ns, a, l, e, h1, h2, by omega, h4⟩
def S__law_pen : SpD := fun ds q => ∃ ns : List Int, ds = [.list (ns.map .int)] ∧ ns.length ≤ 63 ∧ ∀ pen, PenOk 0 pen → q (.own pen) [none]
theorem p__law_pen (ds : List PyData) (q : SV → Outs → Prop) (h : S__law_pen ds q) (hl : ds.length = P__law_pen.length) : g__law_pen (endsOf P__law_pen q) (startE N__law_pen.length P__law_pen ds) := by
 obtain ⟨ns, rfl, hn, h⟩ := h
 exact ⟨by show 3 ≤ 15; decide, h _ ⟨ns, 0, 0, rfl, hn, by omega, by omega, by omega⟩⟩
theorem shp_int (i : Int) : shp (.int i) := rfl
theorem shp_ints (ns : List Int) : shp (.list (ns.map .int)) := (Shp.list (n := 0) fun d hd => by obtain ⟨i, _, rfl⟩ := List.mem_map.mp hd; exact Shp.int i).shp
theorem at_ints {ns : List Int} (h : ns ≠ []) {a : Int} (ha : 0 ≤ a) : ∃ c : Int, atI (ns.map PyData.int) (a % ((ns.map PyData.int).length : Nat)) = some (.int c) := by
 have hl : 0 < ns.length := List.length_pos_iff.mpr h
 have h1 : 0 ≤ a % (ns.length : Int) := Int.emod_nonneg _ (by omega)
 have h2 : a % (ns.length : Int) < ns.length := Int.emod_lt_of_pos _ (by omega)
 rw [List.length_map]
 have e : (((a % (ns.length : Int)).toNat : Nat) : Int) = a % (ns.length : Int) := by omega
 have hj : (a % (ns.length : Int)).toNat < ns.length := by omega
 refine ⟨ns[(a % (ns.length : Int)).toNat], ?_⟩
 have z := atI_nat (xs := ns.map PyData.int) (j := (a % (ns.length : Int)).toNat) (v := .int ns[(a % (ns.length : Int)).toNat]) (by rw [List.getElem?_map, List.getElem?_eq_getElem hj]; rfl)
 rw [e] at z
 exact z
theorem mod_in {x m : Int} (h0 : 0 < m) : 0 ≤ x % m ∧ x % m < m := ⟨Int.emod_nonneg x (by omega), Int.emod_lt_of_pos x h0⟩
def primesW : List Int := [2147483629, 2147483587, 2147483579, 2147483563, 2147483549, 2147483543, 2147483497, 2147483489, 2147483477, 2147483423, 2147483399, 2147483353]
theorem prime_at {a : Int} : ∃ p : Int, atI (primesW.map PyData.int) (a % 12) = some (.int p) ∧ 2000000000 < p ∧ p < 2147483648 := by
 have h := mod_in (x := a) (m := 12) (by decide)
 have hj : (a % 12).toNat < primesW.length := by show _ < 12; omega
 have e : (((a % 12).toNat : Nat) : Int) = a % 12 := by omega
 have z := atI_nat (xs := primesW.map PyData.int) (j := (a % 12).toNat) (v := .int primesW[(a % 12).toNat]) (by rw [List.getElem?_map, List.getElem?_eq_getElem hj]; rfl)
 rw [e] at z
 have b : ∀ p ∈ primesW, 2000000000 < p ∧ p < 2147483648 := by decide
 exact ⟨_, z, b _ (List.getElem_mem hj)⟩
theorem nx_of {E : DEnds} {ρ : DEnv} (h : E.nx ρ) : dNext E ρ := h
def S__law_draw : SpD := fun ds q => ∃ pen n m, ds = [pen, .int n] ∧ PenOk m pen ∧ m < 10000000 ∧ 0 < n ∧ n < 1073741824 ∧ ∀ r pen', 0 ≤ r → r < n → PenOk (m + 1) pen' → q (.frz (.int r)) [some pen', none]
theorem draw_L15 {q : SV → Outs → Prop} {pen : PyData} {n a c : Int} {sc : PyData} {s7 : Option SV} (hn : 0 < n) (ha : 0 ≤ a) (ham : a ≤ 10000000) (h : ∀ x : Int, q (.frz (.int (x % n))) [some pen, none]) :
  g__law_draw_L15 (endsOf P__law_draw q) [some (.own pen), some (.frz (.int n)), some (.frz sc), some (.frz (.int a)), some (.frz (.int c)), some (.frz (.list ((primesW.take 8).map .int))), none, s7] := by
 refine ⟨tle, tle, ?_⟩
 show g__law_draw_L16 (endsOf P__law_draw q) [some (.own pen), some (.frz (.int n)), some (.frz sc), some (.frz (.int a)), some (.frz (.int c)), some (.frz (.list (primesW.map .int))), none, s7]
 obtain ⟨p, hp, p0, p1⟩ := prime_at (a := a)
 have a1 := mod_in (x := c) (m := 2147483647) (by decide)
 refine ⟨(show (0 : Int) < 2147483647 by decide), .inl (by decide), ⟨by decide, by decide, ?_⟩, (show (0 : Int) < 12 by decide), ?_⟩
 ·show (c % 2147483647 + 48271 * a + 11).natAbs < 2 ^ 64
  omega
 refine ixL hp ?_
 refine ⟨by omega, ?_⟩
 show g__law_draw_L17 (endsOf P__law_draw q) [some (.own pen), some (.frz (.int n)), some (.frz sc), some (.frz (.int a)), some (.frz (.int c)), some (.frz (.list (primesW.map .int))), some (.frz (.int ((c % 2147483647 + 48271 * a + 11) ^ (3 : Int).toNat % p))), s7]
 generalize ho : (c % 2147483647 + 48271 * a + 11) ^ (3 : Int).toNat % p = one
 have b1 : 0 ≤ one ∧ one < p := by rw [← ho]; exact mod_in (by omega)
 obtain ⟨r, hr, r0, r1⟩ := prime_at (a := a + 5)
 refine ⟨.inl (by decide), .inl ⟨by omega, by omega⟩, ⟨by decide, by decide, ?_⟩, (show (0 : Int) < 12 by decide), ?_⟩
 ·show (one * (2 * a + 40503) + a).natAbs < 2 ^ 64
  have h1 : one * (2 * a + 40503) ≤ 2147483648 * (2 * 10000000 + 40503) := Int.mul_le_mul (by omega) (by omega) (by omega) (by decide)
  have h2 : 0 ≤ one * (2 * a + 40503) := Int.mul_nonneg b1.1 (by omega)
  omega
 refine ixL hr ?_
 refine ⟨by omega, ?_⟩
 exact ⟨⟨by decide, by decide⟩, hn, h _⟩
theorem p__law_draw (ds : List PyData) (q : SV → Outs → Prop) (h : S__law_draw ds q) (hl : ds.length = P__law_draw.length) : g__law_draw (endsOf P__law_draw q) (startE N__law_draw.length P__law_draw ds) := by
 obtain ⟨pen, n, m, rfl, ⟨ns, a, l, rfl, hns, ha, ham, hl0⟩, hm, hn, hn2, h⟩ := h
 have fin : ∀ (x : Int) (a' l' : Int), 0 ≤ a' → a' ≤ a + 1 → 0 ≤ l' → q (.frz (.int (x % n))) [some (penC ns a' l'), none] := fun x a' l' h1 h2 h3 =>
  h _ _ (Int.emod_nonneg _ (by omega)) (Int.emod_lt_of_pos _ hn) ⟨ns, a', _, rfl, hns, h1, by omega, h3⟩
 have dv : ∀ x : Int, 0 ≤ x → 0 ≤ x / n := fun x hx => Int.ediv_nonneg hx (by omega)
 have c6 : CPow 10 18 := ⟨by decide, by decide, by decide⟩
 refine by2_d (fun c0 => ?_) (fun c0 => ?_)
 ·refine ⟨hn, ⟨hn, hn2⟩, tle, ?_⟩
  exact fin l a _ ha (by omega) (dv l (by omega))
 ·refine ⟨tle, ?_⟩
  have tail : ∀ c : Int, g__law_draw_L11 (endsOf P__law_draw q) [some (.own (penC ns (a + 1) l)), some (.frz (.int n)), some (.frz (.list (ns.map .int))), some (.frz (.int a)), some (.frz (.int c)), none, none, none] := fun c => by
   have rest : g__law_draw_L14 (endsOf P__law_draw q) [some (.own (penC ns (a + 1) l)), some (.frz (.int n)), some (.frz (.list (ns.map .int))), some (.frz (.int a)), some (.frz (.int c)), none, none, none] := by
    refine ⟨tle, ?_⟩
    exact draw_L15 hn ha (by omega) fun x => fin x (a + 1) l (by omega) (by omega) hl0
   refine by2_d (fun c1 => ⟨c6, by2_d (fun c2 => ?_) (fun c2 => ?_)⟩) (fun c1 => ?_)
   ·refine ⟨⟨hn, hn2⟩, tle, hn, ?_⟩
    exact fin _ (a + 1) _ (by omega) (by omega) (dv _ (by split <;> omega))
   ·exact nx_of rest
   ·exact nx_of rest
  refine ⟨tle, shp_ints ns, rfl, by2_i (fun c1 => ?_) (fun c1 => tail 1013)⟩
  have hne : ns ≠ [] := fun z => by subst z; exact absurd c1 (by decide)
  have hl : 0 < ns.length := List.length_pos_iff.mpr hne
  refine ⟨by show (0 : Int) < ((ns.map PyData.int).length : Nat); rw [List.length_map]; omega, ?_⟩
  obtain ⟨c, hc⟩ := at_ints hne ha
  conv => whnf
  rw [hc]
  exact tail c
end My
set_option linter.all false
set_option maxRecDepth 100000
namespace My
open PySem PySem.Spec L2 Dv
theorem lc_pen {P : List Bool} {g : DG} {tt : DT} {te : DE} {vs : List Nat} {Q : PyData → DEnv → Prop} {ds : List PyData} {env : PyData → DEnv} {pen : PyData} {α : Type} (c : Nat) (enc : α → PyData) (R : PyData → α → Prop) {m : Nat}
  (hp : PenOk m pen)
  (h : ∀ (i : Nat) (d pen : PyData) (yes : PyData → DEnv → Prop) (no : DEnv → Prop), i < ds.length → d ∈ ds → PenOk (m + c * i) pen → (∀ x pen', R d x → PenOk (m + c * i + c) pen' → yes (enc x) (env pen')) → turnE P g tt te vs (env pen) d yes no)
  (hl : ds.length ≤ big)
  (hq : ∀ (xs : List α) (pen' : PyData), xs.length = ds.length → (∀ (i : Nat) (d : PyData) (x : α), ds[i]? = some d → xs[i]? = some x → R d x) → PenOk (m + c * ds.length) pen' → Q (.list (xs.map enc)) (env pen')) : dLcL P g tt te vs Q ds [] (env pen) := by
 refine lc_ix (fun acc ρ => ∃ (xs : List α) (pen' : PyData), acc = xs.map enc ∧ ρ = env pen' ∧ PenOk (m + c * xs.length) pen' ∧ ∀ (i : Nat) (d : PyData) (x : α), ds[i]? = some d → xs[i]? = some x → R d x) (fun acc d ρ yes no hd hI hy => ?_) ⟨[], pen, rfl, rfl, hp, fun i d x _ hx => by simp at hx⟩ hl (fun acc ρ hI hlen => ?_)
 ·obtain ⟨xs, pen', rfl, rfl, hp', hR⟩ := hI
  rw [List.length_map] at hd
  refine h xs.length d pen' yes no (List.getElem?_eq_some_iff.mp hd).1 (List.mem_of_getElem? hd) hp' fun x pen2 hx hp2 => hy _ _ ⟨xs ++ [x], pen2, by rw [List.map_append]; rfl, rfl, by rw [List.length_append, List.length_singleton, Nat.mul_add, Nat.mul_one, ← Nat.add_assoc]; exact hp2, fun i d' x' hd' hx' => ?_⟩
  by_cases hi : i < xs.length
  ·rw [List.getElem?_append_left hi] at hx'
   exact hR i d' x' hd' hx'
  ·have hlt := (List.getElem?_eq_some_iff.mp hx').1
   rw [List.length_append, List.length_singleton] at hlt
   have ei : i = xs.length := by omega
   subst ei
   rw [List.getElem?_append_right (by omega), Nat.sub_self] at hx'
   cases hx'
   rw [hd] at hd'
   cases hd'
   exact hx
 ·obtain ⟨xs, pen', rfl, rfl, hp', hR⟩ := hI
  rw [List.length_map] at hlen
  rw [hlen] at hp'
  exact hq xs pen' hlen hR hp'
end My
set_option linter.all false
set_option maxRecDepth 100000
namespace My
open PySem PySem.Spec L2 Dv
def abc : List Nat := (Str.ofString "abcdefghijklmnopqrstuvwxyz").cps.toList
structure NameOk (z : Str) : Prop where
 l1 : 1 ≤ z.length
 l8 : z.length ≤ 8
 ab : ∀ c ∈ z.cps.toList, c ∈ abc
theorem abc_lt : ∀ c ∈ abc, c < 128 := by decide +kernel
theorem NameOk.tx {z : Str} (h : NameOk z) : Tx 8 z := ⟨h.l8, fun c hc => by have := abc_lt c (h.ab c hc); omega⟩
def Bit (v : Int) : Prop := v = 0 ∨ v = 1
inductive Rule : Type
 | is (z : Str) (v : Int)
 | no (r : Rule)
 | all (rs : List Rule)
 | any (rs : List Rule)
def sIs : Str := Str.ofString "is"
def sNot : Str := Str.ofString "not"
def sAll : Str := Str.ofString "all"
def sSome : Str := Str.ofString "some"
mutual
def enc : Rule → PyData
 | .is z v => .tuple [.str sIs, .str z, .int v]
 | .no r => .tuple [.str sNot, enc r]
 | .all rs => .tuple [.str sAll, .tuple (encs rs)]
 | .any rs => .tuple [.str sSome, .tuple (encs rs)]
def encs : List Rule → List PyData
 | [] => []
 | r :: rs => enc r :: encs rs
end
mutual
def size : Rule → Nat
 | .is _ _ => 1
 | .no r => 1 + size r
 | .all rs => 1 + sizes rs
 | .any rs => 1 + sizes rs
def sizes : List Rule → Nat
 | [] => 0
 | r :: rs => size r + sizes rs
end
inductive ROk (nm : Str → Prop) : Nat → Rule → Prop
 | is {n : Nat} {z : Str} {v : Int} : nm z → NameOk z → Bit v → ROk nm (n + 1) (.is z v)
 | no {n : Nat} {r : Rule} : ROk nm n r → ROk nm (n + 1) (.no r)
 | all {n : Nat} {rs : List Rule} : (∀ r ∈ rs, ROk nm n r) → ROk nm (n + 1) (.all rs)
 | any {n : Nat} {rs : List Rule} : (∀ r ∈ rs, ROk nm n r) → ROk nm (n + 1) (.any rs)
theorem ROk.imp {nm nm' : Str → Prop} (hi : ∀ z, nm z → nm' z) : ∀ {n : Nat} {r : Rule}, ROk nm n r → ROk nm' n r
 | _, _, .is h1 h2 h3 => .is (hi _ h1) h2 h3
 | _, _, .no h => .no (ROk.imp hi h)
 | _, _, .all h => .all fun r hr => ROk.imp hi (h r hr)
 | _, _, .any h => .any fun r hr => ROk.imp hi (h r hr)
theorem ROk.succ {nm : Str → Prop} : ∀ {n : Nat} {r : Rule}, ROk nm n r → ROk nm (n + 1) r
 | _, _, .is h1 h2 h3 => .is h1 h2 h3
 | _, _, .no h => .no h.succ
 | _, _, .all h => .all fun r hr => (h r hr).succ
 | _, _, .any h => .any fun r hr => (h r hr).succ
theorem ROk.mono {nm : Str → Prop} {n m : Nat} {r : Rule} (h : ROk nm n r) (hnm : n ≤ m) : ROk nm m r := by
 induction hnm with
 | refl => exact h
 | step _ ih => exact ih.succ
theorem join_le : ∀ ts : List Str, (Str.join ", " ts).length ≤ (ts.map (·.length)).sum + 2 * ts.length
 | [] => by decide
 | [x] => by show x.length ≤ _; simp
 | x :: y :: r => by
  have e : Str.join ", " (x :: y :: r) = x ++ ", " ++ Str.join ", " (y :: r) := rfl
  have ih := join_le (y :: r)
  rw [e, len_app, len_app]
  have : ((", " : Str)).length = 2 := by decide
  simp only [List.map_cons, List.sum_cons, List.length_cons] at ih ⊢
  omega
theorem tupleText_le (ts : List Str) : (tupleText ts).length ≤ (ts.map (·.length)).sum + 2 * ts.length + 3 := by
 have h := join_le ts
 unfold tupleText
 rw [len_app, len_app]
 have h1 : (("(" : Str)).length = 1 := by decide
 have h2 : ((if (ts.length == 1) = true then ",)" else ")" : String) : Str).length ≤ 2 := by
  split <;> decide
 omega
theorem repr_le {n : Nat} {x : Str} (h : Tx n x) : (reprText x).length ≤ 10 * n + 2 := by
 have := StrLaws.reprText_len x fun c hc => Nat.lt_trans (h.ok c hc) (by decide)
 have := h.len
 omega
theorem showAll_of : ∀ {ds : List PyData}, (∀ d ∈ ds, d.showable = true) → PyData.showableAll ds = true
 | [], _ => rfl
 | d :: ds, h => by simp [PyData.showableAll, h d List.mem_cons_self, showAll_of fun x hx => h x (List.mem_cons_of_mem _ hx)]
end My
set_option linter.all false
set_option maxRecDepth 100000
namespace My
open PySem PySem.Spec L2 Dv
local macro_rules | `(tactic| walk_at "tk") => `(tactic| (refine ⟨⟨trivial, trivial⟩, by first | decide | simp [selSlots], _, _, _, rfl, by assumption, by omega, by first | decide | omega, by first | decide | omega, ?_⟩))
theorem abc_len : abc.length = 26 := by decide +kernel
theorem abc_at {r : Int} (h0 : 0 ≤ r) (h1 : r < 26) : ∃ c, atI (Str.ofString "abcdefghijklmnopqrstuvwxyz").cps.toList r = some c ∧ c ∈ abc ∧ abc[r.toNat]? = some c := by
 have hr : r.toNat < abc.length := by rw [abc_len]; omega
 have z := atI_nat (List.getElem?_eq_getElem hr)
 have e : ((r.toNat : Nat) : Int) = r := by omega
 rw [e] at z
 exact ⟨abc[r.toNat], z, List.getElem_mem _, List.getElem?_eq_getElem hr⟩
theorem abc_inj (i j : Nat) (hi : i < 26) (hj : j < 26) (h : abc[i]? = abc[j]?) : i = j := by
 have z : ∀ i, i < 26 → ∀ j, j < 26 → abc[i]? = abc[j]? → i = j := by decide +kernel
 exact z i hi j hj h
theorem cutS_hi {z : Str} {n : Nat} (h : n ≤ z.length) : (cutS z none (some (n : Nat))).cps.toList = z.cps.toList.take n := by
 unfold cutS
 rw [HT.sIx_none, HT.sIx_nat, Nat.min_eq_left h]
 simp
theorem cutS_lo {z : Str} {n : Nat} (h : n ≤ z.length) : (cutS z (some (n : Nat)) none).cps.toList = z.cps.toList.drop n := by
 unfold cutS
 rw [HT.sIx_none, HT.sIx_nat, Nat.min_eq_left h]
 simp only
 rw [List.take_of_length_le]
 rw [List.length_drop]
 rw [len_codes]
 exact Nat.le_refl _
theorem eqv_intW (a b : Int) : PyData.eqv (.int a) (.int b) = decide (a = b) := by
 by_cases h : a = b
 ·subst h; simp [PyData.eqv]
 ·simp [PyData.eqv, h]
def signW (c : Nat) : Str := ⟨#[c]⟩
def letW (f st : Int) (k : Nat) : Nat := (abc[((f + st * (k : Nat)) % 26).toNat]?).getD 0
def nameW (way : Int) (base : Str) (a : Nat) (f st : Int) (l : Str) (k : Nat) : Str :=
 if way = 2 then cutS (base ++ l) none (some (((k : Nat) : Int) + 1)) else if way = 1 then signW (letW f st k) else cutS base none (some (a : Nat)) ++ signW (letW f st k) ++ cutS base (some (a : Nat)) none
def stepsW : List Int := [1, 3, 5, 7, 9, 11, 15, 17]
structure NamesN (n : Nat) (zs : List Str) : Prop where
 len : zs.length = n
 nd : zs.Nodup
 nm : ∀ z ∈ zs, NameOk z
theorem let_at {f st : Int} {k : Nat} : letW f st k ∈ abc ∧ abc[((f + st * (k : Nat)) % 26).toNat]? = some (letW f st k) ∧ atI (Str.ofString "abcdefghijklmnopqrstuvwxyz").cps.toList ((f + st * (k : Nat)) % 26) = some (letW f st k) := by
 obtain ⟨c, h1, h2, h3⟩ := abc_at (Int.emod_nonneg (f + st * (k : Nat)) (show (26 : Int) ≠ 0 by decide)) (Int.emod_lt_of_pos (f + st * (k : Nat)) (show (0 : Int) < 26 by decide))
 have e : letW f st k = c := by unfold letW; rw [h3]; rfl
 rw [e]
 exact ⟨h2, h3, h1⟩
theorem let_inj {f st : Int} (hs : st ∈ stepsW) {i j : Nat} (hi : i < 8) (hj : j < 8) (h : letW f st i = letW f st j) : i = j := by
 have e1 := (let_at (f := f) (st := st) (k := i)).2.1
 have e2 := (let_at (f := f) (st := st) (k := j)).2.1
 rw [h, ← e2] at e1
 have h0 := Int.emod_nonneg (f + st * (i : Nat)) (show (26 : Int) ≠ 0 by decide)
 have h1 := Int.emod_lt_of_pos (f + st * (i : Nat)) (show (0 : Int) < 26 by decide)
 have h2 := Int.emod_nonneg (f + st * (j : Nat)) (show (26 : Int) ≠ 0 by decide)
 have h3 := Int.emod_lt_of_pos (f + st * (j : Nat)) (show (0 : Int) < 26 by decide)
 have := abc_inj _ _ (by omega) (by omega) e1
 simp only [stepsW, List.mem_cons, List.not_mem_nil, or_false] at hs
 rcases hs with rfl | rfl | rfl | rfl | rfl | rfl | rfl | rfl <;> omega
theorem names_w {way : Int} {base l : Str} {a n : Nat} {f st : Int} (h8 : base.length ≤ 7) (hb : ∀ c ∈ base.cps.toList, c ∈ abc) (ha : a ≤ base.length) (hs : st ∈ stepsW) (hl : l.length = 9) (hlc : ∀ c ∈ l.cps.toList, c ∈ abc) (hn : n ≤ 8) :
  NamesN n ((List.range n).map (nameW way base a f st l)) := by
 have l1 : ∀ c, (signW c).cps.toList = [c] := fun c => rfl
 have len2 : ∀ k, k < 8 → (cutS (base ++ l) none (some (((k : Nat) : Int) + 1))).cps.toList = (base.cps.toList ++ l.cps.toList).take (k + 1) := fun k hk => by
  rw [show (((k : Nat) : Int) + 1) = ((k + 1 : Nat) : Int) by omega, cutS_hi (by rw [len_app]; omega), codes_app]
 have l0 : ∀ k, (cutS base none (some (a : Nat)) ++ signW (letW f st k) ++ cutS base (some (a : Nat)) none).cps.toList = base.cps.toList.take a ++ [letW f st k] ++ base.cps.toList.drop a := fun k => by
  rw [codes_app, codes_app, cutS_hi ha, cutS_lo ha, l1]
 refine ⟨by simp, ?_, fun z hz => ?_⟩
 ·rw [List.Nodup, List.pairwise_map]
  refine (List.pairwise_lt_range (n := n)).imp_of_mem fun {i j} hi hj hij e => ?_
  rw [List.mem_range] at hi hj
  have ec := congrArg (fun z : Str => z.cps.toList) e
  unfold nameW at ec
  by_cases c2 : way = 2
  ·simp only [if_pos c2] at ec
   rw [len2 i (by omega), len2 j (by omega)] at ec
   have := congrArg List.length ec
   rw [len_codes] at h8 hl
   rw [List.length_take, List.length_take, List.length_append] at this
   omega
  ·simp only [if_neg c2] at ec
   by_cases c1 : way = 1
   ·simp only [if_pos c1] at ec
    rw [l1, l1] at ec
    have := let_inj hs (by omega) (by omega) (List.cons.inj ec).1
    omega
   ·simp only [if_neg c1] at ec
    rw [l0, l0] at ec
    have := List.append_cancel_right ec
    have := List.append_cancel_left this
    have := let_inj hs (by omega) (by omega) (List.cons.inj this).1
    omega
 ·obtain ⟨k, hk, rfl⟩ := List.mem_map.mp hz
  rw [List.mem_range] at hk
  have hk8 : k < 8 := by omega
  unfold nameW
  have hbl := h8
  rw [len_codes] at hbl
  have hll := hl
  rw [len_codes] at hll
  by_cases c2 : way = 2
  ·simp only [if_pos c2]
   have e := len2 k hk8
   have el := congrArg List.length e
   rw [List.length_take, List.length_append] at el
   refine ⟨by rw [len_codes]; omega, by rw [len_codes]; omega, fun c hc => ?_⟩
   rw [e] at hc
   rcases List.mem_append.mp (List.mem_of_mem_take hc) with hc | hc
   ·exact hb c hc
   ·exact hlc c hc
  ·simp only [if_neg c2]
   by_cases c1 : way = 1
   ·simp only [if_pos c1]
    refine ⟨Nat.le_refl 1, by show 1 ≤ 8; decide, fun c hc => ?_⟩
    rw [l1, List.mem_singleton] at hc
    rw [hc]; exact let_at.1
   ·simp only [if_neg c1]
    have e := l0 k
    have el := congrArg List.length e
    rw [len_codes] at ha
    simp only [List.length_append, List.length_take, List.length_drop, List.length_singleton] at el
    refine ⟨by rw [len_codes]; omega, by rw [len_codes]; omega, fun c hc => ?_⟩
    rw [e] at hc
    simp only [List.mem_append, List.mem_singleton] at hc
    rcases hc with (hc | hc) | hc
    ·exact hb c (List.mem_of_mem_take hc)
    ·rw [hc]; exact let_at.1
    ·exact hb c (List.mem_of_mem_drop hc)
def signD (c : Nat) : PyData := .str ⟨#[c]⟩
theorem signs_strs (cs : List Nat) : cs.map signD = (cs.map fun c => (⟨#[c]⟩ : Str)).map PyData.str := by rw [List.map_map]; rfl
abbrev lettersT : Str := Str.ofString "abcdefghijklmnopqrstuvwxyz"
def S__law_names : SpD := fun ds q => ∃ (pen : PyData) (n m : Nat), ds = [pen, .int (n : Nat)] ∧ PenOk m pen ∧ m + 100 < 10000000 ∧ n ≤ 8 ∧ ∀ zs pen', NamesN n zs → PenOk (m + 20) pen' → q (.own (.list (zs.map .str))) [some pen', none]
section
variable {pen : PyData} {m n a : Nat} {base l : Str} {way f st : Int} {E : DEnds} {SD : SpD}
abbrev RNm (pen : PyData) (n : Nat) (way f st : Int) (base : Str) (a : Nat) (zs : List Str) (s9 s10 s11 : Option SV) : DEnv := [some (.own pen), some (.frz (.int (n : Nat))), some (.frz (.str lettersT)), some (.frz (.int way)), some (.frz (.int f)), some (.frz (.int st)), some (.frz (.str base)), some (.frz (.int (a : Nat))), some (.own (.list (zs.map .str))), s9, s10, s11]
theorem names_L9 {zs : List Str} {k : Nat} {s10 s11 : Option SV} (h8 : base.length ≤ 7) (hk : k < 8) (hf0 : 0 ≤ f) (hf : f < 26) (hst : st ∈ stepsW) (hz : zs.length = k)
  (h : E.nx (RNm pen n way f st base a (zs ++ [nameW way base a f st (repS (signW ((abc[f.toNat]?).getD 0)) 9) k]) (some (.frz (.int (k : Nat)))) (some (.frz (.str (signW (letW f st k))))) (some (.frz (.str (nameW way base a f st (repS (signW ((abc[f.toNat]?).getD 0)) 9) k)))))) :
  g__law_names_L9 SD E (RNm pen n way f st base a zs (some (.frz (.int (k : Nat)))) s10 s11) := by
 have hb8 : base.length ≤ big := Nat.le_trans h8 tle
 have c2 := (let_at (f := f) (st := st) (k := k)).2.2
 have l1 := cutS_length base none (some ((a : Nat) : Int))
 have l2 := cutS_length base (some ((a : Nat) : Int)) none
 have l0 : ((⟨#[letW f st k]⟩ : Str)).length = 1 := rfl
 obtain ⟨c, hc, _, hc2⟩ := abc_at hf0 hf
 have e3 : (abc[f.toNat]?).getD 0 = c := by rw [hc2]; rfl
 rw [e3] at h
 have rl : (repS (signW c) 9).length = 9 := by rw [repS_len]; rfl
 have hst' : 0 ≤ st ∧ st ≤ 17 := by
  have : ∀ x ∈ stepsW, (0 : Int) ≤ x ∧ x ≤ 17 := by decide
  exact this st hst
 have hap : zs.length < big := by rw [hz]; exact Nat.lt_of_lt_of_le (show k < 8 from hk) tle
 have app : ∀ x : Str, (zs ++ [x]).map PyData.str = zs.map PyData.str ++ [.str x] := fun x => by rw [List.map_append]; rfl
 refine ⟨.inl ⟨by omega, by omega⟩, (show (0 : Int) < 26 by decide), ?_⟩
 conv => whnf
 rw [c2]
 refine ⟨tle, hb8, ?_, hb8, ?_, ?_⟩
 ·exact Nat.le_trans (show _ ≤ 8 by omega) tle
 ·exact Nat.le_trans (show _ ≤ 16 by rw [len_app]; omega) tle
 show g__law_names_L11 SD E (RNm pen n way f st base a zs (some (.frz (.int (k : Nat)))) (some (.frz (.str (signW (letW f st k))))) (some (.frz (.str (cutS base none (some (a : Nat)) ++ signW (letW f st k) ++ cutS base (some (a : Nat)) none)))))
 have L15 : ∀ x : Str, x = nameW way base a f st (repS (signW c) 9) k → g__law_names_L15 SD E (RNm pen n way f st base a zs (some (.frz (.int (k : Nat)))) (some (.frz (.str (signW (letW f st k))))) (some (.frz (.str x)))) := fun x hx => by
  subst hx
  unfold RNm at h
  rw [app] at h
  exact ⟨rfl, by rw [List.length_map]; exact hap, h⟩
 have L13 : ∀ x : Str, (way ≠ 2 → x = nameW way base a f st (repS (signW c) 9) k) → g__law_names_L13 SD E (RNm pen n way f st base a zs (some (.frz (.int (k : Nat)))) (some (.frz (.str (signW (letW f st k))))) (some (.frz (.str x)))) := fun x hx => by
  refine ⟨shp_int _, shp_int _, ?_⟩
  show by2 (PyData.eqv (.int way) (.int 2)) _ _
  rw [eqv_intW]
  refine by2_d (fun cw => ?_) (fun cw => L15 x (hx cw))
  refine ⟨tle, ?_⟩
  conv => whnf
  rw [hc]
  have r9 : (9 : Int).toNat = 9 := rfl
  refine ⟨by decide, by decide, by show 1 ≤ 10000; decide, ?_, ?_⟩
  ·show base.length + (repS (signW _) 9).length ≤ big
   rw [rl]
   exact Nat.le_trans (show _ ≤ 16 by omega) tle
  ·have hz : (base ++ repS (signW c) 9).length ≤ big := by
    rw [len_app, rl]
    exact Nat.le_trans (show _ ≤ 16 by omega) tle
   exact ⟨hz, L15 _ (by unfold nameW; rw [if_pos cw]; rfl)⟩
 refine ⟨shp_int _, shp_int _, ?_⟩
 show by2 (PyData.eqv (.int way) (.int 1)) _ _
 rw [eqv_intW]
 refine by2_d (fun c => ?_) (fun c => ?_)
 ·exact L13 _ fun _ => by unfold nameW; rw [if_neg (by omega), if_pos c]
 ·exact L13 _ fun c2 => by unfold nameW; rw [if_neg c2, if_neg c]
end
theorem p__law_names (ds : List PyData) (q : SV → Outs → Prop) (h : S__law_names ds q) (hl : ds.length = P__law_names.length) : g__law_names S__law_draw (endsOf P__law_names q) (startE N__law_names.length P__law_names ds) := by
 obtain ⟨pen, n, m, rfl, hp, hm, hn, h⟩ := h
 refine ⟨⟨trivial, trivial⟩, by simp [selSlots], pen, 3, m, rfl, hp, by omega, by omega, by omega, fun way pen1 w0 w1 hp1 => ?_⟩
 refine ⟨⟨trivial, trivial⟩, by simp [selSlots], pen1, 26, _, rfl, hp1, by omega, by omega, by omega, fun f pen2 f0 f1 hp2 => ?_⟩
 refine ⟨tle, ⟨trivial, trivial⟩, by simp [selSlots], pen2, 8, _, rfl, hp2, by omega, by omega, by omega, fun r pen3 r0 r1 hp3 => ?_⟩
 obtain ⟨r, rfl⟩ : ∃ k : Nat, r = k := ⟨r.toNat, by omega⟩
 have hr : r < stepsW.length := by show r < 8; omega
 have est : stepsW[r]? = some stepsW[r] := List.getElem?_eq_getElem hr
 have hst : stepsW[r] ∈ stepsW := List.getElem_mem hr
 refine ixL (atI_nat (xs := stepsW.map PyData.int) (v := .int stepsW[r]) (by rw [List.getElem?_map, est]; rfl)) ?_
 generalize stepsW[r] = st at hst
 show g__law_names_L5 S__law_draw (endsOf P__law_names q) [some (.own pen3), some (.frz (.int (n : Nat))), some (.frz (.str lettersT)), some (.frz (.int way)), some (.frz (.int f)), some (.frz (.int st)), none, none, none, none, none, none]
 refine ⟨rfl, ⟨trivial, trivial⟩, by simp [selSlots], pen3, 8, _, rfl, hp3, by omega, by omega, by omega, fun j pen4 j0 j1 hp4 => ?_⟩
 obtain ⟨j, rfl⟩ : ∃ k : Nat, j = k := ⟨j.toNat, by omega⟩
 refine ⟨by omega, by omega, ?_⟩
 have rl : (rangeD 0 ((j : Nat) : Int).toNat).length = j := by rw [range_len, Int.toNat_natCast]
 apply lc_pen 1 signD (fun _ c => c ∈ abc) hp4
 ·intro i d pen yes no hi hd hp hy
  rw [rl] at hi
  walk_at "tk"
  intro r pen' h0 h1 hp'
  obtain ⟨c, hc, hca, _⟩ := abc_at h0 h1
  refine ⟨by decide, ?_⟩
  conv => whnf
  rw [hc]
  exact hy c _ hca hp'
 ·rw [rl]; exact Nat.le_trans (show j ≤ 8 by omega) tle
 intro cs pen5 hcl hcs hp5
 rw [rl] at hcl hp5
 have hcs : ∀ c ∈ cs, c ∈ abc := fun c hc => by
  obtain ⟨i, hi⟩ := List.mem_iff_getElem?.mp hc
  have hil := (List.getElem?_eq_some_iff.mp hi).1
  exact hcs i _ c (List.getElem?_eq_getElem (show i < (rangeD 0 ((j : Nat) : Int).toNat).length by omega)) hi
 rw [signs_strs]
 conv => whnf
 rw [strsD_map]
 refine ⟨?_, ?_⟩
 ·rw [sum_signs, List.length_map]
  have : (("" : Str)).length = 0 := by decide
  rw [this]
  exact Nat.le_trans (show _ ≤ 9 by omega) tle
 have ecs := join_signs cs
 generalize hb : Txt.join (Str.ofString "") (cs.map fun c => (⟨#[c]⟩ : Str)) = base
 have ecs : base.cps.toList = cs := by rw [← hb]; exact ecs
 have h8 : base.length ≤ 7 := by rw [len_codes, ecs]; omega
 have hba : ∀ c ∈ base.cps.toList, c ∈ abc := by rw [ecs]; exact hcs
 show g__law_names_L6 S__law_draw (endsOf P__law_names q) [some (.own pen5), some (.frz (.int (n : Nat))), some (.frz (.str lettersT)), some (.frz (.int way)), some (.frz (.int f)), some (.frz (.int st)), some (.frz (.str base)), none, none, none, none, none]
 refine ⟨Nat.le_trans h8 tle, ⟨trivial, trivial⟩, by simp [selSlots], pen5, ((base.length : Nat) : Int) + 1, _, rfl, hp5, by omega, by omega, by omega, fun a pen6 a0 a1 hp6 => ?_⟩
 obtain ⟨a, rfl⟩ : ∃ k : Nat, a = k := ⟨a.toNat, by omega⟩
 refine ⟨tle, ?_⟩
 refine ⟨by omega, by omega, ?_⟩
 obtain ⟨c, hc, hca, hc2⟩ := abc_at f0 f1
 have e3 : (abc[f.toNat]?).getD 0 = c := by rw [hc2]; rfl
 have nmk : ∀ k, (List.range (k + 1)).map (nameW way base a f st (repS (signW ((abc[f.toNat]?).getD 0)) 9)) = (List.range k).map (nameW way base a f st (repS (signW ((abc[f.toNat]?).getD 0)) 9)) ++ [nameW way base a f st (repS (signW ((abc[f.toNat]?).getD 0)) 9) k] := fun k => by rw [List.range_succ, List.map_append]; rfl
 refine loop_ix (fun i ρ => ∃ (s9 s10 s11 : Option SV), ρ = RNm pen6 n way f st base a ((List.range i).map (nameW way base a f st (repS (signW ((abc[f.toNat]?).getD 0)) 9))) s9 s10 s11) (fun i d ρ nx hd hI hnx => ?_) ⟨none, none, none, rfl⟩ (fun ρ hI => ?_)
 ·obtain ⟨s9, s10, s11, rfl⟩ := hI
  obtain ⟨hi, rfl⟩ := range_at hd
  have hi : i < n := by simpa using hi
  refine names_L9 h8 (by omega) f0 f1 hst (by simp) ?_
  rw [← nmk]
  exact hnx _ ⟨_, _, _, rfl⟩
 ·obtain ⟨s9, s10, s11, rfl⟩ := hI
  rw [range_len, Int.toNat_natCast]
  have rl9 : (repS (signW ((abc[f.toNat]?).getD 0)) 9).length = 9 := by rw [repS_len]; rfl
  refine ⟨by decide, h _ pen6 (names_w h8 hba (by omega) hst rl9 (fun x hx => ?_) hn) (hp6.mono (by omega))⟩
  have := repS_mem hx
  rw [e3] at this
  have : x ∈ [c] := this
  rw [List.mem_singleton] at this
  rw [this]; exact hca
end My
set_option linter.all false
set_option maxRecDepth 100000
namespace My
open PySem PySem.Spec L2 Dv
def nD (n : Nat) : PyData := .int (n : Nat)
def natsD (ns : List Nat) : PyData := .list (ns.map nD)
def leftAt (ns : List Nat) (k : Nat) : Nat := (ns[k]?).getD 0
theorem nats_ints (ns : List Nat) : intsD (ns.map nD) = some (ns.map fun n : Nat => (n : Int)) := by
 induction ns with
 | nil => rfl
 | cons a l ih => simp [intsD, nD, ih]
theorem sum_cast (l : List Nat) : (l.map fun x : Nat => (x : Int)).sum = ((l.sum : Nat) : Int) := by
 induction l with
 | nil => rfl
 | cons a l ih => rw [List.map_cons, List.sum_cons, List.sum_cons, ih, Int.natCast_add]
theorem nat_at {ns : List Nat} {k v : Nat} (h : ns[k]? = some v) : atI (ns.map nD) ((k : Nat) : Int) = some (nD v) := atI_nat (by rw [List.getElem?_map, h]; rfl)
theorem putL {n i : Nat} {K : Nat → Prop} (hi : i < n) (h : K i) : (match ixN n (i : Int) with | some j => K j | none => False) := by
 have e : ixN n (i : Int) = some i := by
  unfold ixN
  rw [if_pos (by omega), if_pos (by omega)]
  simp
 rw [e]
 exact h
theorem sum_set : ∀ {ns : List Nat} {k v : Nat}, ns[k]? = some (v + 1) → (ns.set k v).sum + 1 = ns.sum
 | [], _, _, h => by simp at h
 | a :: ns, 0, v, h => by simp at h; subst h; simp; omega
 | a :: ns, k + 1, v, h => by
  rw [List.getElem?_cons_succ] at h
  have := sum_set h
  simp only [List.set_cons_succ, List.sum_cons]
  omega
theorem leftAt_set {ns : List Nat} {k v j : Nat} (h : ns[k]? = some (v + 1)) : leftAt (ns.set k v) j + (if k = j then 1 else 0) = leftAt ns j := by
 have hk := (List.getElem?_eq_some_iff.mp h).1
 unfold leftAt
 by_cases e : k = j
 ·subst e
  rw [List.getElem?_set_self hk, h, if_pos rfl]
  rfl
 ·rw [List.getElem?_set_ne e, if_neg e, Nat.add_zero]
theorem sum_pos {ns : List Nat} (h : 0 < ns.sum) : ∃ k v : Nat, ns[k]? = some (v + 1) := by
 induction ns with
 | nil => simp at h
 | cons a ns ih =>
  cases a with
  | zero =>
   obtain ⟨k, v, hk⟩ := ih (by simpa using h)
   exact ⟨k + 1, v, hk⟩
  | succ a => exact ⟨0, a, rfl⟩
def fW (ns : List Nat) : PyData → Option PyData
 | .int k => if 0 < leftAt ns k.toNat then some (.int k) else none
 | _ => none
end My
set_option linter.all false
set_option maxRecDepth 100000
namespace My
open PySem PySem.Spec L2 Dv
abbrev W1 := List (Nat × Nat)
def t2D (p : Nat × Nat) : PyData := .tuple [nD p.1, nD p.2]
def wireOf (w : W1) : List Nat := w.map (·.1)
structure WayOk (w : W1) (fs : List Nat) : Prop where
 wk : ∀ p ∈ w, p.1 < fs.length
 way : ∀ i p, w[i]? = some p → p.2 = (leftAt fs p.1 + 1 + (wireOf (w.take i)).count p.1) % 2
structure WordOk (w : W1) (fs : List Nat) (most : Nat) : Prop extends WayOk w fs where
 f1 : 1 ≤ fs.length
 f6 : fs.length ≤ 6
 fb : ∀ v ∈ fs, v ≤ 1
 ev : ∀ k, k < fs.length → (wireOf w).count k % 2 = 0 ∧ 2 ≤ (wireOf w).count k
 len : w.length ≤ most
def S__law_word : SpD := fun ds q => ∃ (pen : PyData) (m : Nat) (room : Int) (most : Nat), ds = [pen, .int room, nD most] ∧ PenOk m pen ∧ m + 1000 < 10000000 ∧ 2 ≤ most ∧ most ≤ 30 ∧ ∀ (w : W1) (fs : List Nat) pen', WordOk w fs most → PenOk (m + 60) pen' → q (.frz (.list [.list (w.map t2D), natsD fs])) [some pen', none, none]
abbrev RW (pen : PyData) (room : Int) (most : Nat) (ls : List Nat) (s4 s5 s6 s7 s8 s9 : Option SV) : DEnv := [some (.own pen), some (.frz (.int room)), some (.frz (nD most)), some (.own (natsD ls)), s4, s5, s6, s7, s8, s9]
structure LongOk (ls : List Nat) (most : Nat) : Prop where
 mem : ∀ x ∈ ls, x = 2 ∨ x = 4 ∨ x = 6
 sum : ls.sum ≤ most
theorem long_at {r : Int} (h0 : 0 ≤ r) (h1 : r < 4) : ∃ v : Nat, (v = 2 ∨ v = 4 ∨ v = 6) ∧ atI [PyData.int 2, .int 2, .int 4, .int 6] r = some (nD v) := by
 obtain ⟨k, rfl⟩ : ∃ k : Nat, r = k := ⟨r.toNat, by omega⟩
 have hk : k < 4 := by omega
 match k, hk with
 | 0, _ => exact ⟨2, by omega, rfl⟩
 | 1, _ => exact ⟨2, by omega, rfl⟩
 | 2, _ => exact ⟨4, by omega, rfl⟩
 | 3, _ => exact ⟨6, by omega, rfl⟩
theorem word_L3 {E : DEnds} {pen : PyData} {m most : Nat} {room : Int} {ls : List Nat} {s4 s5 s6 s7 s8 s9 : Option SV} (hp : PenOk m pen) (hm : m + 100 < 10000000) (h30 : most ≤ 30) (hL : LongOk ls most) (hll : ls.length ≤ 5)
  (h : ∀ (pen' : PyData) (room' : Int) (ls' : List Nat) (s8 : Option SV), PenOk (m + 1) pen' → LongOk ls' most → ls'.length ≤ ls.length + 1 → (s8 = none ∨ ∃ d, s8 = some (.frz d)) → E.nx (RW pen' room' most ls' s4 s5 s6 s7 s8 s9)) :
  g__law_word_L3 S__law_draw E (RW pen room most ls s4 s5 s6 s7 s8 s9) := by
 refine ⟨tle, ⟨trivial, trivial⟩, by simp [selSlots], pen, 4, m, rfl, hp, by omega, by omega, by omega, fun r pen1 r0 r1 hp1 => ?_⟩
 obtain ⟨v, hv, ev⟩ := long_at r0 r1
 refine ixL ev ?_
 show g__law_word_L4 S__law_draw E (RW pen1 room most ls s4 s5 s6 s7 (some (.frz (nD v))) s9)
 have no : E.nx (RW pen1 room most ls s4 s5 s6 s7 (some (.frz (nD v))) s9) := h pen1 room ls _ hp1 hL (by omega) (.inr ⟨_, rfl⟩)
 refine by2_i (fun c1 => ?_) (fun c1 => nx_of no)
 conv => whnf
 rw [nats_ints]
 show by2 (decide ((ls.map fun n : Nat => (n : Int)).sum + ((v : Nat) : Int) ≤ ((most : Nat) : Int))) _ _
 rw [sum_cast]
 refine by2_d (fun c2 => ?_) (fun c2 => nx_of no)
 have e : natsD (ls ++ [v]) = .list (ls.map nD ++ [nD v]) := by unfold natsD; rw [List.map_append]; rfl
 refine ⟨rfl, by rw [List.length_map]; exact Nat.lt_of_lt_of_le (show _ < 6 by omega) tle, ?_⟩
 refine ⟨⟨by omega, by omega⟩, ?_⟩
 have := h pen1 (room / v) (ls ++ [v]) (some (.frz (nD v))) hp1 ⟨fun x hx => ?_, by rw [List.sum_append, List.sum_singleton]; omega⟩ (by rw [List.length_append]; simp) (.inr ⟨_, rfl⟩)
 ·unfold RW at this
  rw [e] at this
  exact this
 ·rcases List.mem_append.mp hx with hx | hx
  ·exact hL.mem x hx
  ·rw [List.mem_singleton.mp hx]; exact hv
abbrev RV (pen : PyData) (room : Int) (most : Nat) (ns fs ls : List Nat) (w : W1) (s4 s8 s9 : Option SV) : DEnv := [some (.own pen), some (.frz (.int room)), some (.frz (nD most)), some (.frz (natsD ns)), s4, some (.frz (natsD fs)), some (.own (natsD ls)), some (.own (.list (w.map t2D))), s8, s9]
structure Drawn (ns fs ls : List Nat) (w : W1) : Prop where
 lf : fs.length = ns.length
 ll : ls.length = ns.length
 way : WayOk w fs
 cnt : ∀ k, (wireOf w).count k + leftAt ls k = leftAt ns k
 sum : ls.sum + w.length = ns.sum
theorem Drawn.step {ns fs ls : List Nat} {w : W1} {k v : Nat} (h : Drawn ns fs ls w) (hv : ls[k]? = some (v + 1)) : Drawn ns fs (ls.set k v) (w ++ [(k, (leftAt fs k + 1 + (wireOf w).count k) % 2)]) := by
 have hk := (List.getElem?_eq_some_iff.mp hv).1
 refine ⟨h.lf, by rw [List.length_set]; exact h.ll, ⟨fun p hp => ?_, fun i p hp => ?_⟩, fun j => ?_, ?_⟩
 ·rcases List.mem_append.mp hp with hp | hp
  ·exact h.way.wk p hp
  ·rw [List.mem_singleton.mp hp, h.lf, ← h.ll]; exact hk
 ·by_cases hi : i < w.length
  ·rw [List.getElem?_append_left hi] at hp
   rw [List.take_append_of_le_length (by omega)]
   exact h.way.way i p hp
  ·have hl := (List.getElem?_eq_some_iff.mp hp).1
   rw [List.length_append, List.length_singleton] at hl
   have e : i = w.length := by omega
   subst e
   rw [List.getElem?_append_right (by omega), Nat.sub_self] at hp
   cases hp
   rw [List.take_append_of_le_length (Nat.le_refl _), List.take_length]
 ·have h1 := h.cnt j
  have h2 := leftAt_set (j := j) hv
  unfold wireOf at h1 ⊢
  rw [List.map_append, List.count_append]
  show _ + (([k] : List Nat).count j) + _ = _
  rw [List.count_singleton]
  have e3 : (if (k == j) = true then 1 else 0) = (if k = j then 1 else 0) := by
   by_cases c : k = j <;> simp [c]
  rw [e3]
  omega
 ·have := sum_set hv
  have := h.sum
  rw [List.length_append, List.length_singleton]
  omega
theorem word_L13 {E : DEnds} {pen : PyData} {m most : Nat} {room : Int} {ns fs ls so : List Nat} {w : W1} {s4 s8 : Option SV} (hp : PenOk m pen) (hm : m + 100 < 10000000) (hD : Drawn ns fs ls w) (hw : w.length ≤ 50) (hn : ns.length ≤ 6)
  (hsm : ∀ k ∈ so, ∃ v, ls[k]? = some (v + 1)) (hsp : 0 < so.length) (hsl : so.length ≤ 100)
  (h : ∀ (pen' : PyData) (ls' : List Nat) (w' : W1) (s4 : Option SV), PenOk (m + 1) pen' → Drawn ns fs ls' w' → ls'.sum + 1 = ls.sum → w'.length = w.length + 1 → (∃ d, s4 = some (.frz d)) → E.nx (RV pen' room most ns fs ls' w' s4 s8 (some (.frz (natsD so))))) :
  g__law_word_L13 S__law_draw E (RV pen room most ns fs ls w s4 s8 (some (.frz (natsD so)))) := by
 refine ⟨⟨trivial, trivial⟩, by simp [selSlots], pen, _, _, rfl, hp, by omega, by rw [List.length_map]; omega, by rw [List.length_map]; omega, fun r pen2 h20 h21 hp2 => ?_⟩
 rw [List.length_map] at h21
 obtain ⟨k, e1, e2⟩ := at_map (f := nD) h20 h21
 refine ixL e1 ?_
 obtain ⟨v, hv⟩ := hsm k (List.mem_of_getElem? e2)
 have hkl := (List.getElem?_eq_some_iff.mp hv).1
 show g__law_word_L14 S__law_draw E (RV pen2 room most ns fs ls w (some (.frz (nD k))) s8 (some (.frz (natsD so))))
 have hkn : k < ns.length := by rw [← hD.ll]; exact hkl
 obtain ⟨f, ef⟩ : ∃ f, fs[k]? = some f := ⟨_, List.getElem?_eq_getElem (by rw [hD.lf]; exact hkn)⟩
 obtain ⟨n, en⟩ : ∃ n, ns[k]? = some n := ⟨_, List.getElem?_eq_getElem hkn⟩
 have c := hD.cnt k
 have el : leftAt ls k = v + 1 := by unfold leftAt; rw [hv]; rfl
 have enn : leftAt ns k = n := by unfold leftAt; rw [en]; rfl
 have eff : leftAt fs k = f := by unfold leftAt; rw [ef]; rfl
 refine ⟨rfl, ?_⟩
 refine ixL (nat_at ef) ?_
 refine ixL (nat_at en) ?_
 refine ixL (nat_at hv) ⟨trivial, (show (0 : Int) < 2 by decide), tle, ?_⟩
 refine ⟨by rw [List.length_map]; exact Nat.lt_of_lt_of_le (show _ < 51 by omega) tle, ?_⟩
 refine ixL (nat_at hv) ⟨trivial, ?_⟩
 refine putL (by rw [List.length_map]; exact hkl) ?_
 have fin := h pen2 (ls.set k v) (w ++ [(k, (leftAt fs k + 1 + (wireOf w).count k) % 2)]) (some (.frz (nD k))) hp2 (hD.step hv) (sum_set hv) (by rw [List.length_append]; simp) ⟨_, rfl⟩
 have e3 : ((((f : Nat) : Int) + 1 + ((n : Nat) : Int) - ((v + 1 : Nat) : Int)) % 2) = (((leftAt fs k + 1 + (wireOf w).count k) % 2 : Nat) : Int) := by
  rw [eff]
  omega
 have e4 : (((v + 1 : Nat) : Int) - 1) = ((v : Nat) : Int) := by omega
 show E.nx [_, _, _, _, _, _, some (.own (.list ((ls.map nD).set k (.int (((v + 1 : Nat) : Int) - 1))))), some (.own (.list (w.map t2D ++ [.tuple [nD k, .int ((((f : Nat) : Int) + 1 + ((n : Nat) : Int) - ((v + 1 : Nat) : Int)) % 2)]]))), _, _]
 rw [e3, e4]
 unfold RV natsD at fin
 rw [List.map_append, List.map_set] at fin
 exact fin
def moreOf (ls : List Nat) : List Nat := (List.range ls.length).filter fun k => decide (0 < leftAt ls k)
theorem more_some {ls : List Nat} {k : Nat} (h : k ∈ moreOf ls) : ∃ v, ls[k]? = some (v + 1) := by
 unfold moreOf at h
 rw [List.mem_filter, List.mem_range] at h
 have h1 := of_decide_eq_true h.2
 unfold leftAt at h1
 cases z : ls[k]? with
 | none => rw [z] at h1; exact absurd h1 (by simp)
 | some v =>
  cases v with
  | zero => rw [z] at h1; exact absurd h1 (by simp)
  | succ v => exact ⟨v, rfl⟩
theorem more_pos {ls : List Nat} (h : 0 < ls.sum) : 0 < (moreOf ls).length := by
 obtain ⟨k, v, hk⟩ := sum_pos h
 have hkl := (List.getElem?_eq_some_iff.mp hk).1
 refine List.length_pos_of_mem (a := k) ?_
 unfold moreOf
 rw [List.mem_filter, List.mem_range]
 refine ⟨hkl, decide_eq_true ?_⟩
 unfold leftAt
 rw [hk]
 simp
theorem more_len (ls : List Nat) : (moreOf ls).length ≤ ls.length := by
 unfold moreOf
 exact Nat.le_trans (List.length_filter_le _ _) (by rw [List.length_range]; exact Nat.le_refl _)
theorem more_is (ls : List Nat) : (rangeD 0 (((ls.map nD).length : Nat) : Int).toNat).filterMap (fW ls) = (moreOf ls).map nD := by
 unfold rangeD moreOf
 rw [Int.toNat_natCast, List.length_map, List.filterMap_map]
 have : ∀ l : List Nat, l.filterMap (fW ls ∘ fun i => PyData.int (0 + ((i : Nat) : Int))) = (l.filter fun k => decide (0 < leftAt ls k)).map nD := fun l => by
  induction l with
  | nil => rfl
  | cons a l ih =>
   rw [List.filterMap_cons, List.filter_cons, ih]
   have ef : (fW ls ∘ fun i : Nat => PyData.int (0 + ((i : Nat) : Int))) a = if 0 < leftAt ls a then some (nD a) else none := by
    show (if 0 < leftAt ls (0 + ((a : Nat) : Int)).toNat then some (PyData.int (0 + ((a : Nat) : Int))) else none) = _
    rw [show (0 + ((a : Nat) : Int)) = ((a : Nat) : Int) by omega, Int.toNat_natCast]
    rfl
   rw [ef]
   by_cases c : 0 < leftAt ls a
   ·rw [if_pos c, decide_eq_true c]; rfl
   ·rw [if_neg c, decide_eq_false c]; rfl
 exact this _
theorem word_L12 {E : DEnds} {pen : PyData} {m most : Nat} {room : Int} {ns fs ls : List Nat} {w : W1} {s4 s8 s9 : Option SV} (hs4 : s4 = none ∨ ∃ d, s4 = some (.frz d)) (hp : PenOk m pen) (hm : m + 100 < 10000000) (hD : Drawn ns fs ls w) (hw : w.length ≤ 50) (hn : ns.length ≤ 6) (h0 : 0 < ls.sum)
  (h : ∀ (pen' : PyData) (ls' : List Nat) (w' : W1) (s4 s9 : Option SV), PenOk (m + 1) pen' → Drawn ns fs ls' w' → ls'.sum + 1 = ls.sum → w'.length = w.length + 1 → (∃ d, s4 = some (.frz d)) → E.nx (RV pen' room most ns fs ls' w' s4 s8 s9)) :
  g__law_word_L12 S__law_draw E (RV pen room most ns fs ls w s4 s8 s9) := by
 have hll2 : (ls.map nD).length = ls.length := List.length_map ..
 have hl := hD.ll
 refine ⟨by show (((ls.map nD).length : Nat) : Int) < 2 ^ 62; omega, by show -(2 ^ 62) ≤ (((ls.map nD).length : Nat) : Int); omega, ?_⟩
 refine lc_filterMap (fW ls) (fun d hd yes no hy hno => ?_) ?_ ?_
 ·obtain ⟨k, hk⟩ := List.mem_iff_getElem?.mp hd
  obtain ⟨hk2, rfl⟩ := range_at hk
  rw [Int.toNat_natCast, hll2] at hk2
  have ev : ls[k]? = some ls[k] := List.getElem?_eq_getElem hk2
  have el : leftAt ls k = ls[k] := by unfold leftAt; rw [ev]; rfl
  refine ixL (nat_at ev) ?_
  refine by2_d (fun c => ?_) (fun c => ?_)
  ·rcases hs4 with rfl | ⟨d4, rfl⟩
   ·refine hy _ ?_
    show (if 0 < leftAt ls ((k : Nat) : Int).toNat then some (PyData.int (k : Nat)) else none) = _
    rw [Int.toNat_natCast, el, if_pos (by omega)]
   ·refine hy _ ?_
    show (if 0 < leftAt ls ((k : Nat) : Int).toNat then some (PyData.int (k : Nat)) else none) = _
    rw [Int.toNat_natCast, el, if_pos (by omega)]
  ·rcases hs4 with rfl | ⟨d4, rfl⟩
   ·refine hno ?_
    show (if 0 < leftAt ls ((k : Nat) : Int).toNat then some (PyData.int (k : Nat)) else none) = _
    rw [Int.toNat_natCast, el, if_neg (by omega)]
   ·refine hno ?_
    show (if 0 < leftAt ls ((k : Nat) : Int).toNat then some (PyData.int (k : Nat)) else none) = _
    rw [Int.toNat_natCast, el, if_neg (by omega)]
 ·rw [range_len, Int.toNat_natCast, hll2]
  exact Nat.le_trans (show 0 + ls.length ≤ 100 by omega) tle
 rw [List.nil_append, more_is]
 have hml := more_len ls
 exact word_L13 hp hm hD hw hn (fun k hk => more_some hk) (more_pos h0) (by omega) fun pen' ls' w' s4' a b c d e => h pen' ls' w' s4' _ a b c d e
theorem word_L11 {q : SV → Outs → Prop} {pen : PyData} {m most : Nat} {room : Int} {ns fs : List Nat} {s4 s8 s9 : Option SV} (hs4 : s4 = none ∨ ∃ d, s4 = some (.frz d)) (hp : PenOk m pen) (hm : m + 200 < 10000000) (lf : fs.length = ns.length) (hn : ns.length ≤ 6) (hn1 : 1 ≤ ns.length) (hfb : ∀ v ∈ fs, v ≤ 1) (hL : LongOk ns most) (h30 : most ≤ 30)
  (h : ∀ (w : W1) pen', WordOk w fs most → PenOk (m + 31) pen' → q (.frz (.list [.list (w.map t2D), natsD fs])) [some pen', none, none]) :
  g__law_word_L11 S__law_draw (endsOf P__law_word q) (RV pen room most ns fs ns [] s4 s8 s9) := by
 have hsum := hL.sum
 refine ⟨fun k ρ => ∃ (pen : PyData) (ls : List Nat) (w : W1) (s4 s9 : Option SV), PenOk (m + w.length) pen ∧ Drawn ns fs ls w ∧ k = ls.sum ∧ (s4 = none ∨ ∃ d, s4 = some (.frz d)) ∧ ρ = RV pen room most ns fs ls w s4 s8 s9,
  ⟨ns.sum, pen, ns, [], s4, s9, hp, ⟨lf, rfl, ⟨fun p hp => (by cases hp), fun i p hp => by simp at hp⟩, fun k => (by simp [wireOf]), by simp⟩, rfl, hs4, rfl⟩, ?_⟩
 rintro k ρ ⟨pen, ls, w, s4, s9, hp, hD, rfl, hs4, rfl⟩
 have hws := hD.sum
 conv => whnf
 rw [nats_ints]
 show by2 (decide ((ls.map fun n : Nat => (n : Int)).sum > 0)) _ _
 rw [sum_cast]
 refine by2_d (fun c => ?_) (fun c => ?_)
 ·refine word_L12 hs4 hp (by omega) hD (by omega) hn (by omega) fun pen' ls' w' s4' s9' e1 e2 e3 e4 e5 => ?_
  exact ⟨ls'.sum, by omega, pen', ls', w', s4', s9', by rw [e4, ← Nat.add_assoc]; exact e1, e2, rfl, .inr e5, rfl⟩
 ·have z : ls.sum = 0 := by omega
  refine ⟨tle, by decide, h w pen ⟨hD.way, by omega, by omega, hfb, fun k hk => ?_, by omega⟩ (hp.mono (by omega))⟩
  have := hD.cnt k
  have hz : leftAt ls k = 0 := by
   unfold leftAt
   cases z2 : ls[k]? with
   | none => rfl
   | some v =>
    cases v with
    | zero => rfl
    | succ v => have := sum_set z2; omega
  have hkn : k < ns.length := by omega
  have en : ns[k]? = some ns[k] := List.getElem?_eq_getElem hkn
  have enn : leftAt ns k = ns[k] := by unfold leftAt; rw [en]; rfl
  have := hL.mem _ (List.getElem_mem hkn)
  omega
theorem word_back {q : SV → Outs → Prop} {pen : PyData} {m most : Nat} {room : Int} {ns fs : List Nat} {s4 s8 : Option SV} (hs4 : s4 = none ∨ ∃ d, s4 = some (.frz d)) (_ : True) (n1 : 1 ≤ ns.length) (hn : ns.length ≤ 6) (hL : LongOk ns most) (h30 : most ≤ 30) (lf : fs.length = ns.length) (hfb : ∀ v ∈ fs, v ≤ 1) (hp : PenOk m pen) (hm : m + 200 < 10000000)
  (h : ∀ (w : W1) pen', WordOk w fs most → PenOk (m + 31) pen' → q (.frz (.list [.list (w.map t2D), natsD fs])) [some pen', none, none]) :
  g__law_word_L9 S__law_draw (endsOf P__law_word q) [some (.own pen), some (.frz (.int room)), some (.frz (nD most)), some (.frz (natsD ns)), s4, some (.frz (natsD fs)), none, none, s8, none] := by
 refine ⟨tle, ?_⟩
 exact word_L11 hs4 hp hm lf hn n1 hfb hL h30 h
theorem word_L8 {q : SV → Outs → Prop} {pen : PyData} {m most : Nat} {room : Int} {ns : List Nat} {s4 s8 : Option SV} (hs4 : s4 = none ∨ ∃ d, s4 = some (.frz d)) (hs8 : s8 = none ∨ ∃ d, s8 = some (.frz d)) (n1 : 1 ≤ ns.length) (hn : ns.length ≤ 6) (hL : LongOk ns most) (h30 : most ≤ 30) (hp : PenOk m pen) (hm : m + 300 < 10000000)
  (h : ∀ (w : W1) (fs : List Nat) pen', WordOk w fs most → PenOk (m + 40) pen' → q (.frz (.list [.list (w.map t2D), natsD fs])) [some pen', none, none]) :
  g__law_word_L8 S__law_draw (endsOf P__law_word q) (RW pen room most ns s4 none none none s8 none) := by
 have ln : (ns.map nD).length = ns.length := List.length_map ..
 have fin : ∀ (fs : List Nat) (pen2 : PyData), fs.length = (ns.map nD).length → (∀ (i : Nat) (d : PyData) (x : Nat), (ns.map nD)[i]? = some d → fs[i]? = some x → x ≤ 1) → PenOk (m + 1 * (ns.map nD).length) pen2 → g__law_word_L9 S__law_draw (endsOf P__law_word q) [some (.own pen2), some (.frz (.int room)), some (.frz (nD most)), some (.frz (natsD ns)), s4, some (.frz (natsD fs)), none, none, s8, none] := fun fs pen2 hfl hfs hp2 => by
  rw [ln] at hfl hp2
  refine word_back hs4 trivial n1 hn hL h30 hfl (fun v hv => ?_) hp2 (by omega) fun w pen' e1 e2 => h w fs pen' e1 (e2.mono (by omega))
  obtain ⟨i, hi⟩ := List.mem_iff_getElem?.mp hv
  have hil := (List.getElem?_eq_some_iff.mp hi).1
  exact hfs i _ v (List.getElem?_eq_getElem (by rw [ln]; omega)) hi
 have turn : ∀ (pen : PyData) (m' : Nat) (yes : PyData → DEnv → Prop) (d8 : PyData), PenOk m' pen → m' < 10000000 → (∀ x pen', x ≤ 1 → PenOk (m' + 1) pen' → yes (nD x) [some (.own pen'), some (.frz (.int room)), some (.frz (nD most)), some (.frz (natsD ns)), s4, none, none, none, s8, none]) → True := fun _ _ _ _ _ _ _ => trivial
 refine ⟨by decide, ?_⟩
 rcases hs8 with rfl | ⟨d8, rfl⟩
 ·refine lc_pen 1 nD (fun _ v => v ≤ 1) (env := fun pen => [some (.own pen), some (.frz (.int room)), some (.frz (nD most)), some (.frz (natsD ns)), s4, none, none, none, none, none]) hp (fun i d pen yes no hi hd hp hy => ?_) (by rw [ln]; exact Nat.le_trans (show _ ≤ 6 by omega) tle) fun fs pen2 hfl hfs hp2 => fin fs pen2 hfl hfs hp2
  rw [ln] at hi
  refine ⟨⟨trivial, trivial⟩, by simp [selSlots], pen, 2, _, rfl, hp, by omega, by omega, by omega, fun v pen' v0 v1 hp' => ?_⟩
  obtain ⟨v, rfl⟩ : ∃ k : Nat, v = k := ⟨v.toNat, by omega⟩
  exact hy v _ (by omega) hp'
 ·refine lc_pen 1 nD (fun _ v => v ≤ 1) (env := fun pen => [some (.own pen), some (.frz (.int room)), some (.frz (nD most)), some (.frz (natsD ns)), s4, none, none, none, some (.frz d8), none]) hp (fun i d pen yes no hi hd hp hy => ?_) (by rw [ln]; exact Nat.le_trans (show _ ≤ 6 by omega) tle) fun fs pen2 hfl hfs hp2 => fin fs pen2 hfl hfs hp2
  rw [ln] at hi
  refine ⟨⟨trivial, trivial⟩, by simp [selSlots], pen, 2, _, rfl, hp, by omega, by omega, by omega, fun v pen' v0 v1 hp' => ?_⟩
  obtain ⟨v, rfl⟩ : ∃ k : Nat, v = k := ⟨v.toNat, by omega⟩
  exact hy v _ (by omega) hp'
theorem p__law_word (ds : List PyData) (q : SV → Outs → Prop) (h : S__law_word ds q) (hl : ds.length = P__law_word.length) : g__law_word S__law_draw (endsOf P__law_word q) (startE N__law_word.length P__law_word ds) := by
 obtain ⟨pen, m, room, most, rfl, hp, hm, h2, h30, h⟩ := h
 refine ⟨tle, ?_⟩
 refine ⟨⟨trivial, trivial⟩, by simp [selSlots], pen, 6, m, rfl, hp, by omega, by omega, by omega, fun r pen1 r0 r1 hp1 => ?_⟩
 obtain ⟨r, rfl⟩ : ∃ k : Nat, r = k := ⟨r.toNat, by omega⟩
 refine ⟨by omega, by omega, ?_⟩
 refine loop_ix (fun i ρ => ∃ (pen : PyData) (room : Int) (ls : List Nat) (s4 s8 : Option SV), PenOk (m + 1 + i) pen ∧ LongOk ls most ∧ ls.length ≤ i ∧ (s4 = none ∨ ∃ d, s4 = some (.frz d)) ∧ (s8 = none ∨ ∃ d, s8 = some (.frz d)) ∧ ρ = RW pen room most ls s4 none none none s8 none) (fun i d ρ nx hd hI hnx => ?_) ⟨pen1, room, [], none, none, hp1, ⟨fun x hx => (by cases hx), by simp⟩, Nat.le_refl _, .inl rfl, .inl rfl, rfl⟩ (fun ρ hI => ?_)
 ·obtain ⟨pen, room, ls, s4, s8, hp, hL, hll, hs4, hs8, rfl⟩ := hI
  obtain ⟨hi, rfl⟩ := range_at hd
  have hi : i < 1 + r := by
   have : i < (1 + ((r : Nat) : Int)).toNat := hi
   omega
  exact word_L3 (s4 := some (.frz (.int (i : Nat)))) hp (by omega) h30 hL (by omega) fun pen' room' ls' s8' e1 e2 e3 e4 => hnx _ ⟨pen', room', ls', _, s8', e1, e2, by omega, .inr ⟨_, rfl⟩, e4, rfl⟩
 ·obtain ⟨pen, room, ls, s4, s8, hp, hL, hll, hs4, hs8, rfl⟩ := hI
  have rl : (rangeD 0 (1 + ((r : Nat) : Int)).toNat).length = 1 + r := by rw [range_len]; omega
  rw [rl] at hp hll
  obtain ⟨ns, en, hL2, n1, n6⟩ : ∃ ns : List Nat, (ls.map nD ++ (List.replicate (if ls = [] then 1 else 0) [nD 2]).flatten) = ns.map nD ∧ LongOk ns most ∧ 1 ≤ ns.length ∧ ns.length ≤ 6 := by
   by_cases c : ls = []
   ·subst c
    exact ⟨[2], rfl, ⟨fun x hx => by rw [List.mem_singleton.mp hx]; exact .inl rfl, h2⟩, by simp, by simp⟩
   ·have : 0 < ls.length := List.length_pos_iff.mpr c
    exact ⟨ls, by rw [if_neg c]; simp, hL, this, by omega⟩
  have eqv : PyData.eqv (natsD ls) (.list []) = decide (ls = []) := by cases ls <;> rfl
  have shl : shp (natsD ls) := (Shp.list (n := 0) fun d hd => by obtain ⟨i, _, rfl⟩ := List.mem_map.mp hd; exact Shp.int _).shp
  refine ⟨tle, tle, shl, rfl, ?_⟩
  have go : g__law_word_L8 S__law_draw (endsOf P__law_word q) (RW pen room most ns s4 none none none s8 none) := word_L8 hs4 hs8 n1 n6 hL2 h30 hp (by omega) fun w fs pen' e1 e2 => h w fs pen' e1 (e2.mono (by omega))
  have hl7 : (ls.map nD).length + 1 ≤ big := by rw [List.length_map]; exact Nat.le_trans (show _ ≤ 8 by omega) tle
  by_cases c : ls = []
  ·subst c
   have e2 : ns.map nD = [nD 2] := en.symm
   unfold RW natsD at go
   rw [e2] at go
   exact ⟨by decide, by decide, tle, tle, go⟩
  ·have e2 : ns.map nD = ls.map nD := by rw [← en, if_neg c]; simp
   unfold RW natsD at go
   rw [e2] at go
   obtain ⟨x, xs, rfl⟩ : ∃ x xs, ls = x :: xs := by
    cases ls with
    | nil => exact absurd rfl c
    | cons x xs => exact ⟨x, xs, rfl⟩
   have e3 : (x :: xs).map nD ++ [] = (x :: xs).map nD := by simp
   rw [← e3] at go
   exact ⟨(show (-(2 ^ 63) : Int) ≤ 0 by decide), (show (0 : Int) < 2 ^ 63 by decide), tle, by show ((x :: xs).map nD).length + 0 ≤ big; omega, go⟩
end My
set_option linter.all false
set_option maxRecDepth 100000
namespace My.Q
open PySem PySem.Spec L2 Dv
def mayD (s : Th.Sheet) (ms : List Int) : PyData := .list ((Th.mays s ms).map .int)
theorem any_int (l : List Int) (k : Int) : ((l.map PyData.int).any fun x => PyData.eqv x (.int k)) = l.contains k := by
 induction l with
 | nil => rfl
 | cons a l ih =>
  rw [List.map_cons, List.any_cons, ih, List.contains_cons]
  congr 1
  simp only [PyData.eqv]
  by_cases h : a = k
  ·subst h; simp
  ·have h' : ¬ k = a := fun e => h e.symm
   rw [beq_eq_false_iff_ne.mpr h']
   exact decide_eq_false h
theorem flat_int (l : List Int) : (l.map PyData.int).all flatD = true := by
 induction l with
 | nil => rfl
 | cons a l ih => rw [List.map_cons, List.all_cons, ih]; rfl
def aheadF (k : Int) : PyData → Option PyData
 | .tuple [.tuple [_, .tuple ys, _], v] => if ys.any (fun x => PyData.eqv x (.int k)) then some v else none
 | _ => none
def third : PyData → PyData
 | .tuple [_, _, c] => c
 | _ => .none
theorem set_step {α : Type} {A B : List α} {i : Nat} {x : α} (hA : A.length = B.length) (hx : A[i]? = some x) : (A.take i ++ B.drop i).set i x = A.take (i + 1) ++ B.drop (i + 1) := by
 have hi := (List.getElem?_eq_some_iff.mp hx).1
 rw [List.take_add_one, hx, List.set_append]
 have h1 : (A.take i).length = i := by rw [List.length_take]; omega
 rw [if_neg (by omega), h1, Nat.sub_self]
 have : B.drop i = B[i] :: B.drop (i + 1) := List.drop_eq_getElem_cons (by omega)
 rw [this]
 simp only [List.set_cons_zero, List.append_assoc, Option.toList_some, List.singleton_append]
theorem keep_step {α : Type} {A B : List α} {i : Nat} {x : α} (hA : A.length = B.length) (hx : A[i]? = some x) (hb : B[i]? = some x) : A.take i ++ B.drop i = A.take (i + 1) ++ B.drop (i + 1) := by
 have hi := (List.getElem?_eq_some_iff.mp hx).1
 have h1 : (A.take i).length = i := by rw [List.length_take]; omega
 rw [List.take_add_one, hx]
 have : B.drop i = x :: B.drop (i + 1) := by
  rw [List.drop_eq_getElem_cons (show i < B.length by omega)]
  rw [List.getElem?_eq_getElem (by omega)] at hb
  cases hb
  rfl
 rw [this]
 simp only [List.append_assoc, Option.toList_some, List.singleton_append]
theorem mix_len {α : Type} {A B : List α} (i : Nat) (hA : A.length = B.length) : (A.take i ++ B.drop i).length = B.length := by
 rw [List.length_append, List.length_take, List.length_drop]; omega
end My.Q
set_option linter.all false
set_option maxRecDepth 100000
namespace My.Q
open PySem PySem.Spec L2 Dv
def S__law_may : SpD := fun ds q => ∃ (s : Th.Sheet) (ms : List Int), ds = [Th.sheetD s, .tuple (ms.map .int)] ∧ Th.SheetOk s ∧ ms.length = s.spots.length ∧ q (.own (mayD s ms)) [none, none]
def barF (ms : List Int) (k : Int) : PyData → Option PyData
 | .tuple [.int i, .tuple [_, .tuple hs, _]] => if (hs.any fun x => PyData.eqv x (.int k)) && (ms.getD i.toNat 0 == 0) then some (.int i) else none
 | _ => none
theorem enum_at {xs : List PyData} {i : Nat} {x : PyData} (h : xs[i]? = some x) : (enumD xs)[i]? = some (.tuple [.int (i : Nat), x]) := by
 have hl := (List.getElem?_eq_some_iff.mp h).1
 obtain ⟨d, e⟩ : ∃ d, (enumD xs)[i]? = some d := ⟨_, List.getElem?_eq_getElem (by rw [enum_len]; exact hl)⟩
 obtain ⟨y, hy, e2⟩ := enum_get e
 rw [h] at hy
 cases hy
 rw [e, e2]
theorem ints_of : ∀ {L : List PyData}, (∀ y ∈ L, ∃ n : Int, y = .int n) → ∃ ns : List Int, L = ns.map .int
 | [], _ => ⟨[], rfl⟩
 | y :: L, h => by
  obtain ⟨n, rfl⟩ := h y List.mem_cons_self
  obtain ⟨ns, rfl⟩ := ints_of (L := L) fun z hz => h z (List.mem_cons_of_mem _ hz)
  exact ⟨n :: ns, rfl⟩
theorem barF_int {ms : List Int} {k : Int} {d y : PyData} (h : barF ms k d = some y) : ∃ n : Int, y = .int n := by
 unfold barF at h
 split at h
 ·split at h
  ·exact ⟨_, (Option.some.inj h).symm⟩
  ·cases h
 ·cases h
theorem filterMap_nil {α β : Type} {f : α → Option β} {l : List α} : l.filterMap f = [] ↔ ∀ x ∈ l, f x = none := by
 induction l with
 | nil => simp
 | cons a l ih =>
  rw [List.filterMap_cons]
  cases h : f a with
  | none =>
   rw [ih]
   constructor
   ·intro z x hx
    rcases List.mem_cons.mp hx with rfl | hx
    ·exact h
    ·exact z x hx
   ·intro z x hx
    exact z x (List.mem_cons_of_mem _ hx)
  | some b =>
   constructor
   ·intro z; cases z
   ·intro z
    have := z a List.mem_cons_self
    rw [h] at this; cases this
theorem bar_nil {s : Th.Sheet} {ms : List Int} {k : Int} (hl : ms.length = s.spots.length) : (enumD (s.spots.map Th.spotD)).filterMap (barF ms k) = [] ↔ Th.bars s ms k = false := by
 rw [filterMap_nil]
 unfold Th.bars
 rw [List.any_eq_false]
 constructor
 ·rintro h ⟨x, m⟩ hp
  obtain ⟨i, hi⟩ := List.mem_iff_getElem?.mp hp
  rw [List.getElem?_zip_eq_some] at hi
  have e : (enumD (s.spots.map Th.spotD))[i]? = some (.tuple [.int (i : Nat), Th.spotD x]) := enum_at (by rw [List.getElem?_map, hi.1]; rfl)
  have := h _ (List.mem_of_getElem? e)
  have e2 : barF ms k (.tuple [.int (i : Nat), Th.spotD x]) = if (x.2.1.contains k) && (ms.getD i 0 == 0) then some (.int (i : Nat)) else none := by
   show (if ((x.2.1.map PyData.int).any fun x => PyData.eqv x (.int k)) && (ms.getD ((i : Nat) : Int).toNat 0 == 0) then some (PyData.int (i : Nat)) else none) = _
   rw [any_int, Int.toNat_natCast]
  rw [e2, List.getD_eq_getElem?_getD, hi.2] at this
  simp only [Option.getD_some] at this
  intro c
  rw [Bool.and_eq_true] at c
  rw [if_pos (by rw [Bool.and_eq_true]; exact ⟨c.2, c.1⟩)] at this
  cases this
 ·intro h d hd
  obtain ⟨i, hi⟩ := List.mem_iff_getElem?.mp hd
  obtain ⟨y, hy, rfl⟩ := enum_get hi
  rw [List.getElem?_map] at hy
  cases ex : s.spots[i]? with
  | none => rw [ex] at hy; cases hy
  | some x =>
   rw [ex] at hy
   cases hy
   have hil := (List.getElem?_eq_some_iff.mp ex).1
   have em : ms[i]? = some ms[i] := List.getElem?_eq_getElem (by omega)
   have := h (x, ms[i]) (List.mem_iff_getElem?.mpr ⟨i, by rw [List.getElem?_zip_eq_some]; exact ⟨ex, em⟩⟩)
   show (if ((x.2.1.map PyData.int).any fun x => PyData.eqv x (.int k)) && (ms.getD ((i : Nat) : Int).toNat 0 == 0) then some (PyData.int (i : Nat)) else none) = _
   rw [any_int, Int.toNat_natCast, List.getD_eq_getElem?_getD, em]
   simp only [Option.getD_some]
   rw [if_neg]
   intro c
   rw [Bool.and_eq_true] at c
   exact this (by rw [c.1, c.2]; rfl)
theorem mays_snoc {s : Th.Sheet} {ms : List Int} {i : Nat} : ((List.range (i + 1)).map fun j : Nat => (j : Int)).filter (fun k => !Th.bars s ms k) = ((List.range i).map fun j : Nat => (j : Int)).filter (fun k => !Th.bars s ms k) ++ (if Th.bars s ms (i : Nat) then [] else [((i : Nat) : Int)]) := by
 rw [List.range_succ, List.map_append, List.filter_append]
 congr 1
 show [((i : Nat) : Int)].filter _ = _
 cases hb : Th.bars s ms ((i : Nat) : Int) <;> simp [List.filter, hb]
theorem p__law_may (ds : List PyData) (q : SV → Outs → Prop) (h : S__law_may ds q) (hl : ds.length = P__law_may.length) : g__law_may (endsOf P__law_may q) (startE N__law_may.length P__law_may ds) := by
 obtain ⟨s, ms, rfl, hs, hms, h⟩ := h
 have hsl := hs.sl
 have htl := hs.tl
 have tll : (s.turns.map Th.turnD).length = s.turns.length := List.length_map ..
 refine ⟨tle, ?_⟩
 refine ⟨by show (((s.turns.map Th.turnD).length : Nat) : Int) < 2 ^ 62; omega, by show -(2 ^ 62) ≤ (((s.turns.map Th.turnD).length : Nat) : Int); omega, ?_⟩
 refine loop_ix (fun i ρ => ∃ (s3 : Option SV), ρ = [some (.frz (Th.sheetD s)), some (.frz (.tuple (ms.map .int))), some (.own (.list ((((List.range i).map fun j : Nat => (j : Int)).filter fun k => !Th.bars s ms k).map .int))), s3, none, none]) (fun i d ρ nx hd hI hnx => ?_) ⟨none, rfl⟩ (fun ρ hI => ?_)
 ·obtain ⟨s3, rfl⟩ := hI
  obtain ⟨hi, rfl⟩ := range_at hd
  have hi : i < s.turns.length := by rw [← tll]; simpa using hi
  have fl : ((((List.range i).map fun j : Nat => (j : Int)).filter fun k => !Th.bars s ms k)).length ≤ i := Nat.le_trans (List.length_filter_le _ _) (by simp)
  refine lc_filterMap (barF ms (i : Nat)) (fun d hd yes no hy hno => ?_) ?_ ?_
  ·obtain ⟨j, hj⟩ := List.mem_iff_getElem?.mp hd
   obtain ⟨y, hy2, rfl⟩ := enum_get hj
   rw [List.getElem?_map] at hy2
   cases ex : s.spots[j]? with
   | none => rw [ex] at hy2; cases hy2
   | some x =>
    rw [ex] at hy2
    cases hy2
    have hjl := (List.getElem?_eq_some_iff.mp ex).1
    have em : ms[j]? = some ms[j] := List.getElem?_eq_getElem (by omega)
    have e2 : barF ms (i : Nat) (.tuple [.int (j : Nat), Th.spotD x]) = if (x.2.1.contains ((i : Nat) : Int)) && (ms[j] == 0) then some (.int (j : Nat)) else none := by
     show (if ((x.2.1.map PyData.int).any fun x => PyData.eqv x (.int (i : Nat))) && (ms.getD ((j : Nat) : Int).toNat 0 == 0) then some (PyData.int (j : Nat)) else none) = _
     rw [any_int, Int.toNat_natCast, List.getD_eq_getElem?_getD, em]
     rfl
    rw [e2] at hy hno
    refine ⟨rfl, rfl, flat_int _, by2_i (fun e => ?_) (fun e => ?_)⟩
    ·have e : ((x.2.1.map PyData.int).any fun x => PyData.eqv x (.int (i : Nat))) = true := e
     rw [any_int] at e
     refine ixL (show atI (ms.map PyData.int) ((j : Nat) : Int) = some (.int ms[j]) from atI_nat (by rw [List.getElem?_map, em]; rfl)) ?_
     refine ⟨shp_int _, shp_int _, ?_⟩
     show by2 (PyData.eqv (.int ms[j]) (.int 0)) _ _
     rw [Th.eqv_int]
     refine by2_d (fun c => ?_) (fun c => ?_)
     ·exact hy _ (by rw [e, c]; rfl)
     ·exact hno (by rw [if_neg]; intro z; rw [Bool.and_eq_true] at z; exact c (by simpa using z.2))
    ·have e : ((x.2.1.map PyData.int).any fun x => PyData.eqv x (.int (i : Nat))) = false := e
     rw [any_int] at e
     exact hno (by rw [e]; rfl)
  ·rw [enum_len, List.length_map]
   exact Nat.le_trans (show 0 + s.spots.length ≤ 60 by omega) tle
  rw [List.nil_append]
  have hints : ∃ ns : List Int, (enumD (s.spots.map Th.spotD)).filterMap (barF ms (i : Nat)) = ns.map .int := ints_of fun y hy => by
    obtain ⟨d, _, e⟩ := List.mem_filterMap.mp hy
    exact barF_int e
  obtain ⟨ns, en⟩ := hints
  have bn := bar_nil (k := ((i : Nat) : Int)) hms
  rw [en] at bn ⊢
  refine ⟨tle, shp_ints ns, rfl, ?_⟩
  show by2 (PyData.eqv (.list (ns.map .int)) (.list [])) _ _
  have e3 : PyData.eqv (.list (ns.map .int)) (.list []) = !Th.bars s ms (i : Nat) := by
   cases hb : Th.bars s ms (i : Nat) with
   | false =>
    have := bn.mpr hb
    rw [this]; rfl
   | true =>
    cases ns with
    | nil => have := bn.mp rfl; rw [hb] at this; cases this
    | cons a ns => rfl
  rw [e3]
  have hn := mays_snoc (s := s) (ms := ms) (i := i)
  refine by2_i (fun c => ?_) (fun c => ?_)
  ·rw [Bool.not_eq_true'] at c
   rw [c] at hn
   refine ⟨rfl, by rw [List.length_map]; exact Nat.lt_of_lt_of_le (show _ < 61 by omega) tle, ?_⟩
   refine hnx _ ⟨some (.frz (.int (i : Nat))), ?_⟩
   rw [hn, List.map_append]
   rfl
  ·rw [Bool.not_eq_false'] at c
   rw [c] at hn
   refine hnx _ ⟨some (.frz (.int (i : Nat))), ?_⟩
   rw [hn, if_pos rfl, List.append_nil]
   rfl
 ·obtain ⟨s3, rfl⟩ := hI
  have rl : (rangeD 0 (((s.turns.map Th.turnD).length : Nat) : Int).toNat).length = s.turns.length := by rw [range_len, Int.toNat_natCast, tll]
  rw [rl]
  exact ⟨by decide, h⟩
end My.Q
set_option linter.all false
set_option maxRecDepth 100000
namespace My.Q
open PySem PySem.Spec L2 Dv
def wfst : PyData → PyData
 | .tuple (x :: _) => x
 | d => d
def wnames (s : Th.Sheet) : List Str := s.wires.map (·.1)
theorem fst_strs (s : Th.Sheet) : (s.wires.map Th.wireD).map wfst = (wnames s).map PyData.str := by unfold wnames; rw [List.map_map, List.map_map]; rfl
theorem find_ix {z : Str} : ∀ {ws : List Str}, z ∈ ws → (ws.map PyData.str).findIdx? (fun d => PyData.eqv d (.str z)) = some (ws.idxOf z)
 | [], h => by simp at h
 | w :: ws, h => by
  rw [List.map_cons, List.findIdx?_cons, Th.eqv_str, List.idxOf_cons]
  by_cases e : w = z
  ·subst e; simp
  ·have e2 : (w == z) = false := by simpa using e
   rw [decide_eq_false e, e2]
   rcases List.mem_cons.mp h with h | h
   ·exact absurd h.symm e
   ·rw [if_neg (by decide), find_ix h]
    rfl
theorem bvals_set : ∀ {wl : List Th.Wire} {vs : List Int} {z : Str} {v : Int}, (wl.map (·.1)).Nodup → z ∈ wl.map (·.1) → vs.length = wl.length → List.zipWith (Th.bval z v) wl vs = vs.set ((wl.map (·.1)).idxOf z) v
 | [], _, _, _, _, h, _ => by simp at h
 | w :: wl, [], _, _, _, _, h => by simp at h
 | w :: wl, x :: vs, z, v, nd, hz, hl => by
  rw [List.map_cons, List.nodup_cons] at nd
  rw [List.zipWith_cons_cons, List.map_cons, List.idxOf_cons]
  unfold Th.bval
  rw [Th.eqv_str]
  by_cases e : w.1 = z
  ·subst e
   have e2 : (w.1 == w.1) = true := by simp
   rw [decide_eq_true rfl, if_pos rfl, e2]
   show v :: List.zipWith (Th.bval w.1 v) wl vs = v :: vs
   congr 1
   have : ∀ (wl : List Th.Wire) (vs : List Int), w.1 ∉ wl.map (·.1) → vs.length = wl.length → List.zipWith (Th.bval w.1 v) wl vs = vs := fun wl => by
    induction wl with
    | nil => intro vs _ h; cases vs with
     | nil => rfl
     | cons _ _ => simp at h
    | cons a wl ih =>
     intro vs hn h
     cases vs with
     | nil => simp at h
     | cons b vs =>
      rw [List.map_cons, List.mem_cons, not_or] at hn
      rw [List.zipWith_cons_cons, ih vs hn.2 (by simpa using h)]
      unfold Th.bval
      rw [Th.eqv_str, decide_eq_false fun e => hn.1 e.symm, if_neg (by decide)]
   exact this wl vs nd.1 (by simpa using hl)
  ·have e2 : (w.1 == z) = false := by simpa using e
   rw [decide_eq_false e, if_neg (by decide), e2]
   show x :: List.zipWith (Th.bval z v) wl vs = (x :: vs).set ((wl.map (·.1)).idxOf z + 1) v
   rw [List.set_cons_succ]
   congr 1
   rw [List.map_cons] at hz
   rcases List.mem_cons.mp hz with h | h
   ·exact absurd h.symm e
   ·exact bvals_set nd.2 h (by simpa using hl)
theorem shp_strl {l : List Str} (h : ∀ z ∈ l, Tx 8 z) : shp (.list (l.map PyData.str)) := (Shp.list (n := 0) fun d hd => by
 obtain ⟨z, hz, rfl⟩ := List.mem_map.mp hd
 exact Shp.str (h z hz)).shp
def S__law_first : SpD := fun ds q => ∃ s : Th.Sheet, ds = [Th.sheetD s] ∧ Th.SheetOk s ∧ q (.frz (Th.stD (Th.firstS s))) [none]
theorem p__law_first (ds : List PyData) (q : SV → Outs → Prop) (h : S__law_first ds q) (hl : ds.length = P__law_first.length) : g__law_first (endsOf P__law_first q) (startE N__law_first.length P__law_first ds) := by
 obtain ⟨s, rfl, hs, h⟩ := h
 have hsl := hs.sl
 have hwl := hs.wl
 have e1 : (s.spots.map Th.spotD).map third = (s.spots.map (·.2.2)).map PyData.int := by rw [List.map_map, List.map_map]; rfl
 have e2 : (s.wires.map Th.wireD).map third = (s.wires.map (·.2.2)).map PyData.int := by rw [List.map_map, List.map_map]; rfl
 refine lc_map third (fun d hd yes no hy => ?_) (by rw [List.length_map]; exact Nat.le_trans (show _ ≤ 60 by omega) tle) ?_
 ·obtain ⟨x, _, rfl⟩ := List.mem_map.mp hd
  exact hy
 rw [e1]
 refine lc_map third (fun d hd yes no hy => ?_) (by rw [List.length_map]; exact Nat.le_trans (show _ ≤ 60 by omega) tle) ?_
 ·obtain ⟨x, _, rfl⟩ := List.mem_map.mp hd
  exact hy
 rw [e2]
 exact ⟨tle, h⟩
def S__law_behind : SpD := fun ds q => ∃ (s : Th.Sheet) (x : Th.Stand) (k : Int), ds = [Th.sheetD s, Th.stD x, .int k] ∧ Th.SheetOk s ∧ Th.StOk s x ∧ 0 ≤ k ∧ k < s.turns.length ∧ q (.frz (Th.stD (Th.nextS s x k))) [none, none, none]
theorem p__law_behind (ds : List PyData) (q : SV → Outs → Prop) (h : S__law_behind ds q) (hl : ds.length = P__law_behind.length) : g__law_behind (endsOf P__law_behind q) (startE N__law_behind.length P__law_behind ds) := by
 obtain ⟨s, x, k, rfl, hs, sok, hk0, hk1, h⟩ := h
 have hms := sok.m
 have hvs := sok.v
 have hbl : (Th.bmarks s x.1 k).length = x.1.length := by unfold Th.bmarks; rw [List.length_zipWith]; omega
 refine loop_ix (fun i ρ => ∃ (s4 s5 s6 s7 : Option SV), ρ = [some (.frz (Th.sheetD s)), some (.frz (Th.stD x)), some (.frz (.int k)), some (.own (.list (((Th.bmarks s x.1 k).take i ++ x.1.drop i).map .int))), s4, s5, s6, s7, none, none, none, none]) (fun i d ρ nx hd hI hnx => ?_) ⟨none, none, none, none, rfl⟩ (fun ρ hI => ?_)
 ·obtain ⟨s4, s5, s6, s7, rfl⟩ := hI
  obtain ⟨y, hy, rfl⟩ := enum_get hd
  rw [List.getElem?_map] at hy
  cases ex : s.spots[i]? with
  | none => rw [ex] at hy; cases hy
  | some x0 =>
   rw [ex] at hy
   cases hy
   have hi := (List.getElem?_eq_some_iff.mp ex).1
   have em : x.1[i]? = some x.1[i] := List.getElem?_eq_getElem (by omega)
   have eb : (Th.bmarks s x.1 k)[i]? = some (Th.bmark k x0 x.1[i]) := by unfold Th.bmarks; rw [List.getElem?_zipWith, ex, em]
   have hml := mix_len i hbl
   refine ⟨rfl, rfl, rfl, flat_int _, by2_i (fun e => ?_) (fun e => ?_)⟩
   ·have e : ((x0.2.1.map PyData.int).any fun x => PyData.eqv x (.int k)) = true := e
    rw [any_int] at e
    refine putL (by rw [List.length_map]; omega) ?_
    refine ⟨rfl, flat_int _, by2_i (fun e2 => ?_) (fun e2 => ?_)⟩
    ·have e2 : ((x0.1.map PyData.int).any fun x => PyData.eqv x (.int k)) = true := e2
     rw [any_int] at e2
     refine putL (by rw [List.length_set, List.length_map]; omega) ?_
     have e4 : (((((Th.bmarks s x.1 k).take i ++ x.1.drop i).map PyData.int).set i (.int 0)).set i (.int 1)) = ((Th.bmarks s x.1 k).take (i + 1) ++ x.1.drop (i + 1)).map PyData.int := by
      rw [List.set_set, ← List.map_set, show (1 : Int) = Th.bmark k x0 x.1[i] by unfold Th.bmark; rw [if_pos e2], set_step hbl eb]
     show nx [_, _, _, some (.own (.list (((((Th.bmarks s x.1 k).take i ++ x.1.drop i).map PyData.int).set i (.int 0)).set i (.int 1)))), _, _, _, _, _, _, _, _]
     rw [e4]
     exact hnx _ ⟨_, _, _, _, rfl⟩
    ·have e2 : ((x0.1.map PyData.int).any fun x => PyData.eqv x (.int k)) = false := e2
     rw [any_int] at e2
     rw [← List.map_set, show (0 : Int) = Th.bmark k x0 x.1[i] by unfold Th.bmark; rw [if_neg (by rw [e2]; decide), if_pos e], set_step hbl eb]
     exact hnx _ ⟨_, _, _, _, rfl⟩
   ·have e : ((x0.2.1.map PyData.int).any fun x => PyData.eqv x (.int k)) = false := e
    rw [any_int] at e
    refine ⟨rfl, flat_int _, by2_i (fun e2 => ?_) (fun e2 => ?_)⟩
    ·have e2 : ((x0.1.map PyData.int).any fun x => PyData.eqv x (.int k)) = true := e2
     rw [any_int] at e2
     refine putL (by rw [List.length_map]; omega) ?_
     rw [← List.map_set, show (1 : Int) = Th.bmark k x0 x.1[i] by unfold Th.bmark; rw [if_pos e2], set_step hbl eb]
     exact hnx _ ⟨_, _, _, _, rfl⟩
    ·have e2 : ((x0.1.map PyData.int).any fun x => PyData.eqv x (.int k)) = false := e2
     rw [any_int] at e2
     have eq : Th.bmark k x0 x.1[i] = x.1[i] := by unfold Th.bmark; rw [if_neg (by rw [e2]; decide), if_neg (by rw [e]; decide)]
     rw [eq] at eb
     rw [← keep_step hbl eb em] at hnx
     exact hnx _ ⟨_, _, _, _, rfl⟩
 ·obtain ⟨s4, s5, s6, s7, rfl⟩ := hI
  rw [enum_len, List.length_map, ← hms, ← hbl, List.take_length, hbl, List.drop_length, List.append_nil]
  have et := (Th.turn_at hk0 hk1).1
  have htm := hs.ttx _ (Th.turn_at hk0 hk1).2
  refine ixL et ?_
  refine ⟨rfl, ?_⟩
  have hwl := hs.wl
  have hts : ∀ z ∈ wnames s, Tx 8 z := fun z hz => by
   obtain ⟨w, hw, rfl⟩ := List.mem_map.mp hz
   exact (hs.wtx w hw).1
  refine lc_map wfst (fun d hd yes no hy => ?_) (by rw [List.length_map]; exact Nat.le_trans (show _ ≤ 60 by omega) tle) ?_
  ·obtain ⟨x, _, rfl⟩ := List.mem_map.mp hd
   exact hy
  rw [fst_strs]
  refine ⟨rfl, shp_strl hts, (Shp.str (hts _ htm.1)).shp, ?_⟩
  show (match ((wnames s).map PyData.str).findIdx? (fun d => PyData.eqv d (.str (Th.turnAt s k).1)) with | some j => _ | none => False)
  rw [find_ix (ws := wnames s) htm.1]
  have nl : (wnames s).length = s.wires.length := List.length_map ..
  have hix : (wnames s).idxOf (Th.turnAt s k).1 < x.2.length := by
   rw [hvs, ← nl]
   exact List.idxOf_lt_length_of_mem htm.1
  refine putL (by rw [List.length_map]; exact hix) ?_
  have e3 : (x.2.map PyData.int).set ((wnames s).idxOf (Th.turnAt s k).1) (.int (Th.turnAt s k).2) = (Th.bvals s (Th.turnAt s k) x.2).map PyData.int := by
   rw [← List.map_set]
   congr 1
   exact (bvals_set hs.wnd htm.1 hvs).symm
  rw [e3]
  exact ⟨tle, h⟩
end My.Q
set_option linter.all false
set_option maxRecDepth 100000
namespace My.Q
open PySem PySem.Spec L2 Dv
def S__law_begun : SpD := fun ds q => ∃ (pen : PyData) (m : Nat) (s : Th.Sheet), ds = [pen, Th.sheetD s] ∧ PenOk m pen ∧ m + 100 < 10000000 ∧ Th.SheetOk s ∧ Th.Live s ∧ ∀ (x : Th.Stand) pen', Th.Come s x → PenOk (m + 30) pen' → q (.frz (Th.sheetD (Th.begunS s x))) [some pen', none]
theorem mays_len24 {s : Th.Sheet} {ms : List Int} (hs : Th.SheetOk s) : (Th.mays s ms).length ≤ 24 := by
 unfold Th.mays
 refine Nat.le_trans (List.length_filter_le _ _) ?_
 rw [List.length_map, List.length_range]
 exact hs.tl
def cutF : PyData → PyData
 | .tuple [.tuple (a :: b :: _), v] => .tuple [a, b, v]
 | d => d
theorem zip_gen {α β : Type} (f : α → PyData) (g : β → PyData) : ∀ (l : List α) (m : List β), zipD (l.map f) (m.map g) = (l.zip m).map fun p => PyData.tuple [f p.1, g p.2] := fun l m => by
 unfold zipD
 induction l generalizing m with
 | nil => rfl
 | cons x l ih =>
  cases m with
  | nil => rfl
  | cons y m => simpa using ih m
theorem cut_wires (l : List Th.Wire) (m : List Int) : (zipD (l.map Th.wireD) (m.map PyData.int)).map cutF = (List.zipWith Th.begunW l m).map Th.wireD := by
 rw [zip_gen, List.map_map]
 induction l generalizing m with
 | nil => rfl
 | cons a l ih =>
  cases m with
  | nil => rfl
  | cons b m => rw [List.zip_cons_cons, List.zipWith_cons_cons, List.map_cons, List.map_cons, ih]; rfl
theorem cut_spots (l : List Th.Spot) (m : List Int) : (zipD (l.map Th.spotD) (m.map PyData.int)).map cutF = (List.zipWith Th.begunP l m).map Th.spotD := by
 rw [zip_gen, List.map_map]
 induction l generalizing m with
 | nil => rfl
 | cons a l ih =>
  cases m with
  | nil => rfl
  | cons b m => rw [List.zip_cons_cons, List.zipWith_cons_cons, List.map_cons, List.map_cons, ih]; rfl
section
variable {pen : PyData} {m : Nat} {s : Th.Sheet} {x : Th.Stand}
theorem begun_L5 {q : SV → Outs → Prop} {s3 s6 : Option SV} {SF SD SM SB : SpD} (hs : Th.SheetOk s) (sok : Th.StOk s x)
  (h : q (.frz (Th.sheetD (Th.begunS s x))) [some pen, none]) :
  g__law_begun_L5 SF SD SM SB (endsOf P__law_begun q) [some (.own pen), some (.frz (Th.sheetD s)), some (.frz (Th.stD x)), s3, none, none, s6, none, none, none, none] := by
 have hwl := hs.wl
 have hsl := hs.sl
 have hvs := sok.v
 have hms := sok.m
 refine lc_map cutF (ds := zipD (s.wires.map Th.wireD) (x.2.map .int)) (fun d hd yes no hy => ?_) (by rw [zip_gen, List.length_map, List.length_zip]; exact Nat.le_trans (show _ ≤ 60 by omega) tle) ?_
 ·rw [zip_gen] at hd
  obtain ⟨p, _, rfl⟩ := List.mem_map.mp hd
  exact ⟨rfl, tle, tle, hy⟩
 rw [cut_wires]
 refine lc_map cutF (ds := zipD (s.spots.map Th.spotD) (x.1.map .int)) (fun d hd yes no hy => ?_) (by rw [zip_gen, List.length_map, List.length_zip]; exact Nat.le_trans (show _ ≤ 60 by omega) tle) ?_
 ·rw [zip_gen] at hd
  obtain ⟨p, _, rfl⟩ := List.mem_map.mp hd
  exact ⟨rfl, tle, tle, hy⟩
 rw [cut_spots]
 exact ⟨tle, h⟩
theorem begun_L3 {E : DEnds} {s3 s6 : Option SV} (hp : PenOk m pen) (hm : m + 10 < 10000000) (hs : Th.SheetOk s) (hl : Th.Live s) (hx : Th.Come s x)
  (h : ∀ (pen' : PyData) (y : Th.Stand) (s6 : Option SV), PenOk (m + 1) pen' → Th.Come s y → E.nx [some (.own pen'), some (.frz (Th.sheetD s)), some (.frz (Th.stD y)), s3, none, none, s6, none, none, none, none]) :
  g__law_begun_L3 S__law_first S__law_draw S__law_may S__law_behind E [some (.own pen), some (.frz (Th.sheetD s)), some (.frz (Th.stD x)), s3, none, none, s6, none, none, none, none] := by
 have sok := hx.ok hs
 refine ⟨trivial, List.nodup_nil, s, x.1, rfl, hs, sok.m, ?_⟩
 have h24 := mays_len24 (ms := x.1) hs
 have h0 : 0 < (Th.mays s x.1).length := List.length_pos_iff.mpr (hl x hx)
 refine ⟨⟨trivial, trivial⟩, by simp [selSlots], pen, (((Th.mays s x.1).map PyData.int).length : Nat), _, rfl, hp, by omega, by rw [List.length_map]; omega, by rw [List.length_map]; omega, fun r pen2 h20 h21 hp2 => ?_⟩
 rw [List.length_map] at h21
 obtain ⟨k, e1, e2⟩ := at_map (f := PyData.int) h20 h21
 refine ixL e1 ?_
 have hk := List.mem_of_getElem? e2
 obtain ⟨k0, k1⟩ := Th.mays_nums s _ k hk
 refine ⟨trivial, List.nodup_nil, s, x, k, rfl, hs, sok, k0, k1, ?_⟩
 exact h pen2 _ _ hp2 (.next hx hk)
end
theorem p__law_begun (ds : List PyData) (q : SV → Outs → Prop) (h : S__law_begun ds q) (hl : ds.length = P__law_begun.length) : g__law_begun S__law_first S__law_draw S__law_may S__law_behind (endsOf P__law_begun q) (startE N__law_begun.length P__law_begun ds) := by
 obtain ⟨pen, m, s, rfl, hp, hm, hs, hv, h⟩ := h
 have htl := hs.tl
 have tll : (s.turns.map Th.turnD).length = s.turns.length := List.length_map ..
 refine ⟨trivial, List.nodup_nil, s, rfl, hs, ?_⟩
 refine ⟨⟨trivial, trivial⟩, by simp [selSlots], pen, 2, _, rfl, hp, by omega, by omega, by omega, fun r1 pen1 r10 r11 hp1 => ?_⟩
 refine ⟨⟨trivial, trivial⟩, by simp [selSlots], pen1, ((s.turns.map Th.turnD).length : Nat) + 1, _, rfl, hp1, by omega, by rw [tll]; omega, by rw [tll]; omega, fun r2 pen2 r20 r21 hp2 => ?_⟩
 rw [tll] at r21
 have hr : 0 ≤ r1 * r2 ∧ r1 * r2 ≤ 24 := by
  have : r1 = 0 ∨ r1 = 1 := by omega
  rcases this with rfl | rfl
  ·rw [Int.zero_mul]; omega
  ·rw [Int.one_mul]; omega
 refine ⟨.inl ⟨by omega, by omega⟩, ?_⟩
 generalize r1 * r2 = n at hr
 refine ⟨by omega, by omega, ?_⟩
 refine loop_ix (fun i ρ => ∃ (pen : PyData) (x : Th.Stand) (s3 s6 : Option SV), PenOk (m + 2 + i) pen ∧ Th.Come s x ∧ ρ = [some (.own pen), some (.frz (Th.sheetD s)), some (.frz (Th.stD x)), s3, none, none, s6, none, none, none, none]) (fun i d ρ nx hd hI hnx => ?_) ⟨pen2, Th.firstS s, none, none, hp2, .first, rfl⟩ (fun ρ hI => ?_)
 ·obtain ⟨pen, x, s3, s6, hp, hx, rfl⟩ := hI
  obtain ⟨hi, rfl⟩ := range_at hd
  exact begun_L3 hp (by omega) hs hv hx fun pen' y s6' h1 h2 => hnx _ ⟨pen', y, _, s6', h1, h2, rfl⟩
 ·obtain ⟨pen, x, s3, s6, hp, hx, rfl⟩ := hI
  rw [range_len] at hp
  exact begun_L5 (SF := S__law_first) (SD := S__law_draw) (SM := S__law_may) (SB := S__law_behind) hs (hx.ok hs) (h x pen hx (hp.mono (by omega)))
end My.Q
set_option linter.all false
set_option maxRecDepth 100000
namespace My.Q
open PySem PySem.Spec L2 Dv
def spD1 (x : Th.Spot1) : PyData := Th.spotD (Th.enc1 x)
def wireAt (w : W1) (j : Nat) : Nat := leftAt (wireOf w) j
def ownW (w : W1) (k : Nat) : List Nat := (List.range w.length).filter fun j => decide (wireAt w j = k)
def othW (w : W1) (k : Nat) : List Nat := (List.range w.length).filter fun j => decide (wireAt w j < k)
def chainW (own : List Nat) : List Th.Spot1 := (List.range (own.length - 1)).map (fun i => (own.getD i 0, own.getD (i + 1) 0, (0 : Int))) ++ [(own.getD (own.length - 1) 0, own.getD 0 0, (1 : Int))]
def chainsW (w : W1) (n : Nat) : List Th.Spot1 := (List.range n).flatMap fun k => chainW (ownW w k)
def prD (p : Nat × Nat) : PyData := .tuple [nD p.1, nD p.2]
def pair2 (p : Nat × Nat) : List Th.Spot1 := [(min p.1 p.2, max p.1 p.2, (0 : Int)), (max p.1 p.2, min p.1 p.2, (1 : Int))]
def fP (p : Nat → Bool) : PyData → Option PyData
 | .int j => if p j.toNat then some (.int j) else none
 | _ => none
theorem range_fP (p : Nat → Bool) (n : Nat) : (rangeD 0 ((n : Nat) : Int).toNat).filterMap (fP p) = ((List.range n).filter p).map nD := by
 unfold rangeD
 rw [Int.toNat_natCast, List.filterMap_map]
 have : ∀ l : List Nat, l.filterMap (fP p ∘ fun i => PyData.int (0 + ((i : Nat) : Int))) = (l.filter p).map nD := fun l => by
  induction l with
  | nil => rfl
  | cons a l ih =>
   rw [List.filterMap_cons, List.filter_cons, ih]
   have ef : (fP p ∘ fun i : Nat => PyData.int (0 + ((i : Nat) : Int))) a = if p a then some (nD a) else none := by
    show (if p (0 + ((a : Nat) : Int)).toNat then some (PyData.int (0 + ((a : Nat) : Int))) else none) = _
    rw [show (0 + ((a : Nat) : Int)) = ((a : Nat) : Int) by omega, Int.toNat_natCast]
    rfl
   rw [ef]
   cases p a <;> rfl
 exact this _
theorem word_at {w : W1} {j : Nat} (h : j < w.length) : ∃ p, w[j]? = some p ∧ atI (w.map t2D) ((j : Nat) : Int) = some (t2D p) ∧ wireAt w j = p.1 := by
 have e : w[j]? = some w[j] := List.getElem?_eq_getElem h
 refine ⟨w[j], e, atI_nat (by rw [List.getElem?_map, e]; rfl), ?_⟩
 unfold wireAt leftAt wireOf
 rw [List.getElem?_map, e]
 rfl
theorem own_mem {w : W1} {k j : Nat} : j ∈ ownW w k ↔ j < w.length ∧ wireAt w j = k := by unfold ownW; rw [List.mem_filter, List.mem_range, decide_eq_true_iff]
theorem oth_mem {w : W1} {k j : Nat} : j ∈ othW w k ↔ j < w.length ∧ wireAt w j < k := by unfold othW; rw [List.mem_filter, List.mem_range, decide_eq_true_iff]
theorem own_len (w : W1) (k : Nat) : (ownW w k).length ≤ w.length := by unfold ownW; exact Nat.le_trans (List.length_filter_le _ _) (by rw [List.length_range]; exact Nat.le_refl _)
theorem oth_len (w : W1) (k : Nat) : (othW w k).length ≤ w.length := by unfold othW; exact Nat.le_trans (List.length_filter_le _ _) (by rw [List.length_range]; exact Nat.le_refl _)
section
variable {E : DEnds} {pen : PyData} {m n most i : Nat} {w : W1} {sp : List Th.Spot1} {prs : List (Nat × Nat)} {s7 s8 s9 s10 s11 : Option SV} {SD : SpD}
abbrev RJ (pen : PyData) (w : W1) (most : Nat) (sp : List Th.Spot1) (prs : List (Nat × Nat)) (s5 s6 s7 s8 s9 s10 s11 : Option SV) : DEnv := [some (.own pen), some (.frz (.list (w.map t2D))), some (.frz (nD most)), some (.own (.list (sp.map spD1))), some (.own (.list (prs.map prD))), s5, s6, s7, s8, s9, s10, s11, none, none]
theorem pairs_L9 (hp : PenOk m pen) (hm : m + 10 < 10000000) (hw : w.length ≤ 30) (ho : ownW w i ≠ []) (hpl : prs.length ≤ 50)
  (h : ∀ (pen' : PyData) (prs' : List (Nat × Nat)), PenOk (m + 2) pen' → (prs' = prs ∧ othW w i = [] ∨ ∃ a b, prs' = prs ++ [(a, b)] ∧ a ∈ ownW w i ∧ b ∈ othW w i) → E.nx (RJ pen' w most sp prs' (some (.frz (nD n))) (some (.frz (nD i))) s7 s8 s9 (some (.frz (natsD (ownW w i)))) (some (.frz (natsD (othW w i)))))) :
  g__law_pairs_joined_L9 S__law_draw E (RJ pen w most sp prs (some (.frz (nD n))) (some (.frz (nD i))) s7 s8 s9 (some (.frz (natsD (ownW w i)))) (some (.frz (natsD (othW w i))))) := by
 have shl : ∀ l : List Nat, shp (natsD l) := fun l => (Shp.list (n := 0) fun d hd => by obtain ⟨i, _, rfl⟩ := List.mem_map.mp hd; exact Shp.int _).shp
 have ol := own_len w i
 have tl := oth_len w i
 have o0 : 0 < (ownW w i).length := List.length_pos_iff.mpr ho
 refine ⟨tle, shl _, rfl, ?_⟩
 show by2 (!PyData.eqv (natsD (othW w i)) (.list [])) _ _
 have ee : PyData.eqv (natsD (othW w i)) (.list []) = decide (othW w i = []) := by cases othW w i <;> rfl
 rw [ee]
 refine by2_nd (fun c => ?_) (fun c => h pen prs (hp.mono (by omega)) (.inl ⟨rfl, c⟩))
 have t0 : 0 < (othW w i).length := List.length_pos_iff.mpr c
 refine ⟨rfl, ⟨trivial, trivial⟩, by simp [selSlots], pen, (((ownW w i).map nD).length : Nat), _, rfl, hp, by omega, by rw [List.length_map]; omega, by rw [List.length_map]; omega, fun r pen1 r0 r1 hp1 => ?_⟩
 rw [List.length_map] at r1
 obtain ⟨a, e1, e2⟩ := at_map (f := nD) r0 r1
 refine ixL e1 ?_
 refine ⟨⟨trivial, trivial⟩, by simp [selSlots], pen1, (((othW w i).map nD).length : Nat), _, rfl, hp1, by omega, by rw [List.length_map]; omega, by rw [List.length_map]; omega, fun r' pen2 r0' r1' hp2 => ?_⟩
 rw [List.length_map] at r1'
 obtain ⟨b, e3, e4⟩ := at_map (f := nD) r0' r1'
 refine ixL e3 ⟨tle, ?_⟩
 refine ⟨by rw [List.length_map]; exact Nat.lt_of_lt_of_le (show _ < 51 by omega) tle, ?_⟩
 have := h pen2 (prs ++ [(a, b)]) hp2 (.inr ⟨a, b, rfl, List.mem_of_getElem? e2, List.mem_of_getElem? e4⟩)
 unfold RJ at this
 rw [List.map_append] at this
 exact this
theorem pairs_L8 (hp : PenOk m pen) (hm : m + 10 < 10000000) (hw : w.length ≤ 30) (ho : ownW w i ≠ []) (hpl : prs.length ≤ 50)
  (h : ∀ (pen' : PyData) (prs' : List (Nat × Nat)) (s11 : Option SV), PenOk (m + 2) pen' → (prs' = prs ∧ othW w i = [] ∨ ∃ a b, prs' = prs ++ [(a, b)] ∧ a ∈ ownW w i ∧ b ∈ othW w i) → E.nx (RJ pen' w most sp prs' (some (.frz (nD n))) (some (.frz (nD i))) s7 s8 s9 (some (.frz (natsD (ownW w i)))) s11)) :
  g__law_pairs_joined_L8 S__law_draw E (RJ pen w most sp prs (some (.frz (nD n))) (some (.frz (nD i))) s7 s8 s9 (some (.frz (natsD (ownW w i)))) s11) := by
 have wl : (w.map t2D).length = w.length := List.length_map ..
 refine ⟨by show (((w.map t2D).length : Nat) : Int) < 2 ^ 62; omega, by show -(2 ^ 62) ≤ (((w.map t2D).length : Nat) : Int); omega, ?_⟩
 refine lc_filterMap (fP fun j => decide (wireAt w j < i)) (fun d hd yes no hy hno => ?_) (by rw [range_len, Int.toNat_natCast, wl]; exact Nat.le_trans (show 0 + w.length ≤ 30 by omega) tle) ?_
 ·obtain ⟨j, hj⟩ := List.mem_iff_getElem?.mp hd
  obtain ⟨hj2, rfl⟩ := range_at hj
  rw [Int.toNat_natCast, wl] at hj2
  obtain ⟨p, e1, e2, e3⟩ := word_at hj2
  refine ixL e2 ?_
  have e4 : fP (fun j => decide (wireAt w j < i)) (.int (j : Nat)) = if wireAt w j < i then some (.int (j : Nat)) else none := by
   show (if decide (wireAt w ((j : Nat) : Int).toNat < i) = true then some (PyData.int (j : Nat)) else none) = _
   rw [Int.toNat_natCast]
   simp
  rw [e4, e3] at hy hno
  show by2 (decide (((p.1 : Nat) : Int) < ((i : Nat) : Int))) _ _
  refine by2_d (fun c => hy _ (by rw [if_pos (by omega)])) (fun c => hno (by rw [if_neg (by omega)]))
 rw [List.nil_append, wl, range_fP]
 exact pairs_L9 hp hm hw ho hpl fun pen' prs' h1 h2 => h pen' prs' _ h1 h2
def fC (own : List Nat) : PyData → PyData
 | .int k => spD1 (own.getD k.toNat 0, own.getD (k.toNat + 1) 0, 0)
 | d => d
theorem getD_some {own : List Nat} {k : Nat} (h : k < own.length) : own[k]? = some (own.getD k 0) := by
 rw [List.getD_eq_getElem?_getD, List.getElem?_eq_getElem h]; rfl
theorem chain_split (own : List Nat) : (chainW own).map spD1 = ((List.range (own.length - 1)).map fun i => (own.getD i 0, own.getD (i + 1) 0, (0 : Int))).map spD1 ++ [spD1 (own.getD (own.length - 1) 0, own.getD 0 0, 1)] := by
 unfold chainW
 rw [List.map_append]
 rfl
theorem chain_len {own : List Nat} (h : own ≠ []) : (chainW own).length = own.length := by
 have := List.length_pos_iff.mpr h
 unfold chainW
 simp
 omega
theorem pairs_L6 (hp : PenOk m pen) (hm : m + 10 < 10000000) (hw : w.length ≤ 30) (ho : ownW w i ≠ []) (hpl : prs.length ≤ 50) (hsl : sp.length ≤ 60) (hs7 : s7 = none ∨ ∃ d, s7 = some (.frz d))
  (h : ∀ (pen' : PyData) (prs' : List (Nat × Nat)) (s7 s11 : Option SV), PenOk (m + 2) pen' → (s7 = none ∨ ∃ d, s7 = some (.frz d)) → (prs' = prs ∧ othW w i = [] ∨ ∃ a b, prs' = prs ++ [(a, b)] ∧ a ∈ ownW w i ∧ b ∈ othW w i) → E.nx (RJ pen' w most (sp ++ chainW (ownW w i)) prs' (some (.frz (nD n))) (some (.frz (nD i))) s7 s8 s9 (some (.frz (natsD (ownW w i)))) s11)) :
  g__law_pairs_joined_L6 S__law_draw E (RJ pen w most sp prs (some (.frz (nD n))) (some (.frz (nD i))) s7 s8 s9 (some (.frz (natsD (ownW w i)))) s11) := by
 have ol := own_len w i
 have o0 : 0 < (ownW w i).length := List.length_pos_iff.mpr ho
 generalize hown : ownW w i = own at *
 have oml : (own.map nD).length = own.length := List.length_map ..
 refine ⟨rfl, trivial, ?_⟩
 have en : (((own.map nD).length : Nat) : Int) - 1 = ((own.length - 1 : Nat) : Int) := by rw [oml]; omega
 show (((own.map nD).length : Nat) : Int) - 1 < 2 ^ 62 ∧ -(2 ^ 62) ≤ (((own.map nD).length : Nat) : Int) - 1 ∧ _
 rw [en]
 refine ⟨by omega, by omega, ?_⟩
 have key : ∀ (s7 : Option SV), (s7 = none ∨ ∃ d, s7 = some (.frz d)) → True := fun _ _ => trivial
 have turn : ∀ d ∈ rangeD 0 (((own.length - 1 : Nat) : Int)).toNat, ∃ k : Nat, d = .int (k : Nat) ∧ k + 1 < own.length ∧ fC own d = .tuple [.tuple [nD (own.getD k 0)], .tuple [nD (own.getD (k + 1) 0)], .int 0] := fun d hd => by
  obtain ⟨k, hk⟩ := List.mem_iff_getElem?.mp hd
  obtain ⟨hk2, rfl⟩ := range_at hk
  rw [Int.toNat_natCast] at hk2
  refine ⟨k, rfl, by omega, ?_⟩
  show spD1 (own.getD ((k : Nat) : Int).toNat 0, own.getD (((k : Nat) : Int).toNat + 1) 0, 0) = _
  rw [Int.toNat_natCast]
  rfl
 have em : (rangeD 0 (((own.length - 1 : Nat) : Int)).toNat).map (fC own) = ((List.range (own.length - 1)).map fun i => (own.getD i 0, own.getD (i + 1) 0, (0 : Int))).map spD1 := by
  unfold rangeD
  rw [Int.toNat_natCast, List.map_map, List.map_map]
  refine List.map_congr_left fun k _ => ?_
  show spD1 (own.getD (0 + ((k : Nat) : Int)).toNat 0, own.getD ((0 + ((k : Nat) : Int)).toNat + 1) 0, 0) = _
  rw [show (0 + ((k : Nat) : Int)).toNat = k by omega]
  rfl
 have rest : ∀ s7 : Option SV, (s7 = none ∨ ∃ d, s7 = some (.frz d)) → g__law_pairs_joined_L7 S__law_draw E [some (.own pen), some (.frz (.list (w.map t2D))), some (.frz (nD most)), some (.own (.list (sp.map spD1 ++ ((List.range (own.length - 1)).map fun i => (own.getD i 0, own.getD (i + 1) 0, (0 : Int))).map spD1))), some (.own (.list (prs.map prD))), some (.frz (nD n)), some (.frz (nD i)), s7, s8, s9, some (.frz (natsD own)), s11, none, none] := fun s7 hs7 => by
  have el : atI (own.map nD) (-1) = some (nD (own.getD (own.length - 1) 0)) := by
   have hne : own.map nD ≠ [] := by intro e; rw [List.map_eq_nil_iff] at e; exact ho e
   have e : ixN (own.map nD).length (-1) = some ((own.map nD).length - 1) := by
    unfold ixN
    rw [if_neg (by decide), if_pos (by omega)]
    congr 1
    omega
   unfold atI
   rw [e]
   show (own.map nD)[(own.map nD).length - 1]? = _
   rw [List.getElem?_map, oml, getD_some (by omega)]
   rfl
  refine ⟨rfl, ?_⟩
  refine ixL el ⟨tle, ?_⟩
  refine ixL (nat_at (getD_some o0)) ⟨tle, tle, ?_⟩
  refine ⟨by rw [List.length_append, List.length_map, List.length_map, List.length_map, List.length_range]; exact Nat.lt_of_lt_of_le (show _ < 100 by omega) tle, ?_⟩
  have fin := pairs_L8 (E := E) (n := n) (most := most) (sp := sp ++ chainW own) (s7 := s7) (s8 := s8) (s9 := s9) (s11 := s11) hp hm hw (by rw [hown]; exact ho) hpl fun pen' prs' s11' h1 h2 => by
   rw [hown] at h2 ⊢
   exact h pen' prs' s7 s11' h1 hs7 h2
  rw [hown] at fin
  unfold RJ at fin
  rw [List.map_append, chain_split, ← List.append_assoc] at fin
  exact fin
 rcases hs7 with rfl | ⟨d7, rfl⟩
 ·refine lc_map (fC own) (fun d hd yes no hy => ?_) (by rw [range_len, Int.toNat_natCast]; exact Nat.le_trans (show _ ≤ 30 by omega) tle) ?_
  ·obtain ⟨k, rfl, hk, e⟩ := turn d hd
   rw [e] at hy
   refine ixL (nat_at (getD_some (by omega))) ⟨tle, ?_⟩
   exact ixL (nat_at (getD_some hk)) ⟨tle, tle, hy⟩
  rw [em]
  exact ⟨by rw [List.length_map, List.length_map, List.length_map, List.length_range]; exact Nat.le_trans (show _ ≤ 100 by omega) tle, rest _ (.inl rfl)⟩
 ·refine lc_map (fC own) (fun d hd yes no hy => ?_) (by rw [range_len, Int.toNat_natCast]; exact Nat.le_trans (show _ ≤ 30 by omega) tle) ?_
  ·obtain ⟨k, rfl, hk, e⟩ := turn d hd
   rw [e] at hy
   refine ixL (nat_at (getD_some (by omega))) ⟨tle, ?_⟩
   exact ixL (nat_at (getD_some hk)) ⟨tle, tle, hy⟩
  rw [em]
  exact ⟨by rw [List.length_map, List.length_map, List.length_map, List.length_range]; exact Nat.le_trans (show _ ≤ 100 by omega) tle, rest _ (.inr ⟨_, rfl⟩)⟩
theorem pairs_L5 (hp : PenOk m pen) (hm : m + 10 < 10000000) (hw : w.length ≤ 30) (ho : ownW w i ≠ []) (hpl : prs.length ≤ 50) (hsl : sp.length ≤ 60) (hs7 : s7 = none ∨ ∃ d, s7 = some (.frz d))
  (h : ∀ (pen' : PyData) (prs' : List (Nat × Nat)) (s7 s10 s11 : Option SV), PenOk (m + 2) pen' → (s7 = none ∨ ∃ d, s7 = some (.frz d)) → (prs' = prs ∧ othW w i = [] ∨ ∃ a b, prs' = prs ++ [(a, b)] ∧ a ∈ ownW w i ∧ b ∈ othW w i) → E.nx (RJ pen' w most (sp ++ chainW (ownW w i)) prs' (some (.frz (nD n))) (some (.frz (nD i))) s7 s8 s9 s10 s11)) :
  g__law_pairs_joined_L5 S__law_draw E (RJ pen w most sp prs (some (.frz (nD n))) (some (.frz (nD i))) s7 s8 s9 s10 s11) := by
 have wl : (w.map t2D).length = w.length := List.length_map ..
 refine ⟨by show (((w.map t2D).length : Nat) : Int) < 2 ^ 62; omega, by show -(2 ^ 62) ≤ (((w.map t2D).length : Nat) : Int); omega, ?_⟩
 refine lc_filterMap (fP fun j => decide (wireAt w j = i)) (fun d hd yes no hy hno => ?_) (by rw [range_len, Int.toNat_natCast, wl]; exact Nat.le_trans (show 0 + w.length ≤ 30 by omega) tle) ?_
 ·obtain ⟨j, hj⟩ := List.mem_iff_getElem?.mp hd
  obtain ⟨hj2, rfl⟩ := range_at hj
  rw [Int.toNat_natCast, wl] at hj2
  obtain ⟨p, e1, e2, e3⟩ := word_at hj2
  refine ixL e2 ?_
  have e4 : fP (fun j => decide (wireAt w j = i)) (.int (j : Nat)) = if wireAt w j = i then some (.int (j : Nat)) else none := by
   show (if decide (wireAt w ((j : Nat) : Int).toNat = i) = true then some (PyData.int (j : Nat)) else none) = _
   rw [Int.toNat_natCast]
   simp
  rw [e4, e3] at hy hno
  refine ⟨shp_int _, shp_int _, ?_⟩
  show by2 (PyData.eqv (.int ((p.1 : Nat) : Int)) (.int ((i : Nat) : Int))) _ _
  rw [Th.eqv_int]
  refine by2_d (fun c => hy _ (by rw [if_pos (by omega)])) (fun c => hno (by rw [if_neg (by omega)]))
 rw [List.nil_append, wl, range_fP]
 exact pairs_L6 hp hm hw ho hpl hsl hs7 fun pen' prs' s7' s11' h1 h2 h3 => h pen' prs' s7' _ s11' h1 h2 h3
theorem pairs_L12 {j : Nat} {s5 s6 : Option SV} (hp : PenOk m pen) (hm : m + 10 < 10000000) (hw : w.length ≤ 30) (hw2 : 2 ≤ w.length) (hpl : prs.length ≤ 80)
  (h : ∀ (pen' : PyData) (a b : Nat) (s8 : Option SV), PenOk (m + 2) pen' → a < w.length → b < w.length → a ≠ b → E.nx (RJ pen' w most sp (prs ++ [(a, b)]) s5 s6 s7 s8 s9 s10 s11)) :
  g__law_pairs_joined_L12 S__law_draw E (RJ pen w most sp prs s5 s6 s7 s8 s9 s10 s11) := by
 have wl : (w.map t2D).length = w.length := List.length_map ..
 refine ⟨⟨trivial, trivial⟩, by simp [selSlots], pen, (((w.map t2D).length : Nat) : Int), _, rfl, hp, by omega, by omega, by omega, fun r pen1 r0 r1 hp1 => ?_⟩
 rw [wl] at r1
 obtain ⟨a, rfl⟩ : ∃ k : Nat, r = k := ⟨r.toNat, by omega⟩
 refine ⟨rfl, trivial, ⟨trivial, trivial⟩, by simp [selSlots], pen1, (((w.map t2D).length : Nat) : Int) - 1, _, rfl, hp1, by omega, by omega, by omega, fun r' pen2 r0' r1' hp2 => ?_⟩
 rw [wl] at r1'
 obtain ⟨c, rfl⟩ : ∃ k : Nat, r' = k := ⟨r'.toNat, by omega⟩
 refine ⟨by show (0 : Int) < (((w.map t2D).length : Nat) : Int); omega, tle, ?_⟩
 refine ⟨by rw [List.length_map]; exact Nat.lt_of_lt_of_le (show _ < 81 by omega) tle, ?_⟩
 have e : ((((a : Nat) : Int) + 1 + ((c : Nat) : Int)) % (((w.map t2D).length : Nat) : Int)) = (((a + 1 + c) % w.length : Nat) : Int) := by
  rw [wl, show ((a : Nat) : Int) + 1 + ((c : Nat) : Int) = ((a + 1 + c : Nat) : Int) by omega]
  rfl
 have hb : (a + 1 + c) % w.length < w.length := Nat.mod_lt _ (by omega)
 have hab : a ≠ (a + 1 + c) % w.length := by
  intro z
  by_cases h1 : a + 1 + c < w.length
  ·rw [Nat.mod_eq_of_lt h1] at z; omega
  ·rw [Nat.mod_eq_sub_mod (by omega), Nat.mod_eq_of_lt (by omega)] at z; omega
 have fin := h pen2 a ((a + 1 + c) % w.length) (some (.frz (nD a))) hp2 (by omega) hb hab
 unfold RJ at fin
 rw [List.map_append] at fin
 show E.nx [_, _, _, _, some (.own (.list (prs.map prD ++ [.tuple [nD a, .int ((((a : Nat) : Int) + 1 + ((c : Nat) : Int)) % (((w.map t2D).length : Nat) : Int))]]))), _, _, _, _, _, _, _, _, _]
 rw [e]
 exact fin
theorem pairs_L15 {a b : Nat} {s5 s6 : Option SV} {prs : List PyData} (hsl : sp.length ≤ 60)
  (h : E.nx [some (.own pen), some (.frz (.list (w.map t2D))), some (.frz (nD most)), some (.own (.list ((sp ++ pair2 (a, b)).map spD1))), some (.own (.list prs)), s5, s6, s7, some (.frz (nD a)), some (.frz (nD b)), s10, s11, none, none]) :
  g__law_pairs_joined_L15 SD E [some (.own pen), some (.frz (.list (w.map t2D))), some (.frz (nD most)), some (.own (.list (sp.map spD1))), some (.own (.list prs)), s5, s6, s7, some (.frz (nD a)), some (.frz (nD b)), s10, s11, none, none] := by
 have emin : (if ((b : Nat) : Int) < ((a : Nat) : Int) then ((b : Nat) : Int) else ((a : Nat) : Int)) = ((min a b : Nat) : Int) := by split <;> omega
 have emax : (if ((b : Nat) : Int) > ((a : Nat) : Int) then ((b : Nat) : Int) else ((a : Nat) : Int)) = ((max a b : Nat) : Int) := by split <;> omega
 refine ⟨tle, tle, tle, tle, tle, tle, tle, ?_, ?_⟩
 ·rw [List.length_map]; exact Nat.le_trans (show _ ≤ 62 by show sp.length + 2 ≤ 62; omega) tle
 show E.nx [_, _, _, some (.own (.list (sp.map spD1 ++ [.tuple [.tuple [.int (if ((b : Nat) : Int) < ((a : Nat) : Int) then ((b : Nat) : Int) else ((a : Nat) : Int))], .tuple [.int (if ((b : Nat) : Int) > ((a : Nat) : Int) then ((b : Nat) : Int) else ((a : Nat) : Int))], .int 0], .tuple [.tuple [.int (if ((b : Nat) : Int) > ((a : Nat) : Int) then ((b : Nat) : Int) else ((a : Nat) : Int))], .tuple [.int (if ((b : Nat) : Int) < ((a : Nat) : Int) then ((b : Nat) : Int) else ((a : Nat) : Int))], .int 1]]))), _, _, _, _, _, _, _, _, _, _]
 rw [emin, emax]
 rw [List.map_append] at h
 exact h
end
structure JoinOk (w : W1) (n most : Nat) (sp : List Th.Spot1) : Prop where
 ex : ∃ prs : List (Nat × Nat), sp = chainsW w n ++ prs.flatMap pair2 ∧ (∀ p ∈ prs, p.1 < w.length ∧ p.2 < w.length ∧ p.1 ≠ p.2) ∧ ∀ k, 0 < k → k < n → ∃ p ∈ prs, wireAt w p.1 = k ∧ wireAt w p.2 < k
 len : sp.length ≤ most
theorem own_ne {w : W1} {fs : List Nat} {wm k : Nat} (h : WordOk w fs wm) (hk : k < fs.length) : ownW w k ≠ [] := by
 have := (h.ev k hk).2
 have hm : k ∈ wireOf w := List.count_pos_iff.mp (by omega)
 obtain ⟨j, hj⟩ := List.mem_iff_getElem?.mp hm
 have hl := (List.getElem?_eq_some_iff.mp hj).1
 unfold wireOf at hl
 rw [List.length_map] at hl
 intro e
 have : j ∈ ownW w k := own_mem.mpr ⟨hl, by unfold wireAt leftAt; rw [hj]; rfl⟩
 rw [e] at this; cases this
theorem sum_one (n a : Nat) : ((List.range n).map fun k => if a = k then 1 else 0).sum = if a < n then 1 else 0 := by
 induction n with
 | zero => simp
 | succ n ih =>
  rw [List.range_succ, List.map_append, List.sum_append, ih]
  simp only [List.map_cons, List.map_nil, List.sum_cons, List.sum_nil]
  by_cases h1 : a < n
  ·rw [if_pos h1, if_neg (by omega), if_pos (by omega)]; rfl
  ·by_cases h2 : a = n
   ·rw [if_neg h1, if_pos h2, if_pos (by omega)]; rfl
   ·rw [if_neg h1, if_neg h2, if_neg (by omega)]; rfl
theorem sum_add (l : List Nat) (f g : Nat → Nat) : (l.map fun k => f k + g k).sum = (l.map f).sum + (l.map g).sum := by
 induction l with
 | nil => rfl
 | cons a l ih => simp only [List.map_cons, List.sum_cons, ih]; omega
theorem sum_filter (f : Nat → Nat) (n : Nat) : ∀ l : List Nat, (∀ j ∈ l, f j < n) → ((List.range n).map fun k => (l.filter fun j => decide (f j = k)).length).sum = l.length
 | [], _ => by
  have : (List.range n).map (fun k => (([] : List Nat).filter fun j => decide (f j = k)).length) = (List.range n).map fun _ => 0 := List.map_congr_left fun _ _ => rfl
  have z : ∀ n : Nat, ((List.range n).map fun _ => 0).sum = 0 := fun n => by
   induction n with
   | zero => rfl
   | succ n ih => rw [List.range_succ, List.map_append, List.sum_append, ih]; rfl
  rw [this, z]
  rfl
 | a :: l, h => by
  have e : (List.range n).map (fun k => ((a :: l).filter fun j => decide (f j = k)).length) = (List.range n).map fun k => (if f a = k then 1 else 0) + (l.filter fun j => decide (f j = k)).length := List.map_congr_left fun k _ => by
   rw [List.filter_cons]
   by_cases c : f a = k
   ·rw [if_pos (by simpa using c), if_pos c, List.length_cons]; omega
   ·rw [if_neg (by simpa using c), if_neg c]; omega
  rw [e, sum_add, sum_one, if_pos (h a List.mem_cons_self), sum_filter f n l fun j hj => h j (List.mem_cons_of_mem _ hj), List.length_cons]
  omega
theorem wireAt_lt {w : W1} {fs : List Nat} {wm j : Nat} (h : WordOk w fs wm) (hj : j < w.length) : wireAt w j < fs.length := by
 obtain ⟨p, e1, _, e3⟩ := word_at hj
 rw [e3]
 exact h.wk p (List.mem_of_getElem? e1)
theorem chains_len {w : W1} {fs : List Nat} {wm : Nat} (h : WordOk w fs wm) : (chainsW w fs.length).length = w.length := by
 unfold chainsW
 rw [List.length_flatMap]
 have e : (List.range fs.length).map (fun k => (chainW (ownW w k)).length) = (List.range fs.length).map fun k => ((List.range w.length).filter fun j => decide (wireAt w j = k)).length := List.map_congr_left fun k hk => by
  rw [chain_len (own_ne h (List.mem_range.mp hk))]; rfl
 rw [e, sum_filter (wireAt w) fs.length (List.range w.length) fun j hj => wireAt_lt h (List.mem_range.mp hj), List.length_range]
theorem chains_snoc (w : W1) (i : Nat) : chainsW w (i + 1) = chainsW w i ++ chainW (ownW w i) := by
 unfold chainsW
 rw [List.range_succ, List.flatMap_append]
 simp
theorem chains_le {w : W1} {fs : List Nat} {wm i : Nat} (h : WordOk w fs wm) (hi : i ≤ fs.length) : (chainsW w i).length ≤ w.length := by
 rw [← chains_len h]
 have : ∀ d, (chainsW w i).length ≤ (chainsW w (i + d)).length := fun d => by
  induction d with
  | zero => exact Nat.le_refl _
  | succ d ih => rw [← Nat.add_assoc, chains_snoc, List.length_append]; omega
 have := this (fs.length - i)
 rwa [show i + (fs.length - i) = fs.length by omega] at this
def S__law_pairs_joined : SpD := fun ds q => ∃ (pen : PyData) (m : Nat) (w : W1) (fs : List Nat) (wm most : Nat), ds = [pen, .list (w.map t2D), nD most] ∧ PenOk m pen ∧ m + 1000 < 10000000 ∧ WordOk w fs wm ∧ wm ≤ 30 ∧ w.length + 2 * (fs.length - 1) ≤ most ∧ most ≤ 60 ∧ ∀ (sp : List Th.Spot1) pen', JoinOk w fs.length most sp → PenOk (m + 100) pen' → q (.own (.list (sp.map spD1))) [some pen', none, none]
structure PrsOk (w : W1) (i : Nat) (prs : List (Nat × Nat)) : Prop where
 len : prs.length = i - 1
 lt : ∀ p ∈ prs, p.1 < w.length ∧ p.2 < w.length ∧ p.1 ≠ p.2
 join : ∀ k, 0 < k → k < i → ∃ p ∈ prs, wireAt w p.1 = k ∧ wireAt w p.2 < k
theorem PrsOk.step {w : W1} {i : Nat} {prs prs' : List (Nat × Nat)} (h : PrsOk w i prs) (h0 : i = 0 ∨ othW w i ≠ []) (hs : prs' = prs ∧ othW w i = [] ∨ ∃ a b, prs' = prs ++ [(a, b)] ∧ a ∈ ownW w i ∧ b ∈ othW w i) : PrsOk w (i + 1) prs' := by
 rcases hs with ⟨rfl, e⟩ | ⟨a, b, rfl, ha, hb⟩
 ·have hi : i = 0 := h0.resolve_right fun z => z e
  subst hi
  exact ⟨h.len, h.lt, fun k h1 h2 => by omega⟩
 ·obtain ⟨a1, a2⟩ := own_mem.mp ha
  obtain ⟨b1, b2⟩ := oth_mem.mp hb
  have hi : 0 < i := by omega
  refine ⟨by rw [List.length_append, h.len]; simp; omega, fun p hp => ?_, fun k h1 h2 => ?_⟩
  ·rcases List.mem_append.mp hp with hp | hp
   ·exact h.lt p hp
   ·rw [List.mem_singleton.mp hp]
    exact ⟨a1, b1, fun e => by have e : a = b := e; subst e; omega⟩
  ·by_cases e : k < i
   ·obtain ⟨p, hp, q⟩ := h.join k h1 e
    exact ⟨p, List.mem_append_left _ hp, q⟩
   ·have e : k = i := by omega
    subst e
    exact ⟨(a, b), by simp, a2, b2⟩
theorem oth_ne {w : W1} {fs : List Nat} {wm k : Nat} (h : WordOk w fs wm) (hk : 0 < k) (hk2 : k < fs.length) : othW w k ≠ [] := by
 have h0 := own_ne h (k := 0) (by omega)
 obtain ⟨j, hj⟩ := List.exists_mem_of_ne_nil _ h0
 obtain ⟨j1, j2⟩ := own_mem.mp hj
 intro e
 have : j ∈ othW w k := oth_mem.mpr ⟨j1, by omega⟩
 rw [e] at this; cases this
theorem pair2_len (prs : List (Nat × Nat)) : (prs.flatMap pair2).length = 2 * prs.length := by
 induction prs with
 | nil => rfl
 | cons p l ih => rw [List.flatMap_cons, List.length_append, ih, List.length_cons]; show 2 + _ = _; omega
theorem cut_hiW (xs : List PyData) {r : Nat} : cutD xs none (some (r : Nat)) = xs.take r := by
 unfold cutD
 rw [HT.sIx_none, HT.sIx_nat, List.drop_zero, Nat.sub_zero]
 by_cases hn : r ≤ xs.length
 ·rw [Nat.min_eq_left hn]
 ·rw [Nat.min_eq_right (by omega), List.take_of_length_le (Nat.le_refl _), List.take_of_length_le (by omega)]
theorem pairs_L14 {q : SV → Outs → Prop} {pen : PyData} {w : W1} {fs : List Nat} {wm most : Nat} {prs prs0 ext : List (Nat × Nat)} {s5 s6 s7 s8 s9 s10 s11 : Option SV} (hw : WordOk w fs wm) (hm : wm ≤ 30) (hmost : w.length + 2 * (fs.length - 1) ≤ most) (h60 : most ≤ 60) (ep : prs = prs0 ++ ext) (h0 : PrsOk w fs.length prs0) (he : ∀ p ∈ ext, p.1 < w.length ∧ p.2 < w.length ∧ p.1 ≠ p.2)
  (h : ∀ sp : List Th.Spot1, JoinOk w fs.length most sp → q (.own (.list (sp.map spD1))) [some pen, none, none]) :
  g__law_pairs_joined_L14 S__law_draw (endsOf P__law_pairs_joined q) (RJ pen w most (chainsW w fs.length) prs s5 s6 s7 s8 s9 s10 s11) := by
 have hcl := chains_len hw
 have hwl := hw.len
 have hr : ((((most : Nat) : Int) - (((chainsW w fs.length).map spD1).length : Nat)) / 2) = (((most - w.length) / 2 : Nat) : Int) := by rw [List.length_map, hcl]; omega
 refine ⟨trivial, ⟨by decide, by decide⟩, ?_⟩
 show dLoop _ (g__law_pairs_joined_L15 S__law_draw) _ (cutD (prs.map prD) none (some ((((most : Nat) : Int) - (((chainsW w fs.length).map spD1).length : Nat)) / 2))) _
 rw [hr, cut_hiW, ← List.map_take]
 generalize hr2 : (most - w.length) / 2 = r
 have hr3 : prs0.length ≤ r := by rw [h0.len]; omega
 refine loop_ix (fun i ρ => ∃ (s8 s9 : Option SV), ρ = [some (.own pen), some (.frz (.list (w.map t2D))), some (.frz (nD most)), some (.own (.list ((chainsW w fs.length ++ ((prs.take r).take i).flatMap pair2).map spD1))), some (.own (.list (prs.map prD))), s5, s6, s7, s8, s9, s10, s11, none, none]) (fun i d ρ nx hd hI hnx => ?_) ⟨s8, s9, by simp⟩ (fun ρ hI => ?_)
 ·obtain ⟨s8, s9, rfl⟩ := hI
  rw [List.getElem?_map] at hd
  cases er : (prs.take r)[i]? with
  | none => rw [er] at hd; cases hd
  | some p =>
   rw [er] at hd
   cases hd
   have hi := (List.getElem?_eq_some_iff.mp er).1
   rw [List.length_take] at hi
   refine ⟨rfl, ?_⟩
   refine pairs_L15 (a := p.1) (b := p.2) (SD := S__law_draw) ?_ ?_
   ·rw [List.length_append, hcl, pair2_len, List.length_take]; omega
   ·have := hnx [some (.own pen), some (.frz (.list (w.map t2D))), some (.frz (nD most)), some (.own (.list ((chainsW w fs.length ++ ((prs.take r).take (i + 1)).flatMap pair2).map spD1))), some (.own (.list (prs.map prD))), s5, s6, s7, some (.frz (nD p.1)), some (.frz (nD p.2)), s10, s11, none, none] ⟨_, _, rfl⟩
    rw [List.take_add_one, er, List.flatMap_append, ← List.append_assoc] at this
    simp only [Option.toList_some, List.flatMap_cons, List.flatMap_nil, List.append_nil] at this
    exact this
 ·obtain ⟨s8, s9, rfl⟩ := hI
  rw [List.length_map, List.take_length]
  refine ⟨by decide, h _ ⟨⟨prs.take r, rfl, fun p hp => ?_, fun k h1 h2 => ?_⟩, ?_⟩⟩
  ·have := List.mem_of_mem_take hp
   rw [ep] at this
   rcases List.mem_append.mp this with z | z
   ·exact h0.lt p z
   ·exact he p z
  ·obtain ⟨p, hp, q⟩ := h0.join k h1 h2
   refine ⟨p, ?_, q⟩
   rw [ep, List.take_append, List.take_of_length_le hr3]
   exact List.mem_append_left _ hp
  ·rw [List.length_append, hcl, pair2_len, List.length_take]
   omega
theorem ints_wires (w : W1) : (w.map t2D).map (fun d => match d with | .tuple (a :: _) => a | d => d) = (wireOf w).map nD := by
 unfold wireOf
 rw [List.map_map, List.map_map]
 rfl
theorem distinct {w : W1} {fs : List Nat} {wm : Nat} (h : WordOk w fs wm) {ys : List Int} (nd : ys.Nodup) (hy : ∀ j, j ∈ ys ↔ j ∈ (wireOf w).map fun k : Nat => (k : Int)) : ys.length = fs.length := by
 have e : ∀ j, j ∈ ys ↔ j ∈ (List.range fs.length).map fun k : Nat => (k : Int) := fun j => by
  rw [hy, List.mem_map, List.mem_map]
  constructor
  ·rintro ⟨k, hk, rfl⟩
   obtain ⟨p, hp, rfl⟩ := List.mem_map.mp hk
   exact ⟨p.1, List.mem_range.mpr (h.wk p hp), rfl⟩
  ·rintro ⟨k, hk, rfl⟩
   have := (h.ev k (List.mem_range.mp hk)).2
   exact ⟨k, List.count_pos_iff.mp (by omega), rfl⟩
 have nd2 : ((List.range fs.length).map fun k : Nat => (k : Int)).Nodup := by
  rw [List.Nodup, List.pairwise_map]
  exact List.nodup_range.imp fun h e => h (by omega)
 have a := Th.nodup_le nd fun x hx => (e x).mp hx
 have b := Th.nodup_le nd2 fun x hx => (e x).mpr hx
 rw [List.length_map, List.length_range] at a b
 omega
def fst2 : PyData → PyData
 | .tuple (a :: _) => a
 | d => d
theorem p__law_pairs_joined (ds : List PyData) (q : SV → Outs → Prop) (h : S__law_pairs_joined ds q) (hl : ds.length = P__law_pairs_joined.length) : g__law_pairs_joined S__law_draw (endsOf P__law_pairs_joined q) (startE N__law_pairs_joined.length P__law_pairs_joined ds) := by
 obtain ⟨pen, m, w, fs, wm, most, rfl, hp, hm, hw, hwm, hmost, h60, h⟩ := h
 have hwl := hw.len
 have hf6 := hw.f6
 have hf1 := hw.f1
 have hw2 : 2 ≤ w.length := by
  have h1 := (hw.ev 0 (by omega)).2
  have h2 := List.count_le_length (a := 0) (l := wireOf w)
  unfold wireOf at h1 h2
  rw [List.length_map] at h2
  omega
 refine ⟨tle, tle, ?_⟩
 refine lc_map fst2 (fun d hd yes no hy => ?_) (by rw [List.length_map]; exact Nat.le_trans (show _ ≤ 30 by omega) tle) ?_
 ·obtain ⟨p, _, rfl⟩ := List.mem_map.mp hd
  exact hy
 have e1 : (w.map t2D).map fst2 = ((wireOf w).map fun k : Nat => (k : Int)).map .int := by
  unfold wireOf
  rw [List.map_map, List.map_map, List.map_map]
  rfl
 rw [e1]
 refine ⟨by rw [List.length_map, List.length_map]; unfold wireOf; rw [List.length_map]; omega, flat_ints _ fun ys nd hy => ?_⟩
 rw [distinct hw nd hy]
 show g__law_pairs_joined_L4 S__law_draw (endsOf P__law_pairs_joined q) (RJ pen w most [] [] (some (.frz (nD fs.length))) none none none none none none)
 refine ⟨by show ((fs.length : Nat) : Int) < 2 ^ 62; omega, by show -(2 ^ 62) ≤ ((fs.length : Nat) : Int); omega, ?_⟩
 refine loop_ix (fun i ρ => ∃ (pen : PyData) (prs : List (Nat × Nat)) (s6 s7 s10 s11 : Option SV), i ≤ fs.length ∧ PenOk (m + 2 * i) pen ∧ PrsOk w i prs ∧ (s7 = none ∨ ∃ d, s7 = some (.frz d)) ∧ ρ = RJ pen w most (chainsW w i) prs (some (.frz (nD fs.length))) s6 s7 none none s10 s11) (fun i d ρ nx hd hI hnx => ?_) ⟨pen, [], none, none, none, none, by omega, hp, ⟨rfl, fun p hp => (by cases hp), fun k h1 h2 => by omega⟩, .inl rfl, rfl⟩ (fun ρ hI => ?_)
 ·obtain ⟨pen, prs, s6, s7, s10, s11, hil, hp, hP, hs7, rfl⟩ := hI
  obtain ⟨hi, rfl⟩ := range_at hd
  have hi : i < fs.length := by simpa using hi
  have hpl := hP.len
  have hcl := chains_le hw (i := i) (by omega)
  refine pairs_L5 (i := i) (n := fs.length) hp (by omega) (by omega) (own_ne hw hi) (by omega) (by omega) hs7 fun pen' prs' s7' s10' s11' h1 h2 h3 => ?_
  rw [← chains_snoc]
  refine hnx _ ⟨pen', prs', _, s7', s10', s11', by omega, h1, hP.step ?_ h3, h2, rfl⟩
  by_cases z : i = 0
  ·exact .inl z
  ·exact .inr (oth_ne hw (by omega) hi)
 ·obtain ⟨pen, prs, s6, s7, s10, s11, hil, hp, hP, hs7, rfl⟩ := hI
  have rl : (rangeD 0 ((fs.length : Nat) : Int).toNat).length = fs.length := by rw [range_len, Int.toNat_natCast]
  rw [rl] at hp hP ⊢
  have hpl := hP.len
  have wl : (w.map t2D).length = w.length := List.length_map ..
  refine ⟨⟨trivial, trivial⟩, by simp [selSlots], pen, (((w.map t2D).length : Nat) : Int) + 1, _, rfl, hp, by omega, by omega, by omega, fun r pen1 r0 r1 hp1 => ?_⟩
  rw [wl] at r1
  obtain ⟨r, rfl⟩ : ∃ k : Nat, r = k := ⟨r.toNat, by omega⟩
  refine ⟨by omega, by omega, ?_⟩
  refine loop_ix (fun i ρ => ∃ (pen : PyData) (ext : List (Nat × Nat)) (s7 s8 : Option SV), PenOk (m + 2 * fs.length + 1 + 2 * i) pen ∧ ext.length = i ∧ (∀ p ∈ ext, p.1 < w.length ∧ p.2 < w.length ∧ p.1 ≠ p.2) ∧ ρ = RJ pen w most (chainsW w fs.length) (prs ++ ext) (some (.frz (nD fs.length))) s6 s7 s8 none s10 s11) (fun i d ρ nx hd hI hnx => ?_) ⟨pen1, [], s7, none, hp1, rfl, fun p hp => (by cases hp), by rw [List.append_nil]; rfl⟩ (fun ρ hI => ?_)
  ·obtain ⟨pen, ext, s7, s8, hp, hel, he, rfl⟩ := hI
   obtain ⟨hi, rfl⟩ := range_at hd
   have hi : i < r := by simpa using hi
   refine pairs_L12 (j := i) hp (by omega) (by omega) hw2 (by rw [List.length_append]; omega) fun pen' a b s8' h1 h2 h3 h4 => ?_
   rw [List.append_assoc]
   refine hnx _ ⟨pen', ext ++ [(a, b)], _, s8', h1, by rw [List.length_append, hel]; rfl, fun p hp => ?_, rfl⟩
   rcases List.mem_append.mp hp with hp | hp
   ·exact he p hp
   ·rw [List.mem_singleton.mp hp]; exact ⟨h2, h3, h4⟩
  ·obtain ⟨pen, ext, s7, s8, hp, hel, he, rfl⟩ := hI
   rw [range_len, Int.toNat_natCast] at hp
   exact pairs_L14 hw hwm hmost h60 rfl hP he fun sp hj => h sp pen hj (hp.mono (by omega))
end My.Q
set_option linter.all false
set_option maxRecDepth 100000
namespace My.Q
open PySem PySem.Spec L2 Dv
theorem wsh_perm {ws ws' : List Th.Wire} {ts : List Th.Turn} {sp : List Th.Spot1} {ρ : Nat → Nat} (h : Th.WSh ws ts sp ρ) (p : ws'.Perm ws) : Th.WSh ws' ts sp ρ :=
 ⟨(p.map _).nodup_iff.mpr h.nd, fun w hw => h.bit w (p.mem_iff.mp hw), fun k y w hw => h.way k y w (p.mem_iff.mp hw), fun w hw => h.ev w (p.mem_iff.mp hw), fun t ht => (p.map (·.1)).mem_iff.mpr (h.mem t ht), h.tl, h.W⟩
def turnsW (zs : List Str) (w : W1) : List Th.Turn := w.map fun p => (zs.getD p.1 Str.empty, ((p.2 : Nat) : Int))
theorem wireOf_len (w : W1) : (wireOf w).length = w.length := List.length_map ..
theorem turns_is {zs : List Str} {w : W1} {fs : List Nat} (h : WayOk w fs) : Th.turnsU zs fs (wireOf w) = turnsW zs w := by
 unfold Th.turnsU turnsW
 apply List.ext_getElem?
 intro i
 rw [List.getElem?_map, List.getElem?_map, wireOf_len]
 by_cases hi : i < w.length
 ·rw [List.getElem?_range hi, List.getElem?_eq_getElem hi]
  have e : w[i]? = some w[i] := List.getElem?_eq_getElem hi
  have ew : (wireOf w).getD i 0 = w[i].1 := by unfold wireOf; rw [List.getD_eq_getElem?_getD, List.getElem?_map, e]; rfl
  have hw := h.way i w[i] e
  show some ((zs.getD ((wireOf w).getD i 0) Str.empty), ((Th.toF fs (wireOf w) ((wireOf w).getD i 0) (i + 1) : Nat) : Int)) = some (zs.getD w[i].1 Str.empty, ((w[i].2 : Nat) : Int))
  rw [ew, hw]
  congr 2
  unfold Th.toF
  have et : (wireOf w).take (i + 1) = wireOf (w.take i) ++ [w[i].1] := by
   unfold wireOf
   rw [← List.map_take, List.take_add_one, e, List.map_append]
   rfl
  rw [et, List.count_append, List.count_singleton]
  simp only [beq_self_eq_true, if_true]
  unfold leftAt
  rw [← List.getD_eq_getElem?_getD]
  congr 1
  omega
 ·rw [List.getElem?_eq_none (l := List.range _) (by simp; omega), List.getElem?_eq_none (l := w) (by omega)]
  rfl
theorem own_places (w : W1) (k : Nat) : ownW w k = Th.placesU (wireOf w) k := by
 unfold ownW Th.placesU
 rw [wireOf_len]
 refine List.filter_congr fun j _ => ?_
 unfold wireAt leftAt
 rw [List.getD_eq_getElem?_getD]
theorem chain_is (own : List Nat) : chainW own = Th.chainU own := by
 unfold chainW Th.chainU
 congr 1
 apply List.ext_getElem?
 intro i
 rw [List.getElem?_map, List.getElem?_map]
 by_cases hi : i < own.length - 1
 ·have e1 : own[i]? = some own[i] := List.getElem?_eq_getElem (by omega)
  have e2 : own[i + 1]? = some own[i + 1] := List.getElem?_eq_getElem (by omega)
  have e3 : own.tail[i]? = some own[i + 1] := by rw [List.getElem?_tail]; exact e2
  have e4 : (own.zip own.tail)[i]? = some (own[i], own[i + 1]) := by rw [List.getElem?_zip_eq_some]; exact ⟨e1, e3⟩
  rw [List.getElem?_range hi, e4]
  show some (own.getD i 0, own.getD (i + 1) 0, (0 : Int)) = some (own[i], own[i + 1], (0 : Int))
  rw [List.getD_eq_getElem?_getD, List.getD_eq_getElem?_getD, e1, e2]
  rfl
 ·rw [List.getElem?_eq_none (l := List.range _) (by simp; omega), List.getElem?_eq_none (l := own.zip own.tail) (by rw [List.length_zip, List.length_tail]; omega)]
  rfl
theorem chains_is (w : W1) (n : Nat) : chainsW w n = Th.chainsU (wireOf w) n := by
 unfold chainsW Th.chainsU
 congr 1
 funext k
 rw [chain_is, own_places]
theorem pairs_ok {T : Nat} : ∀ {prs : List (Nat × Nat)}, (∀ p ∈ prs, p.1 < T ∧ p.2 < T ∧ p.1 ≠ p.2) → Th.PairOk T (prs.flatMap pair2)
 | [], _ => fun x hx => by cases hx
 | p :: l, h => by
  have hp := h p List.mem_cons_self
  have hl := pairs_ok (prs := l) fun q hq => h q (List.mem_cons_of_mem _ hq)
  have e : (p :: l).flatMap pair2 = pair2 p ++ l.flatMap pair2 := rfl
  intro x hx
  rw [e] at hx ⊢
  rcases List.mem_append.mp hx with hx | hx
  ·unfold pair2 at hx ⊢
   simp only [List.mem_cons, List.not_mem_nil, or_false] at hx
   rcases hx with rfl | rfl
   ·exact ⟨by show min p.1 p.2 < T; omega, by show max p.1 p.2 < T; omega, .inl ⟨by show min p.1 p.2 < max p.1 p.2; omega, rfl, List.mem_append_left _ (by simp)⟩⟩
   ·exact ⟨by show max p.1 p.2 < T; omega, by show min p.1 p.2 < T; omega, .inr (.inl ⟨by show min p.1 p.2 < max p.1 p.2; omega, rfl, List.mem_append_left _ (by simp)⟩)⟩
  ·obtain ⟨h1, h2, h3⟩ := hl x hx
   refine ⟨h1, h2, ?_⟩
   rcases h3 with ⟨a, b, c⟩ | ⟨a, b, c⟩ | h3
   ·exact .inl ⟨a, b, List.mem_append_right _ c⟩
   ·exact .inr (.inl ⟨a, b, List.mem_append_right _ c⟩)
   ·exact .inr (.inr h3)
theorem word_e {w : W1} {fs : List Nat} {wm : Nat} (h : WordOk w fs wm) : Th.WordE fs.length (wireOf w) := by
 refine ⟨fun k hk => ?_, fun k hk => h.ev k hk, ?_⟩
 ·obtain ⟨p, hp, rfl⟩ := List.mem_map.mp hk
  exact h.wk p hp
 ·have h1 := (h.ev 0 (by have := h.f1; omega)).2
  exact Nat.le_trans h1 List.count_le_length
def wiresW (zs sides : List Str) (fs : List Nat) : List Th.Wire := Th.wiresU (zs.take fs.length) sides fs
theorem take_getD {zs : List Str} {n k : Nat} (hk : k < n) : (zs.take n).getD k Str.empty = zs.getD k Str.empty := by
 rw [List.getD_eq_getElem?_getD, List.getD_eq_getElem?_getD, List.getElem?_take_of_lt hk]
theorem turnsW_take {zs : List Str} {w : W1} {n : Nat} (h : ∀ p ∈ w, p.1 < n) : turnsW (zs.take n) w = turnsW zs w := by
 unfold turnsW
 refine List.map_congr_left fun p hp => ?_
 rw [take_getD (h p hp)]
theorem wsh_of {w : W1} {fs : List Nat} {wm : Nat} {zs sides : List Str} {ps sp : List Th.Spot1} (hw : WordOk w fs wm) (hz : zs.Nodup) (hzl : fs.length ≤ zs.length) (hsl : sides.length = fs.length) (hp : Th.PairOk w.length ps) (hs : ∀ x, x ∈ sp ↔ x ∈ chainsW w fs.length ∨ x ∈ ps) : Th.WSh (wiresW zs sides fs) (turnsW zs w) sp id := by
 have tl : (zs.take fs.length).length = fs.length := by rw [List.length_take]; omega
 have W : Th.WP fs.length (zs.take fs.length) sides fs (wireOf w) := ⟨by omega, by omega, by omega, hz.sublist (List.take_sublist _ _), hw.fb, word_e hw, hw.f1⟩
 have := W.wsh (sp := sp) (.inl ⟨ps, by rw [wireOf_len]; exact hp, fun x => by rw [← chains_is]; exact hs x⟩)
 rw [turns_is hw.toWayOk, turnsW_take hw.wk] at this
 exact this
structure MadeW (w : W1) (fs : List Nat) (wm : Nat) (zs sides : List Str) (ws : List Th.Wire) : Prop where
 hw : WordOk w fs wm
 h24 : wm ≤ 24
 nd : zs.Nodup
 nm : ∀ z ∈ zs, NameOk z
 zl : fs.length ≤ zs.length
 sl : sides.length = fs.length
 sd : ∀ x ∈ sides, x = Th.sAsk ∨ x = Th.sAns
 pw : ws.Perm (wiresW zs sides fs)
section
variable {w : W1} {fs : List Nat} {wm most : Nat} {zs sides : List Str} {ws : List Th.Wire} {sp : List Th.Spot1}
theorem wires_at {x : Th.Wire} (hz : fs.length ≤ zs.length) (hx : x ∈ wiresW zs sides fs) : ∃ k, k < fs.length ∧ x = (zs.getD k Str.empty, sides.getD k Str.empty, ((fs.getD k 0 : Nat) : Int)) := by
 obtain ⟨k, hk, rfl⟩ := List.mem_map.mp hx
 rw [List.mem_range, List.length_take] at hk
 refine ⟨k, by omega, ?_⟩
 rw [take_getD (by omega)]
theorem getD_memS {l : List Str} {k : Nat} (h : k < l.length) : l.getD k Str.empty ∈ l := by
 rw [List.getD_eq_getElem?_getD, List.getElem?_eq_getElem h]; exact List.getElem_mem h
theorem MadeW.wire (h : MadeW w fs wm zs sides ws) {x : Th.Wire} (hx : x ∈ ws) : NameOk x.1 ∧ (x.2.1 = Th.sAsk ∨ x.2.1 = Th.sAns) ∧ Th.Bit x.2.2 ∧ x.1 ∈ zs := by
 obtain ⟨k, hk, rfl⟩ := wires_at h.zl (h.pw.mem_iff.mp hx)
 have hz := h.zl
 have hs := h.sl
 refine ⟨h.nm _ (getD_memS (by omega)), h.sd _ (getD_memS (by omega)), ?_, getD_memS (by omega)⟩
 have : fs.getD k 0 ≤ 1 := by
  rw [List.getD_eq_getElem?_getD, List.getElem?_eq_getElem hk]
  exact h.hw.fb _ (List.getElem_mem hk)
 show Th.Bit ((fs.getD k 0 : Nat) : Int)
 unfold Th.Bit
 omega
theorem ris_one {T a : Nat} (h : a < T) : Th.RisOk (T : Int) [((a : Nat) : Int)] := by
 refine ⟨fun k hk => ?_, List.pairwise_singleton _ _⟩
 rw [List.mem_singleton.mp hk]
 omega
theorem MadeW.ok (h : MadeW w fs wm zs sides ws) (W : Th.WSh ws (turnsW zs w) sp id) (hl : sp.length ≤ 60) : Th.SheetOk (Th.wsheet ws (turnsW zs w) sp) := by
 have hwl := h.hw.len
 have h24 := h.h24
 have tl : (turnsW zs w).length = w.length := List.length_map ..
 have pl := h.pw.length_eq
 have wl : (wiresW zs sides fs).length = fs.length := by
  unfold wiresW Th.wiresU
  have := h.zl
  rw [List.length_map, List.length_range, List.length_take]; omega
 have f6 := h.hw.f6
 refine ⟨fun x hx => ?_, W.nd, by show ws.length ≤ 8; omega, fun t ht => ⟨W.mem t ht, ?_⟩, by show (turnsW zs w).length ≤ 24; omega, fun x hx => ?_, by show (sp.map Th.enc1).length ≤ 60; rw [List.length_map]; exact hl⟩
 ·obtain ⟨h1, h2, h3, _⟩ := h.wire hx
  refine ⟨h1.tx, ?_, h3⟩
  rcases h2 with e | e <;> rw [e]
  ·exact Th.tx_ask
  ·exact Th.tx_answer
 ·obtain ⟨p, hp, rfl⟩ := List.mem_map.mp ht
  obtain ⟨i, hi⟩ := List.mem_iff_getElem?.mp hp
  have := h.hw.way i p hi
  show Th.Bit ((p.2 : Nat) : Int)
  unfold Th.Bit
  omega
 ·obtain ⟨y, hy, rfl⟩ := List.mem_map.mp hx
  obtain ⟨h1, h2⟩ := W.W.lt y hy
  refine ⟨ris_one h1, ris_one h2, ?_⟩
  show Th.Bit y.2.2
  rw [W.W.mrk y hy]
  split
  ·exact Th.bit0
  ·exact Th.bit1
theorem MadeW.rnd (h : MadeW w fs wm zs sides ws) (hj : JoinOk w fs.length most sp) (h60 : most ≤ 60) : Th.RndB ws (turnsW zs w) sp := by
 obtain ⟨⟨prs, e, hp, hjn⟩, hl⟩ := hj
 have W : Th.WSh ws (turnsW zs w) sp id := wsh_perm (wsh_of (sides := sides) h.hw h.nd h.zl h.sl (pairs_ok hp) (fun x => by rw [e, List.mem_append])) h.pw
 have tl : (turnsW zs w).length = w.length := List.length_map ..
 refine ⟨W, h.ok W (by omega), fun a b ha hb => ?_, fun z => ?_⟩
 ·rw [tl] at ha hb
  refine Th.wires_conn (T := w.length) (n := fs.length) (wr := wireAt w) (fun a ha => wireAt_lt h.hw ha) (ownW w) (fun k hk y hy => ?_) (fun a ha => own_mem.mpr ⟨ha, rfl⟩) (fun k h0 hk => ?_) a b ha hb
  ·rw [e]
   refine List.mem_append_left _ (List.mem_flatMap.mpr ⟨k, List.mem_range.mpr hk, ?_⟩)
   rw [chain_is]
   exact (Th.mem_chain (own_ne h.hw hk)).mpr hy
  ·obtain ⟨p, hpm, e1, e2⟩ := hjn k h0 hk
   obtain ⟨p1, p2, p3⟩ := hp p hpm
   have m1 : (min p.1 p.2, max p.1 p.2, (0 : Int)) ∈ sp := by rw [e]; exact List.mem_append_right _ (List.mem_flatMap.mpr ⟨p, hpm, by unfold pair2; simp⟩)
   have m2 : (max p.1 p.2, min p.1 p.2, (1 : Int)) ∈ sp := by rw [e]; exact List.mem_append_right _ (List.mem_flatMap.mpr ⟨p, hpm, by unfold pair2; simp⟩)
   refine ⟨p.1, p.2, p1, p2, e1, e2, ?_, ?_⟩
   ·by_cases c : p.1 < p.2
    ·rw [show min p.1 p.2 = p.1 by omega, show max p.1 p.2 = p.2 by omega] at m1; exact ⟨_, m1⟩
    ·rw [show min p.1 p.2 = p.2 by omega, show max p.1 p.2 = p.1 by omega] at m2; exact ⟨_, m2⟩
   ·by_cases c : p.1 < p.2
    ·rw [show min p.1 p.2 = p.1 by omega, show max p.1 p.2 = p.2 by omega] at m2; exact ⟨_, m2⟩
    ·rw [show min p.1 p.2 = p.2 by omega, show max p.1 p.2 = p.1 by omega] at m1; exact ⟨_, m1⟩
 ·have := chains_len h.hw
  rw [e] at z
  have z := (List.append_eq_nil_iff.mp z).1
  rw [z] at this
  have := W.tl
  rw [tl] at this
  simp at *
  omega
end
end My.Q
set_option linter.all false
set_option maxRecDepth 100000
namespace My.Q
open PySem PySem.Spec L2 Dv
theorem zip3_get : ∀ {a b c : List PyData} {k : Nat}, (zip3D a b c)[k]? = match a[k]?, b[k]?, c[k]? with | some x, some y, some z => some (.tuple [x, y, z]) | _, _, _ => none
 | [], _, _, k => by simp [zip3D]
 | x :: a, [], _, k => by cases k <;> simp [zip3D]
 | x :: a, y :: b, [], k => by cases k <;> simp [zip3D]
 | x :: a, y :: b, z :: c, 0 => by simp [zip3D]
 | x :: a, y :: b, z :: c, k + 1 => by simp only [zip3D, List.getElem?_cons_succ]; exact zip3_get
theorem zip3_wires {zs sides : List Str} {fs : List Nat} (h8 : fs.length ≤ zs.length) (hs : sides.length = fs.length) : zip3D (zs.map PyData.str) (sides.map PyData.str) (fs.map nD) = (wiresW zs sides fs).map Th.wireD := by
 refine List.ext_getElem? fun k => ?_
 unfold wiresW Th.wiresU
 rw [zip3_get, List.getElem?_map, List.getElem?_map, List.getElem?_map, List.getElem?_map, List.getElem?_map, List.length_take, Nat.min_eq_left h8]
 by_cases c : k < fs.length
 ·have ez : zs[k]? = some zs[k] := List.getElem?_eq_getElem (by omega)
  have es : sides[k]? = some sides[k] := List.getElem?_eq_getElem (by omega)
  have ef : fs[k]? = some fs[k] := List.getElem?_eq_getElem c
  rw [List.getElem?_range c]
  show _ = some (Th.wireD ((zs.take fs.length).getD k Str.empty, sides.getD k Str.empty, ((fs.getD k 0 : Nat) : Int)))
  rw [take_getD c, List.getD_eq_getElem?_getD, List.getD_eq_getElem?_getD, List.getD_eq_getElem?_getD, ez, es, ef]
  rfl
 ·rw [List.getElem?_eq_none (l := fs) (by omega), List.getElem?_eq_none (l := List.range _) (by simp; omega)]
  cases zs[k]? <;> cases sides[k]? <;> rfl
theorem sort_wiresW (l : List Th.Wire) : ∃ ws : List Th.Wire, sortD (l.map Th.wireD) = ws.map Th.wireD ∧ ws.Perm l := by
 have e := (PySem.W.sort_maps (r := fun a b => PySem.W.dataLe false id (Th.wireD a) (Th.wireD b)) (s := PySem.W.dataLe false id) Th.wireD (l := l) (fun _ _ _ _ => rfl)).symm
 exact ⟨l.mergeSort (fun a b => PySem.W.dataLe false id (Th.wireD a) (Th.wireD b)), e, List.mergeSort_perm l _⟩
theorem srt_wiresW {l : List Th.Wire} (h : ∀ w ∈ l, Tx 8 w.1 ∧ Tx 8 w.2.1) (hl : l.length ≤ 100) : Srt (l.map Th.wireD) := by
 refine ⟨fun d hd e he => ?_, .inl fun d hd => ?_, by rw [List.length_map]; omega, fun d hd => ?_⟩
 ·obtain ⟨a, _, rfl⟩ := List.mem_map.mp hd
  obtain ⟨b, _, rfl⟩ := List.mem_map.mp he
  rfl
 ·obtain ⟨a, _, rfl⟩ := List.mem_map.mp hd
  exact ⟨_, _, rfl⟩
 ·obtain ⟨a, ha, rfl⟩ := List.mem_map.mp hd
  refine (Shp.tuple (n := 0) fun d hd => ?_).mono (by omega)
  simp only [List.mem_cons, List.not_mem_nil, or_false] at hd
  rcases hd with rfl | rfl | rfl
  ·exact Shp.str (h a ha).1
  ·exact Shp.str (h a ha).2
  ·exact Shp.int _
def turnF (zs : List Str) : PyData → PyData
 | .tuple [.int k, v] => .tuple [.str (zs.getD k.toNat Str.empty), v]
 | d => d
theorem turn_map {zs : List Str} (w : W1) : (w.map t2D).map (turnF zs) = (turnsW zs w).map Th.turnD := by
 unfold turnsW
 rw [List.map_map, List.map_map]
 refine List.map_congr_left fun p _ => ?_
 show PyData.tuple [.str (zs.getD ((p.1 : Nat) : Int).toNat Str.empty), nD p.2] = _
 rw [Int.toNat_natCast]
 rfl
structure RoundQ (spotsMost : Nat) (s : Th.Sheet) : Prop where
 ex : ∃ ws ts sp c, Th.RndQ ws ts sp c s ∧ sp.length ≤ spotsMost
 nm : ∀ x ∈ s.wires, NameOk x.1 ∧ (x.2.1 = Th.sAsk ∨ x.2.1 = Th.sAns)
section
variable {pen : PyData} {m wm most : Nat} {w : W1} {fs : List Nat} {zs sides : List Str} {sp : List Th.Spot1} {q : SV → Outs → Prop}
theorem sheet_is {ws : List Th.Wire} : Th.sheetD (Th.wsheet ws (turnsW zs w) sp) = .tuple [.tuple (ws.map Th.wireD), .tuple ((turnsW zs w).map Th.turnD), .tuple (sp.map spD1)] := by
 unfold Th.sheetD Th.wsheet
 show PyData.tuple [_, _, .tuple ((sp.map Th.enc1).map Th.spotD)] = _
 rw [List.map_map]
 rfl
theorem round_L6 {s1 s8 s9 s10 : Option SV} {SW SP SN SD : SpD} (hp : PenOk m pen) (hm : m + 200 < 10000000) (hw : WordOk w fs wm) (h24 : wm ≤ 24) (hz : NamesN (fs.length + 1) zs) (hsl : sides.length = fs.length) (hsd : ∀ x ∈ sides, x = Th.sAsk ∨ x = Th.sAns) (hj : JoinOk w fs.length most sp) (h60 : most ≤ 60)
  (h : ∀ (s : Th.Sheet) pen', RoundQ most s → PenOk (m + 40) pen' → q (.frz (Th.sheetD s)) [some pen', none]) :
  g__law_round_L6 SW SP SN SD S__law_begun (endsOf P__law_round q) [some (.own pen), s1, some (.frz (.list (w.map t2D))), some (.frz (natsD fs)), some (.frz (.list (sp.map spD1))), some (.frz (.list (zs.map .str))), some (.frz (.list (sides.map .str))), some (.frz (.list ((turnsW zs w).map Th.turnD))), s8, s9, s10] := by
 have zl := hz.len
 have f6 := hw.f6
 have wl := hw.len
 obtain ⟨ws, e1, pw⟩ := sort_wiresW (wiresW zs sides fs)
 have M : MadeW w fs wm zs sides ws := ⟨hw, h24, hz.nd, hz.nm, by omega, hsl, hsd, pw⟩
 have B := M.rnd hj h60
 have hl : (wiresW zs sides fs).length ≤ 100 := by
  have := M.pw.length_eq
  have := B.ok.wl
  have e : (Th.wsheet ws (turnsW zs w) sp).wires.length = ws.length := rfl
  omega
 have hsrt : Srt ((wiresW zs sides fs).map Th.wireD) := srt_wiresW (fun x hx => by
  have := B.ok.wtx x (pw.mem_iff.mpr hx)
  exact ⟨this.1, this.2.1⟩) hl
 rw [← zip3_wires (by omega) hsl] at hsrt e1
 refine ⟨hsrt, ?_⟩
 rw [e1]
 refine ⟨tle, ⟨trivial, trivial⟩, by simp [selSlots], pen, m, Th.wsheet ws (turnsW zs w) sp, ?_, hp, by omega, B.ok, (Th.sound_word B.wsh).live, fun x pen' hx hp' => ?_⟩
 ·rw [sheet_is]
 ·obtain ⟨c, hc⟩ := B.of hx
  refine h _ pen' ⟨⟨ws, _, sp, c, hc, hj.len⟩, fun y hy => ?_⟩ (hp'.mono (by omega))
  rw [hc.eq] at hy
  obtain ⟨a, b, ha, hb, rfl⟩ := Th.mem_zipWith hy
  have := M.wire ha
  exact ⟨this.1, this.2.1⟩
end
def S__law_round (sm : Nat) : SpD := fun ds q => ∃ (pen : PyData) (m most : Nat), ds = [pen, nD most] ∧ PenOk m pen ∧ m + 2000 < 10000000 ∧ 2 ≤ most ∧ most ≤ 24 ∧ most + 10 ≤ sm ∧ sm ≤ 60 ∧ ∀ (s : Th.Sheet) pen', RoundQ sm s → PenOk (m + 300) pen' → q (.frz (Th.sheetD s)) [some pen', none]
theorem side_at {r : Int} (h0 : 0 ≤ r) (h1 : r < 2) : ∃ x : Str, (x = Th.sAsk ∨ x = Th.sAns) ∧ atI [PyData.str "ask", .str "answer"] r = some (.str x) := by
 obtain ⟨k, rfl⟩ : ∃ k : Nat, r = k := ⟨r.toNat, by omega⟩
 have hk : k < 2 := by omega
 match k, hk with
 | 0, _ => exact ⟨_, .inl rfl, rfl⟩
 | 1, _ => exact ⟨_, .inr rfl, rfl⟩
end My.Q
set_option linter.all false
set_option maxRecDepth 100000
namespace My.Q
open PySem PySem.Spec L2 Dv
theorem round_L4 {pen : PyData} {m wm most : Nat} {w : W1} {fs : List Nat} {zs : List Str} {sp : List Th.Spot1} {q : SV → Outs → Prop} {s1 : Option SV} {SW SP SN : SpD} (hp : PenOk m pen) (hm : m + 300 < 10000000) (hw : WordOk w fs wm) (h24 : wm ≤ 24) (hz : NamesN (fs.length + 1) zs) (hj : JoinOk w fs.length most sp) (h60 : most ≤ 60)
  (h : ∀ (s : Th.Sheet) pen', RoundQ most s → PenOk (m + 50) pen' → q (.frz (Th.sheetD s)) [some pen', none]) :
  g__law_round_L4 SW SP SN S__law_draw S__law_begun (endsOf P__law_round q) [some (.own pen), s1, some (.frz (.list (w.map t2D))), some (.frz (natsD fs)), some (.frz (.list (sp.map spD1))), some (.frz (.list (zs.map .str))), none, none, none, none, none] := by
 have f6 := hw.f6
 have wl := hw.len
 have zl := hz.len
 have fl : (fs.map nD).length = fs.length := List.length_map ..
 refine lc_pen 1 PyData.str (fun _ x => x = Th.sAsk ∨ x = Th.sAns) (env := fun pen => [some (.own pen), s1, some (.frz (.list (w.map t2D))), some (.frz (natsD fs)), some (.frz (.list (sp.map spD1))), some (.frz (.list (zs.map .str))), none, none, none, none, none]) hp (fun i d pen yes no hi hd hp hy => ?_) (by rw [fl]; exact Nat.le_trans (show _ ≤ 6 by omega) tle) fun sides pen2 hsl hsd hp2 => ?_
 ·rw [fl] at hi
  refine ⟨tle, ⟨trivial, trivial⟩, by simp [selSlots], pen, 2, _, rfl, hp, by omega, by omega, by omega, fun r pen' r0 r1 hp' => ?_⟩
  obtain ⟨x, hx, ex⟩ := side_at r0 r1
  exact ixL ex (hy x _ hx hp')
 rw [fl] at hsl hp2
 refine lc_map (turnF zs) (fun d hd yes no hy => ?_) (by rw [List.length_map]; exact Nat.le_trans (show _ ≤ 24 by omega) tle) ?_
 ·obtain ⟨p, hpm, rfl⟩ := List.mem_map.mp hd
  have hk := hw.wk p hpm
  have ez : zs[p.1]? = some zs[p.1] := List.getElem?_eq_getElem (by omega)
  refine ⟨rfl, ?_⟩
  refine ixL (show atI (zs.map PyData.str) ((p.1 : Nat) : Int) = some (.str zs[p.1]) from atI_nat (by rw [List.getElem?_map, ez]; rfl)) ⟨tle, ?_⟩
  have e : turnF zs (t2D p) = .tuple [.str zs[p.1], nD p.2] := by
   show PyData.tuple [.str (zs.getD ((p.1 : Nat) : Int).toNat Str.empty), nD p.2] = _
   rw [Int.toNat_natCast, List.getD_eq_getElem?_getD, ez]
   rfl
  rw [e] at hy
  exact hy
 rw [turn_map]
 exact round_L6 (SW := SW) (SP := SP) (SN := SN) (SD := S__law_draw) hp2 (by omega) hw h24 hz hsl (fun x hx => by
  obtain ⟨i, hi⟩ := List.mem_iff_getElem?.mp hx
  have hil := (List.getElem?_eq_some_iff.mp hi).1
  exact hsd i _ x (List.getElem?_eq_getElem (by rw [fl]; omega)) hi) hj h60 fun s pen' h1 h2 => h s pen' h1 (h2.mono (by omega))
theorem p__law_round (ds : List PyData) (q : SV → Outs → Prop) (h : S__law_round 34 ds q) (hl : ds.length = P__law_round.length) : g__law_round S__law_word S__law_pairs_joined S__law_names S__law_draw S__law_begun (endsOf P__law_round q) (startE N__law_round.length P__law_round ds) := by
 obtain ⟨pen, m, most, rfl, hp, hm, h2, h24, hsm, h60, h⟩ := h
 refine ⟨⟨by decide, by decide, by decide⟩, ⟨trivial, trivial⟩, by simp [selSlots], pen, m, _, most, rfl, hp, by omega, h2, by omega, fun w fs pen1 hw hp1 => ?_⟩
 have f1 := hw.f1
 have f6 := hw.f6
 have wl := hw.len
 refine ⟨rfl, ?_⟩
 refine ⟨⟨trivial, trivial⟩, by simp [selSlots], pen1, m + 60, w, fs, most, 34, rfl, hp1, by omega, hw, by omega, by omega, by omega, fun sp pen2 hj hp2 => ?_⟩
 have fl : (fs.map nD).length = fs.length := List.length_map ..
 refine ⟨⟨trivial, trivial⟩, by simp [selSlots], pen2, fs.length + 1, m + 60 + 100, ?_, hp2, by omega, by omega, fun zs pen3 hz hp3 => ?_⟩
 ·show [pen2, PyData.int ((((fs.map nD).length : Nat) : Int) + 1)] = _
  rw [fl]
  rfl
 exact round_L4 (SW := S__law_word) (SP := S__law_pairs_joined) (SN := S__law_names) hp3 (by omega) hw h24 hz hj (by omega) fun s pen' h1 h2 => h s pen' h1 (h2.mono (by omega))
end My.Q
set_option linter.all false
set_option maxRecDepth 100000
namespace My.Q
open PySem PySem.Spec L2 Dv
structure RC (n : Nat) (s : Th.Sheet) (sp : List Th.Spot1) : Prop where
 ok : Th.SheetOk s
 spt : s.spots = sp.map Th.enc1
 rnd : Th.Rnd s.turns.length sp
 len : sp.length ≤ n
theorem RoundQ.rc {n : Nat} {s : Th.Sheet} (h : RoundQ n s) : ∃ sp, RC n s sp := by
 obtain ⟨ws, ts, sp, c, hc, hl⟩ := h.ex
 refine ⟨Th.remark sp c, hc.ok', hc.spots, ?_, by unfold Th.remark; rw [List.length_map]; exact hl⟩
 rw [hc.turns]
 exact hc.rnd
theorem RoundQ.on {n : Nat} {s : Th.Sheet} (h : RoundQ n s) {x : Th.Stand} (hx : Th.Come s x) : RoundQ n (Th.begunS s x) := by
 obtain ⟨ws, ts, sp, c, hc, hl⟩ := h.ex
 obtain ⟨c', hc'⟩ := hc.on hx
 refine ⟨⟨ws, ts, sp, c', hc', hl⟩, fun y hy => ?_⟩
 obtain ⟨a, b, ha, hb, rfl⟩ := Th.mem_zipWith hy
 exact h.nm a ha
theorem RoundQ.live {n : Nat} {s : Th.Sheet} (h : RoundQ n s) : Th.Live s := let ⟨_, _, _, _, hc, _⟩ := h.ex; hc.live
theorem RC.spD {n : Nat} {s : Th.Sheet} {sp : List Th.Spot1} (h : RC n s sp) : s.spots.map Th.spotD = sp.map spD1 := by rw [h.spt, List.map_map]; rfl
def withS (s : Th.Sheet) (sp : List Th.Spot1) : Th.Sheet := ⟨s.wires, s.turns, sp.map Th.enc1⟩
theorem RC.more {n n' : Nat} {s : Th.Sheet} {sp sp' : List Th.Spot1} (h : RC n s sp) (h1 : ∀ x ∈ sp, x ∈ sp') (h2 : ∀ x ∈ sp', x ∈ sp ∨ (x.2.2 = 1 ∧ x.1 < s.turns.length ∧ x.2.1 < s.turns.length)) (hl : sp'.length ≤ n') (h60 : n' ≤ 60) : RC n' (withS s sp') sp' := by
 have R := h.rnd.more h1 h2
 refine ⟨⟨h.ok.wtx, h.ok.wnd, h.ok.wl, h.ok.ttx, h.ok.tl, fun x hx => ?_, by show (sp'.map Th.enc1).length ≤ 60; rw [List.length_map]; omega⟩, rfl, R, hl⟩
 obtain ⟨y, hy, rfl⟩ := List.mem_map.mp hx
 obtain ⟨l1, l2⟩ := R.lt y hy
 exact ⟨ris_one l1, ris_one l2, R.bit y hy⟩
theorem sheetS {s : Th.Sheet} {sp : List Th.Spot1} : Th.sheetD (withS s sp) = .tuple [.tuple (s.wires.map Th.wireD), .tuple (s.turns.map Th.turnD), .tuple (sp.map spD1)] := by
 unfold Th.sheetD withS
 show PyData.tuple [_, _, .tuple ((sp.map Th.enc1).map Th.spotD)] = _
 rw [List.map_map]
 rfl
def S__law_more (n : Nat) : SpD := fun ds q => ∃ (pen : PyData) (m : Nat) (s : Th.Sheet) (sp : List Th.Spot1) (b : Int), ds = [pen, Th.sheetD s, .int b] ∧ PenOk m pen ∧ m + 100 < 10000000 ∧ RC n s sp ∧ n + 5 ≤ 60 ∧ (b = 0 ∨ b = 1) ∧ ∀ (sp' : List Th.Spot1) pen', RC (n + 5) (withS s sp') sp' → PenOk (m + 20) pen' → q (.frz (Th.sheetD (withS s sp'))) [some pen', none, none]
structure Mr (T : Nat) (sp sp' : List Th.Spot1) : Prop where
 a : ∀ x ∈ sp, x ∈ sp'
 b : ∀ x ∈ sp', x ∈ sp ∨ (x.2.2 = 1 ∧ x.1 < T ∧ x.2.1 < T)
 lt : ∀ x ∈ sp', x.1 < T ∧ x.2.1 < T
section
variable {pen : PyData} {m n T : Nat} {s : Th.Sheet} {sp sp' : List Th.Spot1} {b : Int} {E : DEnds} {s4 s5 s6 s7 s8 : Option SV}
abbrev RMo (pen : PyData) (s : Th.Sheet) (b : Int) (sp : List Th.Spot1) (s4 s5 s6 s7 s8 : Option SV) : DEnv := [some (.own pen), some (.frz (Th.sheetD s)), some (.frz (.int b)), some (.own (.list (sp.map spD1))), s4, s5, s6, s7, s8]
theorem more_L3 (hp : PenOk m pen) (hm : m + 10 < 10000000) (t1 : 1 ≤ s.turns.length) (htl : s.turns.length ≤ 24) (hl : sp'.length ≤ 70) (M : Mr s.turns.length sp sp')
  (h : ∀ (pen' : PyData) (sp2 : List Th.Spot1) (s5 : Option SV), PenOk (m + 1) pen' → Mr s.turns.length sp sp2 → sp2.length = sp'.length + 1 → E.nx (RMo pen' s b sp2 s4 s5 s6 s7 s8)) :
  g__law_more_L3 S__law_draw E (RMo pen s b sp' s4 s5 s6 s7 s8) := by
 have tll : (s.turns.map Th.turnD).length = s.turns.length := List.length_map ..
 refine ⟨⟨trivial, trivial⟩, by simp [selSlots], pen, (((s.turns.map Th.turnD).length : Nat) : Int), _, rfl, hp, by omega, by omega, by omega, fun r pen1 r0 r1 hp1 => ?_⟩
 rw [tll] at r1
 obtain ⟨a, rfl⟩ : ∃ k : Nat, r = k := ⟨r.toNat, by omega⟩
 have ha : a < s.turns.length := by omega
 refine ⟨rfl, tle, tle, tle, by rw [List.length_map]; exact Nat.lt_of_lt_of_le (show _ < 71 by omega) tle, ?_⟩
 have fin := h pen1 (sp' ++ [(a, a, 1)]) (some (.frz (nD a))) hp1 ⟨fun x hx => List.mem_append_left _ (M.a x hx), fun x hx => ?_, fun x hx => ?_⟩ (by rw [List.length_append]; rfl)
 ·unfold RMo at fin
  rw [List.map_append] at fin
  exact fin
 ·rcases List.mem_append.mp hx with hx | hx
  ·exact M.b x hx
  ·rw [List.mem_singleton.mp hx]; exact .inr ⟨rfl, ha, ha⟩
 ·rcases List.mem_append.mp hx with hx | hx
  ·exact M.lt x hx
  ·rw [List.mem_singleton.mp hx]; exact ⟨ha, ha⟩
theorem more_L6 (hp : PenOk m pen) (hm : m + 10 < 10000000) (hl : sp'.length ≤ 70) (h0 : sp' ≠ []) (M : Mr s.turns.length sp sp')
  (h : ∀ (pen' : PyData) (sp2 : List Th.Spot1) (s6 s7 s8 : Option SV), PenOk (m + 2) pen' → Mr s.turns.length sp sp2 → sp2.length = sp'.length + 1 → E.nx (RMo pen' s b sp2 s4 s5 s6 s7 s8)) :
  g__law_more_L6 S__law_draw E (RMo pen s b sp' s4 s5 s6 s7 s8) := by
 have l0 := List.length_pos_iff.mpr h0
 have sl : (sp'.map spD1).length = sp'.length := List.length_map ..
 refine ⟨⟨trivial, trivial⟩, by simp [selSlots], pen, (((sp'.map spD1).length : Nat) : Int), _, rfl, hp, by omega, by omega, by omega, fun r pen1 r0 r1 hp1 => ?_⟩
 rw [sl] at r1
 obtain ⟨x, e1, e2⟩ := at_map (f := spD1) r0 r1
 have hx := List.mem_of_getElem? e2
 refine ixL e1 ⟨rfl, ?_⟩
 refine ⟨rfl, ⟨trivial, trivial⟩, by simp [selSlots], pen1, (((sp'.map spD1).length : Nat) : Int) + 1, _, rfl, hp1, by omega, by omega, by omega, fun r' pen2 r0' r1' hp2 => ?_⟩
 rw [sl] at r1'
 obtain ⟨j, rfl⟩ : ∃ k : Nat, r' = k := ⟨r'.toNat, by omega⟩
 refine ⟨tle, by rw [sl]; exact Nat.lt_of_lt_of_le (show _ < 71 by omega) tle, by omega, by omega, ?_⟩
 have fin := h pen2 (sp'.take j ++ [(x.1, x.2.1, 1)] ++ sp'.drop j) (some (.frz (.tuple [nD x.1]))) (some (.frz (.tuple [nD x.2.1]))) (some (.frz (.int x.2.2))) hp2 ⟨fun y hy => ?_, fun y hy => ?_, fun y hy => ?_⟩ ?_
 ·unfold RMo at fin
  rw [List.map_append, List.map_append, List.map_take, List.map_drop] at fin
  exact fin
 ·have := M.a y hy
  rw [← List.take_append_drop j sp'] at this
  rcases List.mem_append.mp this with z | z
  ·exact List.mem_append_left _ (List.mem_append_left _ z)
  ·exact List.mem_append_right _ z
 ·rcases List.mem_append.mp hy with hy | hy
  ·rcases List.mem_append.mp hy with hy | hy
   ·exact M.b y (List.mem_of_mem_take hy)
   ·rw [List.mem_singleton.mp hy]; exact .inr ⟨rfl, M.lt x hx⟩
  ·exact M.b y (List.mem_of_mem_drop hy)
 ·rcases List.mem_append.mp hy with hy | hy
  ·rcases List.mem_append.mp hy with hy | hy
   ·exact M.lt y (List.mem_of_mem_take hy)
   ·rw [List.mem_singleton.mp hy]; exact M.lt x hx
  ·exact M.lt y (List.mem_of_mem_drop hy)
 ·rw [List.length_append, List.length_append, List.length_take, List.length_drop, List.length_singleton]; omega
end
theorem p__law_more (n : Nat) (ds : List PyData) (q : SV → Outs → Prop) (h : S__law_more n ds q) (hl : ds.length = P__law_more.length) : g__law_more S__law_draw (endsOf P__law_more q) (startE N__law_more.length P__law_more ds) := by
 obtain ⟨pen, m, s, sp, b, rfl, hp, hm, hR, hn, hb, h⟩ := h
 have hsl := hR.len
 have htl := hR.ok.tl
 have t1 := hR.rnd.t1
 have ne := List.length_pos_iff.mpr hR.rnd.ne
 show g__law_more_L2 S__law_draw (endsOf P__law_more q) [some (.own pen), some (.frz (Th.sheetD s)), some (.frz (.int b)), some (.own (.list (s.spots.map Th.spotD))), none, none, none, none, none]
 rw [hR.spD]
 refine ⟨⟨trivial, trivial⟩, by simp [selSlots], pen, 3, m, rfl, hp, by omega, by omega, by omega, fun r pen1 r0 r1 hp1 => ?_⟩
 obtain ⟨r, rfl⟩ : ∃ k : Nat, r = k := ⟨r.toNat, by omega⟩
 refine ⟨by omega, by omega, ?_⟩
 refine loop_ix (fun i ρ => ∃ (pen : PyData) (sp' : List Th.Spot1) (s4 s5 : Option SV), PenOk (m + 1 + i) pen ∧ Mr s.turns.length sp sp' ∧ sp'.length = sp.length + i ∧ ρ = RMo pen s b sp' s4 s5 none none none) (fun i d ρ nx hd hI hnx => ?_) ⟨pen1, sp, none, none, hp1, ⟨fun x hx => hx, fun x hx => .inl hx, hR.rnd.lt⟩, rfl, rfl⟩ (fun ρ hI => ?_)
 ·obtain ⟨pen, sp', s4, s5, hp, M, hl2, rfl⟩ := hI
  obtain ⟨hi, rfl⟩ := range_at hd
  have hi : i < r := by simpa using hi
  exact more_L3 hp (by omega) t1 htl (by omega) M fun pen' sp2 s5' e1 e2 e3 => hnx _ ⟨pen', sp2, _, s5', e1, e2, by omega, rfl⟩
 ·obtain ⟨pen, sp', s4, s5, hp, M, hl2, rfl⟩ := hI
  rw [range_len, Int.toNat_natCast] at hp hl2
  refine ⟨⟨trivial, trivial⟩, by simp [selSlots], pen, 4, _, rfl, hp, by omega, by omega, by omega, fun r2 pen2 r20 r21 hp2 => ?_⟩
  have hbr : 0 ≤ b * r2 ∧ b * r2 ≤ 3 := by
   rcases hb with rfl | rfl
   ·rw [Int.zero_mul]; omega
   ·rw [Int.one_mul]; omega
  refine ⟨.inl (by rcases hb with rfl | rfl <;> decide), ?_⟩
  generalize b * r2 = r3 at hbr
  obtain ⟨r3, rfl⟩ : ∃ k : Nat, r3 = k := ⟨r3.toNat, by omega⟩
  refine ⟨by omega, by omega, ?_⟩
  refine loop_ix (fun i ρ => ∃ (pen : PyData) (sp2 : List Th.Spot1) (s4 s6 s7 s8 : Option SV), PenOk (m + 1 + r + 1 + 2 * i) pen ∧ Mr s.turns.length sp sp2 ∧ sp2.length = sp'.length + i ∧ ρ = RMo pen s b sp2 s4 s5 s6 s7 s8) (fun i d ρ nx hd hI hnx => ?_) ⟨pen2, sp', s4, none, none, none, hp2, M, rfl, rfl⟩ (fun ρ hI => ?_)
  ·obtain ⟨pen, sp2, s4, s6, s7, s8, hp, M2, hl3, rfl⟩ := hI
   obtain ⟨hi, rfl⟩ := range_at hd
   have hi : i < r3 := by simpa using hi
   refine more_L6 hp (by omega) (by omega) (fun e => ?_) M2 fun pen' sp3 s6' s7' s8' e1 e2 e3 => hnx _ ⟨pen', sp3, _, s6', s7', s8', e1, e2, by omega, rfl⟩
   rw [e] at hl3
   simp at hl3
   omega
  ·obtain ⟨pen, sp2, s4, s6, s7, s8, hp, M2, hl3, rfl⟩ := hI
   rw [range_len, Int.toNat_natCast] at hp hl3
   have fin := h sp2 pen (hR.more M2.a M2.b (n' := n + 5) (by omega) hn) (hp.mono (by omega))
   rw [sheetS] at fin
   exact ⟨tle, fin⟩
end My.Q
set_option linter.all false
set_option maxRecDepth 100000
namespace My.Q
open PySem PySem.Spec L2 Dv
def DlOk (T : Nat) (dl : List Int) : Prop := dl.length = T ∧ ∀ d ∈ dl, 0 ≤ d ∧ d ≤ 1000000
def S__law_delays : SpD := fun ds q => ∃ (pen : PyData) (m : Nat) (s : Th.Sheet), ds = [pen, Th.sheetD s] ∧ PenOk m pen ∧ m + 1000 < 10000000 ∧ Th.SheetOk s ∧ ∀ (dl : List Int) pen', DlOk s.turns.length dl → PenOk (m + 100) pen' → q (.frz (.tuple (dl.map .int))) [some pen', none]
theorem five_at {a b c d e r : Int} (h0 : 0 ≤ r) (h1 : r < 5) {P : Int → Prop} (ha : P a) (hb : P b) (hc : P c) (hd : P d) (he : P e) : ∃ x : Int, P x ∧ atI [PyData.int a, .int b, .int c, .int d, .int e] r = some (.int x) := by
 obtain ⟨k, rfl⟩ : ∃ k : Nat, r = k := ⟨r.toNat, by omega⟩
 have hk : k < 5 := by omega
 match k, hk with
 | 0, _ => exact ⟨_, ha, rfl⟩
 | 1, _ => exact ⟨_, hb, rfl⟩
 | 2, _ => exact ⟨_, hc, rfl⟩
 | 3, _ => exact ⟨_, hd, rfl⟩
 | 4, _ => exact ⟨_, he, rfl⟩
theorem two_at {r : Int} (h0 : 0 ≤ r) (h1 : r < 2) : ∃ x : Int, (0 ≤ x ∧ x ≤ 1000000) ∧ atI [PyData.int 0, .int 1000000] r = some (.int x) := by
 obtain ⟨k, rfl⟩ : ∃ k : Nat, r = k := ⟨r.toNat, by omega⟩
 have hk : k < 2 := by omega
 match k, hk with
 | 0, _ => exact ⟨_, by decide, rfl⟩
 | 1, _ => exact ⟨_, by decide, rfl⟩
theorem delays_L5 {E : DEnds} {pen : PyData} {m : Nat} {s1 s5 s6 : Option SV} {way al : Int} {dl : List Int} (hp : PenOk m pen) (hm : m + 10 < 10000000) (w0 : 0 ≤ way) (w1 : way < 5) (a0 : 0 ≤ al ∧ al ≤ 1000000) (hl : dl.length ≤ 50)
  (h : ∀ (pen' : PyData) (x : Int) (s6 : Option SV), PenOk (m + 3) pen' → 0 ≤ x ∧ x ≤ 1000000 → E.nx [some (.own pen'), s1, some (.frz (.int way)), some (.frz (.int al)), some (.own (.list ((dl ++ [x]).map .int))), s5, s6]) :
  g__law_delays_L5 S__law_draw E [some (.own pen), s1, some (.frz (.int way)), some (.frz (.int al)), some (.own (.list (dl.map .int))), s5, s6] := by
 refine ⟨⟨trivial, trivial⟩, by simp [selSlots], pen, 10, _, rfl, hp, by omega, by omega, by omega, fun x1 pen1 x10 x11 hp1 => ?_⟩
 refine ⟨⟨trivial, trivial⟩, by simp [selSlots], pen1, 1000001, _, rfl, hp1, by omega, by omega, by omega, fun x2 pen2 x20 x21 hp2 => ?_⟩
 refine ⟨tle, ⟨trivial, trivial⟩, by simp [selSlots], pen2, 2, _, rfl, hp2, by omega, by omega, by omega, fun x3 pen3 x30 x31 hp3 => ?_⟩
 obtain ⟨y, hy, ey⟩ := two_at x30 x31
 refine ixL ey ⟨tle, ?_⟩
 show g__law_delays_L6 S__law_draw E [some (.own pen3), s1, some (.frz (.int way)), some (.frz (.int al)), some (.own (.list (dl.map .int))), s5, some (.frz (.list [.int 0, .int al, .int x1, .int x2, .int y]))]
 obtain ⟨z, hz, ez⟩ := five_at (a := 0) (b := al) (c := x1) (d := x2) (e := y) w0 w1 (P := fun x => 0 ≤ x ∧ x ≤ 1000000) (by decide) a0 (by omega) (by omega) hy
 refine ⟨rfl, ?_⟩
 refine ixL ez ⟨by rw [List.length_map]; exact Nat.lt_of_lt_of_le (show _ < 51 by omega) tle, ?_⟩
 have := h pen3 z (some (.frz (.list [.int 0, .int al, .int x1, .int x2, .int y]))) hp3 hz
 rw [List.map_append] at this
 exact this
theorem p__law_delays (ds : List PyData) (q : SV → Outs → Prop) (h : S__law_delays ds q) (hl : ds.length = P__law_delays.length) : g__law_delays S__law_draw (endsOf P__law_delays q) (startE N__law_delays.length P__law_delays ds) := by
 obtain ⟨pen, m, s, rfl, hp, hm, hs, h⟩ := h
 have htl := hs.tl
 refine ⟨⟨trivial, trivial⟩, by simp [selSlots], pen, 5, _, rfl, hp, by omega, by omega, by omega, fun way pen1 w0 w1 hp1 => ?_⟩
 refine ⟨⟨trivial, trivial⟩, by simp [selSlots], pen1, 1000001, _, rfl, hp1, by omega, by omega, by omega, fun al pen2 a0 a1 hp2 => ?_⟩
 refine ⟨tle, ?_⟩
 refine loop_ix (fun i ρ => ∃ (pen : PyData) (dl : List Int) (s5 s6 : Option SV), PenOk (m + 2 + 3 * i) pen ∧ dl.length = i ∧ (∀ d ∈ dl, 0 ≤ d ∧ d ≤ 1000000) ∧ ρ = [some (.own pen), some (.frz (Th.sheetD s)), some (.frz (.int way)), some (.frz (.int al)), some (.own (.list (dl.map .int))), s5, s6]) (fun i d ρ nx hd hI hnx => ?_) ⟨pen2, [], none, none, hp2, rfl, fun d hd => (by cases hd), rfl⟩ (fun ρ hI => ?_)
 ·obtain ⟨pen, dl, s5, s6, hp, hdl, hd2, rfl⟩ := hI
  have hi := (List.getElem?_eq_some_iff.mp hd).1
  rw [List.length_map] at hi
  exact delays_L5 hp (by omega) w0 w1 ⟨a0, by omega⟩ (by omega) fun pen' x s6' e1 e2 => hnx _ ⟨pen', dl ++ [x], _, s6', e1, by rw [List.length_append, hdl]; rfl, fun d hd => by
   rcases List.mem_append.mp hd with hd | hd
   ·exact hd2 d hd
   ·rw [List.mem_singleton.mp hd]; exact e2, rfl⟩
 ·obtain ⟨pen, dl, s5, s6, hp, hdl, hd2, rfl⟩ := hI
  rw [List.length_map] at hdl hp
  exact h dl pen ⟨hdl, hd2⟩ (hp.mono (by omega))
end My.Q
set_option linter.all false
set_option maxRecDepth 100000
namespace My.Q
open PySem PySem.Spec L2 Dv
theorem SortB_len {l : List Nat} {T : Nat} (nd : l.Nodup) (h : ∀ j ∈ l, j < T) : l.length ≤ T := by
 have := Th.nodup_le nd (m := List.range T) fun x hx => List.mem_range.mpr (h x hx)
 rw [List.length_range] at this
 exact this
structure SC (s : Th.Sheet) (sp : List Th.Spot1) : Prop where
 ok : Th.SheetOk s
 spt : s.spots = sp.map Th.enc1
 lt : ∀ x ∈ sp, x.1 < s.turns.length ∧ x.2.1 < s.turns.length
 bit : ∀ x ∈ sp, Th.Bit x.2.2
theorem RC.sc {n : Nat} {s : Th.Sheet} {sp : List Th.Spot1} (h : RC n s sp) : SC s sp := ⟨h.ok, h.spt, h.rnd.lt, h.rnd.bit⟩
theorem SC.spD {s : Th.Sheet} {sp : List Th.Spot1} (h : SC s sp) : s.spots.map Th.spotD = sp.map spD1 := by rw [h.spt, List.map_map]; rfl
theorem SC.len {s : Th.Sheet} {sp : List Th.Spot1} (h : SC s sp) : sp.length ≤ 60 := by
 have := h.ok.sl
 rw [h.spt, List.length_map] at this
 exact this
def edB (sp : List Th.Spot1) (b : Bool) (a c : Nat) : Prop := ∃ m, (a, c, m) ∈ sp ∧ (b = true → m = 0)
theorem any_nat (l : List Nat) (k : Nat) : ((l.map nD).any fun x => PyData.eqv x (nD k)) = decide (k ∈ l) := by
 induction l with
 | nil => simp
 | cons a l ih =>
  rw [List.map_cons, List.any_cons, ih]
  show (PyData.eqv (.int (a : Nat)) (.int (k : Nat)) || decide (k ∈ l)) = _
  rw [Th.eqv_int, ← Bool.decide_or]
  refine decide_eq_decide.mpr ?_
  rw [List.mem_cons]
  constructor
  ·rintro (h | h)
   ·left; omega
   ·exact .inr h
  ·rintro (h | h)
   ·left; omega
   ·exact .inr h
theorem flat_nat (l : List Nat) : (l.map nD).all flatD = true := by
 rw [List.all_map]; exact List.all_eq_true.mpr fun _ _ => rfl
theorem shp_nats (l : List Nat) : shp (natsD l) := (Shp.list (n := 0) fun d hd => by obtain ⟨i, _, rfl⟩ := List.mem_map.mp hd; exact Shp.int _).shp
theorem nats_empty (l : List Nat) : PyData.eqv (natsD l) (.list []) = decide (l = []) := by cases l <;> rfl
def S_led_from : SpD := fun ds q => ∃ (s : Th.Sheet) (sp : List Th.Spot1) (k : Nat) (b : Bool), ds = [Th.sheetD s, nD k, .bool b] ∧ SC s sp ∧ k < s.turns.length ∧ ∀ l : List Nat, l.Nodup → (∀ j ∈ l, j < s.turns.length) → (∀ j, j ∈ l ↔ Th.Plus (edB sp b) k j) → q (.own (natsD l)) [none, none, none]
structure Led (sp : List Th.Spot1) (b : Bool) (T k : Nat) (l st : List Nat) : Prop where
 nd : l.Nodup
 lt : ∀ j ∈ l, j < T
 p : ∀ j ∈ l, Th.Plus (edB sp b) k j
 inn : ∀ j ∈ st, j = k ∨ j ∈ l
 done : ∀ a, a = k ∨ a ∈ l → a ∈ st ∨ ∀ c, edB sp b a c → c ∈ l
theorem Led.fin {sp : List Th.Spot1} {b : Bool} {T k : Nat} {l : List Nat} (h : Led sp b T k l []) : ∀ j, j ∈ l ↔ Th.Plus (edB sp b) k j := fun j => by
 refine ⟨h.p j, fun p => ?_⟩
 induction p with
 | one e => exact ((h.done k (.inl rfl)).resolve_left (by simp)) _ e
 | more _ e ih => exact ((h.done _ (.inr ih)).resolve_left (by simp)) _ e
structure LedI (sp : List Th.Spot1) (b : Bool) (T k : Nat) (l st : List Nat) (here i : Nat) (l' st' : List Nat) : Prop where
 nd : l'.Nodup
 lt : ∀ j ∈ l', j < T
 p : ∀ j ∈ l', Th.Plus (edB sp b) k j
 sub : ∀ j ∈ l, j ∈ l'
 st0 : ∀ j ∈ st, j ∈ st'
 st1 : ∀ j ∈ st', j ∈ st ∨ j ∈ l'
 new : ∀ j ∈ l', j ∈ l ∨ j ∈ st'
 seen : ∀ x ∈ sp.take i, x.1 = here → (b = true → x.2.2 = 0) → x.2.1 ∈ l'
 ms : st'.length + l.length = st.length + l'.length
section
variable {s : Th.Sheet} {sp : List Th.Spot1} {b : Bool} {T k here i : Nat} {l st l' st' : List Nat} {x : Th.Spot1}
theorem LedI.skip (h : LedI sp b T k l st here i l' st') (ex : sp[i]? = some x) (hx : x.1 = here → (b = true → x.2.2 = 0) → x.2.1 ∈ l') : LedI sp b T k l st here (i + 1) l' st' := by
 refine ⟨h.nd, h.lt, h.p, h.sub, h.st0, h.st1, h.new, fun y hy e1 e2 => ?_, h.ms⟩
 rw [List.take_add_one, ex] at hy
 rcases List.mem_append.mp hy with hy | hy
 ·exact h.seen y hy e1 e2
 ·simp at hy; subst hy; exact hx e1 e2
theorem LedI.add (h : LedI sp b T k l st here i l' st') (ex : sp[i]? = some x) (hlt : x.2.1 < T) (pk : here = k ∨ here ∈ l) (e1 : x.1 = here) (e2 : b = true → x.2.2 = 0) (hn : x.2.1 ∉ l') : LedI sp b T k l st here (i + 1) (l' ++ [x.2.1]) (st' ++ [x.2.1]) := by
 have ed : edB sp b here x.2.1 := ⟨x.2.2, by rw [← e1]; exact List.mem_of_getElem? ex, e2⟩
 refine ⟨?_, fun j hj => ?_, fun j hj => ?_, fun j hj => List.mem_append_left _ (h.sub j hj), fun j hj => List.mem_append_left _ (h.st0 j hj), fun j hj => ?_, fun j hj => ?_, fun y hy e1 e2 => ?_, ?_⟩
 ·rw [List.nodup_append]
  refine ⟨h.nd, by simp, fun a ha c hc => ?_⟩
  rw [List.mem_singleton.mp hc]
  intro e; exact hn (e ▸ ha)
 ·rcases List.mem_append.mp hj with hj | hj
  ·exact h.lt j hj
  ·rw [List.mem_singleton.mp hj]; exact hlt
 ·rcases List.mem_append.mp hj with hj | hj
  ·exact h.p j hj
  ·rw [List.mem_singleton.mp hj]
   rcases pk with rfl | pk
   ·exact .one ed
   ·exact .more (h.p _ (h.sub _ pk)) ed
 ·rcases List.mem_append.mp hj with hj | hj
  ·exact (h.st1 j hj).imp id fun z => List.mem_append_left _ z
  ·exact .inr (List.mem_append_right _ hj)
 ·rcases List.mem_append.mp hj with hj | hj
  ·exact (h.new j hj).imp id fun z => List.mem_append_left _ z
  ·exact .inr (List.mem_append_right _ hj)
 ·rw [List.take_add_one, ex] at hy
  rcases List.mem_append.mp hy with hy | hy
  ·exact List.mem_append_left _ (h.seen y hy e1 e2)
  ·simp at hy; subst hy; exact List.mem_append_right _ (by simp)
 ·have := h.ms
  rw [List.length_append, List.length_append, List.length_singleton]
  omega
theorem LedI.out (h0 : Led sp b T k l (st ++ [here])) (h : LedI sp b T k l st here sp.length l' st') : Led sp b T k l' st' := by
 refine ⟨h.nd, h.lt, h.p, fun j hj => ?_, fun a ha => ?_⟩
 ·rcases h.st1 j hj with z | z
  ·exact (h0.inn j (List.mem_append_left _ z)).imp id fun z => h.sub j z
  ·exact .inr z
 ·have key : ∀ c, edB sp b here c → c ∈ l' := fun c ⟨m, hm, e⟩ => h.seen (here, c, m) (by rw [List.take_length]; exact hm) rfl e
  have old : (a = k ∨ a ∈ l) → a ∈ st' ∨ ∀ c, edB sp b a c → c ∈ l' := fun ha => by
   rcases h0.done a ha with z | z
   ·rcases List.mem_append.mp z with z | z
    ·exact .inl (h.st0 a z)
    ·rw [List.mem_singleton.mp z]; exact .inr key
   ·exact .inr fun c e => h.sub c (z c e)
  rcases ha with ha | ha
  ·exact old (.inl ha)
  ·rcases h.new a ha with z | z
   ·exact old (.inr z)
   ·exact .inl z
theorem led_L6 {E : DEnds} {s5 : Option SV} (hS : SC s sp) (ex : sp[i]? = some x) (h : LedI sp b s.turns.length k l st here i l' st') (hl : l'.length ≤ 100) (hst : st'.length ≤ 200)
  (hno : x.1 = here ∧ (b = true → x.2.2 = 0) ∧ x.2.1 ∉ l' → E.nx [some (.frz (Th.sheetD s)), some (.frz (nD k)), some (.frz (.bool b)), some (.own (natsD (l' ++ [x.2.1]))), some (.own (natsD (st' ++ [x.2.1]))), some (.frz (nD here)), some (.frz (.tuple [nD x.1])), some (.frz (.tuple [nD x.2.1])), some (.frz (.int x.2.2))])
  (hy : (x.1 = here → (b = true → x.2.2 = 0) → x.2.1 ∈ l') → E.nx [some (.frz (Th.sheetD s)), some (.frz (nD k)), some (.frz (.bool b)), some (.own (natsD l')), some (.own (natsD st')), some (.frz (nD here)), some (.frz (.tuple [nD x.1])), some (.frz (.tuple [nD x.2.1])), some (.frz (.int x.2.2))]) :
  g_led_from_L6 E [some (.frz (Th.sheetD s)), some (.frz (nD k)), some (.frz (.bool b)), some (.own (natsD l')), some (.own (natsD st')), some (.frz (nD here)), some (.frz (.tuple [nD x.1])), some (.frz (.tuple [nD x.2.1])), some (.frz (.int x.2.2))] := by
 have app : ∀ (a : List Nat) (c : Nat), natsD (a ++ [c]) = .list (a.map nD ++ [nD c]) := fun a c => by unfold natsD; rw [List.map_append]; rfl
 refine ⟨shp_int _, shp_int _, ?_⟩
 show by2 (PyData.eqv (.int ((x.1 : Nat) : Int)) (.int ((here : Nat) : Int))) _ _
 rw [Th.eqv_int]
 refine by2_d (fun c1 => ?_) (fun c1 => nx_of (hy fun e => absurd (by omega) c1))
 refine ⟨rfl, flat_nat _, ?_⟩
 show by2 (!((l'.map nD).any fun y => PyData.eqv y (nD x.2.1))) _ _
 rw [any_nat]
 refine by2_nd (fun c2 => ?_) (fun c2 => nx_of (hy fun _ _ => c2))
 have e1 : x.1 = here := by omega
 have go : (b = true → x.2.2 = 0) → (dSeq (dDrop (dMut P_led_from "list" 3 appendD (dCons (dBin ixD (dVar 7) (dC (.int 0))) dNil))) g_led_from_L8) E [some (.frz (Th.sheetD s)), some (.frz (nD k)), some (.frz (.bool b)), some (.own (natsD l')), some (.own (natsD st')), some (.frz (nD here)), some (.frz (.tuple [nD x.1])), some (.frz (.tuple [nD x.2.1])), some (.frz (.int x.2.2))] := fun e2 => by
  have fin := hno ⟨e1, e2, c2⟩
  rw [app, app] at fin
  refine ⟨rfl, by rw [List.length_map]; exact Nat.lt_of_lt_of_le (show _ < 101 by omega) tle, ?_⟩
  exact ⟨rfl, by rw [List.length_map]; exact Nat.lt_of_lt_of_le (show _ < 201 by omega) tle, fin⟩
 refine ⟨shp_int _, shp_int _, ?_⟩
 show by2 (PyData.eqv (.int x.2.2) (.int 0)) _ _
 rw [Th.eqv_int]
 refine by2_d (fun c3 => ?_) (fun c3 => ?_)
 ·exact go fun _ => c3
 ·cases b with
  | true => exact nx_of (hy fun _ z => absurd (z rfl) c3)
  | false => exact go fun z => by cases z
end
theorem p_led_from (ds : List PyData) (q : SV → Outs → Prop) (h : S_led_from ds q) (hl : ds.length = P_led_from.length) : g_led_from (endsOf P_led_from q) (startE N_led_from.length P_led_from ds) := by
 obtain ⟨s, sp, k, b, rfl, hS, hk, h⟩ := h
 have hsl := hS.len
 have htl := hS.ok.tl
 have lbd : ∀ {l : List Nat}, l.Nodup → (∀ j ∈ l, j < s.turns.length) → l.length ≤ s.turns.length := fun {l} nd hl => by
  have := SortB_len nd hl
  exact this
 refine ⟨tle, tle, ?_⟩
 refine ⟨fun ms ρ => ∃ (l st : List Nat) (s5 s6 s7 s8 : Option SV), Led sp b s.turns.length k l st ∧ st.length ≤ l.length + 1 ∧ ms + l.length + l.length = st.length + 2 * s.turns.length ∧ ρ = [some (.frz (Th.sheetD s)), some (.frz (nD k)), some (.frz (.bool b)), some (.own (natsD l)), some (.own (natsD st)), s5, s6, s7, s8],
  ⟨1 + 2 * s.turns.length, [], [k], none, none, none, none, ⟨List.nodup_nil, fun j hj => (by cases hj), fun j hj => (by cases hj), fun j hj => .inl (List.mem_singleton.mp hj), fun a ha => .inl (ha.elim (fun e => by rw [e]; simp) (fun z => by cases z))⟩, by simp, by simp, rfl⟩, ?_⟩
 rintro ms ρ ⟨l, st, s5, s6, s7, s8, hL, hst, hms, rfl⟩
 refine ⟨tle, shp_nats _, rfl, ?_⟩
 show by2 (!PyData.eqv (natsD st) (.list [])) _ _
 rw [nats_empty]
 refine by2_nd (fun c => ?_) (fun c => ?_)
 ·obtain ⟨us, here, rfl⟩ : ∃ us w, st = us ++ [w] := ⟨st.dropLast, st.getLast c, (List.dropLast_concat_getLast c).symm⟩
  have pk : here = k ∨ here ∈ l := hL.inn here (by simp)
  have ll := lbd hL.nd hL.lt
  rw [List.length_append, List.length_singleton] at hms hst
  unfold natsD
  rw [List.map_append]
  refine ⟨rfl, ?_⟩
  show (match (us.map nD ++ [nD here]).getLast? with | some z => _ | none => False)
  rw [List.getLast?_concat]
  show g_led_from_L5 _ [some (.frz (Th.sheetD s)), some (.frz (nD k)), some (.frz (.bool b)), some (.own (.list (l.map nD))), some (.own (.list (us.map nD ++ [nD here]).dropLast)), some (.frz (nD here)), s6, s7, s8]
  rw [List.dropLast_concat]
  show dLoop _ g_led_from_L6 _ (s.spots.map Th.spotD) _
  rw [hS.spD]
  refine loop_ix (fun i ρ => ∃ (l' st' : List Nat) (s6 s7 s8 : Option SV), LedI sp b s.turns.length k l us here i l' st' ∧ ρ = [some (.frz (Th.sheetD s)), some (.frz (nD k)), some (.frz (.bool b)), some (.own (natsD l')), some (.own (natsD st')), some (.frz (nD here)), s6, s7, s8]) (fun i d ρ nx hd hI hnx => ?_) ⟨l, us, s6, s7, s8, ⟨hL.nd, hL.lt, hL.p, fun j hj => hj, fun j hj => hj, fun j hj => .inl hj, fun j hj => .inl hj, fun x hx => by simp at hx, rfl⟩, rfl⟩ (fun ρ hI => ?_)
  ·obtain ⟨l', st', s6, s7, s8, hI, rfl⟩ := hI
   rw [List.getElem?_map] at hd
   cases ex : sp[i]? with
   | none => rw [ex] at hd; cases hd
   | some x =>
    rw [ex] at hd
    cases hd
    have l2 := lbd hI.nd hI.lt
    have m2 := hI.ms
    have m3 := Th.nodup_le hL.nd hI.sub
    refine ⟨rfl, ?_⟩
    refine led_L6 (s5 := none) hS ex hI (by omega) (by omega) (fun ⟨e1, e2, e3⟩ => ?_) fun e => ?_
    ·exact hnx _ ⟨_, _, _, _, _, hI.add ex (hS.lt x (List.mem_of_getElem? ex)).2 pk e1 e2 e3, rfl⟩
    ·exact hnx _ ⟨_, _, _, _, _, hI.skip ex e, rfl⟩
  ·obtain ⟨l', st', s6, s7, s8, hI, rfl⟩ := hI
   rw [List.length_map] at hI
   have l2 := lbd hI.nd hI.lt
   have m2 := hI.ms
   have m3 := Th.nodup_le hL.nd hI.sub
   have hL2 := LedI.out hL hI
   exact ⟨ms - 1 - (l'.length - l.length), by omega, l', st', _, _, _, _, hL2, by omega, by omega, rfl⟩
 ·subst c
  exact ⟨nofun, h l hL.nd hL.lt hL.fin⟩
end My.Q
set_option linter.all false
set_option maxRecDepth 100000
namespace My.Q
open PySem PySem.Spec L2 Dv
theorem lc_mapR {α : Type} {P : List Bool} {g : DG} {tt : DT} {te : DE} {vs : List Nat} {Q : PyData → DEnv → Prop} {env : DEnv} (encA : α → PyData) (f : α → PyData) {xs : List α}
  (h : ∀ x ∈ xs, ∀ (yes : PyData → DEnv → Prop) (no : DEnv → Prop), yes (f x) env → turnE P g tt te vs env (encA x) yes no) (hl : xs.length ≤ 100000) (hq : Q (.list (xs.map f)) env) : dLcL P g tt te vs Q (xs.map encA) [] env := by
 refine lc_ix (fun acc ρ => acc = (xs.take acc.length).map f ∧ ρ = env) (fun acc d ρ yes no hd hI hy => ?_) ⟨rfl, rfl⟩ (by rw [List.length_map]; exact Nat.le_trans hl tle) (fun acc ρ hI hlen => ?_)
 ·obtain ⟨e, rfl⟩ := hI
  rw [List.getElem?_map] at hd
  cases er : xs[acc.length]? with
  | none => rw [er] at hd; cases hd
  | some x =>
   rw [er] at hd
   cases hd
   refine h x (List.mem_of_getElem? er) yes no (hy _ _ ⟨?_, rfl⟩)
   rw [List.length_append, List.length_singleton, List.take_add_one, er, List.map_append]
   conv => lhs; rw [e]
   rfl
 ·obtain ⟨e, rfl⟩ := hI
  rw [List.length_map] at hlen
  rw [hlen, List.take_length] at e
  rw [e]
  exact hq
theorem lc_someR {α β : Type} {P : List Bool} {g : DG} {tt : DT} {te : DE} {vs : List Nat} {Q : PyData → DEnv → Prop} {ρ : DEnv} (encA : α → PyData) (encB : β → PyData) (f : α → β) (c : α → Bool) {xs : List α}
  (h : ∀ x ∈ xs, ∀ (yes : PyData → DEnv → Prop) (no : DEnv → Prop), (c x = true → yes (encB (f x)) ρ) → (c x = false → no ρ) → turnE P g tt te vs ρ (encA x) yes no) (hl : xs.length ≤ 1000) (hq : Q (.list (((xs.filter c).map f).map encB)) ρ) : dLcL P g tt te vs Q (xs.map encA) [] ρ := by
 suffices z : ∀ (xs : List α) (acc : List PyData), (∀ x ∈ xs, ∀ (yes : PyData → DEnv → Prop) (no : DEnv → Prop), (c x = true → yes (encB (f x)) ρ) → (c x = false → no ρ) → turnE P g tt te vs ρ (encA x) yes no) → acc.length + xs.length ≤ 1000 → Q (.list (acc ++ ((xs.filter c).map f).map encB)) ρ → dLcL P g tt te vs Q (xs.map encA) acc ρ from z xs [] h (by simpa using hl) (by simpa using hq)
 intro xs
 induction xs with
 | nil => intro acc _ _ hq; show Q (.list acc) ρ; simpa using hq
 | cons x xs ih =>
  intro acc h hl hq
  rw [List.length_cons] at hl
  rw [List.map_cons]
  refine lc_turn (h x List.mem_cons_self _ _ (fun e => ⟨Nat.lt_of_lt_of_le (show _ < 1001 by omega) tle, ih _ (fun y hy => h y (List.mem_cons_of_mem _ hy)) (by rw [List.length_append, List.length_singleton]; omega) ?_⟩) (fun e => ih _ (fun y hy => h y (List.mem_cons_of_mem _ hy)) (by omega) ?_))
  ·rw [List.filter_cons, if_pos e] at hq
   rw [List.append_assoc]
   exact hq
  ·rw [List.filter_cons, if_neg (by rw [e]; decide)] at hq
   exact hq
theorem range_nats (n : Nat) : rangeD 0 ((n : Nat) : Int).toNat = (List.range n).map nD := by
 unfold rangeD
 rw [Int.toNat_natCast]
 refine List.map_congr_left fun i _ => ?_
 show PyData.int (0 + ((i : Nat) : Int)) = _
 rw [Int.zero_add]; rfl
theorem shp_sp1 (x : Th.Spot1) : Shp 2 (spD1 x) := by
 have one : ∀ k : Int, Shp 1 (.tuple [.int k]) := fun k => Shp.tuple (n := 0) fun d hd => by simp at hd; subst hd; exact Shp.int _
 refine Shp.tuple (n := 1) (ds := [.tuple [nD x.1], .tuple [nD x.2.1], .int x.2.2]) fun d hd => ?_
 simp at hd
 rcases hd with rfl | rfl | rfl
 ·exact one _
 ·exact one _
 ·exact (Shp.int _).mono
theorem shp_sps (sp : List Th.Spot1) : shp (.tuple (sp.map spD1)) := (Shp.tuple (n := 2) fun d hd => by obtain ⟨x, _, rfl⟩ := List.mem_map.mp hd; exact shp_sp1 x).shp
theorem bools_none {α : Type} (l : List α) : ∃ bs, boolsD (l.map fun _ => PyData.bool false) = some bs ∧ bs.any id = false := by
 induction l with
 | nil => exact ⟨[], rfl, rfl⟩
 | cons a l ih =>
  obtain ⟨bs, h1, h2⟩ := ih
  exact ⟨false :: bs, by rw [List.map_cons, boolsD, h1]; rfl, by rw [List.any_cons, h2]; rfl⟩
theorem edB_false {sp : List Th.Spot1} {a b : Nat} (h : Th.edge sp a b) : edB sp false a b := let ⟨m, hm⟩ := h; ⟨m, hm, nofun⟩
theorem edB_true {sp : List Th.Spot1} {a b : Nat} (h : edB sp true a b) : Th.bare sp a b := by
 obtain ⟨m, hm, e⟩ := h
 have e := e rfl
 subst e
 exact hm
def S_is_round (n : Nat) : SpD := fun ds q => ∃ (s : Th.Sheet) (sp : List Th.Spot1), ds = [Th.sheetD s] ∧ RC n s sp ∧ q (.frz (.bool true)) [none]
theorem p_is_round (n : Nat) (ds : List PyData) (q : SV → Outs → Prop) (h : S_is_round n ds q) (hl : ds.length = P_is_round.length) : g_is_round S_led_from (endsOf P_is_round q) (startE N_is_round.length P_is_round ds) := by
 obtain ⟨s, sp, rfl, hR, h⟩ := h
 have hS := hR.sc
 have htl := hR.ok.tl
 have hsl := hS.len
 refine ⟨rfl, ?_⟩
 show g_is_round_L2 S_led_from _ [some (.frz (Th.sheetD s)), some (.frz (.tuple (s.wires.map Th.wireD))), some (.frz (.tuple (s.turns.map Th.turnD))), some (.frz (.tuple (s.spots.map Th.spotD))), none, none]
 rw [hR.spD]
 refine ⟨tle, shp_sps _, rfl, ?_⟩
 have ne : PyData.eqv (.tuple (sp.map spD1)) (.tuple []) = false := by
  cases e : sp with
  | nil => exact absurd e hR.rnd.ne
  | cons a l => rfl
 show by2 (PyData.eqv (.tuple (sp.map spD1)) (.tuple [])) _ _
 rw [ne]
 refine lc_mapR spD1 (fun _ => .bool false) (fun x hx yes no hy => ?_) (by omega) ?_
 ·exact hy
 obtain ⟨bs, e1, e2⟩ := bools_none sp
 show (match boolsD (sp.map fun _ => PyData.bool false) with | some bs => _ | none => False)
 rw [e1]
 show by2 (bs.any id) _ _
 rw [e2]
 show g_is_round_L4 S_led_from _ [some (.frz (Th.sheetD s)), some (.frz (.tuple (s.wires.map Th.wireD))), some (.frz (.tuple (s.turns.map Th.turnD))), some (.frz (.tuple (sp.map spD1))), none, none]
 have tll : (s.turns.map Th.turnD).length = s.turns.length := List.length_map ..
 refine ⟨by rw [tll]; omega, by rw [tll]; omega, ?_⟩
 rw [tll, range_nats]
 refine loop_ix (fun i ρ => ∃ (s4 : Option SV), ρ = [some (.frz (Th.sheetD s)), some (.frz (.tuple (s.wires.map Th.wireD))), some (.frz (.tuple (s.turns.map Th.turnD))), some (.frz (.tuple (sp.map spD1))), s4, none]) (fun i d ρ nx hd hI hnx => ?_) ⟨none, rfl⟩ (fun ρ hI => ?_)
 ·obtain ⟨s4, rfl⟩ := hI
  rw [List.getElem?_map] at hd
  cases er : (List.range s.turns.length)[i]? with
  | none => rw [er] at hd; cases hd
  | some k =>
   rw [er] at hd
   cases hd
   have hk : k < s.turns.length := List.mem_range.mp (List.mem_of_getElem? er)
   refine ⟨trivial, List.nodup_nil, s, sp, k, false, rfl, hS, hk, fun l nd lt mem => ?_⟩
   have full : ∀ j, j < s.turns.length → j ∈ l := fun j hj => (mem j).mpr ((hR.rnd.conn k j hk hj).mono fun a b e => edB_false e)
   have ge : s.turns.length ≤ l.length := by
    have := Th.nodup_le (l := List.range s.turns.length) (m := l) List.nodup_range fun j hj => full j (List.mem_range.mp hj)
    rw [List.length_range] at this
    exact this
   show by2 (decide ((((l.map nD).length : Nat) : Int) < (((s.turns.map Th.turnD).length : Nat) : Int))) _ _
   rw [List.length_map, tll]
   refine by2_d (fun c => absurd c (by omega)) fun _ => ?_
   refine ⟨trivial, List.nodup_nil, s, sp, k, true, rfl, hS, hk, fun l2 nd2 lt2 mem2 => ?_⟩
   have off : k ∉ l2 := fun c => by
    obtain ⟨R, hr⟩ := hR.rnd.acyc
    have := (((mem2 k).mp c).mono (F := Th.bare sp) fun a b e => edB_true e).rank hr
    omega
   refine ⟨rfl, flat_nat _, ?_⟩
   show by2 ((l2.map nD).any fun y => PyData.eqv y (nD k)) _ _
   rw [any_nat]
   exact by2_d (fun c => absurd c off) fun _ => hnx _ ⟨_, rfl⟩
 ·obtain ⟨s4, rfl⟩ := hI
  exact h
def S_are_delays : SpD := fun ds q => ∃ (s : Th.Sheet) (dl : List Int), ds = [Th.sheetD s, .tuple (dl.map .int)] ∧ s.turns.length ≤ 24 ∧ DlOk s.turns.length dl ∧ q (.frz (.bool true)) [none, none]
theorem p_are_delays (ds : List PyData) (q : SV → Outs → Prop) (h : S_are_delays ds q) (hl : ds.length = P_are_delays.length) : g_are_delays (endsOf P_are_delays q) (startE N_are_delays.length P_are_delays ds) := by
 obtain ⟨s, dl, rfl, htl, ⟨h1, h2⟩, h⟩ := h
 refine ⟨shp_int _, shp_int _, ?_⟩
 show by2 (!PyData.eqv (.int (((dl.map PyData.int).length : Nat) : Int)) (.int (((s.turns.map Th.turnD).length : Nat) : Int))) _ _
 rw [Th.eqv_int, List.length_map, List.length_map, h1]
 refine by2_nd (fun c => absurd rfl c) fun _ => ?_
 refine loop_ix (fun i ρ => ∃ (s4 : Option SV), ρ = [some (.frz (Th.sheetD s)), some (.frz (.tuple (dl.map .int))), s4]) (fun i d ρ nx hd hI hnx => ?_) ⟨none, rfl⟩ (fun ρ hI => ?_)
 ·obtain ⟨s4, rfl⟩ := hI
  rw [List.getElem?_map] at hd
  cases er : dl[i]? with
  | none => rw [er] at hd; cases hd
  | some k =>
   rw [er] at hd
   cases hd
   obtain ⟨k0, k1⟩ := h2 k (List.mem_of_getElem? er)
   show by2 (decide ((0 : Int) ≤ k)) _ _
   refine by2_d (fun _ => ?_) fun c => absurd k0 c
   show by2 (!decide (k ≤ 1000000)) _ _
   exact by2_nd (fun c => absurd k1 c) fun _ => hnx _ ⟨_, rfl⟩
 ·obtain ⟨s4, rfl⟩ := hI
  exact h
def S_look_at (n : Nat) : SpD := fun ds q => ∃ (s : Th.Sheet) (sp : List Th.Spot1) (dl : List Int), ds = [Th.sheetD s, .tuple (dl.map .int)] ∧ RC n s sp ∧ DlOk s.turns.length dl ∧ q (.frz .none) [none, none]
theorem p_look_at (n : Nat) (ds : List PyData) (q : SV → Outs → Prop) (h : S_look_at n ds q) (hl : ds.length = P_look_at.length) : g_look_at (S_is_round n) S_are_delays (endsOf P_look_at q) (startE N_look_at.length P_look_at ds) := by
 obtain ⟨s, sp, dl, rfl, hR, hd, h⟩ := h
 refine ⟨trivial, List.nodup_nil, s, sp, rfl, hR, ?_⟩
 refine ⟨trivial, List.nodup_nil, s, dl, rfl, hR.ok.tl, hd, ?_⟩
 exact h
def S_in_order (n : Nat) : SpD := fun ds q => ∃ (s : Th.Sheet) (sp : List Th.Spot1), ds = [Th.sheetD s] ∧ RC n s sp ∧ ∀ o, Th.OrdOk s.turns.length sp o → q (.frz (natsD o)) [none]
theorem p_in_order (n : Nat) (ds : List PyData) (q : SV → Outs → Prop) (h : S_in_order n ds q) (hl : ds.length = P_in_order.length) : g_in_order (endsOf P_in_order q) (startE N_in_order.length P_in_order ds) := by
 obtain ⟨s, sp, rfl, hR, h⟩ := h
 have hS := hR.sc
 have htl := hR.ok.tl
 have hsl := hS.len
 have tll : (s.turns.map Th.turnD).length = s.turns.length := List.length_map ..
 refine ⟨tle, ⟨by rw [tll]; omega, by rw [tll]; omega⟩, ?_⟩
 rw [tll, range_nats]
 refine ⟨fun ms ρ => ∃ (o l : List Nat) (s3 s4 : Option SV), Th.OrdI s.turns.length sp o l ∧ ms = l.length ∧ ρ = [some (.frz (Th.sheetD s)), some (.frz (natsD o)), some (.frz (natsD l)), s3, s4, none, none],
  ⟨_, [], List.range s.turns.length, none, none, Th.OrdI.start, rfl, rfl⟩, ?_⟩
 rintro ms ρ ⟨o, l, s3, s4, hO, rfl, rfl⟩
 have ol : o.length ≤ 24 := by
  have := SortB_len hO.nd fun j hj => (hO.mem j).mpr (.inl hj)
  omega
 have ll : l.length ≤ 24 := by
  have := SortB_len hO.ndl fun j hj => (hO.mem j).mpr (.inr hj)
  omega
 refine ⟨tle, shp_nats _, rfl, ?_⟩
 show by2 (!PyData.eqv (natsD l) (.list [])) _ _
 rw [nats_empty]
 refine by2_nd (fun c => ?_) (fun c => ?_)
 ·show dLcL _ _ _ _ _ _ (s.spots.map Th.spotD) _ _
  rw [hS.spD]
  refine lc_someR spD1 nD (·.2.1) (fun x => decide (x.2.2 = 0) && decide (x.1 ∈ l)) (fun x hx yes no hy hn => ?_) (by omega) ?_
  ·refine ⟨shp_int _, shp_int _, ?_⟩
   show by2 (PyData.eqv (.int x.2.2) (.int 0)) _ _
   rw [Th.eqv_int]
   refine by2_d (fun c1 => ?_) (fun c1 => hn (by simp [c1]))
   refine ⟨rfl, flat_nat _, ?_⟩
   show by2 ((l.map nD).any fun y => PyData.eqv y (nD x.1)) _ _
   rw [any_nat]
   exact by2_d (fun c2 => hy (by simp [c1, c2])) fun c2 => hn (by simp [c2])
  show g_in_order_L5 _ [some (.frz (Th.sheetD s)), some (.frz (natsD o)), some (.frz (natsD l)), some (.frz (natsD (Th.waits sp l))), s4, none, none]
  refine lc_someR nD nD id (fun k => decide (k ∉ Th.waits sp l)) (fun k hk yes no hy hn => ?_) (by omega) ?_
  ·refine ⟨rfl, flat_nat _, ?_⟩
   show by2 (!((Th.waits sp l).map nD).any fun y => PyData.eqv y (nD k)) _ _
   rw [any_nat]
   exact by2_nd (fun c => hy (by simp [c])) fun c => hn (by simp [c])
  rw [List.map_id]
  have rl := List.length_filter_le (fun k => decide (k ∉ Th.waits sp l)) l
  refine ⟨by rw [List.length_map, List.length_map]; exact Nat.le_trans (show _ ≤ 100 by omega) tle, ?_⟩
  show g_in_order_L7 _ [some (.frz (Th.sheetD s)), some (.frz (.list (o.map nD ++ (l.filter fun k => decide (k ∉ Th.waits sp l)).map nD))), some (.frz (natsD l)), some (.frz (natsD (Th.waits sp l))), some (.frz (natsD (l.filter fun k => decide (k ∉ Th.waits sp l)))), none, none]
  rw [← List.map_append]
  refine lc_someR nD nD id (fun k => decide (k ∈ Th.waits sp l)) (fun k hk yes no hy hn => ?_) (by omega) ?_
  ·refine ⟨rfl, flat_nat _, ?_⟩
   show by2 (((Th.waits sp l).map nD).any fun y => PyData.eqv y (nD k)) _ _
   rw [any_nat]
   exact by2_d (fun c => hy (by simp [c])) fun c => hn (by simp [c])
  rw [List.map_id]
  exact ⟨_, hO.less hR.rnd c, _, _, _, _, hO.step hR.rnd, rfl, rfl⟩
 ·subst c
  exact h o hO.fin
end My.Q
set_option linter.all false
set_option maxRecDepth 100000
namespace My.Q
open PySem PySem.Spec L2 Dv
def kvI (F : Nat → Int) (a : Nat) : PyData × PyData := (nD a, .int (F a))
def lastD (o : List Nat) : Option (Nat → Int) → PyData
 | none => .none
 | some L => .dict (o.map (kvI L))
def dF (dl : List Int) (k : Nat) : Int := dl.getD k 0
theorem keyG_ofR {kvs : List (PyData × PyData)} {d : PyData} {k : Key} {K : Key → Prop} (hk : keysK kvs = true) (hd : keyD d = some k) (h : K k) : (match keyG kvs d with | some q => K q | none => False) := by
 unfold keyG
 rw [hk]
 show (match keyD d with | some q => K q | none => False)
 rw [hd]
 exact h
theorem keys_kvI (F : Nat → Int) (o : List Nat) : keysK (o.map (kvI F)) = true := by
 unfold keysK
 rw [List.all_map, List.all_eq_true]
 intro x _
 rfl
theorem put_kvI {F : Nat → Int} {o : List Nat} {a : Nat} {v : Int} (h : a ∉ o) : putD (o.map (kvI F)) (.inl (a : Int)) (.int v) = (o ++ [a]).map (kvI (Th.putF F a v)) := by
 have e : ((o.map (kvI F)).any fun p => decide (keyD p.1 = some (Sum.inl (a : Int)))) = false := by
  rw [List.any_eq_false]
  intro p hp
  obtain ⟨x, hx, rfl⟩ := List.mem_map.mp hp
  intro c
  have c := of_decide_eq_true c
  have c : (some (Sum.inl ((x : Nat) : Int)) : Option Key) = some (.inl (a : Int)) := c
  injection c with c
  injection c with c
  have : x = a := by omega
  exact h (this ▸ hx)
 unfold putD
 rw [e, List.map_append]
 have e2 : o.map (kvI F) = o.map (kvI (Th.putF F a v)) := List.map_congr_left fun x hx => by
  unfold kvI Th.putF
  rw [if_neg (show ¬ x = a from fun c => h (by rw [← c]; exact hx))]
 rw [← e2]
 have e3 : kvI (Th.putF F a v) a = (nD a, .int v) := by unfold kvI Th.putF; rw [if_pos rfl]
 show o.map (kvI F) ++ [(kD (.inl (a : Int)), PyData.int v)] = o.map (kvI F) ++ [kvI (Th.putF F a v) a]
 rw [e3]
 rfl
theorem look_kvI {F : Nat → Int} : ∀ {o : List Nat} {a : Nat}, a ∈ o → lookD (o.map (kvI F)) (.inl (a : Int)) = some (.int (F a))
 | [], a, h => by cases h
 | x :: o, a, h => by
  unfold lookD
  rw [List.map_cons, List.find?_cons]
  by_cases c : x = a
  ·subst c
   have q : decide (keyD (kvI F x).1 = some (Sum.inl ((x : Nat) : Int))) = true := decide_eq_true rfl
   rw [q]
   rfl
  ·have q : decide (keyD (kvI F x).1 = some (Sum.inl ((a : Nat) : Int))) = false := by
    refine decide_eq_false fun e => ?_
    have e : (some (Sum.inl ((x : Nat) : Int)) : Option Key) = some (.inl (a : Int)) := e
    injection e with e
    injection e with e
    omega
   rw [q]
   rcases List.mem_cons.mp h with h | h
   ·exact absurd h.symm c
   ·exact look_kvI h
theorem lookR {kvs : List (PyData × PyData)} {k : Key} {d : PyData} {K : PyData → Prop} (h : lookD kvs k = some d) (hk : K d) : (match lookD kvs k with | some x => K x | none => False) := by
 rw [h]
 exact hk
theorem dl_at {dl : List Int} {k : Nat} (h : k < dl.length) : atI (dl.map PyData.int) ((k : Nat) : Int) = some (.int (dF dl k)) := atI_nat (by
 rw [List.getElem?_map, List.getElem?_eq_getElem h]
 unfold dF
 rw [List.getD_eq_getElem?_getD, List.getElem?_eq_getElem h]
 rfl)
theorem atR {ds : List PyData} {k : Int} {d : PyData} {K : PyData → Prop} (h : atI ds k = some d) (hk : K d) : (match atI ds k with | some x => K x | none => False) := by
 rw [h]
 exact hk
def S_one_round (n : Nat) : SpD := fun ds q => ∃ (s : Th.Sheet) (sp : List Th.Spot1) (dl : List Int) (o : List Nat) (last : Option (Nat → Int)), ds = [Th.sheetD s, .tuple (dl.map .int), natsD o, lastD o last] ∧ RC n s sp ∧ DlOk s.turns.length dl ∧ Th.OrdOk s.turns.length sp o ∧ ∀ F, Th.IsRow s.turns.length sp (dF dl) (Th.lastF last) F → q (.own (.dict (o.map (kvI F)))) [none, none, none, none]
section
variable {s : Th.Sheet} {sp : List Th.Spot1} {dl : List Int} {o : List Nat} {last : Option (Nat → Int)} {F : Nat → Int} {E : DEnds} {i k : Nat} {b : Int} {x : Th.Spot1}
abbrev ROne (s : Th.Sheet) (dl : List Int) (o : List Nat) (last : Option (Nat → Int)) (kvs : List (PyData × PyData)) (s5 s6 s7 s8 s9 : Option SV) : DEnv := [some (.frz (Th.sheetD s)), some (.frz (.tuple (dl.map .int))), some (.frz (natsD o)), some (.frz (lastD o last)), some (.own (.dict kvs)), s5, s6, s7, s8, s9]
theorem one_L5 (h1 : x.2.1 = k → x.2.2 = 0 → x.1 ∈ o.take i) (h2 : x.1 ∈ o) (b0 : 0 ≤ b)
  (h : E.nx (ROne s dl o last ((o.take i).map (kvI F)) (some (.frz (nD k))) (some (.frz (.int (Th.mxf b (Th.cn F (Th.lastF last) k x))))) (some (.frz (.tuple [nD x.1]))) (some (.frz (.tuple [nD x.2.1]))) (some (.frz (.int x.2.2))))) :
  g_one_round_L5 E (ROne s dl o last ((o.take i).map (kvI F)) (some (.frz (nD k))) (some (.frz (.int b))) (some (.frz (.tuple [nD x.1]))) (some (.frz (.tuple [nD x.2.1]))) (some (.frz (.int x.2.2)))) := by
 have skip : x.2.1 ≠ k ∨ (x.2.2 ≠ 0 ∧ last = none) → E.nx (ROne s dl o last ((o.take i).map (kvI F)) (some (.frz (nD k))) (some (.frz (.int b))) (some (.frz (.tuple [nD x.1]))) (some (.frz (.tuple [nD x.2.1]))) (some (.frz (.int x.2.2)))) := fun c => by
  have e : Th.mxf b (Th.cn F (Th.lastF last) k x) = b := by
   have z : Th.cn F (Th.lastF last) k x = 0 := by
    unfold Th.cn
    rcases c with c | ⟨c1, rfl⟩
    ·rw [if_neg c]
    ·rw [if_neg c1]; split <;> rfl
   rw [z]
   unfold Th.mxf
   rw [if_neg (by omega)]
  rw [e] at h
  exact h
 have marked : x.2.1 = k → x.2.2 ≠ 0 → dIf (dAnd (dTest (dBin eqD (dBin ixD (dVar 8) (dC (.int 0))) (dVar 5))) (dTest (dBin (isND false) (dVar 3) (dC .none)))) (dSet P_one_round 6 (dCB max2D (dCons (dVar 6) (dCons (dBin ixD (dVar 3) (dBin ixD (dVar 7) (dC (.int 0)))) dNil)))) dNext E (ROne s dl o last ((o.take i).map (kvI F)) (some (.frz (nD k))) (some (.frz (.int b))) (some (.frz (.tuple [nD x.1]))) (some (.frz (.tuple [nD x.2.1]))) (some (.frz (.int x.2.2)))) := fun c1 c2 => by
  refine ⟨shp_int _, shp_int _, ?_⟩
  show by2 (PyData.eqv (.int ((x.2.1 : Nat) : Int)) (.int ((k : Nat) : Int))) _ _
  rw [Th.eqv_int]
  refine by2_d (fun _ => ?_) (fun c => absurd (by omega) c)
  cases last with
  | none => exact nx_of (skip (.inr ⟨c2, rfl⟩))
  | some L =>
   refine lookR (look_kvI h2) ?_
   have e : Th.cn F (Th.lastF (some L)) k x = L x.1 := by unfold Th.cn; rw [if_pos c1, if_neg c2]; rfl
   rw [e] at h
   exact h
 refine ⟨shp_int _, shp_int _, ?_⟩
 show by2 (PyData.eqv (.int ((x.2.1 : Nat) : Int)) (.int ((k : Nat) : Int))) _ _
 rw [Th.eqv_int]
 refine by2_d (fun c1 => ?_) (fun c1 => ?_)
 ·have c1 : x.2.1 = k := by omega
  refine ⟨shp_int _, shp_int _, ?_⟩
  show by2 (PyData.eqv (.int x.2.2) (.int 0)) _ _
  rw [Th.eqv_int]
  refine by2_d (fun c2 => ?_) (fun c2 => marked c1 c2)
  refine lookR (look_kvI (h1 c1 c2)) ?_
  have e : Th.cn F (Th.lastF last) k x = F x.1 := by unfold Th.cn; rw [if_pos c1, if_pos c2]
  rw [e] at h
  exact h
 ·refine ⟨shp_int _, shp_int _, ?_⟩
  show by2 (PyData.eqv (.int ((x.2.1 : Nat) : Int)) (.int ((k : Nat) : Int))) _ _
  rw [Th.eqv_int]
  exact by2_d (fun c => absurd c c1) fun c => nx_of (skip (.inl fun e => c1 (by omega)))
end
theorem p_one_round (n : Nat) (ds : List PyData) (q : SV → Outs → Prop) (h : S_one_round n ds q) (hl : ds.length = P_one_round.length) : g_one_round (endsOf P_one_round q) (startE N_one_round.length P_one_round ds) := by
 obtain ⟨s, sp, dl, o, last, rfl, hR, hd, hO, h⟩ := h
 have hS := hR.sc
 have htl := hR.ok.tl
 have ol : o.length ≤ 24 := by
  have := SortB_len hO.nd fun j hj => (hO.mem j).mp hj
  omega
 show dFor (dSeqI P_one_round (dVar 2)) (gN 5) g_one_round_L3 _ (ROne s dl o last [] none none none none none)
 refine loop_ix (fun i ρ => ∃ (F : Nat → Int) (s5 s6 s7 s8 s9 : Option SV), (∀ j ∈ o.take i, F j = Th.mx (sp.map (Th.cn F (Th.lastF last) j)) + dF dl j) ∧ ρ = ROne s dl o last ((o.take i).map (kvI F)) s5 s6 s7 s8 s9) (fun i d ρ nx hd2 hI hnx => ?_) ⟨fun _ => 0, none, none, none, none, none, fun j hj => by simp at hj, rfl⟩ (fun ρ hI => ?_)
 ·obtain ⟨F, s5, s6, s7, s8, s9, hF, rfl⟩ := hI
  rw [List.getElem?_map] at hd2
  cases ek : o[i]? with
  | none => rw [ek] at hd2; cases hd2
  | some k =>
   rw [ek] at hd2
   cases hd2
   have hi : i < o.length := (List.getElem?_eq_some_iff.mp ek).1
   have kT : k < s.turns.length := (hO.mem k).mp (List.mem_of_getElem? ek)
   have tk : o.take (i + 1) = o.take i ++ [k] := by rw [List.take_add_one, ek]; rfl
   have kn : k ∉ o.take i := fun c => by
    have nd2 : (o.take (i + 1)).Nodup := (List.take_sublist (i + 1) o).nodup hO.nd
    rw [tk, List.nodup_append] at nd2
    exact nd2.2.2 k c k (by simp) rfl
   show g_one_round_L4 _ (ROne s dl o last ((o.take i).map (kvI F)) (some (.frz (nD k))) (some (.frz (.int 0))) s7 s8 s9)
   show dLoop _ g_one_round_L5 _ (s.spots.map Th.spotD) _
   rw [hR.spD]
   refine loop_ix (fun j ρ => ∃ (s7 s8 s9 : Option SV), ρ = ROne s dl o last ((o.take i).map (kvI F)) (some (.frz (nD k))) (some (.frz (.int (Th.mx ((sp.take j).map (Th.cn F (Th.lastF last) k)))))) s7 s8 s9) (fun j d ρ nx2 hd3 hI hnx2 => ?_) ⟨_, _, _, rfl⟩ (fun ρ hI => ?_)
   ·obtain ⟨s7, s8, s9, rfl⟩ := hI
    rw [List.getElem?_map] at hd3
    cases ex : sp[j]? with
    | none => rw [ex] at hd3; cases hd3
    | some x =>
     rw [ex] at hd3
     cases hd3
     have hx := List.mem_of_getElem? ex
     refine ⟨rfl, ?_⟩
     refine one_L5 (fun e1 e2 => hO.ahead i k x.1 ek ?_) ((hO.mem _).mpr (hR.rnd.lt x hx).1) (Th.mx_nn _) (hnx2 _ ⟨some (.frz (.tuple [nD x.1])), some (.frz (.tuple [nD x.2.1])), some (.frz (.int x.2.2)), ?_⟩)
     ·have : x = (x.1, k, (0 : Int)) := by rw [← e1, ← e2]
      show (x.1, k, (0 : Int)) ∈ sp
      rw [← this]; exact hx
     ·rw [List.take_add_one, ex, List.map_append]
      show _ = ROne s dl o last ((o.take i).map (kvI F)) (some (.frz (nD k))) (some (.frz (.int (Th.mx ((sp.take j).map (Th.cn F (Th.lastF last) k) ++ [Th.cn F (Th.lastF last) k x]))))) (some (.frz (.tuple [nD x.1]))) (some (.frz (.tuple [nD x.2.1]))) (some (.frz (.int x.2.2)))
      rw [Th.mx_snoc]
   ·obtain ⟨s7, s8, s9, rfl⟩ := hI
    rw [List.length_map, List.take_length]
    refine atR (dl_at (by rw [hd.1]; exact kT)) ?_
    refine keyG_ofR (keys_kvI _ _) rfl ⟨?_, ?_⟩
    ·rw [List.length_map, List.length_take]; exact Nat.lt_of_lt_of_le (show _ < 100 by omega) tle
    ·rw [put_kvI kn]
     refine hnx _ ⟨Th.putF F k (Th.mx (sp.map (Th.cn F (Th.lastF last) k)) + dF dl k), _, _, _, _, _, fun j hj => ?_, by rw [tk]; rfl⟩
     have same : ∀ t, t ∈ o.take (i + 1) → sp.map (Th.cn (Th.putF F k (Th.mx (sp.map (Th.cn F (Th.lastF last) k)) + dF dl k)) (Th.lastF last) t) = sp.map (Th.cn F (Th.lastF last) t) := fun t ht => List.map_congr_left fun x hx => by
      unfold Th.cn
      by_cases e1 : x.2.1 = t
      ·rw [if_pos e1, if_pos e1]
       by_cases e2 : x.2.2 = 0
       ·rw [if_pos e2, if_pos e2]
        have hb : Th.bare sp x.1 t := by
         have : x = (x.1, t, (0 : Int)) := by rw [← e1, ← e2]
         show (x.1, t, (0 : Int)) ∈ sp
         rw [← this]; exact hx
        have : x.1 ∈ o.take i := by
         rw [tk] at ht
         rcases List.mem_append.mp ht with ht | ht
         ·obtain ⟨j, hj, e⟩ := List.getElem_of_mem ht
          rw [List.length_take] at hj
          rw [List.getElem_take] at e
          have := hO.ahead j t x.1 (List.getElem?_eq_some_iff.mpr ⟨by omega, e⟩) hb
          exact List.mem_of_mem_take (i := j) (by rw [List.take_take, Nat.min_eq_left (by omega)]; exact this)
         ·simp at ht; subst ht; exact hO.ahead i t x.1 ek hb
        unfold Th.putF
        rw [if_neg (show ¬ x.1 = k from fun c => kn (by rw [← c]; exact this))]
       ·rw [if_neg e2, if_neg e2]
      ·rw [if_neg e1, if_neg e1]
     rw [same j hj]
     rw [tk] at hj
     by_cases e : j = k
     ·subst e
      unfold Th.putF
      rw [if_pos rfl]
     ·rcases List.mem_append.mp hj with hj | hj
      ·have := hF j hj
       show (if j = k then _ else F j) = _
       rw [if_neg e]
       exact this
      ·exact absurd (List.mem_singleton.mp hj) e
 ·obtain ⟨F, s5, s6, s7, s8, s9, hF, rfl⟩ := hI
  rw [List.length_map, List.take_length] at hF
  rw [List.length_map, List.take_length]
  exact ⟨nofun, h F fun k hk => hF k ((hO.mem k).mpr hk)⟩
end My.Q
set_option linter.all false
set_option maxRecDepth 100000
namespace My.Q
open PySem PySem.Spec L2 Dv
theorem lc_mapI {α : Type} {P : List Bool} {g : DG} {tt : DT} {te : DE} {vs : List Nat} {Q : PyData → DEnv → Prop} {env : DEnv} (I : DEnv → Prop) (encA : α → PyData) (f : α → PyData) {xs : List α} (h0 : I env)
  (h : ∀ x ∈ xs, ∀ (ρ : DEnv) (yes : PyData → DEnv → Prop) (no : DEnv → Prop), I ρ → (∀ ρ', I ρ' → yes (f x) ρ') → turnE P g tt te vs ρ (encA x) yes no) (hl : xs.length ≤ 100000) (hq : ∀ ρ, I ρ → Q (.list (xs.map f)) ρ) : dLcL P g tt te vs Q (xs.map encA) [] env := by
 refine lc_ix (fun acc ρ => acc = (xs.take acc.length).map f ∧ I ρ) (fun acc d ρ yes no hd hI hy => ?_) ⟨rfl, h0⟩ (by rw [List.length_map]; exact Nat.le_trans hl tle) (fun acc ρ hI hlen => ?_)
 ·obtain ⟨e, hI⟩ := hI
  rw [List.getElem?_map] at hd
  cases er : xs[acc.length]? with
  | none => rw [er] at hd; cases hd
  | some x =>
   rw [er] at hd
   cases hd
   refine h x (List.mem_of_getElem? er) ρ yes no hI fun ρ' hI' => hy _ _ ⟨?_, hI'⟩
   rw [List.length_append, List.length_singleton, List.take_add_one, er, List.map_append]
   conv => lhs; rw [e]
   rfl
 ·obtain ⟨e, hI⟩ := hI
  rw [List.length_map] at hlen
  rw [hlen, List.take_length] at e
  rw [e]
  exact hq _ hI
def rowsD (T : Nat) (rows : List (Nat → Int)) : PyData := .tuple ((List.range T).map fun k => .tuple (rows.map fun F => .int (F k)))
def kvD (o : List Nat) (F : Nat → Int) : PyData := .dict (o.map (kvI F))
def S_times (n : Nat) : SpD := fun ds q => ∃ (s : Th.Sheet) (sp : List Th.Spot1) (dl : List Int) (r : Nat), ds = [Th.sheetD s, .tuple (dl.map .int), nD r] ∧ RC n s sp ∧ DlOk s.turns.length dl ∧ r ≤ 60 ∧ ∀ (o : List Nat) (rows : List (Nat → Int)), Th.OrdOk s.turns.length sp o → Th.RowsOk s.turns.length sp (dF dl) rows → rows.length = r → q (.frz (rowsD s.turns.length rows)) [none, none, none]
theorem last_snoc {o : List Nat} {rows : List (Nat → Int)} {F : Nat → Int} : lastD o (rows ++ [F]).getLast? = kvD o F := by rw [List.getLast?_concat]; rfl
theorem p_times (n : Nat) (ds : List PyData) (q : SV → Outs → Prop) (h : S_times n ds q) (hl : ds.length = P_times.length) : g_times (S_look_at n) (S_in_order n) (S_one_round n) (endsOf P_times q) (startE N_times.length P_times ds) := by
 obtain ⟨s, sp, dl, r, rfl, hR, hd, hr, h⟩ := h
 have htl := hR.ok.tl
 have dll : (dl.map PyData.int).length = s.turns.length := by rw [List.length_map]; exact hd.1
 refine ⟨trivial, List.nodup_nil, s, sp, dl, rfl, hR, hd, ?_⟩
 refine ⟨trivial, List.nodup_nil, s, sp, rfl, hR, fun o hO => ?_⟩
 show g_times_L3 _ _ _ _ [some (.frz (Th.sheetD s)), some (.frz (.tuple (dl.map .int))), some (.frz (nD r)), some (.frz (natsD o)), none, none, none, none, none]
 refine ⟨tle, ?_⟩
 refine ⟨by omega, by omega, ?_⟩
 rw [range_nats]
 refine loop_ix (fun i ρ => ∃ (rows : List (Nat → Int)) (s6 : Option SV), rows.length = i ∧ Th.RowsOk s.turns.length sp (dF dl) rows ∧ ρ = [some (.frz (Th.sheetD s)), some (.frz (.tuple (dl.map .int))), some (.frz (nD r)), some (.frz (natsD o)), some (.own (.list (rows.map (kvD o)))), some (.frz (lastD o rows.getLast?)), s6, none, none]) (fun i d ρ nx hd2 hI hnx => ?_) ⟨[], none, rfl, .nil, rfl⟩ (fun ρ hI => ?_)
 ·obtain ⟨rows, s6, hlen, hrows, rfl⟩ := hI
  have hi := (List.getElem?_eq_some_iff.mp hd2).1
  rw [List.length_map, List.length_range] at hi
  refine ⟨trivial, List.nodup_nil, s, sp, dl, o, rows.getLast?, rfl, hR, hd, hO, fun F hF => ?_⟩
  refine ⟨rfl, by rw [List.length_map]; exact Nat.lt_of_lt_of_le (show _ < 61 by omega) tle, ?_⟩
  refine hnx _ ⟨rows ++ [F], some (.frz d), by rw [List.length_append, hlen]; rfl, hrows.snoc hF, ?_⟩
  rw [last_snoc, List.map_append]
  rfl
 ·obtain ⟨rows, s6, hlen, hrows, rfl⟩ := hI
  rw [List.length_map, List.length_range] at hlen
  refine ⟨by rw [dll]; omega, by rw [dll]; omega, ?_⟩
  rw [dll, range_nats]
  refine lc_mapI (fun ρ => ∃ c : SV, (c = .own (.list (rows.map (kvD o))) ∨ c = .frz (.list (rows.map (kvD o)))) ∧ ρ = [some (.frz (Th.sheetD s)), some (.frz (.tuple (dl.map .int))), some (.frz (nD r)), some (.frz (natsD o)), some c, some (.frz (lastD o rows.getLast?)), s6, none, none]) nD (fun k => .tuple (rows.map fun F => .int (F k))) ⟨_, .inl rfl, rfl⟩ (fun k hk ρ yes no hI hy => ?_) (by rw [List.length_range]; omega) (fun ρ hI => ?_)
  ·have kT := List.mem_range.mp hk
   obtain ⟨c, hc, rfl⟩ := hI
   have fin := hy _ ⟨.frz (.list (rows.map (kvD o))), .inr rfl, rfl⟩
   have go : dLcL P_times (gN 8) dYes (dBin ixD (dVar 8) (dVar 7)) [8] (fun d ρ' => tupleSD [d] fun z => yes z (restE ρ' [some (.frz (Th.sheetD s)), some (.frz (.tuple (dl.map .int))), some (.frz (nD r)), some (.frz (natsD o)), some c, some (.frz (lastD o rows.getLast?)), s6, none, none] [7])) (rows.map (kvD o)) [] [some (.frz (Th.sheetD s)), some (.frz (.tuple (dl.map .int))), some (.frz (nD r)), some (.frz (natsD o)), some (.frz (.list (rows.map (kvD o)))), some (.frz (lastD o rows.getLast?)), s6, some (.frz (nD k)), none] := by
    refine lc_mapR (xs := rows) (kvD o) (fun F => .int (F k)) (fun F hF yes no hy => ?_) (by omega) ?_
    ·exact lookR (look_kvI ((hO.mem k).mpr kT)) hy
    ·exact fin
   rcases hc with rfl | rfl
   ·exact ⟨nofun, go⟩
   ·exact go
  ·obtain ⟨c, hc, rfl⟩ := hI
   exact h o rows hO hrows hlen
end My.Q
set_option linter.all false
set_option maxRecDepth 100000
namespace My.Q
open PySem PySem.Spec L2 Dv
def rowD (T : Nat) (G : Nat → Int) : PyData := .list ((List.range T).map fun k => .int (G k))
def lastL (T : Nat) : Option (Nat → Int) → PyData
 | none => .none
 | some L => rowD T L
theorem row_at {T k : Nat} {G : Nat → Int} (h : k < T) : atI ((List.range T).map fun k => PyData.int (G k)) ((k : Nat) : Int) = some (.int (G k)) := atI_nat (by rw [List.getElem?_map, List.getElem?_range h]; rfl)
theorem row_set {T k : Nat} {G : Nat → Int} {v : Int} (h : k < T) : ((List.range T).map fun k => PyData.int (G k)).set k (.int v) = (List.range T).map fun j => PyData.int (Th.putF G k v j) := by
 refine List.ext_getElem (by simp) fun i h1 h2 => ?_
 rw [List.getElem_set]
 simp only [List.getElem_map, List.getElem_range]
 unfold Th.putF
 by_cases e : k = i
 ·rw [if_pos e, if_pos e.symm]
 ·rw [if_neg e, if_neg (fun c => e c.symm)]
theorem row_dl {T : Nat} {dl : List Int} (h : dl.length = T) : dl.map PyData.int = (List.range T).map fun k => PyData.int (dF dl k) := by
 refine List.ext_getElem (by simp [h]) fun i h1 h2 => ?_
 rw [List.length_map] at h1
 simp only [List.getElem_map, List.getElem_range]
 unfold dF
 rw [List.getD_eq_getElem?_getD, List.getElem?_eq_getElem h1]
 rfl
def S__law_one_round (n : Nat) : SpD := fun ds q => ∃ (s : Th.Sheet) (sp : List Th.Spot1) (dl : List Int) (o : List Nat) (last : Option (Nat → Int)) (F : Nat → Int), ds = [Th.sheetD s, .tuple (dl.map .int), lastL s.turns.length last] ∧ RC n s sp ∧ DlOk s.turns.length dl ∧ Th.OrdOk s.turns.length sp o ∧ Th.IsRow s.turns.length sp (dF dl) (Th.lastF last) F ∧ q (.own (rowD s.turns.length F)) [none, none, none]
section
variable {s : Th.Sheet} {sp : List Th.Spot1} {dl : List Int} {o : List Nat} {last : Option (Nat → Int)} {F G : Nat → Int} {E : DEnds} {i j k p : Nat} {x : Th.Spot1} {s7 : Option SV}
abbrev RLo (s : Th.Sheet) (dl : List Int) (last : Option (Nat → Int)) (G : Nat → Int) (s4 s5 s6 s7 : Option SV) : DEnv := [some (.frz (Th.sheetD s)), some (.frz (.tuple (dl.map .int))), some (.frz (lastL s.turns.length last)), some (.own (rowD s.turns.length G)), s4, s5, s6, s7]
abbrev RLx (s : Th.Sheet) (dl : List Int) (last : Option (Nat → Int)) (G : Nat → Int) (x : Th.Spot1) (s7 : Option SV) : DEnv := RLo s dl last G (some (.frz (.tuple [nD x.1]))) (some (.frz (.tuple [nD x.2.1]))) (some (.frz (.int x.2.2))) s7
theorem lone_L3 (hd : DlOk s.turns.length dl) (l1 : x.1 < s.turns.length) (l2 : x.2.1 < s.turns.length) (hb : Th.Bit x.2.2)
  (h1 : ∀ L, last = some L → x.2.2 = 1 → E.nx (RLx s dl last (Th.putF G x.2.1 (Th.mxf (G x.2.1) (L x.1 + dF dl x.2.1))) x s7)) (h2 : x.2.2 = 0 ∨ last = none → E.nx (RLx s dl last G x s7)) :
  g__law_one_round_L3 E (RLx s dl last G x s7) := by
 refine ⟨shp_int _, shp_int _, ?_⟩
 show by2 (PyData.eqv (.int x.2.2) (.int 1)) _ _
 rw [Th.eqv_int]
 refine by2_d (fun c => ?_) (fun c => nx_of (h2 (.inl (by have := hb; unfold Th.Bit at this; omega))))
 cases last with
 | none => exact nx_of (h2 (.inr rfl))
 | some L =>
  refine atR (row_at l2) ?_
  refine atR (row_at l1) ?_
  refine atR (dl_at (by rw [hd.1]; exact l2)) ?_
  refine putL (by rw [List.length_map, List.length_range]; exact l2) ?_
  have fin := h1 L rfl c
  unfold RLx RLo rowD at fin
  rw [← row_set l2] at fin
  exact fin
theorem lone_L7 (hd : DlOk s.turns.length dl) (l1 : x.1 < s.turns.length) (l2 : x.2.1 < s.turns.length)
  (h1 : x.2.2 = 0 → E.nx (RLx s dl last (Th.putF G x.2.1 (Th.mxf (G x.2.1) (G x.1 + dF dl x.2.1))) x s7)) (h2 : x.2.2 ≠ 0 → E.nx (RLx s dl last G x s7)) :
  g__law_one_round_L7 E (RLx s dl last G x s7) := by
 refine ⟨shp_int _, shp_int _, ?_⟩
 show by2 (PyData.eqv (.int x.2.2) (.int 0)) _ _
 rw [Th.eqv_int]
 refine by2_d (fun c => ?_) (fun c => nx_of (h2 c))
 refine atR (row_at l2) ?_
 refine atR (row_at l1) ?_
 refine atR (dl_at (by rw [hd.1]; exact l2)) ?_
 refine putL (by rw [List.length_map, List.length_range]; exact l2) ?_
 have fin := h1 c
 unfold RLx RLo rowD at fin
 rw [← row_set l2] at fin
 exact fin
end
theorem p__law_one_round (n : Nat) (ds : List PyData) (q : SV → Outs → Prop) (h : S__law_one_round n ds q) (hl : ds.length = P__law_one_round.length) : g__law_one_round (endsOf P__law_one_round q) (startE N__law_one_round.length P__law_one_round ds) := by
 obtain ⟨s, sp, dl, o, last, F, rfl, hR, hd, hO, hF, h⟩ := h
 have htl := hR.ok.tl
 have ol := hO.len
 show g__law_one_round_L2 _ [some (.frz (Th.sheetD s)), some (.frz (.tuple (dl.map .int))), some (.frz (lastL s.turns.length last)), some (.own (.list (dl.map .int))), none, none, none, none]
 rw [row_dl hd.1]
 rw [← row_dl hd.1]
 show dLoop _ g__law_one_round_L3 _ (s.spots.map Th.spotD) _
 rw [hR.spD]
 refine loop_ix (fun j ρ => ∃ (G : Nat → Int) (s4 s5 s6 : Option SV), Th.RelM s.turns.length sp (dF dl) (Th.lastF last) F j G ∧ ρ = RLo s dl last G s4 s5 s6 none) (fun j d ρ nx hd2 hI hnx => ?_) ⟨dF dl, none, none, none, .start hF, by unfold RLo rowD; rw [row_dl hd.1]⟩ (fun ρ hI => ?_)
 ·obtain ⟨G, s4, s5, s6, hG, rfl⟩ := hI
  rw [List.getElem?_map] at hd2
  cases ex : sp[j]? with
  | none => rw [ex] at hd2; cases hd2
  | some x =>
   rw [ex] at hd2
   cases hd2
   have hx := List.mem_of_getElem? ex
   have ⟨l1, l2⟩ := hR.rnd.lt x hx
   refine ⟨rfl, ?_⟩
   refine lone_L3 hd l1 l2 (hR.rnd.bit x hx) (fun L e c => ?_) (fun c => ?_)
   ·subst e
    exact hnx _ ⟨_, some (.frz (.tuple [nD x.1])), some (.frz (.tuple [nD x.2.1])), some (.frz (.int x.2.2)), hG.add hR.rnd hF ex (by omega), rfl⟩
   ·refine hnx _ ⟨G, some (.frz (.tuple [nD x.1])), some (.frz (.tuple [nD x.2.1])), some (.frz (.int x.2.2)), hG.skip ex (fun z => ?_), rfl⟩
    rcases c with c | rfl
    ·exact absurd c z
    ·have := hG.lo _ l2
     show (0 : Int) + _ ≤ _
     omega
 ·obtain ⟨G, s4, s5, s6, hG, rfl⟩ := hI
  rw [List.length_map] at hG
  show dLoop _ g__law_one_round_L6 _ (s.turns.map Th.turnD) _
  refine loop_ix (fun p ρ => ∃ (G : Nat → Int) (s4 s5 s6 s7 : Option SV), Th.Rel s.turns.length sp o (dF dl) (Th.lastF last) F p G ∧ ρ = RLo s dl last G s4 s5 s6 s7) (fun p d ρ nx hd2 hI hnx => ?_) ⟨G, s4, s5, s6, none, hG.rel, rfl⟩ (fun ρ hI => ?_)
  ·obtain ⟨G, s4, s5, s6, s7, hG, rfl⟩ := hI
   have hp := (List.getElem?_eq_some_iff.mp hd2).1
   rw [List.length_map] at hp
   have ek : o[p]? = some (o[p]'(by omega)) := List.getElem?_eq_getElem (by omega)
   generalize o[p]'(by omega) = k at ek
   have kT : k < s.turns.length := (hO.mem k).mp (List.mem_of_getElem? ek)
   show dLoop _ g__law_one_round_L7 _ (s.spots.map Th.spotD) _
   rw [hR.spD]
   refine loop_ix (fun j ρ => ∃ (G : Nat → Int) (s4 s5 s6 : Option SV), Th.Rel s.turns.length sp o (dF dl) (Th.lastF last) F p G ∧ Th.Pass sp (dF dl) F k j G ∧ ρ = RLo s dl last G s4 s5 s6 (some (.frz d))) (fun j d2 ρ nx2 hd3 hI hnx2 => ?_) ⟨G, s4, s5, s6, hG, fun x hx => by simp at hx, rfl⟩ (fun ρ hI => ?_)
   ·obtain ⟨G, s4, s5, s6, hG, hP, rfl⟩ := hI
    rw [List.getElem?_map] at hd3
    cases ex : sp[j]? with
    | none => rw [ex] at hd3; cases hd3
    | some x =>
     rw [ex] at hd3
     cases hd3
     have hx := List.mem_of_getElem? ex
     have ⟨l1, l2⟩ := hR.rnd.lt x hx
     refine ⟨rfl, ?_⟩
     refine lone_L7 hd l1 l2 (fun c => ?_) (fun c => ?_)
     ·exact hnx2 _ ⟨_, some (.frz (.tuple [nD x.1])), some (.frz (.tuple [nD x.2.1])), some (.frz (.int x.2.2)), hG.relax hR.rnd hF hx c, hP.add hO hG ek ex c, rfl⟩
     ·exact hnx2 _ ⟨G, some (.frz (.tuple [nD x.1])), some (.frz (.tuple [nD x.2.1])), some (.frz (.int x.2.2)), hG, hP.skip ex c, rfl⟩
   ·obtain ⟨G, s4, s5, s6, hG, hP, rfl⟩ := hI
    rw [List.length_map] at hP
    refine hnx _ ⟨G, s4, s5, s6, _, hG.next hR.rnd hO hF ek ?_ (fun x hx e1 e2 => hP x (by rw [List.take_length]; exact hx) e1 e2), rfl⟩
    unfold dF
    rw [List.getD_eq_getElem?_getD, List.getElem?_eq_getElem (by rw [hd.1]; exact kT)]
    exact (hd.2 _ (List.getElem_mem _)).1
  ·obtain ⟨G, s4, s5, s6, s7, hG, rfl⟩ := hI
   rw [List.length_map] at hG
   have e : rowD s.turns.length G = rowD s.turns.length F := by
    unfold rowD
    refine congrArg PyData.list (List.map_congr_left fun k hk => ?_)
    rw [hG.eq k (by rw [← ol, List.take_length]; exact (hO.mem k).mpr (List.mem_range.mp hk))]
   rw [← e] at h
   exact ⟨nofun, h⟩
end My.Q
set_option linter.all false
set_option maxRecDepth 100000
namespace My.Q
open PySem PySem.Spec L2 Dv
def S__law_times (n : Nat) : SpD := fun ds q => ∃ (s : Th.Sheet) (sp : List Th.Spot1) (dl : List Int) (r : Nat) (o : List Nat) (rows : List (Nat → Int)), ds = [Th.sheetD s, .tuple (dl.map .int), nD r] ∧ RC n s sp ∧ DlOk s.turns.length dl ∧ r ≤ 60 ∧ Th.OrdOk s.turns.length sp o ∧ Th.RowsOk s.turns.length sp (dF dl) rows ∧ rows.length = r ∧ q (.frz (rowsD s.turns.length rows)) [none, none, none]
theorem lastL_take {T i : Nat} {rows : List (Nat → Int)} {F : Nat → Int} (e : rows[i]? = some F) : lastL T (rows.take (i + 1)).getLast? = rowD T F := by
 rw [List.take_add_one, e]
 show lastL T (rows.take i ++ [F]).getLast? = _
 rw [List.getLast?_concat]
 rfl
theorem p__law_times (n : Nat) (ds : List PyData) (q : SV → Outs → Prop) (h : S__law_times n ds q) (hl : ds.length = P__law_times.length) : g__law_times (S__law_one_round n) (endsOf P__law_times q) (startE N__law_times.length P__law_times ds) := by
 obtain ⟨s, sp, dl, r, o, rows, rfl, hR, hd, hr, hO, hrows, hlen, h⟩ := h
 have htl := hR.ok.tl
 have dll : (dl.map PyData.int).length = s.turns.length := by rw [List.length_map]; exact hd.1
 refine ⟨tle, ?_⟩
 refine ⟨by omega, by omega, ?_⟩
 rw [range_nats]
 refine loop_ix (fun i ρ => ∃ (s5 : Option SV), ρ = [some (.frz (Th.sheetD s)), some (.frz (.tuple (dl.map .int))), some (.frz (nD r)), some (.own (.list ((rows.take i).map (rowD s.turns.length)))), some (.frz (lastL s.turns.length (rows.take i).getLast?)), s5, none, none]) (fun i d ρ nx hd2 hI hnx => ?_) ⟨none, rfl⟩ (fun ρ hI => ?_)
 ·obtain ⟨s5, rfl⟩ := hI
  have hi := (List.getElem?_eq_some_iff.mp hd2).1
  rw [List.length_map, List.length_range] at hi
  have ef : rows[i]? = some (rows[i]'(by omega)) := List.getElem?_eq_getElem (by omega)
  generalize rows[i]'(by omega) = F at ef
  refine ⟨trivial, List.nodup_nil, s, sp, dl, o, (rows.take i).getLast?, F, rfl, hR, hd, hO, hrows i F ef, ?_⟩
  refine ⟨rfl, by rw [List.length_map, List.length_take]; exact Nat.lt_of_lt_of_le (show _ < 61 by omega) tle, ?_⟩
  refine hnx _ ⟨some (.frz d), ?_⟩
  rw [lastL_take ef, List.take_add_one, ef, List.map_append]
  rfl
 ·obtain ⟨s5, rfl⟩ := hI
  rw [List.length_map, List.length_range, ← hlen, List.take_length]
  refine ⟨by rw [dll]; omega, by rw [dll]; omega, ?_⟩
  rw [dll, range_nats]
  rw [hlen]
  refine lc_mapI (fun ρ => ∃ c : SV, (c = .own (.list (rows.map (rowD s.turns.length))) ∨ c = .frz (.list (rows.map (rowD s.turns.length)))) ∧ ρ = [some (.frz (Th.sheetD s)), some (.frz (.tuple (dl.map .int))), some (.frz (nD r)), some c, some (.frz (lastL s.turns.length rows.getLast?)), s5, none, none]) nD (fun k => .tuple (rows.map fun F => .int (F k))) ⟨_, .inl rfl, rfl⟩ (fun k hk ρ yes no hI hy => ?_) (by rw [List.length_range]; omega) (fun ρ hI => ?_)
  ·have kT := List.mem_range.mp hk
   obtain ⟨c, hc, rfl⟩ := hI
   have fin := hy _ ⟨.frz (.list (rows.map (rowD s.turns.length))), .inr rfl, rfl⟩
   have go : dLcL P__law_times (gN 7) dYes (dBin ixD (dVar 7) (dVar 6)) [7] (fun d ρ' => tupleSD [d] fun z => yes z (restE ρ' [some (.frz (Th.sheetD s)), some (.frz (.tuple (dl.map .int))), some (.frz (nD r)), some c, some (.frz (lastL s.turns.length rows.getLast?)), s5, none, none] [6])) (rows.map (rowD s.turns.length)) [] [some (.frz (Th.sheetD s)), some (.frz (.tuple (dl.map .int))), some (.frz (nD r)), some (.frz (.list (rows.map (rowD s.turns.length)))), some (.frz (lastL s.turns.length rows.getLast?)), s5, some (.frz (nD k)), none] := by
    refine lc_mapR (xs := rows) (rowD s.turns.length) (fun F => .int (F k)) (fun F hF yes no hy => ?_) (by omega) ?_
    ·exact atR (row_at kT) hy
    ·exact fin
   rcases hc with rfl | rfl
   ·exact ⟨nofun, go⟩
   ·exact go
  ·obtain ⟨c, hc, rfl⟩ := hI
   exact h
end My.Q
set_option linter.all false
set_option maxRecDepth 100000
namespace My
open PySem PySem.Spec L2 Dv
structure ShB (k n : Nat) (d : PyData) : Prop where
 sh : Shp k d
 ok : d.showable = true
 sz : d.shown.length ≤ n
theorem ShB.mono {k n k' n' : Nat} {d : PyData} (h : ShB k n d) (hk : k ≤ k' := by omega) (hn : n ≤ n' := by omega) : ShB k' n' d := ⟨h.sh.mono hk, h.ok, Nat.le_trans h.sz hn⟩
theorem ShB.sho {k n : Nat} {d : PyData} (h : ShB k n d) (hk : k ≤ 60 := by decide) (hn : n ≤ 16777216 := by decide) : Sho d := ⟨h.sh.mono hk, h.ok, Nat.le_trans h.sz hn⟩
theorem shown_all {n : Nat} : ∀ {ds : List PyData}, (∀ d ∈ ds, d.shown.length ≤ n) → ((PyData.shownAll ds).map (·.length)).sum + 2 * (PyData.shownAll ds).length ≤ ds.length * (n + 2)
 | [], _ => by simp [PyData.shownAll]
 | d :: ds, h => by
  have ih := shown_all (ds := ds) fun e he => h e (List.mem_cons_of_mem _ he)
  have h1 := h d List.mem_cons_self
  simp only [PyData.shownAll, List.map_cons, List.sum_cons, List.length_cons, Nat.add_mul, Nat.one_mul] at ih ⊢
  omega
theorem ShB.tuple {k n : Nat} {ds : List PyData} (h : ∀ d ∈ ds, ShB k n d) : ShB (k + 1) (ds.length * (n + 2) + 3) (.tuple ds) := by
 refine ⟨Shp.tuple fun d hd => (h d hd).sh, ?_, ?_⟩
 ·simp only [PyData.showable]
  exact showAll_of fun d hd => (h d hd).ok
 ·have h1 := shown_all fun d hd => (h d hd).sz
  have h2 := tupleText_le (PyData.shownAll ds)
  simp only [PyData.shown]
  omega
theorem ShB.str {n : Nat} {x : Str} (h : Tx n x) : ShB 0 (10 * n + 2) (.str x) := ⟨Shp.str h, by simp [PyData.showable], by simp only [PyData.shown]; exact repr_le h⟩
theorem ShB.nat {n : Nat} (h : n < 1000) : ShB 0 3 (.int (n : Nat)) := by
 have key : ∀ n : Fin 1000, (PyData.int ((n.val : Nat) : Int)).showable = true ∧ (PyData.int ((n.val : Nat) : Int)).shown.length ≤ 3 := by decide +kernel
 exact ⟨Shp.int _, (key ⟨n, h⟩).1, (key ⟨n, h⟩).2⟩
end My
set_option linter.all false
set_option maxRecDepth 100000
namespace My.Q
open PySem PySem.Spec L2 Dv
theorem bit_th {v : Int} : Bit v ↔ Th.Bit v := by unfold Bit Th.Bit; omega
theorem ShB.int {k : Int} (h0 : 0 ≤ k) (h1 : k < 1000) : ShB 0 3 (.int k) := by
 have : k = ((k.toNat : Nat) : Int) := by omega
 rw [this]
 exact ShB.nat (by omega)
theorem ShB.bit {v : Int} (h : Bit v) : ShB 0 3 (.int v) := by
 rcases h with rfl | rfl
 ·exact ShB.int (by decide) (by decide)
 ·exact ShB.int (by decide) (by decide)
theorem ShB.text {x : Str} (h : Tx 8 x) : ShB 0 82 (.str x) := ShB.str h
theorem ShB.tup2 {k n a b : Nat} {x y : PyData} (hx : ShB k n x) (hy : ShB k n y) : ShB (k + 1) (2 * (n + 2) + 3) (.tuple [x, y]) := ShB.tuple (ds := [x, y]) fun d hd => by
 simp at hd
 rcases hd with rfl | rfl
 ·exact hx
 ·exact hy
theorem ShB.tup3 {k n : Nat} {x y z : PyData} (hx : ShB k n x) (hy : ShB k n y) (hz : ShB k n z) : ShB (k + 1) (3 * (n + 2) + 3) (.tuple [x, y, z]) := ShB.tuple (ds := [x, y, z]) fun d hd => by
 simp at hd
 rcases hd with rfl | rfl | rfl
 ·exact hx
 ·exact hy
 ·exact hz
theorem ShB.tupM {α : Type} {k n m : Nat} {l : List α} (f : α → PyData) (h : ∀ a ∈ l, ShB k n (f a)) (hl : l.length ≤ m) : ShB (k + 1) (m * (n + 2) + 3) (.tuple (l.map f)) := by
 have := ShB.tuple (ds := l.map f) (k := k) (n := n) fun d hd => by
  obtain ⟨a, ha, rfl⟩ := List.mem_map.mp hd
  exact h a ha
 refine this.mono (Nat.le_refl _) ?_
 rw [List.length_map]
 have := Nat.mul_le_mul_right (n + 2) hl
 omega
theorem ris_len {n : Int} {ks : List Int} (h : Th.RisOk n ks) (hn : 0 ≤ n) : (ks.length : Int) ≤ n := by
 obtain ⟨h1, h2⟩ := h
 have nd : ks.Nodup := h2.imp fun hh => by omega
 have := Th.nodup_le (l := ks) (m := (List.range n.toNat).map fun i : Nat => (i : Int)) nd fun k hk => by
  have := h1 k hk
  exact List.mem_map.mpr ⟨k.toNat, List.mem_range.mpr (by omega), by omega⟩
 rw [List.length_map, List.length_range] at this
 omega
theorem shb_ris {s : Th.Sheet} (hs : Th.SheetOk s) {ks : List Int} (h : Th.RisOk s.turns.length ks) : ShB 1 123 (.tuple (ks.map .int)) := by
 have := hs.tl
 have hl := ris_len h (by omega)
 exact ShB.tupM (m := 24) PyData.int (fun k hk => ShB.int (h.1 k hk).1 (by have := (h.1 k hk).2; omega)) (by omega)
theorem shb_spot {s : Th.Sheet} (hs : Th.SheetOk s) {x : Th.Spot} (hx : x ∈ s.spots) : ShB 2 378 (Th.spotD x) := by
 obtain ⟨h1, h2, h3⟩ := hs.sok x hx
 exact ShB.tup3 (shb_ris hs h1) (shb_ris hs h2) ((ShB.bit (bit_th.mpr h3)).mono)
theorem shb_turn {s : Th.Sheet} (hs : Th.SheetOk s) {x : Str × Int} (hx : x ∈ s.turns) : ShB 1 171 (Th.turnD x) := by
 obtain ⟨h1, h2⟩ := hs.ttx x hx
 obtain ⟨w, hw, e⟩ := List.mem_map.mp h1
 have := (hs.wtx w hw).1
 rw [e] at this
 exact ShB.tup2 (a := 0) (b := 0) (ShB.text this) ((ShB.bit (bit_th.mpr h2)).mono)
theorem shb_wire {s : Th.Sheet} (hs : Th.SheetOk s) {x : Th.Wire} (hx : x ∈ s.wires) : ShB 1 255 (Th.wireD x) := by
 obtain ⟨h1, h2, h3⟩ := hs.wtx x hx
 exact ShB.tup3 (ShB.text h1) (ShB.text h2) ((ShB.bit (bit_th.mpr h3)).mono)
theorem shb_sheet {s : Th.Sheet} (hs : Th.SheetOk s) : ShB 4 100000 (Th.sheetD s) := by
 have h1 := ShB.tupM (m := 8) Th.wireD (fun x hx => shb_wire hs hx) hs.wl
 have h2 := ShB.tupM (m := 24) Th.turnD (fun x hx => shb_turn hs hx) hs.tl
 have h3 := ShB.tupM (m := 60) Th.spotD (fun x hx => shb_spot hs hx) hs.sl
 exact (ShB.tup3 (k := 3) (n := 30000) (h1.mono) (h2.mono) (h3.mono)).mono
theorem textFrom_le : ∀ (ts : List Str) (k : Nat) (acc : Str), (textFrom k acc ts).length ≤ acc.length + (ts.map (·.length)).sum + 2 * ts.length
 | [], _, acc => by show acc.length ≤ _; simp
 | t :: r, k, acc => by
  have ih := textFrom_le r (k + 1) (acc ++ (if k > 0 then ", " else "" : String) ++ t)
  have e : (acc ++ (if k > 0 then ", " else "" : String) ++ t).length ≤ acc.length + 2 + t.length := by
   rw [len_app, len_app]
   have : ((if k > 0 then ", " else "" : String) : Str).length ≤ 2 := by split <;> decide
   omega
  show (textFrom (k + 1) _ r).length ≤ _
  simp only [List.map_cons, List.sum_cons, List.length_cons]
  omega
theorem ShB.list {k n : Nat} {ds : List PyData} (h : ∀ d ∈ ds, ShB k n d) : ShB (k + 1) (ds.length * (n + 2) + 3) (.list ds) := by
 refine ⟨Shp.list fun d hd => (h d hd).sh, ?_, ?_⟩
 ·simp only [PyData.showable]
  exact showAll_of fun d hd => (h d hd).ok
 ·have h1 := shown_all fun d hd => (h d hd).sz
  have h2 := textFrom_le (PyData.shownAll ds) 0 "["
  simp only [PyData.shown]
  unfold listText
  rw [len_app]
  have e1 : (("[" : Str)).length = 1 := by decide
  have e2 : (("]" : Str)).length = 1 := by decide
  omega
theorem shb_long {v : Int} (h0 : 0 ≤ v) (h : v < 10 ^ 10) : ShB 0 10 (.int v) := by
 refine ⟨Shp.int _, ?_, ?_⟩
 ·have h2 : v.natAbs.log2 < 1920 := by
   by_cases c : v.natAbs = 0
   ·rw [c]; decide
   ·refine Nat.lt_of_lt_of_le ((Nat.log2_lt c).mpr (show v.natAbs < 2 ^ 34 by omega)) (by decide)
  simp [PyData.showable, h2]
 ·have e : (PyData.int v).shown = Str.ofString (toString v) := by simp [PyData.shown]
  rw [e]
  exact PyProof.Rows.toString_length_le h0 (by decide) h
theorem shb_dl {T : Nat} {dl : List Int} (h : DlOk T dl) (hT : T ≤ 24) : ShB 1 300 (.tuple (dl.map .int)) :=
 (ShB.tupM (m := 24) (k := 0) (n := 10) PyData.int (fun v hv => shb_long (h.2 v hv).1 (by have := (h.2 v hv).2; omega)) (by rw [h.1]; exact hT)).mono
theorem shb_rows {n : Nat} {s : Th.Sheet} {sp : List Th.Spot1} {dl : List Int} {o : List Nat} {rows : List (Nat → Int)} (hR : RC n s sp) (hd : DlOk s.turns.length dl) (hO : Th.OrdOk s.turns.length sp o) (h : Th.RowsOk s.turns.length sp (dF dl) rows) (hl : rows.length ≤ 60) : ShB 2 20000 (rowsD s.turns.length rows) := by
 have htl := hR.ok.tl
 have hd2 : ∀ k, k < s.turns.length → 0 ≤ dF dl k ∧ dF dl k ≤ 1000000 := fun k hk => by
  unfold dF
  rw [List.getD_eq_getElem?_getD, List.getElem?_eq_getElem (by rw [hd.1]; exact hk)]
  exact hd.2 _ (List.getElem_mem _)
 have B := h.bound hR.rnd hO hd2 htl
 have key : ∀ k : Nat, k ∈ List.range s.turns.length → ShB 1 723 (.tuple (rows.map fun F : Nat → Int => PyData.int (F k))) := fun k hk => by
  have kT := List.mem_range.mp hk
  refine ShB.tupM (m := 60) (k := 0) (n := 10) (fun F : Nat → Int => PyData.int (F k)) (fun F hF => ?_) hl
  obtain ⟨i, hi, e⟩ := List.getElem_of_mem hF
  have := B i F (List.getElem?_eq_some_iff.mpr ⟨hi, e⟩) k kT
  exact shb_long this.1 (by omega)
 have fin := ShB.tupM (m := 24) (k := 1) (n := 723) (fun k : Nat => PyData.tuple (rows.map fun F : Nat → Int => PyData.int (F k))) key (by rw [List.length_range]; exact htl)
 exact fin.mono (by decide) (by decide)
theorem sho_rows {n : Nat} {s : Th.Sheet} {sp : List Th.Spot1} {dl : List Int} {o : List Nat} {rows : List (Nat → Int)} (hR : RC n s sp) (hd : DlOk s.turns.length dl) (hO : Th.OrdOk s.turns.length sp o) (h : Th.RowsOk s.turns.length sp (dF dl) rows) (hl : rows.length ≤ 60) : Sho (rowsD s.turns.length rows) := (shb_rows hR hd hO h hl).sho
theorem sho_both {s : Th.Sheet} {dl : List Int} (hs : Th.SheetOk s) (hd : DlOk s.turns.length dl) : Sho (.list [Th.sheetD s, .tuple (dl.map .int)]) := by
 have h1 := shb_sheet hs
 have h2 := shb_dl hd hs.tl
 refine ShB.sho (k := 5) (n := 2 * (100000 + 2) + 3) (ShB.list (k := 4) (n := 100000) (ds := [Th.sheetD s, .tuple (dl.map .int)]) fun d hd => ?_) (by decide) (by decide)
 simp at hd
 rcases hd with rfl | rfl
 ·exact h1
 ·exact h2.mono (by decide) (by decide)
end My.Q
set_option linter.all false
set_option maxRecDepth 100000
namespace My.Q
open PySem PySem.Spec L2 Dv
theorem RC.mono {n m : Nat} {s : Th.Sheet} {sp : List Th.Spot1} (h : RC n s sp) (hm : n ≤ m) : RC m s sp := ⟨h.ok, h.spt, h.rnd, Nat.le_trans h.len hm⟩
theorem RC.with {n : Nat} {s s' : Th.Sheet} {sp' : List Th.Spot1} (h : Th.SheetOk s) (h' : RC n s' sp') (e : s'.turns.length = s.turns.length) (hn : n ≤ 60) : RC n (withS s sp') sp' := by
 have R := h'.rnd
 rw [e] at R
 refine ⟨⟨h.wtx, h.wnd, h.wl, h.ttx, h.tl, fun x hx => ?_, by show (sp'.map Th.enc1).length ≤ 60; rw [List.length_map]; exact Nat.le_trans h'.len hn⟩, rfl, R, h'.len⟩
 obtain ⟨y, hy, rfl⟩ := List.mem_map.mp hx
 obtain ⟨l1, l2⟩ := R.lt y hy
 exact ⟨ris_one l1, ris_one l2, R.bit y hy⟩
def keptT (s : Th.Sheet) (dl : List Int) : Str := (PyData.list [Th.sheetD s, .tuple (dl.map .int)]).shown
section
variable {E : DEnds} {s t : Th.Sheet} {sp : List Th.Spot1} {dl : List Int} {r : Nat} {s0 s1 s2 s3 s6 s7 s8 s9 : Option SV} {SP SD SR SM SL SB : SpD}
theorem law_L9 (hR : RC 39 s sp) (hd : DlOk s.turns.length dl) (hr : r ≤ 60) (ht : Th.SheetOk t) (hdt : DlOk t.turns.length dl)
  (h : ∀ s9, E.nx [s0, s1, some (.frz (nD r)), s3, some (.frz (Th.sheetD t)), some (.frz (.tuple (dl.map .int))), some (.frz (.str (keptT t dl))), some (.frz (Th.sheetD s)), s8, s9]) :
  g_law_L9 SP SD SR SM SL SB (S_times 39) (S__law_times 39) E [s0, s1, some (.frz (nD r)), s3, some (.frz (Th.sheetD t)), some (.frz (.tuple (dl.map .int))), some (.frz (.str (keptT t dl))), some (.frz (Th.sheetD s)), s8, s9] := by
 refine ⟨trivial, List.nodup_nil, s, sp, dl, r, rfl, hR, hd, hr, fun o rows hO hrows hlen => ?_⟩
 refine ⟨sho_rows hR hd hO hrows (by omega), ?_⟩
 refine ⟨trivial, List.nodup_nil, s, sp, dl, r, o, rows, rfl, hR, hd, hr, hO, hrows, hlen, ?_⟩
 refine ⟨sho_rows hR hd hO hrows (by omega), ?_⟩
 refine by2_nd (fun c => absurd rfl c) fun _ => ?_
 refine ⟨tle, sho_both ht hdt, ?_⟩
 exact by2_nd (fun c => absurd rfl c) fun _ => nx_of (h _)
theorem law_L13 (hR : RC 39 s sp) (hd : DlOk s.turns.length dl) (hr : r ≤ 60)
  (h : E.nx [s0, s1, s2, s3, some (.frz (Th.sheetD s)), some (.frz (.tuple (dl.map .int))), s6, s7, some (.frz (nD r)), s9]) :
  g_law_L13 SP SD SR SM SL SB (S_times 39) (S__law_times 39) E [s0, s1, s2, s3, some (.frz (Th.sheetD s)), some (.frz (.tuple (dl.map .int))), s6, s7, some (.frz (nD r)), s9] := by
 refine ⟨trivial, List.nodup_nil, s, sp, dl, r, rfl, hR, hd, hr, fun o rows hO hrows hlen => ?_⟩
 refine ⟨sho_rows hR hd hO hrows (by omega), ?_⟩
 refine ⟨trivial, List.nodup_nil, s, sp, dl, r, o, rows, rfl, hR, hd, hr, hO, hrows, hlen, ?_⟩
 refine ⟨sho_rows hR hd hO hrows (by omega), ?_⟩
 exact by2_nd (fun c => absurd rfl c) fun _ => nx_of h
end
section
variable {q : SV → Outs → Prop} {s t : Th.Sheet} {sp sp' : List Th.Spot1} {dl : List Int} {r : Nat} {s0 s1 s2 s3 s6 s7 s8 s9 : Option SV} {SP SD SR SM SL SB : SpD}
theorem law_L12 {x0 : PyData} (hR : RC 39 s sp) (hd : DlOk s.turns.length dl) (h1 : 1 ≤ r) (hr : r ≤ 60) (h : q (.frz (.bool true)) [none]) :
  g_law_L12 SP SD SR SM SL SB (S_times 39) (S__law_times 39) (endsOf P_law q) [some (.frz x0), s1, some (.frz (nD r)), s3, some (.frz (Th.sheetD s)), some (.frz (.tuple (dl.map .int))), s6, s7, s8, s9] := by
 obtain ⟨a, ha, ea⟩ : ∃ a : Nat, a ≤ 60 ∧ (if (r : Int) - 1 > 1 then (r : Int) - 1 else 1) = a := ⟨(if (r : Int) - 1 > 1 then (r : Int) - 1 else 1).toNat, by split <;> omega, by split <;> omega⟩
 obtain ⟨b, hb, eb⟩ : ∃ b : Nat, b ≤ 60 ∧ (if (r : Int) + 2 < 60 then (r : Int) + 2 else 60) = b := ⟨(if (r : Int) + 2 < 60 then (r : Int) + 2 else 60).toNat, by split <;> omega, by split <;> omega⟩
 suffices go : dLoop (gN 8) (g_law_L13 SP SD SR SM SL SB (S_times 39) (S__law_times 39)) { nx := g_law_L15 SP SD SR SM SL SB (S_times 39) (S__law_times 39) (endsOf P_law q), rt := (endsOf P_law q).rt, bk := (endsOf P_law q).bk, ct := (endsOf P_law q).ct } [.int (if (r : Int) - 1 > 1 then (r : Int) - 1 else 1), .int (if (r : Int) + 2 < 60 then (r : Int) + 2 else 60)] [some (.frz x0), s1, some (.frz (nD r)), s3, some (.frz (Th.sheetD s)), some (.frz (.tuple (dl.map .int))), s6, s7, s8, s9] from ⟨trivial, tle, go⟩
 rw [ea, eb]
 refine loop_ix (fun i ρ => ∃ s8 : Option SV, ρ = [some (.frz x0), s1, some (.frz (nD r)), s3, some (.frz (Th.sheetD s)), some (.frz (.tuple (dl.map .int))), s6, s7, s8, s9]) (fun i d ρ nx hd2 hI hnx => ?_) ⟨_, rfl⟩ (fun ρ hI => ?_)
 ·obtain ⟨s8, rfl⟩ := hI
  have hm := List.mem_of_getElem? hd2
  obtain ⟨v, hv, rfl⟩ : ∃ v : Nat, v ≤ 60 ∧ d = nD v := by
   simp at hm
   rcases hm with rfl | rfl
   ·exact ⟨a, ha, rfl⟩
   ·exact ⟨b, hb, rfl⟩
  exact law_L13 (SP := SP) (SD := SD) (SR := SR) (SM := SM) (SL := SL) (SB := SB) hR hd hv (hnx _ ⟨_, rfl⟩)
 ·obtain ⟨s8, rfl⟩ := hI
  exact h
theorem law_L7 {x0 : PyData} (hR : RC 39 s sp) (hR' : RC 39 t sp') (e : t.turns.length = s.turns.length) (hd : DlOk s.turns.length dl) (h1 : 1 ≤ r) (hr : r ≤ 60) (h : q (.frz (.bool true)) [none]) :
  g_law_L7 SP SD SR SM SL SB (S_times 39) (S__law_times 39) (endsOf P_law q) [some (.frz x0), s1, some (.frz (nD r)), some (.frz (Th.sheetD t)), some (.frz (Th.sheetD s)), some (.frz (.tuple (dl.map .int))), s6, s7, s8, s9] := by
 suffices go : dLoop (gN 7) (g_law_L9 SP SD SR SM SL SB (S_times 39) (S__law_times 39)) { nx := g_law_L12 SP SD SR SM SL SB (S_times 39) (S__law_times 39) (endsOf P_law q), rt := (endsOf P_law q).rt, bk := (endsOf P_law q).bk, ct := (endsOf P_law q).ct } [Th.sheetD s, Th.sheetD t, Th.sheetD s] [some (.frz x0), s1, some (.frz (nD r)), some (.frz (Th.sheetD t)), some (.frz (Th.sheetD s)), some (.frz (.tuple (dl.map .int))), some (.frz (.str (keptT s dl))), s7, s8, s9] from ⟨tle, sho_both hR.ok hd, tle, go⟩
 refine loop_ix (fun i ρ => ∃ s7 s9 : Option SV, ρ = [some (.frz x0), s1, some (.frz (nD r)), some (.frz (Th.sheetD t)), some (.frz (Th.sheetD s)), some (.frz (.tuple (dl.map .int))), some (.frz (.str (keptT s dl))), s7, s8, s9]) (fun i d ρ nx hd2 hI hnx => ?_) ⟨_, _, rfl⟩ (fun ρ hI => ?_)
 ·obtain ⟨s7, s9, rfl⟩ := hI
  have hm := List.mem_of_getElem? hd2
  have key : d = Th.sheetD s ∨ d = Th.sheetD t := by
   simp at hm
   rcases hm with rfl | rfl | rfl
   ·exact .inl rfl
   ·exact .inr rfl
   ·exact .inl rfl
  rcases key with rfl | rfl
  ·exact law_L9 (SP := SP) (SD := SD) (SR := SR) (SM := SM) (SL := SL) (SB := SB) hR hd hr hR.ok hd fun s9 => hnx _ ⟨_, _, rfl⟩
  ·exact law_L9 (SP := SP) (SD := SD) (SR := SR) (SM := SM) (SL := SL) (SB := SB) hR' (by rw [e]; exact hd) hr hR.ok hd fun s9 => hnx _ ⟨_, _, rfl⟩
 ·obtain ⟨s7, s9, rfl⟩ := hI
  exact law_L12 (SP := SP) (SD := SD) (SR := SR) (SM := SM) (SL := SL) (SB := SB) hR hd h1 hr h
end
section
variable {q : SV → Outs → Prop} {s : Th.Sheet} {pen x0 : PyData} {m r : Nat} {s3 s4 s5 s6 s7 s8 s9 : Option SV} {SP : SpD}
theorem law_L4 (hp : PenOk m pen) (hm : m + 2000 < 10000000) (hQ : RoundQ 34 s) (h1 : 1 ≤ r) (hr : r ≤ 60) (h : q (.frz (.bool true)) [none]) :
  g_law_L4 SP S__law_draw (S__law_round 34) (S__law_more 34) S__law_delays S__law_begun (S_times 39) (S__law_times 39) (endsOf P_law q) [some (.frz x0), some (.own pen), some (.frz (nD r)), some (.frz (Th.sheetD s)), s4, s5, s6, s7, s8, s9] := by
 obtain ⟨sp, hR⟩ := hQ.rc
 refine ⟨⟨trivial, trivial⟩, by simp [selSlots], pen, 2, m, rfl, hp, by omega, by omega, by omega, fun b pen1 b0 b1 hp1 => ?_⟩
 refine ⟨⟨trivial, trivial⟩, by simp [selSlots], pen1, m + 1, s, sp, b, rfl, hp1, by omega, hR, by omega, by omega, fun sp2 pen2 hR2 hp2 => ?_⟩
 refine ⟨⟨trivial, trivial⟩, by simp [selSlots], pen2, m + 21, withS s sp2, rfl, hp2, by omega, hR2.ok, fun dl pen3 hd hp3 => ?_⟩
 refine ⟨⟨trivial, trivial⟩, by simp [selSlots], pen3, m + 121, s, rfl, hp3, by omega, hR.ok, hQ.live, fun x pen4 hx hp4 => ?_⟩
 obtain ⟨sp3, hR3⟩ := (hQ.on hx).rc
 have hw := RC.with (s := s) hR.ok hR3 rfl (by decide)
 refine ⟨tle, ?_⟩
 have e : PyData.tuple [.tuple (s.wires.map Th.wireD), .tuple (s.turns.map Th.turnD), .tuple ((Th.begunS s x).spots.map Th.spotD)] = Th.sheetD (withS s sp3) := by rw [sheetS, hR3.spD]
 show g_law_L7 SP S__law_draw (S__law_round 34) (S__law_more 34) S__law_delays S__law_begun (S_times 39) (S__law_times 39) (endsOf P_law q) [some (.frz x0), some (.own pen4), some (.frz (nD r)), some (.frz (.tuple [.tuple (s.wires.map Th.wireD), .tuple (s.turns.map Th.turnD), .tuple ((Th.begunS s x).spots.map Th.spotD)])), some (.frz (Th.sheetD (withS s sp2))), some (.frz (.tuple (dl.map .int))), s6, s7, s8, s9]
 rw [e]
 exact law_L7 (SP := SP) (SD := S__law_draw) (SR := S__law_round 34) (SM := S__law_more 34) (SL := S__law_delays) (SB := S__law_begun) hR2 (hw.mono (by decide)) rfl hd h1 hr h
end
theorem most_at {r : Int} (h0 : 0 ≤ r) (h1 : r < 4) : ∃ x : Nat, (2 ≤ x ∧ x ≤ 24) ∧ atI [PyData.int 4, .int 8, .int 14, .int 24] r = some (nD x) := by
 obtain ⟨k, rfl⟩ : ∃ k : Nat, r = k := ⟨r.toNat, by omega⟩
 have hk : k < 4 := by omega
 match k, hk with
 | 0, _ => exact ⟨4, by decide, rfl⟩
 | 1, _ => exact ⟨8, by decide, rfl⟩
 | 2, _ => exact ⟨14, by decide, rfl⟩
 | 3, _ => exact ⟨24, by decide, rfl⟩
theorem p_law (ds : List PyData) (q : SV → Outs → Prop) (h : lawSp 63 (fun _ => True) ds q) (hl : ds.length = P_law.length) : g_law S__law_pen S__law_draw (S__law_round 34) (S__law_more 34) S__law_delays S__law_begun (S_times 39) (S__law_times 39) (endsOf P_law q) (startE N_law.length P_law ds) := by
 obtain ⟨ns, rfl, hn, _, h⟩ := h
 refine ⟨trivial, List.nodup_nil, ns, rfl, hn, fun pen hp => ?_⟩
 refine ⟨⟨trivial, trivial⟩, by simp [selSlots], pen, 4, 0, rfl, hp, by omega, by omega, by omega, fun a pen1 a0 a1 hp1 => ?_⟩
 refine ⟨⟨trivial, trivial⟩, by simp [selSlots], pen1, 60, 1, rfl, hp1, by omega, by omega, by omega, fun b pen2 b0 b1 hp2 => ?_⟩
 refine ⟨tle, ⟨trivial, trivial⟩, by simp [selSlots], pen2, 8, 2, rfl, hp2, by omega, by omega, by omega, fun c pen3 c0 c1 hp3 => ?_⟩
 refine ⟨shp_int _, shp_int _, ?_⟩
 have key : ∀ r : Nat, 1 ≤ r → r ≤ 60 → g_law_L3 S__law_pen S__law_draw (S__law_round 34) (S__law_more 34) S__law_delays S__law_begun (S_times 39) (S__law_times 39) (endsOf P_law q) [some (.frz (.list (ns.map .int))), some (.own pen3), some (.frz (nD r)), none, none, none, none, none, none, none] := fun r h1 hr => by
  refine ⟨tle, ⟨trivial, trivial⟩, by simp [selSlots], pen3, 4, 3, rfl, hp3, by omega, by omega, by omega, fun v pen4 v0 v1 hp4 => ?_⟩
  obtain ⟨w, hw, ew⟩ := most_at v0 v1
  refine atR ew ?_
  refine ⟨⟨trivial, trivial⟩, by simp [selSlots], pen4, 4, w, rfl, hp4, by omega, by omega, by omega, by omega, by omega, fun s pen5 hQ hp5 => ?_⟩
  exact law_L4 (SP := S__law_pen) hp5 (by omega) hQ h1 hr h
 cases ez : PyData.eqv (.int c) (.int 0) with
 | true =>
  have := key (1 + b).toNat (by omega) (by omega)
  have e : nD (1 + b).toNat = .int (1 + b) := by unfold nD; congr 1; omega
  rw [e] at this
  exact atR (d := .int (1 + b)) (by show atI [PyData.int (1 + a), PyData.int (1 + b)] (if PyData.eqv (.int c) (.int 0) = true then 1 else 0) = _; rw [ez]; rfl) this
 | false =>
  have := key (1 + a).toNat (by omega) (by omega)
  have e : nD (1 + a).toNat = .int (1 + a) := by unfold nD; congr 1; omega
  rw [e] at this
  exact atR (d := .int (1 + a)) (by show atI [PyData.int (1 + a), PyData.int (1 + b)] (if PyData.eqv (.int c) (.int 0) = true then 1 else 0) = _; rw [ez]; rfl) this
end My.Q
set_option linter.all false
set_option maxRecDepth 100000
namespace My
open PySem PySem.Spec L2 Dv Q
abbrev S__law_round : SpD := Q.S__law_round 34
theorem p__law_round (ds : List PyData) (q : SV → Outs → Prop) (h : S__law_round ds q) (hl : ds.length = P__law_round.length) : g__law_round S__law_word S__law_pairs_joined S__law_names S__law_draw S__law_begun (endsOf P__law_round q) (startE N__law_round.length P__law_round ds) := Q.p__law_round ds q h hl
abbrev S__law_more : SpD := Q.S__law_more 34
theorem p__law_more (ds : List PyData) (q : SV → Outs → Prop) (h : S__law_more ds q) (hl : ds.length = P__law_more.length) : g__law_more S__law_draw (endsOf P__law_more q) (startE N__law_more.length P__law_more ds) := Q.p__law_more 34 ds q h hl
abbrev S_is_round : SpD := Q.S_is_round 39
theorem p_is_round (ds : List PyData) (q : SV → Outs → Prop) (h : S_is_round ds q) (hl : ds.length = P_is_round.length) : g_is_round S_led_from (endsOf P_is_round q) (startE N_is_round.length P_is_round ds) := Q.p_is_round 39 ds q h hl
abbrev S_look_at : SpD := Q.S_look_at 39
theorem p_look_at (ds : List PyData) (q : SV → Outs → Prop) (h : S_look_at ds q) (hl : ds.length = P_look_at.length) : g_look_at S_is_round S_are_delays (endsOf P_look_at q) (startE N_look_at.length P_look_at ds) := Q.p_look_at 39 ds q h hl
abbrev S_in_order : SpD := Q.S_in_order 39
theorem p_in_order (ds : List PyData) (q : SV → Outs → Prop) (h : S_in_order ds q) (hl : ds.length = P_in_order.length) : g_in_order  (endsOf P_in_order q) (startE N_in_order.length P_in_order ds) := Q.p_in_order 39 ds q h hl
abbrev S_one_round : SpD := Q.S_one_round 39
theorem p_one_round (ds : List PyData) (q : SV → Outs → Prop) (h : S_one_round ds q) (hl : ds.length = P_one_round.length) : g_one_round  (endsOf P_one_round q) (startE N_one_round.length P_one_round ds) := Q.p_one_round 39 ds q h hl
abbrev S_times : SpD := Q.S_times 39
theorem p_times (ds : List PyData) (q : SV → Outs → Prop) (h : S_times ds q) (hl : ds.length = P_times.length) : g_times S_look_at S_in_order S_one_round (endsOf P_times q) (startE N_times.length P_times ds) := Q.p_times 39 ds q h hl
abbrev S__law_one_round : SpD := Q.S__law_one_round 39
theorem p__law_one_round (ds : List PyData) (q : SV → Outs → Prop) (h : S__law_one_round ds q) (hl : ds.length = P__law_one_round.length) : g__law_one_round  (endsOf P__law_one_round q) (startE N__law_one_round.length P__law_one_round ds) := Q.p__law_one_round 39 ds q h hl
abbrev S__law_times : SpD := Q.S__law_times 39
theorem p__law_times (ds : List PyData) (q : SV → Outs → Prop) (h : S__law_times ds q) (hl : ds.length = P__law_times.length) : g__law_times S__law_one_round (endsOf P__law_times q) (startE N__law_times.length P__law_times ds) := Q.p__law_times 39 ds q h hl
end My
set_option Elab.async false
set_option linter.all false
set_option maxRecDepth 100000
open PySem PySem.W PyProof.Rows
namespace My
open PySem PySem.Spec L2 Dv Q
theorem ok_law {Pg : Program} {w : World} {K : PySem.W.Frag} {mg : Str → Option Value} (T : Mg mg) (F__law_pen : FunAt K mg "_law_pen" s__law_pen ["_law_script"]) (F__law_draw : FunAt K mg "_law_draw" s__law_draw ["_law_pen_here", "_law_many"]) (F__law_word : FunAt K mg "_law_word" s__law_word ["_law_pen_here", "_law_room", "_law_most"]) (F__law_pairs_joined : FunAt K mg "_law_pairs_joined" s__law_pairs_joined ["_law_pen_here", "_law_word_here", "_law_most"]) (F__law_names : FunAt K mg "_law_names" s__law_names ["_law_pen_here", "_law_many"]) (F__law_first : FunAt K mg "_law_first" s__law_first ["_law_sheet"]) (F__law_may : FunAt K mg "_law_may" s__law_may ["_law_sheet", "_law_marks"]) (F__law_behind : FunAt K mg "_law_behind" s__law_behind ["_law_sheet", "_law_stand", "_law_k"]) (F__law_begun : FunAt K mg "_law_begun" s__law_begun ["_law_pen_here", "_law_sheet"]) (F__law_round : FunAt K mg "_law_round" s__law_round ["_law_pen_here", "_law_most"]) (F__law_more : FunAt K mg "_law_more" s__law_more ["_law_pen_here", "_law_sheet", "_law_beside"]) (F__law_delays : FunAt K mg "_law_delays" s__law_delays ["_law_pen_here", "_law_sheet"]) (F_led_from : FunAt K mg "led_from" s_led_from ["sheet", "start", "bare"]) (F_is_round : FunAt K mg "is_round" s_is_round ["sheet"]) (F_are_delays : FunAt K mg "are_delays" s_are_delays ["sheet", "thing"]) (F_look_at : FunAt K mg "look_at" s_look_at ["sheet", "delays"]) (F_in_order : FunAt K mg "in_order" s_in_order ["sheet"]) (F_one_round : FunAt K mg "one_round" s_one_round ["sheet", "delays", "order", "last"]) (F_times : FunAt K mg "times" s_times ["sheet", "delays", "rounds"]) (F__law_one_round : FunAt K mg "_law_one_round" s__law_one_round ["_law_sheet", "_law_delays_here", "_law_last"]) (F__law_times : FunAt K mg "_law_times" s__law_times ["_law_sheet", "_law_delays_here", "_law_rounds"]) (base : Heap) (f : Addr) (fd : FuncData) (F : Fun K "law" "law" s_law f fd) : FnG Pg w K mg base 5 f fd ["_law_script"] (spOf K [false] (lawSp 63 (fun _ => True))) :=
 have H__law_pen : FnAt Pg w K mg base 1 "_law_pen" ["_law_script"] P__law_pen S__law_pen := at__law_pen T F__law_pen p__law_pen
 have H__law_draw : FnAt Pg w K mg base 1 "_law_draw" ["_law_pen_here", "_law_many"] P__law_draw S__law_draw := at__law_draw T F__law_draw p__law_draw
 have H__law_word : FnAt Pg w K mg base 2 "_law_word" ["_law_pen_here", "_law_room", "_law_most"] P__law_word S__law_word := at__law_word T F__law_word H__law_draw.mono p__law_word
 have H__law_pairs_joined : FnAt Pg w K mg base 2 "_law_pairs_joined" ["_law_pen_here", "_law_word_here", "_law_most"] P__law_pairs_joined S__law_pairs_joined := at__law_pairs_joined T F__law_pairs_joined H__law_draw.mono p__law_pairs_joined
 have H__law_names : FnAt Pg w K mg base 2 "_law_names" ["_law_pen_here", "_law_many"] P__law_names S__law_names := at__law_names T F__law_names H__law_draw.mono p__law_names
 have H__law_first : FnAt Pg w K mg base 1 "_law_first" ["_law_sheet"] P__law_first S__law_first := at__law_first T F__law_first p__law_first
 have H__law_may : FnAt Pg w K mg base 1 "_law_may" ["_law_sheet", "_law_marks"] P__law_may S__law_may := at__law_may T F__law_may p__law_may
 have H__law_behind : FnAt Pg w K mg base 1 "_law_behind" ["_law_sheet", "_law_stand", "_law_k"] P__law_behind S__law_behind := at__law_behind T F__law_behind p__law_behind
 have H__law_begun : FnAt Pg w K mg base 2 "_law_begun" ["_law_pen_here", "_law_sheet"] P__law_begun S__law_begun := at__law_begun T F__law_begun H__law_first.mono H__law_draw.mono H__law_may.mono H__law_behind.mono p__law_begun
 have H__law_round : FnAt Pg w K mg base 3 "_law_round" ["_law_pen_here", "_law_most"] P__law_round S__law_round := at__law_round T F__law_round H__law_word.mono H__law_pairs_joined.mono H__law_names.mono H__law_draw.mono H__law_begun.mono p__law_round
 have H__law_more : FnAt Pg w K mg base 2 "_law_more" ["_law_pen_here", "_law_sheet", "_law_beside"] P__law_more S__law_more := at__law_more T F__law_more H__law_draw.mono p__law_more
 have H__law_delays : FnAt Pg w K mg base 2 "_law_delays" ["_law_pen_here", "_law_sheet"] P__law_delays S__law_delays := at__law_delays T F__law_delays H__law_draw.mono p__law_delays
 have H_led_from : FnAt Pg w K mg base 1 "led_from" ["sheet", "start", "bare"] P_led_from S_led_from := at_led_from T F_led_from p_led_from
 have H_is_round : FnAt Pg w K mg base 2 "is_round" ["sheet"] P_is_round S_is_round := at_is_round T F_is_round H_led_from.mono p_is_round
 have H_are_delays : FnAt Pg w K mg base 1 "are_delays" ["sheet", "thing"] P_are_delays S_are_delays := at_are_delays T F_are_delays p_are_delays
 have H_look_at : FnAt Pg w K mg base 3 "look_at" ["sheet", "delays"] P_look_at S_look_at := at_look_at T F_look_at H_is_round.mono H_are_delays.mono p_look_at
 have H_in_order : FnAt Pg w K mg base 1 "in_order" ["sheet"] P_in_order S_in_order := at_in_order T F_in_order p_in_order
 have H_one_round : FnAt Pg w K mg base 1 "one_round" ["sheet", "delays", "order", "last"] P_one_round S_one_round := at_one_round T F_one_round p_one_round
 have H_times : FnAt Pg w K mg base 4 "times" ["sheet", "delays", "rounds"] P_times S_times := at_times T F_times H_look_at.mono H_in_order.mono H_one_round.mono p_times
 have H__law_one_round : FnAt Pg w K mg base 1 "_law_one_round" ["_law_sheet", "_law_delays_here", "_law_last"] P__law_one_round S__law_one_round := at__law_one_round T F__law_one_round p__law_one_round
 have H__law_times : FnAt Pg w K mg base 2 "_law_times" ["_law_sheet", "_law_delays_here", "_law_rounds"] P__law_times S__law_times := at__law_times T F__law_times H__law_one_round.mono p__law_times
 fn_ok F sc_law rfl (by decide) (fun cdv A outer s H E C hr hP => d_law T H__law_pen.mono H__law_draw.mono H__law_round.mono H__law_more.mono H__law_delays.mono H__law_begun.mono H_times.mono H__law_times.mono hr hP) p_law
theorem us1 {M : List PySem.Value → Prop} (h : ∀ a0 : PySem.Value, M [a0]) : ∀ us : List PySem.Value, us.length = 1 → M us := fun us hl => match us, hl with | [a0], _ => h a0
theorem us2 {M : List PySem.Value → Prop} (h : ∀ a0 a1 : PySem.Value, M [a0, a1]) : ∀ us : List PySem.Value, us.length = 2 → M us := fun us hl => match us, hl with | [a0, a1], _ => h a0 a1
theorem us3 {M : List PySem.Value → Prop} (h : ∀ a0 a1 a2 : PySem.Value, M [a0, a1, a2]) : ∀ us : List PySem.Value, us.length = 3 → M us := fun us hl => match us, hl with | [a0, a1, a2], _ => h a0 a1 a2
theorem us4 {M : List PySem.Value → Prop} (h : ∀ a0 a1 a2 a3 : PySem.Value, M [a0, a1, a2, a3]) : ∀ us : List PySem.Value, us.length = 4 → M us := fun us hl => match us, hl with | [a0, a1, a2, a3], _ => h a0 a1 a2 a3
end My
set_option maxHeartbeats 0 in
theorem PySem.Challenge.cw_delaygates_k51_times_told_holds : PySem.Challenge.rw_delaygates_k51_times_told.Holds := by
 w_on; o_law; k_head; (case hw => w_witness2)
 k_fill
 refine Dv.walkG (l := PySem.Challenge.rw_delaygates_k51_times_told) (n := 63) (k := 5) (x := "_law_script") (sp := fun w => Dv.spOf _ [false] (Dv.lawSp 63 (fun _ => True))) rfl (by decide) rfl ⟨⟨rfl, by decide, by decide⟩, rfl⟩ (fun w h Y => PySem.W.kIn_of Y) ?F (fun _ _ a ns hl hS => Dv.law_sp hl trivial hS)
 case F =>
  intro w mg fa h KX G hmg
  have T : My.Mg mg := by
   refine' ⟨PySem.W.mg_none_of KX G ?z0, PySem.W.mg_none_of KX G ?z1, PySem.W.mg_none_of KX G ?z2, PySem.W.mg_none_of KX G ?z3, PySem.W.mg_none_of KX G ?z4, PySem.W.mg_none_of KX G ?z5, PySem.W.mg_none_of KX G ?z6, PySem.W.mg_none_of KX G ?z7, PySem.W.mg_none_of KX G ?z8, PySem.W.mg_none_of KX G ?z9, PySem.W.mg_none_of KX G ?z10, PySem.W.mg_none_of KX G ?z11, PySem.W.mg_none_of KX G ?z12, PySem.W.mg_none_of KX G ?z13, PySem.W.mg_none_of KX G ?z14, PySem.W.mg_none_of KX G ?z15, PySem.W.mg_none_of KX G ?z16, Dv.gint_mk KX G ?y0⟩
   (case z0 => k_is); (case z1 => k_is); (case z2 => k_is); (case z3 => k_is); (case z4 => k_is); (case z5 => k_is); (case z6 => k_is); (case z7 => k_is); (case z8 => k_is); (case z9 => k_is); (case z10 => k_is); (case z11 => k_is); (case z12 => k_is); (case z13 => k_is); (case z14 => k_is); (case z15 => k_is); (case z16 => k_is); (case y0 => k_is)
  refine' Dv.with_fun (x := "_law_pen") (st := My.s__law_pen) (ps := ["_law_script"]) KX G (fun _ _ _ _ _ _ => My.us1 fun _ => rfl) ?a0 ?l0 ?c0 ?k0 ?next0
  (case a0 => k_is); (case l0 => k_is); (case c0 => k_is); (case k0 => k_is)
  intro F__law_pen
  refine' Dv.with_fun (x := "_law_draw") (st := My.s__law_draw) (ps := ["_law_pen_here", "_law_many"]) KX G (fun _ _ _ _ _ _ => My.us2 fun _ _ => rfl) ?a1 ?l1 ?c1 ?k1 ?next1
  (case a1 => k_is); (case l1 => k_is); (case c1 => k_is); (case k1 => k_is)
  intro F__law_draw
  refine' Dv.with_fun (x := "_law_word") (st := My.s__law_word) (ps := ["_law_pen_here", "_law_room", "_law_most"]) KX G (fun _ _ _ _ _ _ => My.us3 fun _ _ _ => rfl) ?a2 ?l2 ?c2 ?k2 ?next2
  (case a2 => k_is); (case l2 => k_is); (case c2 => k_is); (case k2 => k_is)
  intro F__law_word
  refine' Dv.with_fun (x := "_law_pairs_joined") (st := My.s__law_pairs_joined) (ps := ["_law_pen_here", "_law_word_here", "_law_most"]) KX G (fun _ _ _ _ _ _ => My.us3 fun _ _ _ => rfl) ?a3 ?l3 ?c3 ?k3 ?next3
  (case a3 => k_is); (case l3 => k_is); (case c3 => k_is); (case k3 => k_is)
  intro F__law_pairs_joined
  refine' Dv.with_fun (x := "_law_names") (st := My.s__law_names) (ps := ["_law_pen_here", "_law_many"]) KX G (fun _ _ _ _ _ _ => My.us2 fun _ _ => rfl) ?a4 ?l4 ?c4 ?k4 ?next4
  (case a4 => k_is); (case l4 => k_is); (case c4 => k_is); (case k4 => k_is)
  intro F__law_names
  refine' Dv.with_fun (x := "_law_first") (st := My.s__law_first) (ps := ["_law_sheet"]) KX G (fun _ _ _ _ _ _ => My.us1 fun _ => rfl) ?a5 ?l5 ?c5 ?k5 ?next5
  (case a5 => k_is); (case l5 => k_is); (case c5 => k_is); (case k5 => k_is)
  intro F__law_first
  refine' Dv.with_fun (x := "_law_may") (st := My.s__law_may) (ps := ["_law_sheet", "_law_marks"]) KX G (fun _ _ _ _ _ _ => My.us2 fun _ _ => rfl) ?a6 ?l6 ?c6 ?k6 ?next6
  (case a6 => k_is); (case l6 => k_is); (case c6 => k_is); (case k6 => k_is)
  intro F__law_may
  refine' Dv.with_fun (x := "_law_behind") (st := My.s__law_behind) (ps := ["_law_sheet", "_law_stand", "_law_k"]) KX G (fun _ _ _ _ _ _ => My.us3 fun _ _ _ => rfl) ?a7 ?l7 ?c7 ?k7 ?next7
  (case a7 => k_is); (case l7 => k_is); (case c7 => k_is); (case k7 => k_is)
  intro F__law_behind
  refine' Dv.with_fun (x := "_law_begun") (st := My.s__law_begun) (ps := ["_law_pen_here", "_law_sheet"]) KX G (fun _ _ _ _ _ _ => My.us2 fun _ _ => rfl) ?a8 ?l8 ?c8 ?k8 ?next8
  (case a8 => k_is); (case l8 => k_is); (case c8 => k_is); (case k8 => k_is)
  intro F__law_begun
  refine' Dv.with_fun (x := "_law_round") (st := My.s__law_round) (ps := ["_law_pen_here", "_law_most"]) KX G (fun _ _ _ _ _ _ => My.us2 fun _ _ => rfl) ?a9 ?l9 ?c9 ?k9 ?next9
  (case a9 => k_is); (case l9 => k_is); (case c9 => k_is); (case k9 => k_is)
  intro F__law_round
  refine' Dv.with_fun (x := "_law_more") (st := My.s__law_more) (ps := ["_law_pen_here", "_law_sheet", "_law_beside"]) KX G (fun _ _ _ _ _ _ => My.us3 fun _ _ _ => rfl) ?a10 ?l10 ?c10 ?k10 ?next10
  (case a10 => k_is); (case l10 => k_is); (case c10 => k_is); (case k10 => k_is)
  intro F__law_more
  refine' Dv.with_fun (x := "_law_delays") (st := My.s__law_delays) (ps := ["_law_pen_here", "_law_sheet"]) KX G (fun _ _ _ _ _ _ => My.us2 fun _ _ => rfl) ?a11 ?l11 ?c11 ?k11 ?next11
  (case a11 => k_is); (case l11 => k_is); (case c11 => k_is); (case k11 => k_is)
  intro F__law_delays
  refine' Dv.with_fun (x := "led_from") (st := My.s_led_from) (ps := ["sheet", "start", "bare"]) KX G (fun _ _ _ _ _ _ => My.us3 fun _ _ _ => rfl) ?a12 ?l12 ?c12 ?k12 ?next12
  (case a12 => k_is); (case l12 => k_is); (case c12 => k_is); (case k12 => k_is)
  intro F_led_from
  refine' Dv.with_fun (x := "is_round") (st := My.s_is_round) (ps := ["sheet"]) KX G (fun _ _ _ _ _ _ => My.us1 fun _ => rfl) ?a13 ?l13 ?c13 ?k13 ?next13
  (case a13 => k_is); (case l13 => k_is); (case c13 => k_is); (case k13 => k_is)
  intro F_is_round
  refine' Dv.with_fun (x := "are_delays") (st := My.s_are_delays) (ps := ["sheet", "thing"]) KX G (fun _ _ _ _ _ _ => My.us2 fun _ _ => rfl) ?a14 ?l14 ?c14 ?k14 ?next14
  (case a14 => k_is); (case l14 => k_is); (case c14 => k_is); (case k14 => k_is)
  intro F_are_delays
  refine' Dv.with_fun (x := "look_at") (st := My.s_look_at) (ps := ["sheet", "delays"]) KX G (fun _ _ _ _ _ _ => My.us2 fun _ _ => rfl) ?a15 ?l15 ?c15 ?k15 ?next15
  (case a15 => k_is); (case l15 => k_is); (case c15 => k_is); (case k15 => k_is)
  intro F_look_at
  refine' Dv.with_fun (x := "in_order") (st := My.s_in_order) (ps := ["sheet"]) KX G (fun _ _ _ _ _ _ => My.us1 fun _ => rfl) ?a16 ?l16 ?c16 ?k16 ?next16
  (case a16 => k_is); (case l16 => k_is); (case c16 => k_is); (case k16 => k_is)
  intro F_in_order
  refine' Dv.with_fun (x := "one_round") (st := My.s_one_round) (ps := ["sheet", "delays", "order", "last"]) KX G (fun _ _ _ _ _ _ => My.us4 fun _ _ _ _ => rfl) ?a17 ?l17 ?c17 ?k17 ?next17
  (case a17 => k_is); (case l17 => k_is); (case c17 => k_is); (case k17 => k_is)
  intro F_one_round
  refine' Dv.with_fun (x := "times") (st := My.s_times) (ps := ["sheet", "delays", "rounds"]) KX G (fun _ _ _ _ _ _ => My.us3 fun _ _ _ => rfl) ?a18 ?l18 ?c18 ?k18 ?next18
  (case a18 => k_is); (case l18 => k_is); (case c18 => k_is); (case k18 => k_is)
  intro F_times
  refine' Dv.with_fun (x := "_law_one_round") (st := My.s__law_one_round) (ps := ["_law_sheet", "_law_delays_here", "_law_last"]) KX G (fun _ _ _ _ _ _ => My.us3 fun _ _ _ => rfl) ?a19 ?l19 ?c19 ?k19 ?next19
  (case a19 => k_is); (case l19 => k_is); (case c19 => k_is); (case k19 => k_is)
  intro F__law_one_round
  refine' Dv.with_fun (x := "_law_times") (st := My.s__law_times) (ps := ["_law_sheet", "_law_delays_here", "_law_rounds"]) KX G (fun _ _ _ _ _ _ => My.us3 fun _ _ _ => rfl) ?a20 ?l20 ?c20 ?k20 ?next20
  (case a20 => k_is); (case l20 => k_is); (case c20 => k_is); (case k20 => k_is)
  intro F__law_times
  refine' Dv.law_mk (st := My.s_law) KX G hmg (fun base f fd F => My.ok_law T F__law_pen F__law_draw F__law_word F__law_pairs_joined F__law_names F__law_first F__law_may F__law_behind F__law_begun F__law_round F__law_more F__law_delays F_led_from F_is_round F_are_delays F_look_at F_in_order F_one_round F_times F__law_one_round F__law_times base f fd F) (fun _ _ _ _ _ _ _ _ => .of_eq rfl) ?a ?l ?c ?k
  (case a => k_is); (case l => k_is); (case c => k_is); (case k => k_is)
