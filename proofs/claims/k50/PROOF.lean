import PyProof.Rows.All
import Wide.All
import OpenK.AllK
import Wide.FinOn
import HandS.ForMost
import HandS.Evl
import HandS.SetKeys
import HandS.Style
import HandS.IsInst
import HandS.SortKw
import HandS.TupAny
import HandS.Walk
import HandS.Lambda
import HandS.Wide
import KE.GoesEnum
import KE.SortKeyHeap
import KE.DataMinMax
import HandS.WrittenGet
import HandS.ListItems
import KE.KDictCopyH
import PySem.Challenge.RW_ringorders_k50_whole_rings_told_otherwis
import HandS.Defaults
import HandS.EndTab
set_option Elab.async false
set_option linter.all false
set_option maxRecDepth 100000
set_option maxHeartbeats 4000000
/-! The D layer: what stands in the heap told as data; a mutable part M, the rest frozen. -/
namespace DL
open PySem PySem.Spec PyProof.Rows L2
open Evl (Ex ex_rd ex_l ex_t)

/-! ### data -/
mutual
inductive Da (K : PySem.W.Frag) (F : Hp) : V → PyData → Prop
  | non : Da K F .non .none
  | bl (b : Bool) : Da K F (.bl b) (.bool b)
  | int (i : Int) : Da K F (.int i) (.int i)
  | str (x : Str) : Da K F (.str x) (.str x)
  | lst {a : Addr} {xs : List V} {ds : List PyData} : F a = some (.lst xs) → DaAll K F xs ds → Da K F (.ref a) (.list ds)
  | tup {a : Addr} {xs : List V} {ds : List PyData} : F a = some (.tup xs) → DaAll K F xs ds → Da K F (.ref a) (.tuple ds)
inductive DaAll (K : PySem.W.Frag) (F : Hp) : List V → List PyData → Prop
  | nil : DaAll K F [] []
  | cons {v : V} {vs : List V} {d : PyData} {ds : List PyData} : Da K F v d → DaAll K F vs ds → DaAll K F (v :: vs) (d :: ds)
end

section
variable {K : PySem.W.Frag} {F F' : Hp}
mutual
theorem Da.mono (e : Ex F F') : ∀ (d : PyData) (v : V), Da K F v d → Da K F' v d
  | .none, _, h => by cases h; exact .non
  | .bool _, _, h => by cases h; exact .bl _
  | .int _, _, h => by cases h; exact .int _
  | .str _, _, h => by cases h; exact .str _
  | .list ds, _, h => by
    cases h with
    | lst h1 h2 => exact .lst (e _ _ h1) (DaAll.mono e ds _ h2)
  | .tuple ds, _, h => by
    cases h with
    | tup h1 h2 => exact .tup (e _ _ h1) (DaAll.mono e ds _ h2)
  | .dict _, _, h => by cases h
theorem DaAll.mono (e : Ex F F') : ∀ (ds : List PyData) (vs : List V), DaAll K F vs ds → DaAll K F' vs ds
  | [], _, h => by cases h; exact .nil
  | d :: ds, _, h => by
    cases h with
    | cons h1 h2 => exact .cons (Da.mono e d _ h1) (DaAll.mono e ds _ h2)
end
mutual
theorem Da.dp : ∀ (d : PyData) (v : V), Da K F v d → Dp K F v d
  | .none, _, h => by cases h; exact .non
  | .bool _, _, h => by cases h; exact .bl _
  | .int _, _, h => by cases h; exact .int _
  | .str _, _, h => by cases h; exact .str _
  | .list ds, _, h => by
    cases h with
    | lst h1 h2 => exact .lst (.inl (.inl h1)) (DaAll.dp ds _ h2)
  | .tuple ds, _, h => by
    cases h with
    | tup h1 h2 => exact .tup (SqT.of h1) (DaAll.dp ds _ h2)
  | .dict _, _, h => by cases h
theorem DaAll.dp : ∀ (ds : List PyData) (vs : List V), DaAll K F vs ds → DpAll K F vs ds
  | [], _, h => by cases h; exact .nil
  | d :: ds, _, h => by
    cases h with
    | cons h1 h2 => exact .cons (Da.dp d _ h1) (DaAll.dp ds _ h2)
end
theorem DaAll.length : ∀ {ds : List PyData} {vs : List V}, DaAll K F vs ds → vs.length = ds.length
  | [], _, h => by cases h; rfl
  | d :: ds, _, h => by
    cases h with
    | cons h1 h2 => exact congrArg (· + 1) (DaAll.length h2)
theorem DaAll.get : ∀ {ds : List PyData} {vs : List V} {i : Nat} {d : PyData}, DaAll K F vs ds → ds[i]? = some d → ∃ v, vs[i]? = some v ∧ Da K F v d
  | [], _, _, _, _, e => by simp at e
  | d :: ds, _, 0, _, h, e => by
    cases h with
    | cons h1 h2 =>
      cases e
      exact ⟨_, rfl, h1⟩
  | d :: ds, _, i + 1, _, h, e => by
    cases h with
    | cons h1 h2 =>
      obtain ⟨v, e1, e2⟩ := DaAll.get (i := i) h2 (by simpa using e)
      exact ⟨v, by simpa using e1, e2⟩
theorem DaAll.getV : ∀ {ds : List PyData} {vs : List V} {i : Nat} {v : V}, DaAll K F vs ds → vs[i]? = some v → ∃ d, ds[i]? = some d ∧ Da K F v d
  | [], _, _, _, h, e => by cases h; simp at e
  | d :: ds, _, 0, _, h, e => by
    cases h with
    | cons h1 h2 =>
      cases e
      exact ⟨_, rfl, h1⟩
  | d :: ds, _, i + 1, _, h, e => by
    cases h with
    | cons h1 h2 =>
      obtain ⟨v, e1, e2⟩ := DaAll.getV (i := i) h2 (by simpa using e)
      exact ⟨v, by simpa using e1, e2⟩
theorem DaAll.append : ∀ {ds es : List PyData} {vs ws : List V}, DaAll K F vs ds → DaAll K F ws es → DaAll K F (vs ++ ws) (ds ++ es)
  | [], _, _, _, h, h2 => by cases h; exact h2
  | d :: ds, _, _, _, h, h2 => by
    cases h with
    | cons h1 h3 => exact .cons h1 (DaAll.append h3 h2)
theorem DaAll.take : ∀ {ds : List PyData} {vs : List V} (n : Nat), DaAll K F vs ds → DaAll K F (vs.take n) (ds.take n)
  | _, _, 0, _ => .nil
  | [], _, n + 1, h => by cases h; exact .nil
  | d :: ds, _, n + 1, h => by
    cases h with
    | cons h1 h3 => exact .cons h1 (DaAll.take n h3)
theorem DaAll.drop : ∀ {ds : List PyData} {vs : List V} (n : Nat), DaAll K F vs ds → DaAll K F (vs.drop n) (ds.drop n)
  | _, _, 0, h => h
  | [], _, n + 1, h => by cases h; exact .nil
  | d :: ds, _, n + 1, h => by
    cases h with
    | cons h1 h3 => exact DaAll.drop n h3
theorem DaAll.reverse : ∀ {ds : List PyData} {vs : List V}, DaAll K F vs ds → DaAll K F vs.reverse ds.reverse
  | [], _, h => by cases h; exact .nil
  | d :: ds, _, h => by
    cases h with
    | cons h1 h3 =>
      rw [List.reverse_cons, List.reverse_cons]
      exact (DaAll.reverse h3).append (.cons h1 .nil)
theorem DaAll.set : ∀ {ds : List PyData} {vs : List V} {v : V} {d : PyData} (n : Nat), DaAll K F vs ds → Da K F v d → DaAll K F (vs.set n v) (ds.set n d)
  | [], _, _, _, _, h, _ => by cases h; exact .nil
  | d :: ds, _, _, _, 0, h, h2 => by
    cases h with
    | cons h1 h3 => exact .cons h2 h3
  | d :: ds, _, _, _, n + 1, h, h2 => by
    cases h with
    | cons h1 h3 => exact .cons h1 (DaAll.set n h3 h2)
theorem DaAll.of_get : ∀ {ds : List PyData} {vs : List V}, vs.length = ds.length → (∀ (i : Nat) v d, vs[i]? = some v → ds[i]? = some d → Da K F v d) → DaAll K F vs ds
  | [], [], _, _ => .nil
  | [], _ :: _, h, _ => by simp at h
  | _ :: _, [], h, _ => by simp at h
  | d :: ds, v :: vs, h, hg => .cons (hg 0 v d rfl rfl) (DaAll.of_get (by simpa using h) fun i v d h1 h2 => hg (i + 1) v d (by simpa using h1) (by simpa using h2))
theorem Da.int_inv {v : V} {i : Int} (h : Da K F v (.int i)) : v = .int i := by cases h; rfl
theorem Da.str_inv {v : V} {i : Str} (h : Da K F v (.str i)) : v = .str i := by cases h; rfl
theorem Da.bl_inv {v : V} {i : Bool} (h : Da K F v (.bool i)) : v = .bl i := by cases h; rfl
theorem Da.non_inv {v : V} (h : Da K F v .none) : v = .non := by cases h; rfl
end

/-! ### entities, the mutable part -/
inductive Ent where
  | d (x : PyData)
  | v (x : V)
  | s (ns : List Int)
inductive MO where
  | lst (es : List Ent)
  | dK (kes : List (Key × Ent))
  | dT (kes : List (List Key × Ent))
  | fK (od : Obj) (kvs : List (Key × V)) (kes : List (Key × Ent))
  | tab (q : Str)
abbrev Mh := Addr → Option MO
abbrev Gm := List (Option Ent)
def mupd (M : Mh) (a : Addr) (o : MO) : Mh := fun b => if b = a then some o else M b
def mdel (M : Mh) (a : Addr) : Mh := fun b => if b = a then none else M b
theorem mupd_same {M : Mh} {a : Addr} {o : MO} : mupd M a o a = some o := by unfold mupd; rw [if_pos rfl]
theorem mupd_ne {M : Mh} {a b : Addr} {o : MO} (h : b ≠ a) : mupd M a o b = M b := by unfold mupd; rw [if_neg h]
theorem mupd_mupd {M : Mh} {a : Addr} {o u : MO} : mupd (mupd M a o) a u = mupd M a u := by
  funext b; unfold mupd; split <;> rfl
theorem mupd_comm {M : Mh} {a b : Addr} {o u : MO} (h : a ≠ b) : mupd (mupd M a o) b u = mupd (mupd M b u) a o := by
  funext c; unfold mupd
  by_cases h1 : c = b
  · subst h1
    rw [if_pos rfl, if_neg (Ne.symm h), if_pos rfl]
  · rw [if_neg h1, if_neg h1]
theorem mdel_mupd {M : Mh} {a : Addr} {o : MO} (h : M a = none) : mdel (mupd M a o) a = M := by
  funext b; unfold mdel mupd
  by_cases e : b = a
  · rw [if_pos e, e, h]
  · rw [if_neg e, if_neg e]
theorem mupd_self {M : Mh} {a : Addr} {o : MO} (h : M a = some o) : mupd M a o = M := by
  funext b; unfold mupd
  by_cases e : b = a
  · rw [if_pos e, e, h]
  · rw [if_neg e]
def less (H : Hp) (M : Mh) : Hp := fun a => if (M a).isSome then none else H a
theorem less_ex {H : Hp} {M : Mh} : Ex (less H M) H := fun a o h => by
  unfold less at h
  split at h
  · cases h
  · exact h
theorem less_none {H : Hp} {M : Mh} {a : Addr} (h : M a = none) : less H M a = H a := by
  unfold less
  rw [h]
  rfl
theorem less_some {H : Hp} {M : Mh} {a : Addr} {o : MO} (h : M a = some o) : less H M a = none := by
  unfold less
  rw [h]
  rfl

section
variable (K : PySem.W.Frag)
def EntOk (F : Hp) (x : V) : Ent → Prop
  | .d y => Da K F x y
  | .v y => x = y
  | .s ns => ∃ a, x = .ref a ∧ SqL K F a (ns.map V.int)
abbrev Ents (F : Hp) : List V → List Ent → Prop := Paired (EntOk K F)
def MObj (F : Hp) (o : HO) : MO → Prop
  | .lst es => ∃ xs, o = .lst xs ∧ Ents K F xs es
  | .dK kes => ∃ kvs, o = .dK kvs ∧ Paired (fun (p : Key × V) (q : Key × Ent) => p.1 = q.1 ∧ EntOk K F p.2 q.2) kvs kes
  | .dT kes => ∃ kvs, o = .dT kvs ∧ Paired (fun (p : List Key × V) (q : List Key × Ent) => p.1 = q.1 ∧ EntOk K F p.2 q.2) kvs kes
  | .fK od kvs kes => o = .frz od (.dK kvs) ∧ Paired (fun (p : Key × V) (q : Key × Ent) => p.1 = q.1 ∧ EntOk K F p.2 q.2) kvs kes
  | .tab q => ∃ ps : Array Value, o = .tbl ps ∧ TriplesOk ps.toList ∧ ∀ (pos : Pos) (cv : Value), codeAmong pos ps.toList = some cv → ∃ c, cv = .ref c ∧ F c = some (LamX.CodeO c q)
def MOk (M : Mh) (H : Hp) : Prop := ∀ a mo, M a = some mo → ∃ o, H a = some o ∧ MObj K (less H M) o mo
def SlOk (F : Hp) (σ : L2.St) (G : Gm) : Prop := σ.length = G.length ∧ ∀ (i : Nat) e, G[i]? = some (some e) → ∃ v, σ[i]? = some (some v) ∧ EntOk K F v e
structure Ok (B : Hp) (M : Mh) (G : Gm) (σ : L2.St) (H : Hp) : Prop where
  ex : Ex B (less H M)
  m : MOk K M H
  sl : SlOk K (less H M) σ G
structure RtOk (B : Hp) (M : Mh) (e : Ent) (v : V) (H : Hp) : Prop where
  ex : Ex B (less H M)
  m : MOk K M H
  v : EntOk K (less H M) v e
end

section
variable {K : PySem.W.Frag} {F F' B B' H H' : Hp} {M M' : Mh} {G G' : Gm} {σ : L2.St} {v : V} {e : Ent}
theorem EntOk.mono (x : Ex F F') : ∀ {e : Ent}, EntOk K F v e → EntOk K F' v e
  | .d d, h => Da.mono x d v h
  | .v _, h => h
  | .s _, ⟨a, e, h⟩ => ⟨a, e, ex_l x h⟩
theorem Ents.mono (x : Ex F F') : ∀ {vs : List V} {es : List Ent}, Ents K F vs es → Ents K F' vs es
  | _, _, .nil => .nil
  | _, _, .cons h t => .cons (EntOk.mono x h) (Ents.mono x t)
theorem MObj.mono (x : Ex F F') {o : HO} : ∀ {mo : MO}, MObj K F o mo → MObj K F' o mo
  | .lst es, ⟨xs, e, h⟩ => ⟨xs, e, Ents.mono x h⟩
  | .dK kes, ⟨kvs, e, h⟩ => ⟨kvs, e, Paired.mapP h fun a b q => ⟨q.1, EntOk.mono x q.2⟩⟩
  | .dT kes, ⟨kvs, e, h⟩ => ⟨kvs, e, Paired.mapP h fun a b q => ⟨q.1, EntOk.mono x q.2⟩⟩
  | .fK od kvs kes, ⟨e, h⟩ => ⟨e, Paired.mapP h fun a b q => ⟨q.1, EntOk.mono x q.2⟩⟩
  | .tab q, ⟨ps, e, h, t⟩ => ⟨ps, e, h, fun pos cv hc => let ⟨c, e1, e2⟩ := t pos cv hc; ⟨c, e1, x _ _ e2⟩⟩
theorem SlOk.mono (x : Ex F F') (h : SlOk K F σ G) : SlOk K F' σ G := ⟨h.1, fun i e q => let ⟨v, a, b⟩ := h.2 i e q; ⟨v, a, EntOk.mono x b⟩⟩
theorem Ok.rebase (o : Ok K B M G σ H) : Ok K (less H M) M G σ H := ⟨Ex.refl _, o.m, o.sl⟩
theorem Ok.base (o : Ok K B M G σ H) (x : Ex B' B) : Ok K B' M G σ H := ⟨x.trans o.ex, o.m, o.sl⟩
theorem Ok.slots (o : Ok K B M' G σ H) (x : Ex F (less H M')) (h : SlOk K F σ G') : Ok K B M' G' σ H := ⟨o.ex, o.m, h.mono x⟩
theorem RtOk.ok (o : RtOk K B M e v H) (x : Ex F B) (h : SlOk K F σ G) : Ok K B M G σ H := ⟨o.ex, o.m, h.mono (x.trans o.ex)⟩
theorem Ok.rt (o : Ok K B M G σ H) (h : EntOk K (less H M) v e) : RtOk K B M e v H := ⟨o.ex, o.m, h⟩
/-- a new object that is frozen at once -/
theorem less_upd_new {p : Addr} {o : HO} (hp : M p = none) : less (upd H p o) M = upd (less H M) p o := by
  funext a
  unfold less
  by_cases e : a = p
  · subst e
    rw [hp, upd_same, upd_same]
    rfl
  · rw [upd_ne e, upd_ne e]
theorem MOk.free (m : MOk K M H) {p : Addr} (hp : H p = none) : M p = none := by
  cases h : M p with
  | none => rfl
  | some mo =>
    obtain ⟨o, e, _⟩ := m p mo h
    rw [hp] at e
    cases e
theorem Ex.new' {p : Addr} {o : HO} (h : H p = none) : Ex H (upd H p o) := Ex.new h
theorem ex_less_new {p : Addr} {o : HO} (hp : H p = none) (m : MOk K M H) : Ex (less H M) (less (upd H p o) M) := by
  have h1 := m.free hp
  rw [less_upd_new h1]
  exact Ex.new (by rw [less_none h1]; exact hp)
theorem MOk.new {p : Addr} {o : HO} (m : MOk K M H) (hp : H p = none) : MOk K M (upd H p o) := fun a mo h => by
  obtain ⟨u, e, q⟩ := m a mo h
  exact ⟨u, by rw [upd_ne (ne_of_none e hp)]; exact e, q.mono (ex_less_new hp m)⟩
theorem Ok.new {p : Addr} {o : HO} (k : Ok K B M G σ H) (hp : H p = none) : Ok K B M G σ (upd H p o) :=
  ⟨k.ex.trans (ex_less_new hp k.m), k.m.new hp, k.sl.mono (ex_less_new hp k.m)⟩
/-- the frozen part where something becomes mutable or not -/
theorem less_congr {M2 : Mh} (h : ∀ a, (M a).isSome = (M2 a).isSome) : less H M = less H M2 := by
  funext a
  unfold less
  rw [h a]
theorem less_mupd_same {p : Addr} {o o' : MO} (hp : M p = some o) : less H (mupd M p o') = less H M := less_congr fun a => by
  by_cases e : a = p
  · subst e
    rw [mupd_same, hp]
    rfl
  · rw [mupd_ne e]
theorem less_upd_mut {p : Addr} {o : HO} {mo : MO} (hp : M p = some mo) : less (upd H p o) M = less H M := by
  funext a
  unfold less
  by_cases e : a = p
  · subst e
    rw [hp]
    rfl
  · rw [upd_ne e]
/-- a mutable object is written -/
theorem MOk.write {p : Addr} {o : HO} {mo mo' : MO} (m : MOk K M H) (hp : M p = some mo) (h : MObj K (less H M) o mo') : MOk K (mupd M p mo') (upd H p o) := fun a u q => by
  have hl : less (upd H p o) (mupd M p mo') = less H M := by rw [less_mupd_same hp, less_upd_mut hp]
  rw [hl]
  by_cases e : a = p
  · subst e
    rw [mupd_same] at q
    cases q
    exact ⟨o, upd_same, h⟩
  · rw [mupd_ne e] at q
    rw [upd_ne e]
    exact m a u q
theorem Ok.write {p : Addr} {o : HO} {mo mo' : MO} (k : Ok K B M G σ H) (hp : M p = some mo) (h : MObj K (less H M) o mo') : Ok K B (mupd M p mo') G σ (upd H p o) := by
  have hl : less (upd H p o) (mupd M p mo') = less H M := by rw [less_mupd_same hp, less_upd_mut hp]
  exact ⟨by rw [hl]; exact k.ex, k.m.write hp h, by rw [hl]; exact k.sl⟩
/-- a new mutable object -/
theorem less_mnew {p : Addr} {o : HO} {mo : MO} (hp : H p = none) : less (upd H p o) (mupd M p mo) = less H M := by
  funext a
  by_cases e : a = p
  · subst e
    rw [less_some mupd_same]
    unfold less
    split
    · rfl
    · exact hp.symm
  · unfold less
    rw [mupd_ne e, upd_ne e]
theorem Ok.mnew {p : Addr} {o : HO} {mo : MO} (k : Ok K B M G σ H) (hp : H p = none) (h : MObj K (less H M) o mo) : Ok K B (mupd M p mo) G σ (upd H p o) := by
  have hl : less (upd H p o) (mupd M p mo) = less H M := less_mnew hp
  refine ⟨by rw [hl]; exact k.ex, fun a u q => ?_, by rw [hl]; exact k.sl⟩
  rw [hl]
  by_cases e : a = p
  · subst e
    rw [mupd_same] at q
    cases q
    exact ⟨o, upd_same, h⟩
  · rw [mupd_ne e] at q
    rw [upd_ne e]
    exact k.m a u q
/-- a mutable object is frozen -/
theorem less_mdel_ex {p : Addr} : Ex (less H M) (less H (mdel M p)) := fun a o h => by
  have h1 : M a = none := by
    cases q : M a with
    | none => rfl
    | some mo =>
      rw [less_some q] at h
      cases h
  rw [less_none h1] at h
  have h2 : mdel M p a = none := by
    unfold mdel
    split
    · rfl
    · exact h1
  rw [less_none h2]
  exact h
theorem MOk.drop {p : Addr} (m : MOk K M H) : MOk K (mdel M p) H := fun a u q => by
  have h1 : M a = some u := by
    unfold mdel at q
    split at q
    · cases q
    · exact q
  obtain ⟨o, e, h⟩ := m a u h1
  exact ⟨o, e, h.mono less_mdel_ex⟩
theorem Ok.drop (p : Addr) (k : Ok K B M G σ H) : Ok K B (mdel M p) G σ H := ⟨k.ex.trans less_mdel_ex, k.m.drop, k.sl.mono less_mdel_ex⟩
theorem ents_data : ∀ {ds : List PyData} {xs : List V}, Ents K F xs (ds.map Ent.d) → DaAll K F xs ds
  | [], _, h => by cases h; exact .nil
  | d :: ds, _, h => by
    cases h with
    | cons h1 h2 => exact .cons h1 (ents_data h2)
theorem data_ents : ∀ {ds : List PyData} {xs : List V}, DaAll K F xs ds → Ents K F xs (ds.map Ent.d)
  | [], _, h => by cases h; exact .nil
  | d :: ds, _, h => by
    cases h with
    | cons h1 h2 => exact .cons h1 (data_ents h2)
theorem Ok.freeze {p : Addr} {ds : List PyData} (k : Ok K B M G σ H) (h : M p = some (.lst (ds.map Ent.d))) : Ok K B (mdel M p) G σ H ∧ EntOk K (less H (mdel M p)) (.ref p) (.d (.list ds)) := by
  refine ⟨k.drop p, ?_⟩
  obtain ⟨o, e, xs, e2, hx⟩ := k.m p _ h
  subst e2
  refine Da.lst ?_ (DaAll.mono less_mdel_ex _ _ (ents_data hx))
  rw [less_none (by unfold mdel; rw [if_pos rfl])]
  exact e
theorem SlOk.set {i : Nat} (h : SlOk K F σ G) (hv : EntOk K F v e) : SlOk K F (σ.set i (some v)) (G.set i (some e)) := by
  refine ⟨by rw [List.length_set, List.length_set]; exact h.1, fun j u q => ?_⟩
  rw [List.getElem?_set] at q ⊢
  by_cases hj : i = j
  · subst hj
    rw [if_pos rfl] at q ⊢
    by_cases hl : i < G.length
    · rw [if_pos hl] at q
      rw [if_pos (by rw [h.1]; exact hl)]
      cases q
      exact ⟨v, rfl, hv⟩
    · rw [if_neg hl] at q
      cases q
  · rw [if_neg hj] at q ⊢
    exact h.2 j u q
end

/-! ### what is wanted of an expression, a test, arguments -/
section
variable (K : PySem.W.Frag)
def W (te : TE) (G : Gm) (M : Mh) (R : Ent → Mh → Prop) : Prop :=
  ∀ (B : Hp) (σ : L2.St) (H : Hp), Ok K B M G σ H → ∀ Q : VK, (∀ v H' e M', R e M' → Ok K B M' G σ H' → EntOk K (less H' M') v e → Q v H') → te σ H Q
def WT (tt : TT) (G : Gm) (M : Mh) (R : Bool → Mh → Prop) : Prop :=
  ∀ (B : Hp) (σ : L2.St) (H : Hp), Ok K B M G σ H → ∀ Q : Bool → Hp → Prop, (∀ b H' M', R b M' → Ok K B M' G σ H' → Q b H') → tt σ H Q
def WA (ta : TA) (G : Gm) (M : Mh) (R : List Ent → Mh → Prop) : Prop :=
  ∀ (B : Hp) (σ : L2.St) (H : Hp), Ok K B M G σ H → ∀ Q : List V → Hp → Prop, (∀ vs H' es M', R es M' → Ok K B M' G σ H' → Ents K (less H' M') vs es → Q vs H') → ta σ H Q
/-- an operation on values -/
def RW (r : R2) (x y : Ent) (M : Mh) (R : Ent → Mh → Prop) : Prop :=
  ∀ (v w : V) (H : Hp), MOk K M H → EntOk K (less H M) v x → EntOk K (less H M) w y → ∀ Q : VK, (∀ z H' e M', R e M' → RtOk K (less H M) M' e z H' → Q z H') → r v w H Q
def RC (r : List V → Hp → VK → Prop) (xs : List Ent) (M : Mh) (R : Ent → Mh → Prop) : Prop :=
  ∀ (vs : List V) (H : Hp), MOk K M H → Ents K (less H M) vs xs → ∀ Q : VK, (∀ z H' e M', R e M' → RtOk K (less H M) M' e z H' → Q z H') → r vs H Q
/-- a method: the thing, the arguments -/
def RM (r : V → List V → Hp → VK → Prop) (x : Ent) (xs : List Ent) (M : Mh) (R : Ent → Mh → Prop) : Prop :=
  ∀ (v : V) (vs : List V) (H : Hp), MOk K M H → EntOk K (less H M) v x → Ents K (less H M) vs xs → ∀ Q : VK, (∀ z H' e M', R e M' → RtOk K (less H M) M' e z H' → Q z H') → r v vs H Q
/-- a target -/
def GW (g : TG) (e : Ent) (G : Gm) (M : Mh) (P : Gm → Mh → Prop) : Prop :=
  ∀ (B : Hp) (σ : L2.St) (H : Hp) (v : V), Ok K B M G σ H → EntOk K (less H M) v e → ∀ Q : L2.St → Hp → Prop, (∀ G' M' σ' H', P G' M' → Ok K B M' G' σ' H' → Q σ' H') → g v σ H Q
structure DE where
  nx : Gm → Mh → Prop
  rt : Ent → Mh → Prop
  bk : Gm → Mh → Prop
  ct : Gm → Mh → Prop
structure Re (B : Hp) (D : DE) (Z : Ends) : Prop where
  nx : ∀ G M σ H, D.nx G M → Ok K B M G σ H → Z.nx σ H
  rt : ∀ e M v H, D.rt e M → RtOk K B M e v H → Z.rt v H
  bk : ∀ G M σ H, D.bk G M → Ok K B M G σ H → Z.bk σ H
  ct : ∀ G M σ H, D.ct G M → Ok K B M G σ H → Z.ct σ H
def Ru (t : TS) (G : Gm) (M : Mh) (D : DE) : Prop :=
  ∀ (B : Hp) (σ : L2.St) (H : Hp) (Z : Ends), Ok K B M G σ H → Re K B D Z → t Z σ H
end

section
variable {K : PySem.W.Frag} {G : Gm} {M : Mh} {R : Ent → Mh → Prop} {ta tb tc te : TE} {x y e : Ent} {D : DE}
theorem W.mono {R' : Ent → Mh → Prop} (h : W K te G M R) (m : ∀ e M', R e M' → R' e M') : W K te G M R' := fun B σ H k Q q => h B σ H k Q fun v H' e M' r => q v H' e M' (m e M' r)
theorem w_drop (p : Addr) (h : W K te G (mdel M p) R) : W K te G M R := fun B σ H k Q q => h B σ H (k.drop p) Q q
theorem ru_drop (p : Addr) {t : TS} (h : Ru K t G (mdel M p) D) : Ru K t G M D := fun B σ H Z k r => h B σ H Z (k.drop p) r
theorem w_var {i : Nat} (h : G[i]? = some (some e)) (r : R e M) : W K (tVar i) G M R := fun B σ H k Q q =>
  let ⟨v, h1, h2⟩ := k.sl.2 i e h
  ⟨v, h1, q v H e M r k h2⟩
/-- a local list, which is data from now on -/
theorem w_varF {i : Nat} {p : Addr} {ds : List PyData} (h : G[i]? = some (some (.v (.ref p)))) (hp : M p = some (.lst (ds.map Ent.d))) (r : R (.d (.list ds)) (mdel M p)) : W K (tVar i) G M R := fun B σ H k Q q =>
  let ⟨v, h1, h2⟩ := k.sl.2 i _ h
  ⟨v, h1, by
    obtain ⟨k2, h3⟩ := k.freeze hp
    cases h2
    exact q _ H _ _ r k2 h3⟩
theorem w_int {i : Int} (r : R (.d (.int i)) M) : W K (tC (.int i)) G M R := fun B σ H k Q q => q _ H _ M r k (.int i)
theorem w_str {i : Str} (r : R (.d (.str i)) M) : W K (tC (.str i)) G M R := fun B σ H k Q q => q _ H _ M r k (.str i)
theorem w_bl {i : Bool} (r : R (.d (.bool i)) M) : W K (tC (.bl i)) G M R := fun B σ H k Q q => q _ H _ M r k (.bl i)
theorem w_non (r : R (.d .none) M) : W K (tC .non) G M R := fun B σ H k Q q => q _ H _ M r k .non
theorem w_ref {a : Addr} (r : R (.v (.ref a)) M) : W K (tC (.ref a)) G M R := fun B σ H k Q q => q _ H _ M r k rfl
theorem w_tupC {a : Addr} {ds : List PyData} (h : ∀ F : Hp, Da K F (.ref a) (.tuple ds)) (r : R (.d (.tuple ds)) M) : W K (tC (.ref a)) G M R := fun B σ H k Q q => q _ H _ M r k (h _)
theorem RtOk.up {B B' : Hp} {G : Gm} {σ : L2.St} {H : Hp} {v : V} {M' : Mh} {H' : Hp} (k : RtOk K (less H M) M' e v H') (o : Ok K B M G σ H) : Ok K B M' G σ H' := ⟨o.ex.trans k.ex, k.m, o.sl.mono k.ex⟩
theorem w_op {r : R2} (h : W K ta G M fun x M1 => W K tb G M1 fun y M2 => RW K r x y M2 R) : W K (tOp r ta tb) G M R := fun B σ H k Q q =>
  h B σ H k _ fun v H1 x M1 h1 k1 hv => h1 (less H1 M1) σ H1 k1.rebase _ fun w H2 y M2 h2 k2 hw =>
    h2 v w H2 k2.m (hv.mono k2.ex) hw Q fun z H3 e M3 r3 k3 => q z H3 e M3 r3 (k3.up (B' := B) (k2.base k1.ex)) k3.v
end
end DL

namespace DL
open PySem PySem.Spec PyProof.Rows L2
open Evl (Ex ex_rd ex_l ex_t)

/-! ### reading an entity by its kind -/
def IsB (e : Ent) (P : Bool → Prop) : Prop := ∃ b, e = .d (.bool b) ∧ P b
theorem isB {b : Bool} {P : Bool → Prop} (h : P b) : IsB (.d (.bool b)) P := ⟨b, rfl, h⟩
def IsDs : List Ent → (List PyData → Prop) → Prop := fun es P => ∃ ds : List PyData, es = ds.map Ent.d ∧ P ds
theorem isDs_nil {P : List PyData → Prop} (h : P []) : IsDs [] P := ⟨[], rfl, h⟩
theorem isDs_cons {es : List Ent} {x : PyData} {P : List PyData → Prop} (h : IsDs es fun ds => P (x :: ds)) : IsDs (.d x :: es) P := by
  obtain ⟨ds, rfl, q⟩ := h
  exact ⟨x :: ds, rfl, q⟩
theorem isDs_map {ds : List PyData} {P : List PyData → Prop} (h : P ds) : IsDs (ds.map Ent.d) P := ⟨ds, rfl, h⟩

section
variable {K : PySem.W.Frag} {F F' B B' H H' : Hp} {M M' : Mh} {G G' : Gm} {σ : L2.St} {v : V} {e x y : Ent} {R : Ent → Mh → Prop} {RB : Bool → Mh → Prop} {ta tb tc te to : TE} {t u : TT} {D : DE}
theorem Ents.get : ∀ {vs : List V} {es : List Ent} {i : Nat} {e : Ent}, Ents K F vs es → es[i]? = some e → ∃ v, vs[i]? = some v ∧ EntOk K F v e
  | _, _, _, _, .nil, q => by simp at q
  | _, _, 0, _, .cons h _, q => by cases q; exact ⟨_, rfl, h⟩
  | _, _, i + 1, _, .cons _ t, q => by
    obtain ⟨v, a, b⟩ := Ents.get (i := i) t (by simpa using q)
    exact ⟨v, by simpa using a, b⟩
theorem Ents.length {vs : List V} {es : List Ent} (h : Ents K F vs es) : vs.length = es.length := Paired.length h
theorem Ents.getV : ∀ {vs : List V} {es : List Ent} {i : Nat} {v : V}, Ents K F vs es → vs[i]? = some v → ∃ e, es[i]? = some e ∧ EntOk K F v e
  | _, _, _, _, .nil, q => by simp at q
  | _, _, 0, _, .cons h _, q => by cases q; exact ⟨_, rfl, h⟩
  | _, _, i + 1, _, .cons _ t, q => by
    obtain ⟨v, a, b⟩ := Ents.getV (i := i) t (by simpa using q)
    exact ⟨v, by simpa using a, b⟩
theorem Ents.atI {vs : List V} {es : List Ent} {i : Int} {e : Ent} (h : Ents K F vs es) (q : atI es i = some e) : ∃ v, L2.atI vs i = some v ∧ EntOk K F v e := by
  unfold L2.atI at q ⊢
  rw [h.length]
  cases hx : ixN es.length i with
  | none => rw [hx] at q; cases q
  | some j =>
    rw [hx] at q
    obtain ⟨v, a, b⟩ := h.get (i := j) q
    exact ⟨v, a, b⟩
theorem Ents.append : ∀ {vs ws : List V} {es fs : List Ent}, Ents K F vs es → Ents K F ws fs → Ents K F (vs ++ ws) (es ++ fs)
  | _, _, _, _, .nil, h => h
  | _, _, _, _, .cons a t, h => .cons a (Ents.append t h)
theorem Ents.set : ∀ {vs : List V} {es : List Ent} {v : V} {e : Ent} (n : Nat), Ents K F vs es → EntOk K F v e → Ents K F (vs.set n v) (es.set n e)
  | _, _, _, _, _, .nil, _ => .nil
  | _, _, _, _, 0, .cons _ t, h => .cons h t
  | _, _, _, _, n + 1, .cons a t, h => .cons a (Ents.set n t h)

/-! ### lists and tuples as they are read -/
/-- e is a list whose items are es -/
def SeqL (K : PySem.W.Frag) (M : Mh) (e : Ent) (es : List Ent) : Prop := ∀ (H : Hp) (v : V), MOk K M H → EntOk K (less H M) v e → ∃ a xs, v = .ref a ∧ H a = some (.lst xs) ∧ Ents K (less H M) xs es
def SeqT (K : PySem.W.Frag) (M : Mh) (e : Ent) (es : List Ent) : Prop := ∀ (H : Hp) (v : V), MOk K M H → EntOk K (less H M) v e → ∃ a xs, v = .ref a ∧ SqT K H a xs ∧ Ents K (less H M) xs es
theorem seqL_d {ds : List PyData} : SeqL K M (.d (.list ds)) (ds.map Ent.d) := fun H v m h => by
  cases h with
  | lst h1 h2 => exact ⟨_, _, rfl, less_ex _ _ h1, data_ents h2⟩
theorem seqL_m {p : Addr} {es : List Ent} (hp : M p = some (.lst es)) : SeqL K M (.v (.ref p)) es := fun H v m h => by
  obtain ⟨o, e, xs, e2, hx⟩ := m p _ hp
  subst e2
  cases h
  exact ⟨p, xs, rfl, e, hx⟩
theorem seqT_d {ds : List PyData} : SeqT K M (.d (.tuple ds)) (ds.map Ent.d) := fun H v m h => by
  cases h with
  | tup h1 h2 => exact ⟨_, _, rfl, SqT.of (less_ex _ _ h1), data_ents h2⟩
/-- e may be read as the data d -/
def AsD (K : PySem.W.Frag) (M : Mh) (e : Ent) (d : PyData) : Prop := ∀ (H : Hp) (v : V), MOk K M H → EntOk K (less H M) v e → Dp K H v d
theorem Da.dpH {d : PyData} (h : Da K (less H M) v d) : Dp K H v d := Da.dp d v (Da.mono less_ex d v h)
theorem asD_d {d : PyData} : AsD K M (.d d) d := fun H v m h => Da.dpH h
theorem asD_m {p : Addr} {ds : List PyData} (hp : M p = some (.lst (ds.map Ent.d))) : AsD K M (.v (.ref p)) (.list ds) := fun H v m h => by
  obtain ⟨o, e, xs, e2, hx⟩ := m p _ hp
  subst e2
  cases h
  exact .lst (SqL.of e) (DaAll.dp _ _ (DaAll.mono less_ex _ _ (ents_data hx)))

/-! ### tests -/
theorem wt_test (h : W K te G M fun e M1 => IsB e fun b => RB b M1) : WT K (tTest te) G M RB := fun B σ H k Q q =>
  h B σ H k _ fun v H1 e M1 h1 k1 hv => by
    obtain ⟨b, rfl, r⟩ := h1
    exact ⟨b, Da.bl_inv hv, q b H1 M1 r k1⟩
theorem wt_B (h : W K te G M fun e M1 => IsB e fun b => RB b M1) : WT K (tB te) G M RB := fun B σ H k Q q =>
  h B σ H k _ fun v H1 e M1 h1 k1 hv => by
    obtain ⟨b, rfl, r⟩ := h1
    exact ⟨b, Da.bl_inv hv, q b H1 M1 r k1⟩
theorem wt_and (h : WT K t G M fun b M1 => if b = true then WT K u G M1 RB else RB false M1) : WT K (tAnd t u) G M RB := fun B σ H k Q q =>
  h B σ H k _ fun b H1 M1 h1 k1 => by
    cases b with
    | true =>
      show u σ H1 Q
      exact (show WT K u G M1 RB from h1) B σ H1 k1 Q q
    | false =>
      show Q false H1
      exact q false H1 M1 h1 k1
theorem wt_or (h : WT K t G M fun b M1 => if b = true then RB true M1 else WT K u G M1 RB) : WT K (tOr t u) G M RB := fun B σ H k Q q =>
  h B σ H k _ fun b H1 M1 h1 k1 => by
    cases b with
    | true =>
      show Q true H1
      exact q true H1 M1 h1 k1
    | false =>
      show u σ H1 Q
      exact (show WT K u G M1 RB from h1) B σ H1 k1 Q q
theorem wt_not (h : WT K t G M fun b M1 => RB (!b) M1) : WT K (tNot t) G M RB := fun B σ H k Q q =>
  h B σ H k _ fun b H1 M1 h1 k1 => q (!b) H1 M1 h1 k1
theorem w_andV (h : W K ta G M fun e M1 => IsB e fun b => if b = true then W K tb G M1 R else R (.d (.bool false)) M1) : W K (tAndV ta tb) G M R := fun B σ H k Q q =>
  h B σ H k _ fun v H1 e M1 h1 k1 hv => by
    obtain ⟨b, rfl, r⟩ := h1
    refine ⟨b, Da.bl_inv hv, ?_⟩
    cases b with
    | true =>
      show tb σ H1 Q
      exact (show W K tb G M1 R from r) B σ H1 k1 Q q
    | false =>
      show Q (.bl false) H1
      exact q _ H1 _ M1 r k1 (.bl false)
theorem w_orV (h : W K ta G M fun e M1 => IsB e fun b => if b = true then R (.d (.bool true)) M1 else W K tb G M1 R) : W K (tOrV ta tb) G M R := fun B σ H k Q q =>
  h B σ H k _ fun v H1 e M1 h1 k1 hv => by
    obtain ⟨b, rfl, r⟩ := h1
    refine ⟨b, Da.bl_inv hv, ?_⟩
    cases b with
    | true =>
      show Q (.bl true) H1
      exact q _ H1 _ M1 r k1 (.bl true)
    | false =>
      show tb σ H1 Q
      exact (show W K tb G M1 R from r) B σ H1 k1 Q q
theorem w_notV (h : W K ta G M fun e M1 => IsB e fun b => R (.d (.bool (!b))) M1) : W K (tNotV ta) G M R := fun B σ H k Q q =>
  h B σ H k _ fun v H1 e M1 h1 k1 hv => by
    obtain ⟨b, rfl, r⟩ := h1
    exact ⟨b, Da.bl_inv hv, q _ H1 _ M1 r k1 (.bl _)⟩
theorem w_chain {r r' : R2} (h : W K ta G M fun x M1 => W K tb G M1 fun y M2 => RW K r x y M2 fun z M3 => IsB z fun b => if b = true then W K tc G M3 (fun w M4 => RW K r' y w M4 R) else R (.d (.bool false)) M3) : W K (tChain r r' ta tb tc) G M R := fun B σ H k Q q =>
  h B σ H k _ fun v H1 x M1 h1 k1 hv => h1 (less H1 M1) σ H1 k1.rebase _ fun w H2 y M2 h2 k2 hw =>
    h2 v w H2 k2.m (hv.mono k2.ex) hw _ fun z H3 e M3 r3 k3 => by
      obtain ⟨b, rfl, r4⟩ := r3
      refine ⟨b, Da.bl_inv k3.v, ?_⟩
      have k4 : Ok K B M3 G σ H3 := k3.up (B' := B) (k2.base k1.ex)
      cases b with
      | true =>
        show tc σ H3 _
        exact (show W K tc G M3 _ from r4) (less H3 M3) σ H3 k4.rebase _ fun w' H5 e5 M5 h5 k5 hw5 =>
          h5 w w' H5 k5.m (hw.mono (k3.ex.trans k5.ex)) hw5 Q fun z6 H6 e6 M6 r6 k6 => q z6 H6 e6 M6 r6 (k6.up (B' := B) (k5.base k4.ex)) k6.v
      | false =>
        show Q (.bl false) H3
        exact q _ H3 _ M3 r4 k4 (.bl false)
/-! ### arguments, calls -/
theorem wa_nil {R : List Ent → Mh → Prop} (r : R [] M) : WA K tNil G M R := fun B σ H k Q q => q [] H [] M r k .nil
theorem wa_cons {R : List Ent → Mh → Prop} {tr : TA} (h : W K ta G M fun e M1 => WA K tr G M1 fun es M2 => R (e :: es) M2) : WA K (tCons ta tr) G M R := fun B σ H k Q q =>
  h B σ H k _ fun v H1 e M1 h1 k1 hv => h1 (less H1 M1) σ H1 k1.rebase _ fun vs H2 es M2 h2 k2 hvs => q (v :: vs) H2 (e :: es) M2 h2 (k2.base k1.ex) (.cons (hv.mono k2.ex) hvs)
theorem w_cb {r : List V → Hp → VK → Prop} {ts : TA} (h : WA K ts G M fun es M1 => RC K r es M1 R) : W K (tCB r ts) G M R := fun B σ H k Q q =>
  h B σ H k _ fun vs H1 es M1 h1 k1 hv => h1 vs H1 k1.m hv Q fun z H2 e M2 r2 k2 => q z H2 e M2 r2 (k2.up (B' := B) k1) k2.v
/-- the promise of a def, told by what stands there -/
abbrev Spec := Mh → List Ent → (Ent → Mh → Prop) → Prop
def PSp (K : PySem.W.Frag) (spec : Spec) : Sp := fun vs H Q _ => ∃ M es, MOk K M H ∧ Ents K (less H M) vs es ∧ ∃ R : Ent → Mh → Prop, spec M es R ∧ ∀ v H' e M', R e M' → RtOk K (less H M) M' e v H' → Q v H'
theorem w_call {spec : Spec} {dvs : List V} {des : List Ent} {E : XK} {ts : TA} (hd : ∀ F : Hp, Ents K F dvs des) (h : WA K ts G M fun es M1 => spec M1 (es ++ des) R) : W K (tCall (PSp K spec) dvs E ts) G M R := fun B σ H k Q q =>
  h B σ H k _ fun vs H1 es M1 h1 k1 hv => ⟨M1, es ++ des, k1.m, hv.append (hd _), R, h1, fun z H2 e M2 r2 k2 => q z H2 e M2 r2 (k2.up (B' := B) k1) k2.v⟩
theorem w_call0 {spec : Spec} {E : XK} {ts : TA} (h : WA K ts G M fun es M1 => spec M1 es R) : W K (tCall (PSp K spec) [] E ts) G M R := w_call (des := []) (fun _ => .nil) (by
  refine fun B σ H k Q q => h B σ H k Q fun vs H' es M' r => q vs H' es M' ?_
  show spec M' (es ++ []) R
  rw [List.append_nil]
  exact r)
/-- a method of a built-in type -/
def TY (K : PySem.W.Frag) (M : Mh) (T : String) (e : Ent) : Prop := ∀ (H : Hp) (v : V), MOk K M H → EntOk K (less H M) v e → tyV K T v H
theorem ty_l {es : List Ent} (h : SeqL K M e es) : TY K M "list" e := fun H v m hv => by
  obtain ⟨a, xs, rfl, h1, _⟩ := h H v m hv
  exact .inl ⟨rfl, _, SqL.of h1⟩
theorem w_bm {T : String} {r : V → List V → Hp → VK → Prop} {ts : TA} (h : W K to G M fun e M1 => TY K M1 T e ∧ WA K ts G M1 fun es M2 => RM K r e es M2 R) : W K (tBM K T r to ts) G M R := fun B σ H k Q q =>
  h B σ H k _ fun v H1 e M1 h1 k1 hv => ⟨h1.1 H1 v k1.m hv, h1.2 (less H1 M1) σ H1 k1.rebase _ fun vs H2 es M2 h2 k2 hvs =>
    h2 v vs H2 k2.m (hv.mono k2.ex) hvs Q fun z H3 e3 M3 r3 k3 => q z H3 e3 M3 r3 (k3.up (B' := B) (k2.base k1.ex)) k3.v⟩
/-! ### displays -/
theorem rt_new {o : HO} {p : Addr} {d : PyData} (m : MOk K M H) (hp : H p = none) (h : Da K (less (upd H p o) M) (.ref p) d) : RtOk K (less H M) M (.d d) (.ref p) (upd H p o) := ⟨ex_less_new hp m, m.new hp, h⟩
theorem da_newT {p : Addr} {xs : List V} {ds : List PyData} (m : MOk K M H) (hp : H p = none) (h : DaAll K (less H M) xs ds) : Da K (less (upd H p (.tup xs)) M) (.ref p) (.tuple ds) :=
  .tup (by rw [less_upd_new (m.free hp), upd_same]) (DaAll.mono (ex_less_new hp m) _ _ h)
theorem da_newL {p : Addr} {xs : List V} {ds : List PyData} (m : MOk K M H) (hp : H p = none) (h : DaAll K (less H M) xs ds) : Da K (less (upd H p (.lst xs)) M) (.ref p) (.list ds) :=
  .lst (by rw [less_upd_new (m.free hp), upd_same]) (DaAll.mono (ex_less_new hp m) _ _ h)
theorem w_tup {ts : TA} (h : WA K ts G M fun es M1 => IsDs es fun ds => ds.length ≤ sizeLine ∧ R (.d (.tuple ds)) M1) : W K (tTup ts) G M R := fun B σ H k Q q =>
  h B σ H k _ fun vs H1 es M1 h1 k1 hv => by
    obtain ⟨ds, rfl, hl, r⟩ := h1
    have hd := ents_data hv
    exact ⟨by rw [hd.length]; exact hl, fun p hp => q _ _ _ M1 r (k1.new hp) (da_newT k1.m hp hd)⟩
theorem w_lst {ts : TA} (h : WA K ts G M fun es M1 => IsDs es fun ds => ds.length ≤ sizeLine ∧ R (.d (.list ds)) M1) : W K (tLst ts) G M R := fun B σ H k Q q =>
  h B σ H k _ fun vs H1 es M1 h1 k1 hv => by
    obtain ⟨ds, rfl, hl, r⟩ := h1
    have hd := ents_data hv
    exact ⟨by rw [hd.length]; exact hl, fun p hp => q _ _ _ M1 r (k1.new hp) (da_newL k1.m hp hd)⟩
/-- a list that will be written -/
theorem w_lstM {ts : TA} (h : WA K ts G M fun es M1 => es.length ≤ sizeLine ∧ ∀ p, M1 p = none → R (.v (.ref p)) (mupd M1 p (.lst es))) : W K (tLst ts) G M R := fun B σ H k Q q =>
  h B σ H k _ fun vs H1 es M1 h1 k1 hv => ⟨by rw [hv.length]; exact h1.1, fun p hp => q _ _ _ _ (h1.2 p (k1.m.free hp)) (k1.mnew hp ⟨vs, rfl, hv⟩) rfl⟩
/-! ### operations -/
theorem RtOk.same {z : V} (m : MOk K M H) (h : EntOk K (less H M) z e) : RtOk K (less H M) M e z H := ⟨Ex.refl _, m, h⟩
theorem rw_I0 {f : Int → Int → Int} {i j : Int} (r : R (.d (.int (f i j))) M) : RW K (rI0 fun i j => .int (f i j)) (.d (.int i)) (.d (.int j)) M R := fun v w H m hv hw Q q =>
  ⟨i, j, Da.int_inv hv, Da.int_inv hw, q _ H _ M r (.same m (.int _))⟩
theorem rw_B0 {f : Int → Int → Bool} {i j : Int} (r : R (.d (.bool (f i j))) M) : RW K (rI0 fun i j => .bl (f i j)) (.d (.int i)) (.d (.int j)) M R := fun v w H m hv hw Q q =>
  ⟨i, j, Da.int_inv hv, Da.int_inv hw, q _ H _ M r (.same m (.bl _))⟩
theorem rw_I {C : Int → Int → Prop} {f : Int → Int → Int} {i j : Int} (hc : C i j) (r : R (.d (.int (f i j))) M) : RW K (rI C fun i j => .int (f i j)) (.d (.int i)) (.d (.int j)) M R := fun v w H m hv hw Q q =>
  ⟨i, j, Da.int_inv hv, Da.int_inv hw, hc, q _ H _ M r (.same m (.int _))⟩
theorem rw_eqI {i j : Int} (r : R (.d (.bool (decide (i = j)))) M) : RW K rEq (.d (.int i)) (.d (.int j)) M R := fun v w H m hv hw Q q => by
  rw [Da.int_inv hv, Da.int_inv hw]
  have e : decide (V.int i = V.int j) = decide (i = j) := by simp
  refine ⟨rfl, ?_⟩
  rw [e]
  exact q _ H _ M r (.same m (.bl _))
theorem rw_eqS {i j : Str} (r : R (.d (.bool (decide (i = j)))) M) : RW K rEq (.d (.str i)) (.d (.str j)) M R := fun v w H m hv hw Q q => by
  rw [Da.str_inv hv, Da.str_inv hw]
  have e : decide (V.str i = V.str j) = decide (i = j) := by simp
  refine ⟨rfl, ?_⟩
  rw [e]
  exact q _ H _ M r (.same m (.bl _))
theorem rw_eqB {i j : Bool} (r : R (.d (.bool (decide (i = j)))) M) : RW K rEq (.d (.bool i)) (.d (.bool j)) M R := fun v w H m hv hw Q q => by
  rw [Da.bl_inv hv, Da.bl_inv hw]
  have e : decide (V.bl i = V.bl j) = decide (i = j) := by simp
  refine ⟨rfl, ?_⟩
  rw [e]
  exact q _ H _ M r (.same m (.bl _))
theorem rw_eqSN {i : Str} (r : R (.d (.bool false)) M) : RW K rEq (.d (.str i)) (.d .none) M R := fun v w H m hv hw Q q => by
  rw [Da.str_inv hv, Da.non_inv hw]
  exact ⟨rfl, q _ H _ M r (.same m (.bl _))⟩
theorem rw_eqIS {i : Int} {j : Str} (r : R (.d (.bool false)) M) : RW K rEq (.d (.int i)) (.d (.str j)) M R := fun v w H m hv hw Q q => by
  rw [Da.int_inv hv, Da.str_inv hw]
  exact ⟨rfl, q _ H _ M r (.same m (.bl _))⟩
theorem rw_eqSI {i : Str} {j : Int} (r : R (.d (.bool false)) M) : RW K rEq (.d (.str i)) (.d (.int j)) M R := fun v w H m hv hw Q q => by
  rw [Da.str_inv hv, Da.int_inv hw]
  exact ⟨rfl, q _ H _ M r (.same m (.bl _))⟩
theorem rw_neI {i j : Int} (r : R (.d (.bool (!decide (i = j)))) M) : RW K rNe (.d (.int i)) (.d (.int j)) M R := fun v w H m hv hw Q q => by
  rw [Da.int_inv hv, Da.int_inv hw]
  have e : decide (V.int i = V.int j) = decide (i = j) := by simp
  refine ⟨rfl, ?_⟩
  rw [e]
  exact q _ H _ M r (.same m (.bl _))
theorem rw_neIS {i : Int} {j : Str} (r : R (.d (.bool true)) M) : RW K rNe (.d (.int i)) (.d (.str j)) M R := fun v w H m hv hw Q q => by
  rw [Da.int_inv hv, Da.str_inv hw]
  exact ⟨rfl, q _ H _ M r (.same m (.bl _))⟩
theorem rw_neSI {i : Str} {j : Int} (r : R (.d (.bool true)) M) : RW K rNe (.d (.str i)) (.d (.int j)) M R := fun v w H m hv hw Q q => by
  rw [Da.str_inv hv, Da.int_inv hw]
  exact ⟨rfl, q _ H _ M r (.same m (.bl _))⟩
theorem rw_neS {i j : Str} (r : R (.d (.bool (!decide (i = j)))) M) : RW K rNe (.d (.str i)) (.d (.str j)) M R := fun v w H m hv hw Q q => by
  rw [Da.str_inv hv, Da.str_inv hw]
  have e : decide (V.str i = V.str j) = decide (i = j) := by simp
  refine ⟨rfl, ?_⟩
  rw [e]
  exact q _ H _ M r (.same m (.bl _))
/-- x is None -/
def isNon : PyData → Bool
  | .none => true
  | _ => false
theorem Da.isNon_eq {d : PyData} (h : Da K F v d) : decide (v = .non) = isNon d := by cases h <;> simp [isNon]
theorem rw_isN {d : PyData} (r : R (.d (.bool (isNon d))) M) : RW K (fun x y H Q => y = .non ∧ Q (.bl (decide (x = .non))) H) (.d d) (.d .none) M R := fun v w H m hv hw Q q =>
  ⟨Da.non_inv hw, q _ H _ M r (.same m (by rw [Da.isNon_eq hv]; exact .bl _))⟩
theorem rw_notN {d : PyData} (r : R (.d (.bool (!isNon d))) M) : RW K (fun x y H Q => y = .non ∧ Q (.bl (!decide (x = .non))) H) (.d d) (.d .none) M R := fun v w H m hv hw Q q =>
  ⟨Da.non_inv hw, q _ H _ M r (.same m (by rw [Da.isNon_eq hv]; exact .bl _))⟩
theorem rw_eqD {d d' : PyData} (hx : AsD K M x d) (hy : AsD K M y d') (s1 : SeqAt.shaped d = true) (s2 : SeqAt.shaped d' = true) (r : R (.d (.bool (PyData.eqv d d'))) M) : RW K (rEqD K) x y M R := fun v w H m hv hw Q q =>
  ⟨d, d', hx H v m hv, hy H w m hw, s1, s2, q _ H _ M r (.same m (.bl _))⟩
theorem rw_neD {d d' : PyData} (hx : AsD K M x d) (hy : AsD K M y d') (s1 : SeqAt.shaped d = true) (s2 : SeqAt.shaped d' = true) (r : R (.d (.bool (!PyData.eqv d d'))) M) : RW K (rNeD K) x y M R := fun v w H m hv hw Q q =>
  ⟨d, d', hx H v m hv, hy H w m hw, s1, s2, q _ H _ M r (.same m (.bl _))⟩
/-! ### subscripts -/
theorem rw_ixL {es : List Ent} {i : Int} (h : SeqL K M x es) (hi : atI es i = some e) (r : R e M) : RW K (rIxL K) x (.d (.int i)) M R := fun v w H m hv hw Q q => by
  obtain ⟨a, xs, rfl, h1, h2⟩ := h H v m hv
  obtain ⟨z, z1, z2⟩ := h2.atI hi
  exact ⟨a, xs, i, z, rfl, Da.int_inv hw, SqL.of h1, z1, q _ H _ M r (.same m z2)⟩
theorem rw_ixT {es : List Ent} {i : Int} (h : SeqT K M x es) (hi : atI es i = some e) (r : R e M) : RW K (rIxT K) x (.d (.int i)) M R := fun v w H m hv hw Q q => by
  obtain ⟨a, xs, rfl, h1, h2⟩ := h H v m hv
  obtain ⟨z, z1, z2⟩ := h2.atI hi
  exact ⟨a, xs, i, z, rfl, Da.int_inv hw, h1, z1, q _ H _ M r (.same m z2)⟩
theorem rw_ixLd {ds : List PyData} {i : Int} {d : PyData} (hi : atI ds i = some d) (r : R (.d d) M) : RW K (rIxL K) (.d (.list ds)) (.d (.int i)) M R :=
  rw_ixL (es := ds.map Ent.d) seqL_d (by
    unfold atI at hi ⊢
    rw [List.length_map]
    cases hx : ixN ds.length i with
    | none => rw [hx] at hi; cases hi
    | some j =>
      rw [hx] at hi
      show (ds.map Ent.d)[j]? = some (.d d)
      rw [List.getElem?_map, show ds[j]? = some d from hi]
      rfl) r
theorem rw_ixTd {ds : List PyData} {i : Int} {d : PyData} (hi : atI ds i = some d) (r : R (.d d) M) : RW K (rIxT K) (.d (.tuple ds)) (.d (.int i)) M R :=
  rw_ixT (es := ds.map Ent.d) seqT_d (by
    unfold atI at hi ⊢
    rw [List.length_map]
    cases hx : ixN ds.length i with
    | none => rw [hx] at hi; cases hi
    | some j =>
      rw [hx] at hi
      show (ds.map Ent.d)[j]? = some (.d d)
      rw [List.getElem?_map, show ds[j]? = some d from hi]
      rfl) r
/-! slices -/
def WO (K : PySem.W.Frag) (to : TO) (G : Gm) (M : Mh) (R : Option Int → Mh → Prop) : Prop :=
  ∀ (B : Hp) (σ : L2.St) (H : Hp), Ok K B M G σ H → ∀ Q : Option Int → Hp → Prop, (∀ o H' M', R o M' → Ok K B M' G σ H' → Q o H') → to σ H Q
def RS (K : PySem.W.Frag) (r : V → Option Int → Option Int → Hp → VK → Prop) (x : Ent) (lo hi : Option Int) (M : Mh) (R : Ent → Mh → Prop) : Prop :=
  ∀ (v : V) (H : Hp), MOk K M H → EntOk K (less H M) v x → ∀ Q : VK, (∀ z H' e M', R e M' → RtOk K (less H M) M' e z H' → Q z H') → r v lo hi H Q
theorem wo_none {RO : Option Int → Mh → Prop} (r : RO none M) : WO K tNoPart G M RO := fun B σ H k Q q => q none H M r k
theorem wo_some {RO : Option Int → Mh → Prop} (h : W K te G M fun e M1 => ∃ i, e = .d (.int i) ∧ RO (some i) M1) : WO K (tPart te) G M RO := fun B σ H k Q q =>
  h B σ H k _ fun v H1 e M1 h1 k1 hv => by
    obtain ⟨i, rfl, r⟩ := h1
    exact ⟨i, Da.int_inv hv, q _ H1 M1 r k1⟩
theorem w_sl {r : V → Option Int → Option Int → Hp → VK → Prop} {tl th : TO} (h : W K te G M fun e M1 => WO K tl G M1 fun lo M2 => WO K th G M2 fun hi M3 => RS K r e lo hi M3 R) : W K (tSl r te tl th) G M R := fun B σ H k Q q =>
  h B σ H k _ fun v H1 e M1 h1 k1 hv => h1 (less H1 M1) σ H1 k1.rebase _ fun lo H2 M2 h2 k2 => h2 (less H2 M2) σ H2 k2.rebase _ fun hi H3 M3 h3 k3 =>
    h3 v H3 k3.m (hv.mono (k2.ex.trans k3.ex)) Q fun z H4 e4 M4 r4 k4 => q z H4 e4 M4 r4 (k4.up (B' := B) (k3.base (k1.ex.trans k2.ex))) k4.v
def cutG {α : Type} (xs : List α) (lo hi : Option Int) : List α := (xs.drop (HT.sIx xs.length 0 lo)).take (HT.sIx xs.length xs.length hi - HT.sIx xs.length 0 lo)
theorem DaAll.cut {xs : List V} {ds : List PyData} (h : DaAll K F xs ds) (lo hi : Option Int) : DaAll K F (cutV xs lo hi) (cutG ds lo hi) := by
  unfold cutV cutG
  rw [h.length]
  exact (h.drop _).take _
theorem rs_L {ds : List PyData} {lo hi : Option Int} (h : SeqL K M x (ds.map Ent.d)) (r : R (.d (.list (cutG ds lo hi))) M) : RS K (rSlL K) x lo hi M R := fun v H m hv Q q => by
  obtain ⟨a, xs, rfl, h1, h2⟩ := h H v m hv
  exact ⟨a, xs, rfl, SqL.of h1, fun p hp => q _ _ _ M r (rt_new m hp (da_newL m hp ((ents_data h2).cut lo hi)))⟩
theorem cut_whole {α : Type} {xs : List α} {lo hi : Option Int} (h : HT.sIx xs.length 0 lo = 0 ∧ HT.sIx xs.length xs.length hi = xs.length) : cutG xs lo hi = xs := by
  unfold cutG
  rw [h.1, h.2]
  simp
theorem rs_T {ds : List PyData} {lo hi : Option Int} (r : R (.d (.tuple (cutG ds lo hi))) M) : RS K (rSlA K) (.d (.tuple ds)) lo hi M R := fun v H m hv Q q => by
  cases hv with
  | tup h1 h2 =>
    rename_i a xs
    have hl := h2.length
    refine ⟨a, xs, rfl, SqT.of (less_ex _ _ h1), fun hw => ?_, fun hw p hp => q _ _ _ M r (rt_new m hp (da_newT m hp (h2.cut lo hi)))⟩
    rw [hl] at hw
    rw [cut_whole hw] at r
    exact q _ _ _ M r (.same m (.tup h1 h2))
theorem rs_S {z : Str} {lo hi : Option Int} (hz : z.length ≤ sizeLine) (r : R (.d (.str (cutS z lo hi))) M) : RS K (fun x lo hi H Q => ∃ z, x = .str z ∧ z.length ≤ sizeLine ∧ Q (.str (cutS z lo hi)) H) (.d (.str z)) lo hi M R := fun v H m hv Q q =>
  ⟨z, Da.str_inv hv, hz, q _ H _ M r (.same m (.str _))⟩
/-! concatenation -/
theorem rw_catT {ds ds' : List PyData} (hz : ds.length + ds'.length ≤ sizeLine) (r : R (.d (.tuple (ds ++ ds'))) M) : RW K (rCatA K) (.d (.tuple ds)) (.d (.tuple ds')) M R := fun v w H m hv hw Q q => by
  cases hv with
  | tup h1 h2 =>
    cases hw with
    | tup g1 g2 =>
      rename_i a xs b ys
      refine ⟨a, b, xs, ys, rfl, rfl, SqT.of (less_ex _ _ h1), SqT.of (less_ex _ _ g1), by rw [h2.length, g2.length]; exact hz, fun e => ?_, fun _ e => ?_, fun _ _ p hp => ?_⟩
      · subst e
        cases ds with
        | cons _ _ => cases h2
        | nil => exact q _ _ _ M r (.same m (.tup g1 g2))
      · subst e
        cases ds' with
        | cons _ _ => cases g2
        | nil =>
          rw [List.append_nil] at r
          exact q _ _ _ M r (.same m (.tup h1 h2))
      · exact q _ _ _ M r (rt_new m hp (da_newT m hp (h2.append g2)))
theorem rw_catL {ds ds' : List PyData} (hx : SeqL K M x (ds.map Ent.d)) (hy : SeqL K M y (ds'.map Ent.d)) (hz : ds.length + ds'.length ≤ sizeLine) (r : R (.d (.list (ds ++ ds'))) M) : RW K rCat x y M R := fun v w H m hv hw Q q => by
  obtain ⟨a, xs, rfl, h1, h2⟩ := hx H v m hv
  obtain ⟨b, ys, rfl, g1, g2⟩ := hy H w m hw
  have h3 := ents_data h2
  have g3 := ents_data g2
  exact ⟨a, b, xs, ys, rfl, rfl, h1, g1, by rw [h3.length, g3.length]; exact hz, fun p hp => q _ _ _ M r (rt_new m hp (da_newL m hp (h3.append g3)))⟩
/-! in -/
theorem inV_strs : ∀ (s : Str) (ss : List Str), inV (.str s) (ss.map V.str) = decide (s ∈ ss)
  | s, [] => by simp [inV]
  | s, z :: ss => by
    have ih := inV_strs s ss
    unfold inV at ih ⊢
    rw [List.map_cons, List.any_cons, ih]
    show (z == s || decide (s ∈ ss)) = decide (s ∈ z :: ss)
    by_cases e : z = s
    · subst e; simp
    · have e' : ¬ s = z := fun q => e q.symm
      simp [e, e']
theorem inV_ints : ∀ (s : Int) (ss : List Int), inV (.int s) (ss.map V.int) = decide (s ∈ ss)
  | s, [] => by simp [inV]
  | s, z :: ss => by
    have ih := inV_ints s ss
    unfold inV at ih ⊢
    rw [List.map_cons, List.any_cons, ih]
    show (z == s || decide (s ∈ ss)) = decide (s ∈ z :: ss)
    by_cases e : z = s
    · subst e; simp
    · have e' : ¬ s = z := fun q => e q.symm
      simp [e, e']
theorem da_strs : ∀ {ss : List Str} {xs : List V}, DaAll K F xs (ss.map .str) → xs = ss.map V.str
  | [], _, h => by cases h; rfl
  | s :: ss, _, h => by
    cases h with
    | cons h1 h2 => rw [Da.str_inv h1, da_strs h2]; rfl
theorem da_ints : ∀ {ss : List Int} {xs : List V}, DaAll K F xs (ss.map .int) → xs = ss.map V.int
  | [], _, h => by cases h; rfl
  | s :: ss, _, h => by
    cases h with
    | cons h1 h2 => rw [Da.int_inv h1, da_ints h2]; rfl
theorem flat_strs (ss : List Str) : (ss.map V.str).all flatV = true := by
  rw [List.all_eq_true]
  intro x hx
  obtain ⟨s, _, rfl⟩ := List.mem_map.mp hx
  rfl
theorem flat_ints (ss : List Int) : (ss.map V.int).all flatV = true := by
  rw [List.all_eq_true]
  intro x hx
  obtain ⟨s, _, rfl⟩ := List.mem_map.mp hx
  rfl
theorem rw_inTS {s : Str} {ss : List Str} {ds : List PyData} {neg : Bool} (hd : ds = ss.map .str) (r : R (.d (.bool (if neg then !decide (s ∈ ss) else decide (s ∈ ss)))) M) : RW K (rIn K neg) (.d (.str s)) (.d (.tuple ds)) M R := fun v w H m hv hw Q q => by
  subst hd
  cases hw with
  | tup h1 h2 =>
    rename_i a xs
    have e := da_strs h2
    subst e
    rw [Da.str_inv hv]
    exact ⟨a, _, rfl, .inr (SqT.of (less_ex _ _ h1)), rfl, flat_strs ss, by rw [inV_strs]; exact q _ H _ M r (.same m (.bl _))⟩
/-- in a tuple of the module's -/
theorem rw_inKS {s : Str} {ss : List Str} {a : Addr} {neg : Bool} (hk : ∀ H, SqT K H a (ss.map V.str)) (r : R (.d (.bool (if neg then !decide (s ∈ ss) else decide (s ∈ ss)))) M) : RW K (rIn K neg) (.d (.str s)) (.v (.ref a)) M R := fun v w H m hv hw Q q => by
  cases hw
  rw [Da.str_inv hv]
  exact ⟨a, _, rfl, .inr (hk H), rfl, flat_strs ss, by rw [inV_strs]; exact q _ H _ M r (.same m (.bl _))⟩
theorem rw_inLI {s : Int} {ss : List Int} {ds : List PyData} {neg : Bool} (hd : ds = ss.map .int) (hx : SeqL K M x (ds.map Ent.d)) (r : R (.d (.bool (if neg then !decide (s ∈ ss) else decide (s ∈ ss)))) M) : RW K (rIn K neg) (.d (.int s)) x M R := fun v w H m hv hw Q q => by
  subst hd
  obtain ⟨a, xs, rfl, h1, h2⟩ := hx H w m hw
  have e := da_ints (ents_data h2)
  subst e
  rw [Da.int_inv hv]
  exact ⟨a, _, rfl, .inl (SqL.of h1), rfl, flat_ints ss, by rw [inV_ints]; exact q _ H _ M r (.same m (.bl _))⟩
/-! ### built-ins -/
theorem rc_lenL {es : List Ent} (h : SeqL K M x es) (r : R (.d (.int (es.length : Int))) M) : RC K (fun xs H Q => ∃ p ys, xs = [.ref p] ∧ (SqL K H p ys ∨ SqT K H p ys) ∧ Q (.int ys.length) H) [x] M R := fun vs H m hv Q q => by
  cases hv with
  | cons h1 h2 =>
    cases h2
    obtain ⟨a, xs, rfl, g1, g2⟩ := h H _ m h1
    exact ⟨a, xs, rfl, .inl (SqL.of g1), q _ H _ M r (.same m (by rw [← g2.length]; exact .int _))⟩
theorem rc_lenT {es : List Ent} (h : SeqT K M x es) (r : R (.d (.int (es.length : Int))) M) : RC K (fun xs H Q => ∃ p ys, xs = [.ref p] ∧ (SqL K H p ys ∨ SqT K H p ys) ∧ Q (.int ys.length) H) [x] M R := fun vs H m hv Q q => by
  cases hv with
  | cons h1 h2 =>
    cases h2
    obtain ⟨a, xs, rfl, g1, g2⟩ := h H _ m h1
    exact ⟨a, xs, rfl, .inr g1, q _ H _ M r (.same m (by rw [← g2.length]; exact .int _))⟩
theorem ents1 {vs : List V} (h : Ents K F vs [x]) : ∃ v, vs = [v] ∧ EntOk K F v x := by
  cases h with
  | cons h1 h2 =>
    cases h2
    exact ⟨_, rfl, h1⟩
theorem ents2 {vs : List V} (h : Ents K F vs [x, y]) : ∃ v w, vs = [v, w] ∧ EntOk K F v x ∧ EntOk K F w y := by
  cases h with
  | cons h1 h2 =>
    cases h2 with
    | cons h3 h4 =>
      cases h4
      exact ⟨_, _, rfl, h1, h3⟩
theorem rc_abs {i : Int} (r : R (.d (.int (if i < 0 then -i else i))) M) : RC K (fun xs H Q => ∃ i, xs = [.int i] ∧ Q (.int (if i < 0 then -i else i)) H) [.d (.int i)] M R := fun vs H m hv Q q => by
  obtain ⟨v, rfl, h⟩ := ents1 hv
  exact ⟨i, by rw [Da.int_inv h], q _ H _ M r (.same m (.int _))⟩
theorem rc_max2 {i j : Int} (r : R (.d (.int (if j > i then j else i))) M) : RC K (fun xs H Q => ∃ i j, xs = [.int i, .int j] ∧ Q (.int (if j > i then j else i)) H) [.d (.int i), .d (.int j)] M R := fun vs H m hv Q q => by
  obtain ⟨v, w, rfl, h, g⟩ := ents2 hv
  exact ⟨i, j, by rw [Da.int_inv h, Da.int_inv g], q _ H _ M r (.same m (.int _))⟩
theorem rc_min2 {i j : Int} (r : R (.d (.int (if j < i then j else i))) M) : RC K (fun xs H Q => ∃ i j, xs = [.int i, .int j] ∧ Q (.int (if j < i then j else i)) H) [.d (.int i), .d (.int j)] M R := fun vs H m hv Q q => by
  obtain ⟨v, w, rfl, h, g⟩ := ents2 hv
  exact ⟨i, j, by rw [Da.int_inv h, Da.int_inv g], q _ H _ M r (.same m (.int _))⟩
theorem rc_intB {b : Bool} (r : R (.d (.int (if b then 1 else 0))) M) : RC K (fun xs H Q => (∃ i, xs = [.int i] ∧ Q (.int i) H) ∨ ∃ k, xs = [.bl k] ∧ Q (.int (if k then 1 else 0)) H) [.d (.bool b)] M R := fun vs H m hv Q q => by
  obtain ⟨v, rfl, h⟩ := ents1 hv
  exact .inr ⟨b, by rw [Da.bl_inv h], q _ H _ M r (.same m (.int _))⟩
theorem rc_listT {ds : List PyData} (r : ∀ p, M p = none → R (.v (.ref p)) (mupd M p (.lst (ds.map Ent.d)))) : RC K (fun xs H Q => ∃ p ys, xs = [.ref p] ∧ (SqL K H p ys ∨ SqT K H p ys) ∧ ∀ l, H l = none → Q (.ref l) (upd H l (.lst ys))) [.d (.tuple ds)] M R := fun vs H m hv Q q => by
  obtain ⟨v, rfl, h⟩ := ents1 hv
  cases h with
  | tup h1 h2 =>
    rename_i a xs
    refine ⟨a, xs, rfl, .inr (SqT.of (less_ex _ _ h1)), fun l hl => ?_⟩
    have hM := m.free hl
    have k : Ok K (less H M) M [] [] H := ⟨Ex.refl _, m, rfl, fun i e z => by simp at z⟩
    have k2 := k.mnew (mo := .lst (ds.map Ent.d)) hl ⟨xs, rfl, data_ents h2⟩
    exact q _ _ _ _ (r l hM) ⟨k2.ex, k2.m, rfl⟩
theorem rc_tupL {ds : List PyData} (h : SeqL K M x (ds.map Ent.d)) (r : R (.d (.tuple ds)) M) : RC K (fun xs H Q => ∃ p ys, xs = [.ref p] ∧ ((SqL K H p ys ∧ ∀ l, H l = none → Q (.ref l) (upd H l (.tup ys))) ∨ (SqT K H p ys ∧ Q (.ref p) H))) [x] M R := fun vs H m hv Q q => by
  obtain ⟨v, rfl, h0⟩ := ents1 hv
  obtain ⟨a, xs, rfl, h1, h2⟩ := h H v m h0
  exact ⟨a, xs, rfl, .inl ⟨SqL.of h1, fun p hp => q _ _ _ M r (rt_new m hp (da_newT m hp (ents_data h2)))⟩⟩
/-! ### list methods -/
theorem rm_append {p : Addr} {es : List Ent} {e : Ent} (hp : M p = some (.lst es)) (hl : es.length < sizeLine) (r : R (.d .none) (mupd M p (.lst (es ++ [e])))) : RM K rAppend (.v (.ref p)) [e] M R := fun v vs H m hv hvs Q q => by
  obtain ⟨o, e1, xs, e2, hx⟩ := m p _ hp
  subst e2
  cases hv
  obtain ⟨w, rfl, hw⟩ := ents1 hvs
  have k : Ok K (less H M) M [] [] H := ⟨Ex.refl _, m, rfl, fun i e z => by simp at z⟩
  have k2 := k.write (o := .lst (xs ++ [w])) (mo' := .lst (es ++ [e])) hp ⟨_, rfl, hx.append (.cons hw .nil)⟩
  exact ⟨p, xs, w, rfl, rfl, e1, by rw [hx.length]; exact hl, q _ _ _ _ r ⟨k2.ex, k2.m, .non⟩⟩
theorem rm_extend {p : Addr} {es fs : List Ent} {e : Ent} (hp : M p = some (.lst es)) (hs : SeqL K M e fs) (hl : es.length + fs.length ≤ sizeLine) (r : R (.d .none) (mupd M p (.lst (es ++ fs)))) : RM K rExtend (.v (.ref p)) [e] M R := fun v vs H m hv hvs Q q => by
  obtain ⟨o, e1, xs, e2, hx⟩ := m p _ hp
  subst e2
  cases hv
  obtain ⟨w, rfl, hw⟩ := ents1 hvs
  obtain ⟨b, ys, rfl, g1, g2⟩ := hs H w m hw
  have k : Ok K (less H M) M [] [] H := ⟨Ex.refl _, m, rfl, fun i e z => by simp at z⟩
  have k2 := k.write (o := .lst (xs ++ ys)) (mo' := .lst (es ++ fs)) hp ⟨_, rfl, hx.append g2⟩
  exact ⟨p, b, xs, ys, rfl, rfl, e1, g1, by rw [hx.length, g2.length]; exact hl, q _ _ _ _ r ⟨k2.ex, k2.m, .non⟩⟩
theorem rm_index {ss : List Int} {s : Int} {j : Nat} {ds : List PyData} (hd : ds = ss.map .int) (hx : SeqL K M x (ds.map Ent.d)) (hj : ss[j]? = some s) (hn : ∀ m, m < j → ss[m]? ≠ some s) (r : R (.d (.int (j : Int))) M) : RM K (rIndex K) x [.d (.int s)] M R := fun v vs H m hv hvs Q q => by
  subst hd
  obtain ⟨a, xs, rfl, h1, h2⟩ := hx H v m hv
  have e := da_ints (ents_data h2)
  subst e
  obtain ⟨w, rfl, hw⟩ := ents1 hvs
  rw [Da.int_inv hw]
  refine ⟨a, _, .int s, j, .int s, rfl, rfl, SqL.of h1, rfl, flat_ints ss, by rw [List.getElem?_map, hj]; rfl, by simp [eqV], fun i z hi hz => ?_, q _ H _ M r (.same m (.int _))⟩
  rw [List.getElem?_map] at hz
  cases h3 : ss[i]? with
  | none => rw [h3] at hz; cases hz
  | some u =>
    rw [h3] at hz
    have ez : V.int u = z := Option.some.inj hz
    subst ez
    have hu : u ≠ s := fun q => hn i hi (by rw [h3, q])
    show (u == s) = false
    simpa using hu
end
end DL

namespace DL
open PySem PySem.Spec PyProof.Rows L2
open Evl (Ex ex_rd ex_l ex_t)

/-! ### slots forgotten -/
def wipeG (G : Gm) : List Nat → Gm
  | [] => G
  | v :: vs => (wipeG G vs).set v none
theorem wipe_at (σ : L2.St) (j : Nat) : ∀ vs : List Nat, (wipe σ vs)[j]? = if j ∈ vs then (if j < σ.length then some none else none) else σ[j]?
  | [] => by simp [wipe]
  | v :: vs => by
    have ih := wipe_at σ j vs
    show ((wipe σ vs).set v none)[j]? = _
    rw [List.getElem?_set, wipe_length]
    by_cases e : v = j
    · subst e
      simp
    · rw [if_neg e, ih]
      have e' : ¬ j = v := fun q => e q.symm
      simp [e']
theorem wipe_wipe (σ : L2.St) (vs : List Nat) : wipe (wipe σ vs) vs = wipe σ vs := by
  apply List.ext_getElem?
  intro j
  rw [wipe_at, wipe_at, wipe_length]
  by_cases e : j ∈ vs
  · rw [if_pos e, if_pos e]
  · rw [if_neg e, if_neg e]
theorem wipe_set {σ : L2.St} {vs : List Nat} {i : Nat} {x : Option V} (h : i ∈ vs) : wipe (σ.set i x) vs = wipe σ vs := by
  apply List.ext_getElem?
  intro j
  rw [wipe_at, wipe_at, List.length_set]
  by_cases e : j ∈ vs
  · rw [if_pos e, if_pos e]
  · rw [if_neg e, if_neg e, List.getElem?_set_ne (fun q => by subst q; exact e h)]
theorem wipeG_length (G : Gm) : ∀ vs : List Nat, (wipeG G vs).length = G.length
  | [] => rfl
  | v :: vs => by unfold wipeG; rw [List.length_set, wipeG_length G vs]
theorem wipeG_some {G : Gm} {i : Nat} {x : Ent} : ∀ {vs : List Nat}, (wipeG G vs)[i]? = some (some x) → G[i]? = some (some x) ∧ i ∉ vs
  | [], h => ⟨h, by simp⟩
  | v :: vs, h => by
    unfold wipeG at h
    by_cases hi : v = i
    · subst hi
      by_cases hv : v < (wipeG G vs).length
      · rw [List.getElem?_set_self hv] at h; cases h
      · rw [List.getElem?_eq_none (by simpa using hv)] at h; cases h
    · rw [List.getElem?_set_ne hi] at h
      obtain ⟨h1, h2⟩ := wipeG_some h
      exact ⟨h1, by simp only [List.mem_cons, not_or]; exact ⟨fun e => hi e.symm, h2⟩⟩

section
variable {K : PySem.W.Frag} {F F' B B' H H' : Hp} {M M' : Mh} {G G' : Gm} {σ : L2.St} {v : V} {e x y : Ent} {R : Ent → Mh → Prop} {RB : Bool → Mh → Prop} {ta tb tc te to : TE} {t u : TT} {D : DE} {ts us : TS}
theorem SlOk.wipe (h : SlOk K F σ G) (vs : List Nat) : SlOk K F (wipe σ vs) (wipeG G vs) := by
  refine ⟨by rw [wipe_length, wipeG_length]; exact h.1, fun i e q => ?_⟩
  obtain ⟨h1, h2⟩ := wipeG_some q
  obtain ⟨v, a, b⟩ := h.2 i e h1
  exact ⟨v, by rw [wipe_at, if_neg h2]; exact a, b⟩
theorem Ok.set {i : Nat} (k : Ok K B M G σ H) (hv : EntOk K (less H M) v e) : Ok K B M (G.set i (some e)) (σ.set i (some v)) H := ⟨k.ex, k.m, k.sl.set hv⟩

/-! ### targets -/
theorem gw_name {i : Nat} {P : Gm → Mh → Prop} (h : P (G.set i (some e)) M) : GW K (gName i) e G M P := fun B σ H v k hv Q q => q _ M _ H h (k.set hv)
def GWs (K : PySem.W.Frag) (g : TGs) (es : List Ent) (G : Gm) (M : Mh) (P : Gm → Mh → Prop) : Prop :=
  ∀ (B : Hp) (σ : L2.St) (H : Hp) (vs : List V), Ok K B M G σ H → Ents K (less H M) vs es → ∀ Q : L2.St → Hp → Prop, (∀ G' M' σ' H', P G' M' → Ok K B M' G' σ' H' → Q σ' H') → g vs σ H Q
theorem gws_nil {P : Gm → Mh → Prop} (h : P G M) : GWs K gNil [] G M P := fun B σ H vs k hv Q q => by
  cases hv
  exact ⟨rfl, q G M σ H h k⟩
theorem gws_cons {i : Nat} {g : TGs} {es : List Ent} {P : Gm → Mh → Prop} (h : GWs K g es (G.set i (some e)) M P) : GWs K (gCons (gName i) g) (e :: es) G M P := fun B σ H vs k hv Q q => by
  cases hv with
  | cons h1 h2 => exact ⟨_, _, rfl, h B _ H _ (k.set h1) h2 Q q⟩
theorem gw_tup {n : Nat} {g : TGs} {ds : List PyData} {P : Gm → Mh → Prop} (hl : ds.length = n) (h : GWs K g (ds.map Ent.d) G M P) : GW K (gTup K n g) (.d (.tuple ds)) G M P := fun B σ H v k hv Q q => by
  cases hv with
  | tup h1 h2 => exact ⟨_, _, rfl, SqT.of (less_ex _ _ h1), by rw [h2.length]; exact hl, h B σ H _ k (data_ents h2) Q q⟩
/-- xs[i] = e, a list of ours -/
theorem gw_setL {to ti : TE} {P : Gm → Mh → Prop} (h : W K to G M fun o M1 => W K ti G M1 fun i M2 => ∃ (p : Addr) (es : List Ent) (n : Int) (j : Nat), o = .v (.ref p) ∧ i = .d (.int n) ∧ M2 p = some (.lst es) ∧ ixN es.length n = some j ∧ P G (mupd M2 p (.lst (es.set j e)))) : GW K (gSub to ti rSetL) e G M P := fun B σ H v k hv Q q =>
  h (less H M) σ H k.rebase _ fun o H1 eo M1 h1 k1 ho => h1 (less H1 M1) σ H1 k1.rebase _ fun i H2 ei M2 h2 k2 hi => by
    obtain ⟨p, es, n, j, rfl, rfl, hp, hj, hP⟩ := h2
    cases ho
    obtain ⟨o, e1, xs, e2, hx⟩ := k2.m p _ hp
    subst e2
    have hv2 := hv.mono (k1.ex.trans k2.ex)
    have k3 := (k2.base k1.ex).write (o := .lst (xs.set j v)) (mo' := .lst (es.set j e)) hp ⟨_, rfl, hx.set j hv2⟩
    exact ⟨p, xs, n, j, rfl, Da.int_inv hi, e1, by rw [hx.length]; exact hj, q _ _ _ _ hP ⟨k.ex.trans k3.ex, k3.m, k3.sl⟩⟩
/-! ### statements -/
theorem ru_asg {g : TG} (h : W K te G M fun e M1 => GW K g e G M1 D.nx) : Ru K (tAsg te g) G M D := fun B σ H Z k r =>
  h B σ H k _ fun v H1 e M1 h1 k1 hv => h1 B σ H1 v k1 hv Z.nx fun G' M' σ' H' p k' => r.nx G' M' σ' H' p k'
theorem Re.withNx {Z : Ends} {P : Gm → Mh → Prop} {PZ : L2.St → Hp → Prop} (r : Re K B D Z) (h : ∀ G M σ H, P G M → Ok K B M G σ H → PZ σ H) : Re K B { D with nx := P } { Z with nx := PZ } := ⟨h, r.rt, r.bk, r.ct⟩
theorem ru_seq (h : Ru K ts G M { D with nx := fun G' M' => Ru K us G' M' D }) : Ru K (tSeq ts us) G M D := fun B σ H Z k r =>
  h B σ H { Z with nx := us Z } k (r.withNx fun G' M' σ' H' p k' => p B σ' H' Z k' r)
theorem ru_next (h : D.nx G M) : Ru K tNext G M D := fun B σ H Z k r => r.nx G M σ H h k
theorem ru_cont (h : D.ct G M) : Ru K tCont G M D := fun B σ H Z k r => r.ct G M σ H h k
theorem ru_break (h : D.bk G M) : Ru K tBreak G M D := fun B σ H Z k r => r.bk G M σ H h k
theorem ru_dropE (h : W K te G M fun _ M1 => D.nx G M1) : Ru K (tDrop te) G M D := fun B σ H Z k r => h B σ H k _ fun v H1 e M1 h1 k1 hv => r.nx G M1 σ H1 h1 k1
theorem ru_ret (h : W K te G M D.rt) : Ru K (tRet te) G M D := fun B σ H Z k r => h B σ H k _ fun v H1 e M1 h1 k1 hv => r.rt e M1 v H1 h1 (k1.rt hv)
theorem ru_if {c : TT} (h : WT K c G M fun b M1 => if b = true then Ru K ts G M1 D else Ru K us G M1 D) : Ru K (tIfS c ts us) G M D := fun B σ H Z k r =>
  h B σ H k _ fun b H1 M1 h1 k1 => by
    cases b with
    | true =>
      show ts Z σ H1
      exact (show Ru K ts G M1 D from h1) B σ H1 Z k1 r
    | false =>
      show us Z σ H1
      exact (show Ru K us G M1 D from h1) B σ H1 Z k1 r
theorem ru_never (h : False) : Ru K tNever G M D := h.elim
theorem ru_aug {i : Nat} {f : Int → Int → Int} {a : Int} (hx : G[i]? = some (some (.d (.int a)))) (h : W K te G M fun e M1 => ∃ b, e = .d (.int b) ∧ D.nx (G.set i (some (.d (.int (f a b))))) M1) : Ru K (tAug i te (ipI f)) G M D := fun B σ H Z k r => by
  obtain ⟨v, h1, h2⟩ := k.sl.2 i _ hx
  refine ⟨v, h1, h B σ H k _ fun w H1 e M1 hb k1 hw => ?_⟩
  obtain ⟨b, rfl, p⟩ := hb
  exact ⟨a, b, Da.int_inv h2, Da.int_inv hw, r.nx _ M1 _ H1 p (k1.set (.int _))⟩
theorem Ru.mono {D' : DE} (h : Ru K ts G M D) (m1 : ∀ G M, D.nx G M → D'.nx G M) (m2 : ∀ e M, D.rt e M → D'.rt e M) (m3 : ∀ G M, D.bk G M → D'.bk G M) (m4 : ∀ G M, D.ct G M → D'.ct G M) : Ru K ts G M D' := fun B σ H Z k r =>
  h B σ H Z k ⟨fun G M σ H p k => r.nx G M σ H (m1 G M p) k, fun e M v H p k => r.rt e M v H (m2 e M p) k, fun G M σ H p k => r.bk G M σ H (m3 G M p) k, fun G M σ H p k => r.ct G M σ H (m4 G M p) k⟩

/-! ### what is walked -/
structure DWalk (K : PySem.W.Frag) (B : Hp) (J : It) (es : List Ent) (Gd : Mh → Prop) : Prop where
  goes : ∀ (i : Nat) H M, i < es.length → Ex B (less H M) → MOk K M H → Gd M → J.go i H
  stops : ∀ H M, Ex B (less H M) → MOk K M H → Gd M → J.stop es.length H
  yields : ∀ (i : Nat) H M x H', i < es.length → Ex B (less H M) → MOk K M H → Gd M → J.yld i H x H' → ∃ e, es[i]? = some e ∧ RtOk K (less H M) M e x H'
def WI (K : PySem.W.Frag) (wi : TI) (G : Gm) (M : Mh) (R : List Ent → (Mh → Prop) → Mh → Prop) : Prop :=
  ∀ (B : Hp) (σ : L2.St) (H : Hp), Ok K B M G σ H → ∀ Q : It → Hp → Prop, (∀ J H' es Gd M', R es Gd M' → Ok K B M' G σ H' → DWalk K (less H' M') J es Gd → Q J H') → wi σ H Q
abbrev Tru : Mh → Prop := fun _ => True
theorem wi_listD {tl : TE} {R : List Ent → (Mh → Prop) → Mh → Prop} (h : W K tl G M fun e M1 => ∃ ds : List PyData, e = .d (.list ds) ∧ R (ds.map Ent.d) Tru M1) : WI K (iList K tl) G M R := fun B σ H k Q q =>
  h B σ H k _ fun v H1 e M1 h1 k1 hv => by
    obtain ⟨ds, rfl, r⟩ := h1
    cases hv with
    | lst g1 g2 =>
      rename_i a xs
      refine ⟨a, rfl, ⟨xs, SqL.of (less_ex _ _ g1)⟩, q _ H1 _ _ M1 r k1 ⟨fun i H M hi x _ _ => ?_, fun H M x _ _ => ?_, fun i H M z H' hi x m _ yl => ?_⟩⟩
      · rw [List.length_map, ← g2.length] at hi
        exact ⟨xs, xs[i], SqL.of (less_ex _ _ (x _ _ g1)), by simp [hi]⟩
      · exact ⟨xs, SqL.of (less_ex _ _ (x _ _ g1)), by rw [List.length_map, g2.length]; exact Nat.le_refl _⟩
      · obtain ⟨rfl, yl⟩ := yl
        have hz := yl xs (SqL.of (less_ex _ _ (x _ _ g1)))
        obtain ⟨d, e1, e2⟩ := g2.getV hz
        exact ⟨.d d, by rw [List.getElem?_map, e1]; rfl, .same m (Da.mono x d z e2)⟩
theorem wi_listM {tl : TE} {R : List Ent → (Mh → Prop) → Mh → Prop} (h : W K tl G M fun e M1 => ∃ p es, e = .v (.ref p) ∧ M1 p = some (.lst es) ∧ R es (fun M => M p = some (.lst es)) M1) : WI K (iList K tl) G M R := fun B σ H k Q q =>
  h B σ H k _ fun v H1 e M1 h1 k1 hv => by
    obtain ⟨p, es, rfl, hp, r⟩ := h1
    cases hv
    obtain ⟨o, e1, xs, e2, hx⟩ := k1.m p _ hp
    subst e2
    refine ⟨p, rfl, ⟨xs, SqL.of e1⟩, q _ H1 _ _ M1 r k1 ⟨fun i H M hi x m g => ?_, fun H M x m g => ?_, fun i H M z H' hi x m g yl => ?_⟩⟩
    · obtain ⟨o, e3, ys, e4, hy⟩ := m p _ g
      subst e4
      rw [← hy.length] at hi
      exact ⟨ys, ys[i], SqL.of e3, by simp [hi]⟩
    · obtain ⟨o, e3, ys, e4, hy⟩ := m p _ g
      subst e4
      exact ⟨ys, SqL.of e3, by rw [hy.length]; exact Nat.le_refl _⟩
    · obtain ⟨rfl, yl⟩ := yl
      obtain ⟨o, e3, ys, e4, hy⟩ := m p _ g
      subst e4
      have hz := yl ys (SqL.of e3)
      obtain ⟨e, a, b⟩ := hy.getV hz
      exact ⟨e, a, .same m b⟩
theorem wi_tup {tl : TE} {R : List Ent → (Mh → Prop) → Mh → Prop} (h : W K tl G M fun e M1 => ∃ ds : List PyData, e = .d (.tuple ds) ∧ R (ds.map Ent.d) Tru M1) : WI K (iTup K tl) G M R := fun B σ H k Q q =>
  h B σ H k _ fun v H1 e M1 h1 k1 hv => by
    obtain ⟨ds, rfl, r⟩ := h1
    cases hv with
    | tup g1 g2 =>
      rename_i a xs
      refine ⟨a, rfl, ⟨xs, SqT.of (less_ex _ _ g1)⟩, q _ H1 _ _ M1 r k1 ⟨fun i H M hi x _ _ => ?_, fun H M x _ _ => ?_, fun i H M z H' hi x m _ yl => ?_⟩⟩
      · rw [List.length_map, ← g2.length] at hi
        exact ⟨xs, xs[i], SqT.of (less_ex _ _ (x _ _ g1)), by simp [hi]⟩
      · exact ⟨xs, SqT.of (less_ex _ _ (x _ _ g1)), by rw [List.length_map, g2.length]; exact Nat.le_refl _⟩
      · obtain ⟨rfl, yl⟩ := yl
        have hz := yl xs (SqT.of (less_ex _ _ (x _ _ g1)))
        obtain ⟨d, e1, e2⟩ := g2.getV hz
        exact ⟨.d d, by rw [List.getElem?_map, e1]; rfl, .same m (Da.mono x d z e2)⟩
def rngE (lo : Int) (n : Nat) : List Ent := (List.range n).map fun (i : Nat) => Ent.d (.int (lo + (i : Int)))
theorem rngE_len {lo : Int} {n : Nat} : (rngE lo n).length = n := by simp [rngE]
theorem rngE_get {lo : Int} {n i : Nat} (h : i < n) : (rngE lo n)[i]? = some (.d (.int (lo + (i : Int)))) := by simp [rngE, h]
theorem walk_rng {lo : Int} {n : Nat} : DWalk K B (Itr lo n) (rngE lo n) Tru :=
  ⟨fun i H M hi _ _ _ => by rw [rngE_len] at hi; exact hi, fun H M _ _ _ => by rw [rngE_len]; exact Nat.le_refl n, fun i H M x H' hi _ m _ y => by
    obtain ⟨rfl, rfl⟩ := y
    rw [rngE_len] at hi
    exact ⟨_, rngE_get hi, .same m (.int _)⟩⟩
theorem wi_rng1 {tl : TA} {R : List Ent → (Mh → Prop) → Mh → Prop} (h : WA K tl G M fun es M1 => ∃ j : Int, es = [.d (.int j)] ∧ -(2 ^ 62) ≤ j ∧ j < 2 ^ 62 ∧ R (rngE 0 j.toNat) Tru M1) : WI K (iRng1 tl) G M R := fun B σ H k Q q =>
  h B σ H k _ fun vs H1 es M1 h1 k1 hv => by
    obtain ⟨j, rfl, a, b, r⟩ := h1
    obtain ⟨v, rfl, hv1⟩ := ents1 hv
    exact ⟨j, by rw [Da.int_inv hv1], a, b, q _ H1 _ _ M1 r k1 walk_rng⟩
theorem wi_rng2 {tl : TA} {R : List Ent → (Mh → Prop) → Mh → Prop} (h : WA K tl G M fun es M1 => ∃ i j : Int, es = [.d (.int i), .d (.int j)] ∧ (-(2 ^ 62) ≤ i ∧ i < 2 ^ 62 ∧ -(2 ^ 62) ≤ j ∧ j < 2 ^ 62) ∧ R (rngE i (j - i).toNat) Tru M1) : WI K (iRng2 tl) G M R := fun B σ H k Q q =>
  h B σ H k _ fun vs H1 es M1 h1 k1 hv => by
    obtain ⟨i, j, rfl, a, r⟩ := h1
    obtain ⟨v, w, rfl, hv1, hw⟩ := ents2 hv
    exact ⟨i, j, by rw [Da.int_inv hv1, Da.int_inv hw], a, q _ H1 _ _ M1 r k1 walk_rng⟩
/-! ### a for -/
theorem ru_for {wi : TI} {g : TG} (h : WI K wi G M fun es Gd M1 => ∃ I : Nat → Gm → Mh → Prop, I 0 G M1 ∧ (∀ i G' M', I i G' M' → Gd M') ∧
    (∀ (i : Nat) e G' M', es[i]? = some e → I i G' M' → GW K g e G' M' fun G2 M2 => Ru K ts G2 M2 { D with nx := I (i + 1), ct := I (i + 1), bk := D.nx }) ∧ ∀ G' M', I es.length G' M' → D.nx G' M') : Ru K (tFor wi g ts) G M D := fun B σ H Z k r =>
  h B σ H k _ fun J H1 es Gd M1 h1 k1 wk => by
    obtain ⟨I, h0, hg, hs, hd⟩ := h1
    refine ⟨fun i m σ' H' => m = es.length - i ∧ i ≤ es.length ∧ ∃ G' M', I i G' M' ∧ Ok K (less H1 M1) M' G' σ' H', ⟨es.length, rfl, Nat.zero_le _, G, M1, h0, k1.rebase⟩, ?_⟩
    rintro i m σ' H' ⟨rfl, hi, G', M', hI, k'⟩
    by_cases hlt : i < es.length
    · refine .inr ⟨wk.goes i H' M' hlt k'.ex k'.m (hg _ _ _ hI), fun σ2 H2 => ∃ G2 M2, I (i + 1) G2 M2 ∧ Ok K (less H1 M1) M2 G2 σ2 H2, fun σ2 H2 p => ⟨es.length - (i + 1), by omega, rfl, hlt, p⟩, fun x H2 yl => ?_⟩
      obtain ⟨e, he, kr⟩ := wk.yields i H' M' x H2 hlt k'.ex k'.m (hg _ _ _ hI) yl
      have k2 : Ok K (less H1 M1) M' G' σ' H2 := kr.up (B' := B) k'
      refine hs i e G' M' he hI (less H1 M1) σ' H2 x k2 kr.v _ fun G3 M3 σ3 H3 h3 k3 => ?_
      refine h3 (less H1 M1) σ3 H3 _ k3 ⟨fun G4 M4 σ4 H4 p k4 => ⟨G4, M4, p, k4⟩, fun e M4 v H4 p k4 => r.rt e M4 v H4 p ⟨k1.ex.trans k4.ex, k4.m, k4.v⟩, fun G4 M4 σ4 H4 p k4 => r.nx G4 M4 σ4 H4 p (k4.base k1.ex), fun G4 M4 σ4 H4 p k4 => ⟨G4, M4, p, k4⟩⟩
    · have e : i = es.length := by omega
      subst e
      exact .inl ⟨wk.stops H' M' k'.ex k'.m (hg _ _ _ hI), r.nx G' M' σ' H' (hd G' M' hI) (k'.base k1.ex)⟩
/-! ### a comprehension -/
/-- the target writes the block's own slots alone -/
def WpG (g : TG) (vs : List Nat) : Prop := ∀ (x : V) (σ : L2.St) (H : Hp) (Q : L2.St → Hp → Prop), g x σ H Q → g x σ H fun σ2 H2 => wipe σ2 vs = wipe σ vs ∧ Q σ2 H2
theorem wpg_name {i : Nat} {vs : List Nat} (h : i ∈ vs) : WpG (gName i) vs := fun x σ H Q q => ⟨wipe_set h, q⟩
def WpGs (g : TGs) (vs : List Nat) : Prop := ∀ (xs : List V) (σ : L2.St) (H : Hp) (Q : L2.St → Hp → Prop), g xs σ H Q → g xs σ H fun σ2 H2 => wipe σ2 vs = wipe σ vs ∧ Q σ2 H2
theorem wpgs_nil {vs : List Nat} : WpGs gNil vs := fun xs σ H Q ⟨a, q⟩ => ⟨a, rfl, q⟩
theorem wpgs_cons {i : Nat} {g : TGs} {vs : List Nat} (h : i ∈ vs) (hg : WpGs g vs) : WpGs (gCons (gName i) g) vs := fun xs σ H Q ⟨v, r, e, q⟩ => ⟨v, r, e, by
  have q2 := hg r _ H Q q
  show g r (σ.set i (some v)) H _
  rw [← wipe_set (σ := σ) (x := some v) h]
  exact q2⟩
theorem wpg_tup {n : Nat} {g : TGs} {vs : List Nat} (h : WpGs g vs) : WpG (gTup K n g) vs := fun x σ H Q ⟨a, xs, e, s, l, q⟩ => ⟨a, xs, e, s, l, h xs σ H Q q⟩
theorem w_lc {wi : TI} {g : TG} {tt : TT} {vs : List Nat} (hw : WpG g vs) (h : WI K wi G M fun es Gd M1 => ∃ I : Nat → List Ent → Mh → Prop, I 0 [] M1 ∧
    (∀ p acc i M', M1 p = none → I i acc M' → M' p = none → Gd (mupd M' p (.lst acc))) ∧
    (∀ (i : Nat) e acc M' p, es[i]? = some e → I i acc M' → M1 p = none → M' p = none → GW K g e (wipeG G vs) (mupd M' p (.lst acc)) fun G2 M2 =>
      WT K tt G2 M2 fun b M3 => if b = true then W K te G2 M3 fun y M4 => ∃ M5, M5 p = none ∧ M4 = mupd M5 p (.lst acc) ∧ acc.length < sizeLine ∧ I (i + 1) (acc ++ [y]) M5
        else ∃ M5, M5 p = none ∧ M3 = mupd M5 p (.lst acc) ∧ I (i + 1) acc M5) ∧
    ∀ acc M', I es.length acc M' → IsDs acc fun ds => R (.d (.list ds)) M') : W K (tLc wi g tt te vs) G M R := fun B σ H k Q q =>
  h B σ H k _ fun J H1 es Gd M1 h1 k1 wk => fun P hP => by
    obtain ⟨I, h0, hg, hs, hd⟩ := h1
    have hM1 : M1 P = none := k1.m.free hP
    refine ⟨fun i m H' => m = es.length - i ∧ i ≤ es.length ∧ ∃ acc M', I i acc M' ∧ M' P = none ∧ Ok K (less H1 M1) (mupd M' P (.lst acc)) (wipeG G vs) (wipe σ vs) H', ⟨es.length, rfl, Nat.zero_le _, [], M1, h0, hM1, ?_⟩, ?_⟩
    · have k2 := k1.rebase.mnew (mo := .lst []) hP ⟨[], rfl, .nil⟩
      exact ⟨k2.ex, k2.m, k2.sl.wipe vs⟩
    · rintro i m H' ⟨rfl, hi, acc, M', hI, hMP, k'⟩
      have hgd := hg P acc i M' hM1 hI hMP
      by_cases hlt : i < es.length
      · refine .inr ⟨wk.goes i H' _ hlt k'.ex k'.m hgd, fun H2 => ∃ acc M2, I (i + 1) acc M2 ∧ M2 P = none ∧ Ok K (less H1 M1) (mupd M2 P (.lst acc)) (wipeG G vs) (wipe σ vs) H2, fun H2 p => ⟨es.length - (i + 1), by omega, rfl, hlt, p⟩, fun x H2 yl => ?_⟩
        obtain ⟨e, he, kr⟩ := wk.yields i H' _ x H2 hlt k'.ex k'.m hgd yl
        have k2 : Ok K (less H1 M1) (mupd M' P (.lst acc)) (wipeG G vs) (wipe σ vs) H2 := kr.up (B' := B) k'
        have k2r := k2.rebase
        have tr := hw x (wipe σ vs) H2 _ (hs i e acc M' P he hI hM1 hMP (less H2 (mupd M' P (.lst acc))) (wipe σ vs) H2 x k2r kr.v (fun σ3 H3 => tt σ3 H3 fun b H4 => if b = true then te σ3 H4 fun y H5 => ∃ acc, H5 P = some (.lst acc) ∧ acc.length < sizeLine ∧ (∃ acc' M2, I (i + 1) acc' M2 ∧ M2 P = none ∧ Ok K (less H1 M1) (mupd M2 P (.lst acc')) (wipeG G vs) (wipe σ vs) (upd H5 P (.lst (acc ++ [y])))) else ∃ acc M2, I (i + 1) acc M2 ∧ M2 P = none ∧ Ok K (less H1 M1) (mupd M2 P (.lst acc)) (wipeG G vs) (wipe σ vs) H4) fun G3 M3 σ3 H3 h3 k3 => ?_)
        · rw [wipe_wipe] at tr
          exact tr
        · refine h3 (less H2 (mupd M' P (.lst acc))) σ3 H3 k3 _ fun b H4 M4 h4 k4 => ?_
          cases b with
          | true =>
            show te σ3 H4 _
            refine (show W K te G3 M4 _ from h4) (less H2 (mupd M' P (.lst acc))) σ3 H4 k4 _ fun y H5 ey M5 h5 k5 hy => ?_
            obtain ⟨M6, hM6, rfl, hl, hI'⟩ := h5
            have hpP : mupd M6 P (.lst acc) P = some (.lst acc) := mupd_same
            obtain ⟨o, e1, xs, e2, hx⟩ := k5.m P _ hpP
            subst e2
            refine ⟨xs, e1, by rw [hx.length]; exact hl, acc ++ [ey], M6, hI', hM6, ?_⟩
            have k6 : Ok K (less H1 M1) (mupd M6 P (.lst acc)) (wipeG G vs) (wipe σ vs) H5 := ⟨k2.ex.trans k5.ex, k5.m, k2.sl.mono k5.ex⟩
            have k7 := k6.write (o := .lst (xs ++ [y])) (mo' := .lst (acc ++ [ey])) hpP ⟨_, rfl, hx.append (.cons hy .nil)⟩
            rw [mupd_mupd] at k7
            exact k7
          | false =>
            obtain ⟨M6, hM6, rfl, hI'⟩ := (show ∃ M5 : Mh, M5 P = none ∧ M4 = mupd M5 P (.lst acc) ∧ I (i + 1) acc M5 from h4)
            exact ⟨acc, M6, hI', hM6, ⟨k2.ex.trans k4.ex, k4.m, k2.sl.mono k4.ex⟩⟩
      · have e : i = es.length := by omega
        subst e
        refine .inl ⟨wk.stops H' _ k'.ex k'.m hgd, ?_⟩
        obtain ⟨ds, rfl, r⟩ := hd acc M' hI
        have kf := (k'.freeze (p := P) mupd_same)
        rw [mdel_mupd hMP] at kf
        refine q (.ref P) H' _ M' r ⟨k1.ex.trans kf.1.ex, kf.1.m, k1.sl.mono kf.1.ex⟩ kf.2
end
end DL

namespace DL
open PySem PySem.Spec PyProof.Rows L2
open Evl (Ex ex_rd ex_l ex_t)

def startG (N : List Str) (es : List Ent) : Gm := es.map some ++ List.replicate (N.length - es.length) none
section
variable {P : Program} {w : World} {K : PySem.W.Frag} {mg : Str → Option Value} {base : Heap}
theorem slok_start {F : Hp} {N : List Str} {vs : List V} {es : List Ent} (h : Ents K F vs es) : SlOk K F (L2.start N vs) (startG N es) := by
  refine ⟨by simp [L2.start, startG, h.length], fun i e q => ?_⟩
  unfold startG at q
  unfold L2.start
  by_cases hi : i < es.length
  · rw [List.getElem?_append_left (by simpa using hi)] at q
    rw [List.getElem?_append_left (by simp [h.length, hi])]
    rw [List.getElem?_map] at q ⊢
    cases he : es[i]? with
    | none => rw [he] at q; cases q
    | some e' =>
      rw [he] at q
      obtain ⟨v, a, b⟩ := h.get he
      have e2 : e' = e := Option.some.inj (Option.some.inj q)
      subst e2
      exact ⟨v, by rw [a]; rfl, b⟩
  · rw [List.getElem?_append_right (by simpa using hi), List.getElem?_replicate] at q
    split at q <;> cases q
abbrev DRet (R : Ent → Mh → Prop) : DE := ⟨fun _ M => R (.d .none) M, R, fun _ _ => False, fun _ _ => False⟩
/-- a def of the text as it stands behind the top, with defaults or without; c: its code -/
structure FunD (K : PySem.W.Frag) (x qual : Str) (st : Stmt) (f : Addr) (fd : FuncData) : Prop where
  ex : ∃ (oc : Value) (od : Option Addr) (dV kV doc pm : Value) (an : Option Addr) (cdv ct : Value) (osl : Array (Option Value)),
    fd = PySem.W.fnOf x qual (defArgs st) (defBody st) (defScope st) dV kV doc pm an cdv ct ∧ K.lookup f = some ⟨oc, od, .func fd, osl⟩ ∧ PySem.W.codeIn K cdv qual = true
structure FunC (K : PySem.W.Frag) (x qual : Str) (st : Stmt) (f : Addr) (fd : FuncData) (c : Addr) : Prop where
  ex : ∃ (oc : Value) (od : Option Addr) (dV kV doc pm : Value) (an : Option Addr) (ct : Value) (osl : Array (Option Value)),
    fd = PySem.W.fnOf x qual (defArgs st) (defBody st) (defScope st) dV kV doc pm an (.ref c) ct ∧ K.lookup f = some ⟨oc, od, .func fd, osl⟩ ∧ PySem.W.codeIn K (.ref c) qual = true
theorem FunD.ok {x qual : Str} {st : Stmt} {f : Addr} {fd : FuncData} {N ps : List Str} {k : Nat} {sp : Sp} (F : FunD K x qual st f fd) (S : FnScope N ps (defScope st)) (len : ∀ vs H Q E, sp vs H Q E → vs.length = ps.length)
    (hbody : ∀ (cdv : Value) (A : Around) (outer : List Env) (s : Shared) (H : Hp) (vs : List V) (Q : VK) (E : XK), Room k (A.deeper (envOfC qual (defScope st) s.heap.objs.size f cdv)) → sp vs H Q E →
      ∃ t, PSs (cxOf CX0 P w K mg base N qual (defScope st) f cdv A outer s H E).nox (defBody st) t ∧ t { nx := fun _ H' => Q .non H', rt := Q } (L2.start N vs) H) : FnOk P w K mg base CX0 (k + 1) f fd ps sp := by
  obtain ⟨oc, od, dV, kV, doc, pm, an, cdv, ct, osl, rfl, lk, hcd⟩ := F.ex
  refine fn_of lk hcd S len fun A outer s H vs Q E hr hsp => ?_
  obtain ⟨t, h, q⟩ := hbody cdv A outer s H vs Q E hr hsp
  exact ⟨t, h.nox, q⟩
theorem FunC.ok {x qual : Str} {st : Stmt} {f : Addr} {fd : FuncData} {N ps : List Str} {k : Nat} {sp : Sp} {c : Addr} (F : FunC K x qual st f fd c) (S : FnScope N ps (defScope st)) (len : ∀ vs H Q E, sp vs H Q E → vs.length = ps.length)
    (hbody : ∀ (cdv : Value) (A : Around) (outer : List Env) (s : Shared) (H : Hp) (vs : List V) (Q : VK) (E : XK), cdv = .ref c → Room k (A.deeper (envOfC qual (defScope st) s.heap.objs.size f cdv)) → sp vs H Q E →
      ∃ t, PSs (cxOf CX0 P w K mg base N qual (defScope st) f cdv A outer s H E).nox (defBody st) t ∧ t { nx := fun _ H' => Q .non H', rt := Q } (L2.start N vs) H) : FnOk P w K mg base CX0 (k + 1) f fd ps sp := by
  obtain ⟨oc, od, dV, kV, doc, pm, an, ct, osl, rfl, lk, hcd⟩ := F.ex
  refine fn_of lk hcd S len fun A outer s H vs Q E hr hsp => ?_
  obtain ⟨t, h, q⟩ := hbody _ A outer s H vs Q E rfl hr hsp
  exact ⟨t, h.nox, q⟩
/-- a def, by what its body does to data -/
theorem okD {x qual : Str} {st : Stmt} {f : Addr} {fd : FuncData} {N ps : List Str} {k : Nat} {spec : Spec} (F : FunD K x qual st f fd) (S : FnScope N ps (defScope st)) (len : ∀ M es R, spec M es R → es.length = ps.length)
    (hbody : ∀ (cdv : Value) (A : Around) (outer : List Env) (s : Shared) (H : Hp) (E : XK), Room k (A.deeper (envOfC qual (defScope st) s.heap.objs.size f cdv)) →
      ∃ t, PSs (cxOf CX0 P w K mg base N qual (defScope st) f cdv A outer s H E).nox (defBody st) t ∧ ∀ M es R, spec M es R → Ru K t (startG N es) M (DRet R)) : FnOk P w K mg base CX0 (k + 1) f fd ps (PSp K spec) := by
  refine F.ok S (fun vs H Q E h => ?_) (fun cdv A outer s H vs Q E hr h => ?_)
  · obtain ⟨M, es, m, he, R, hs, _⟩ := h
    rw [he.length]
    exact len M es R hs
  · obtain ⟨t, ht, hru⟩ := hbody cdv A outer s H E hr
    obtain ⟨M, es, m, he, R, hs, q⟩ := h
    refine ⟨t, ht, hru M es R hs (less H M) (L2.start N vs) H _ ⟨Ex.refl _, m, slok_start he⟩ ⟨fun G M' σ H' p k => ?_, fun e M' v H' p k => q v H' e M' p k, fun _ _ _ _ p _ => p.elim, fun _ _ _ _ p _ => p.elim⟩⟩
    exact q _ _ _ _ p ⟨k.ex, k.m, .non⟩
theorem okC {x qual : Str} {st : Stmt} {f : Addr} {fd : FuncData} {N ps : List Str} {k : Nat} {spec : Spec} {c : Addr} (F : FunC K x qual st f fd c) (S : FnScope N ps (defScope st)) (len : ∀ M es R, spec M es R → es.length = ps.length)
    (hbody : ∀ (cdv : Value) (A : Around) (outer : List Env) (s : Shared) (H : Hp) (E : XK), cdv = .ref c → Room k (A.deeper (envOfC qual (defScope st) s.heap.objs.size f cdv)) →
      ∃ t, PSs (cxOf CX0 P w K mg base N qual (defScope st) f cdv A outer s H E).nox (defBody st) t ∧ ∀ M es R, spec M es R → Ru K t (startG N es) M (DRet R)) : FnOk P w K mg base CX0 (k + 1) f fd ps (PSp K spec) := by
  refine F.ok S (fun vs H Q E h => ?_) (fun cdv A outer s H vs Q E hc hr h => ?_)
  · obtain ⟨M, es, m, he, R, hs, _⟩ := h
    rw [he.length]
    exact len M es R hs
  · obtain ⟨t, ht, hru⟩ := hbody cdv A outer s H E hc hr
    obtain ⟨M, es, m, he, R, hs, q⟩ := h
    refine ⟨t, ht, hru M es R hs (less H M) (L2.start N vs) H _ ⟨Ex.refl _, m, slok_start he⟩ ⟨fun G M' σ H' p k => ?_, fun e M' v H' p k => q v H' e M' p k, fun _ _ _ _ p _ => p.elim, fun _ _ _ _ p _ => p.elim⟩⟩
    exact q _ _ _ _ p ⟨k.ex, k.m, .non⟩
/-- a def that may be called by its name -/
structure Cd (P : Program) (w : World) (K : PySem.W.Frag) (mg : Str → Option Value) (base : Heap) (k : Nat) (x : Str) (spec : Spec) (dvs : List V) : Prop where
  ex : ∃ (f : Addr) (fd : FuncData) (ps : List Str) (ds : List Value), FnOk P w K mg base CX0 k f fd ps (PSp K spec) ∧ mg x = some (.ref f) ∧ PySem.W.keepIn K (.ref f) = true ∧ Binds K fd ps ds ∧ Vals dvs ds
end
section
variable {X : Cx} {K : PySem.W.Frag} {j k : Nat} {x : Str} {spec : Spec} {dvs : List V} {p pos : Pos} {e : Expr} {es : List Expr} {t : TA}
theorem e_call (c : Cd X.prog X.w X.K X.mg X.base k x spec dvs) (hr : Room j X.A) (hk : k ≤ j) (hg : Gl X x) (ha : PA X (e :: es) t)
    (hdb : (x == ("__debug__" : Str)) = false := by decide) (he : starEach (e :: es) X.env = (false, eval e X.env) :: starEach es X.env := by rfl) (hpl : (backTo pos (starEach es X.env)).any (·.1) = false := by rfl) :
    PE X (.Call (.Name x p) (e :: es) [] pos) (tCall (PSp X.K spec) dvs E0 t) := by
  obtain ⟨f, fd, ps, ds, F, hm, kp, b, d⟩ := c.ex
  exact pe_call F (hr.mono hk) hg hm kp b d pass0 ha hdb he hpl
end
/-- isinstance(x, int), isinstance(x, bool), of data -/
def isInt : PyData → Bool
  | .int _ => true
  | .bool _ => true
  | _ => false
def isBool : PyData → Bool
  | .bool _ => true
  | _ => false
section
variable {K : PySem.W.Frag} {M : Mh} {R : Ent → Mh → Prop} {G : Gm}
theorem w_ty {n : String} (r : R (.v (.ty n)) M) : W K (tC (.ty n)) G M R := fun B σ H k Q q => q _ H _ M r k rfl
theorem rc_isi {i : Int} {n : String} {b : Bool} (h : kitB "int" n = some b) (r : R (.d (.bool b)) M) : RC K (rIsi K) [.d (.int i), .v (.ty n)] M R := fun vs H m hv Q q => by
  obtain ⟨v, w, rfl, h1, h2⟩ := ents2 hv
  cases h2
  rw [Da.int_inv h1]
  exact ⟨.int i, .ty n, .type "int", .type n, b, rfl, .ty n, .base (.int i), kit_ty h, q _ H _ M r (.same m (.bl _))⟩
theorem rc_isiT {ds : List PyData} {n : String} {b : Bool} (h : kitB "tuple" n = some b) (r : R (.d (.bool b)) M) : RC K (rIsi K) [.d (.tuple ds), .v (.ty n)] M R := fun vs H m hv Q q => by
  obtain ⟨v, w, rfl, h1, h2⟩ := ents2 hv
  cases h2
  cases h1 with
  | tup g1 g2 => exact ⟨_, .ty n, .type "tuple", .type n, b, rfl, .ty n, .base (.tup (less_ex _ _ g1)), kit_ty h, q _ H _ M r (.same m (.bl _))⟩
end
end DL

namespace DL
open PySem PySem.Spec PyProof.Rows L2
open Evl (Ex ex_rd ex_l ex_t)

/-! ### enumerate over a tuple -/
theorem meets_enum1 {v : Value} {o : Obj} {H : Heap → Prop} (B : Begins v o H) (hv : ∃ a, v = .ref a) :
    Meets (Builtin.«enumerate.__new__» ⟨[.type "enumerate", v], []⟩) (fun _ R s => H s.heap ∧
      R (.ok (.ret (.ref (s.heap.push o).objs.size))) { s with heap := (s.heap.push o).push { cls := .type "enumerate", data := .fields #[.none, .bool false, .ref s.heap.objs.size, rawInt 0, .none, .none] } }) :=
  .of_wp fun prog w A R s h => by
    obtain ⟨a, rfl⟩ := hv
    obtain ⟨hp, g, d, tk, os⟩ := s; obtain ⟨h1, h⟩ := h
    have hsub := sub_enumerate
    have q1 : ∀ {A' : Around} {E : Value → Shared → Prop} {Q : Value → Shared → Prop}, Q (.ref hp.objs.size) ⟨hp.push o, g, d, tk, os⟩ → wpAny (model prog w) A' (pyIter (.ref a)) Q E ⟨hp, g, d, tk, os⟩ :=
      fun q => B.iter prog w _ _ ⟨hp, g, d, tk, os⟩ _ h1 q
    wp_walk using q1
    refine wpAny_stack_any fun st => wpAny_pure ?_
    split
    · rename_i c _ _ _ _ _
      cases (c == Value.type "enumerate")
      · wp_walk using q1
        exact ⟨_, rfl, h⟩
      · wp_walk using q1
        exact ⟨_, rfl, h⟩
    · wp_walk using q1
      exact ⟨_, rfl, h⟩
section
variable {prog : Program} {w : World} {A : Around} {E : Value → Shared → Prop} {s : Shared}
theorem enum_begins1 {v : Value} {o : Obj} {H : Heap → Prop} {Q : Value → Shared → Prop} (B : Begins v o H) (hv : ∃ a, v = .ref a) (h1 : H s.heap)
    (h : ∀ h', IsEnum h' (s.heap.objs.size + 1) s.heap.objs.size 0 .none → h'.get? s.heap.objs.size = some o → h'.objs.size = s.heap.objs.size + 2 →
      (∀ b o, s.heap.get? b = some o → h'.get? b = some o) → Q (.ref (s.heap.objs.size + 1)) { s with heap := h' }) :
    wpAny (model prog w) A (call (.type "enumerate") [v]) Q E s := by
  refine callType_new F.called_enumerate (by decide) (F.typeCall_enumerate_1 _) (F.newCall_enumerate_1 _) (fun obj => F.args_object_init_2 obj _) F.entry_enumerate_new
    (meets_enum1 B hv) ⟨h1, ?_⟩
  have hz : (s.heap.push o).objs.size = s.heap.objs.size + 1 := Heap.size_push ..
  show _ ∧ _
  rw [hz]
  have he : IsEnum ((s.heap.push o).push { cls := .type "enumerate", data := .fields #[.none, .bool false, .ref s.heap.objs.size, rawInt 0, .none, .none] }) (s.heap.objs.size + 1) s.heap.objs.size 0 .none := by
    have := Heap.get?_push_size (s.heap.push o) (o := { cls := .type "enumerate", data := .fields #[.none, .bool false, .ref s.heap.objs.size, rawInt 0, .none, .none] }) rfl
    rw [hz] at this; exact this
  refine ⟨⟨_, he, rfl⟩, h _ he (Heap.get?_push_of_some _ (Heap.get?_push_size _ B.free)) (by rw [Heap.size_push, hz]) fun b o x => Heap.get?_push_of_some _ (Heap.get?_push_of_some _ x)⟩
end
/-- the tuple at a, each item in a new pair -/
def Itet (K : PySem.W.Frag) (a : Addr) : It :=
  ⟨fun i H => ∃ (xs : List V) (x : V), SqT K H a xs ∧ xs[i]? = some x, fun i H v H' => ∃ T x, v = .ref T ∧ H T = none ∧ H' = upd H T (.tup [.int (i : Nat), x]) ∧ ∀ xs, SqT K H a xs → xs[i]? = some x, fun i H => ∃ xs : List V, SqT K H a xs ∧ xs.length = i⟩
theorem tup_ne_it {h : Heap} {a it : Addr} {items : Array Value} {i : Nat} (ht : IsTup h a items) (hi : h.IsTupleIter it a i) : a ≠ it := fun e => by
  subst e
  obtain ⟨o, h1, h2, _⟩ := ht
  obtain ⟨o', g1, g2, _⟩ := hi
  rw [h1] at g1
  cases g1
  rw [h2] at g2
  exact absurd g2 (by decide)
theorem turn_enumT {P : Program} {w : World} {K : PySem.W.Frag} {elts : List Expr} {kk : Nat} {tpos : Pos} (a e it : Addr) :
    Turn P w K (.Tuple elts kk tpos) (Itet K a) [e, it] e (fun i h => (∃ old, IsEnum h e it ((i : Nat) : Int) old) ∧ h.IsTupleIter it a i ∧ e ≠ it) where
  mem := by simp
  obj := fun i h st b hb => by
    obtain ⟨⟨old, he⟩, ⟨o, ho, hc, hd⟩, _⟩ := st
    have e' : b = e ∨ b = it := by simpa using hb
    rcases e' with z | z
    · rw [z]; exact ⟨_, he, fun v q => nomatch q⟩
    · rw [z]; exact ⟨o, ho, fun v q => by rw [hd] at q; cases q⟩
  keep := fun i h h' st k => let ⟨⟨old, he⟩, hi, hne⟩ := st; ⟨⟨old, k e (by simp) _ he⟩, hi.at fun o q => k it (by simp) o q, hne⟩
  item := by
    intro X hP hw hK hc i pins s σ H E I hf st hg
    subst hP hw hK
    obtain ⟨⟨old, he⟩, hit, hne⟩ := st
    obtain ⟨xs, x, hq, hx⟩ := hg
    obtain ⟨its, rv, p, hz⟩ := I.tuple hq
    obtain ⟨u, hu, ru⟩ := rv.get hx
    have hel : e < s.heap.objs.size := Heap.lt_size he
    have hil : it < s.heap.objs.size := by obtain ⟨_, q, _⟩ := hit; exact Heap.lt_size q
    have hai : a ≠ it := tup_ne_it p hit
    have hae : a ≠ e := fun z => by
      subst z
      obtain ⟨o, h1, h2, _⟩ := p
      have he' : s.heap.get? a = some _ := he
      rw [h1] at he'
      cases he'
      exact absurd (show Value.type "enumerate" = Value.type "tuple" from h2) (by decide)
    have hD := Draws.tuple (prog := X.prog) (w := X.w) (A := X.A.in1) (I.ok.hd hc) it a hai its.toArray
    have hi2 : i < its.toArray.size := by
      rw [List.size_toArray, ← rv.length]
      exact (List.getElem?_eq_some_iff.mp hx).1
    refine wpAny_pyNext_enum_itemD hD he ⟨hit, p⟩ hi2 hne (by simp [hne, Ne.symm hae]) fun x' h' tk hP ho hst hT hsz hk => ?_
    have ex' : x' = u := by
      have h3 : its.toArray[i]? = some x' := hP
      rw [List.getElem?_toArray, hu] at h3
      exact (Option.some.inj h3).symm
    subst ex'
    obtain ⟨hit', _⟩ := hst
    refine ⟨_, rfl, wpAny_letOwnedTupleGo_enum (s := { s with heap := h', toks := tk + 1 }) ho fun h'' he' sb => ?_⟩
    have hT2 : h''.get? s.heap.objs.size = some { cls := .type "tuple", data := .seq #[.int i tk, x'] } := (sb.2 _ (Nat.ne_of_gt hel)).trans hT
    have new : ObjOk X.prog X.w (upd H s.heap.objs.size (.tup [.int (i : Nat), x])) h'' s.heap.objs.size (.tup [.int (i : Nat), x]) :=
      ⟨by show 2 ≤ sizeLine; decide, [.int i tk, x'], .cons ⟨_, rfl⟩ (.cons ru .nil), ⟨_, hT2, rfl, _, rfl⟩⟩
    have I1 : Inv X pins σ (upd H s.heap.objs.size (.tup [.int (i : Nat), x])) { s with heap := h'', toks := tk + 1 } :=
      I.turnedNew (ch := [e, it]) (fun b ob hb q => (sb.2 b (fun z => hb (by simp [z]))).trans (hk b ob (fun z => hb (by simp [z])) (fun z => hb (by simp [z])) q)) hf (Nat.le_refl _) new
    refine ⟨.ref s.heap.objs.size, _, I1, rfl, ⟨_, x, rfl, I.hok.fresh (Nat.le_refl _), rfl, fun ys hy => by rw [I.tuple_inj hy hq]; exact hx⟩, ⟨⟨x', ?_⟩, hit'.at fun o q => (sb.2 it (Ne.symm hne)).trans q, hne⟩, fun b hb => ?_⟩
    · have e1 : ((i + 1 : Nat) : Int) = (i : Int) + 1 := by omega
      rw [e1]; exact he'
    · have hb' : b < s.heap.objs.size := by
        have e' : b = e ∨ b = it := by simpa using hb
        rcases e' with z | z
        · rw [z]; exact hel
        · rw [z]; exact hil
      rw [upd_ne (Nat.ne_of_lt hb')]
      exact (hf b hb).1
  done := by
    intro X hP hw hK hc i pins s σ H E I hf st hg
    subst hP hw hK
    obtain ⟨⟨old, he⟩, hit, hne⟩ := st
    obtain ⟨xs, hq, hx⟩ := hg
    obtain ⟨its, rv, p, hz⟩ := I.tuple hq
    obtain ⟨f0, f1, f2, f3, f4, f5⟩ := hf it (by simp)
    have hl := rv.length
    have hai : a ≠ it := tup_ne_it p hit
    have hD := Draws.tuple (prog := X.prog) (w := X.w) (A := X.A.in1) (I.ok.hd hc) it a hai its.toArray
    have hn : its.toArray.size = i := by rw [List.size_toArray, ← hl]; exact hx
    rw [hn] at hD
    exact wpAny_pyNext_enum_endD hD he ⟨hit, p⟩ fun h' eb => ⟨rfl, I.turned (t' := s.toks) (fun b o hb q => eb b o hb q) f0 f1 f3 f4 f5⟩
  self := fun A i s Q E st h => let ⟨⟨_, he⟩, _⟩ := st; wpAny_pyIter_enum he h
def iEnumT (K : PySem.W.Frag) (ta : TA) : TI := fun σ H R => ta σ H fun vs H1 => ∃ a xs, vs = [.ref a] ∧ SqT K H1 a xs ∧ R (Itet K a) H1
theorem pi_enumT {X : Cx} {e : Expr} {ta : TA} {p pos tpos : Pos} {elts : List Expr} {kk : Nat} (hg : Gl X "enumerate") (hm : X.mg "enumerate" = none) (ha : PA X [e] ta) (hs : starEach [e] X.env = [(false, eval e X.env)] := by rfl) :
    PI X (.Tuple elts kk tpos) (.Call (.Name "enumerate" p) [e] [] pos) (iEnumT X.K ta) := by
  refine ⟨fun pins s σ H R I h => ?_⟩
  refine Call_ (ld_blt I hg hm boot_enumerate (PyProof.Rows.callWith_type1 (thn (ha.run pos pins s σ H _ I h) fun us s1 ⟨vs, H1, I1, r1, q1⟩ => ?_) hs rfl))
  obtain ⟨a, xs, ex, hq, q⟩ := q1
  subst ex
  cases r1 with
  | cons r rr =>
    cases rr
    cases r
    obtain ⟨its, rv, p', hz⟩ := I1.tuple hq
    refine enum_begins1 (begins_tuple a its.toArray) ⟨a, rfl⟩ p' fun h' he hit hsz hk => wpAny_pyIter_enum he ?_
    have I2 : Inv X pins σ H1 { s1 with heap := h' } := I1.kept (t' := s1.toks) hk
    refine ⟨s1.heap.objs.size + 1, [s1.heap.objs.size + 1, s1.heap.objs.size], _, _, H1, rfl, I2, turn_enumT a (s1.heap.objs.size + 1) s1.heap.objs.size, ⟨⟨.none, he⟩, ⟨_, hit, rfl, rfl⟩, Nat.succ_ne_self _⟩, fun b hb => ?_, q⟩
    have e' : b = s1.heap.objs.size + 1 ∨ b = s1.heap.objs.size := by simpa using hb
    have hle : s1.heap.objs.size ≤ b := by
      rcases e' with z | z
      · rw [z]; exact Nat.le_add_right _ _
      · rw [z]; exact Nat.le_refl _
    exact I1.fpOk hle (I1.hok.fresh hle)
section
variable {K : PySem.W.Frag} {B H : Hp} {M : Mh} {G : Gm} {R : Ent → Mh → Prop}
/-- the pairs of an enumeration -/
def enumE (ds : List PyData) : List Ent := ds.mapIdx fun i d => Ent.d (.tuple [.int ((i : Nat) : Int), d])
theorem enumE_len {ds : List PyData} : (enumE ds).length = ds.length := by simp [enumE]
theorem enumE_get {ds : List PyData} {i : Nat} {d : PyData} (h : ds[i]? = some d) : (enumE ds)[i]? = some (.d (.tuple [.int (i : Int), d])) := by simp [enumE, h]
theorem wi_enumT {ta : TA} {R : List Ent → (Mh → Prop) → Mh → Prop} (h : WA K ta G M fun es M1 => ∃ ds : List PyData, es = [.d (.tuple ds)] ∧ R (enumE ds) Tru M1) : WI K (iEnumT K ta) G M R := fun B σ H k Q q =>
  h B σ H k _ fun vs H1 es M1 h1 k1 hv => by
    obtain ⟨ds, rfl, r⟩ := h1
    obtain ⟨v, rfl, hv1⟩ := ents1 hv
    cases hv1 with
    | tup g1 g2 =>
      rename_i a xs
      refine ⟨a, xs, rfl, SqT.of (less_ex _ _ g1), q _ H1 _ _ M1 r k1 ⟨fun i H M hi x _ _ => ?_, fun H M x _ _ => ?_, fun i H M z H' hi x m _ yl => ?_⟩⟩
      · rw [enumE_len, ← g2.length] at hi
        exact ⟨xs, xs[i], SqT.of (less_ex _ _ (x _ _ g1)), by simp [hi]⟩
      · exact ⟨xs, SqT.of (less_ex _ _ (x _ _ g1)), by rw [enumE_len, g2.length]⟩
      · obtain ⟨T, y, rfl, hT, rfl, yl⟩ := yl
        have hz := yl xs (SqT.of (less_ex _ _ (x _ _ g1)))
        obtain ⟨d, e1, e2⟩ := g2.getV hz
        refine ⟨_, enumE_get e1, rt_new m hT (da_newT m hT (.cons (.int _) (.cons (Da.mono x _ _ e2) .nil)))⟩
end
end DL

namespace DL
open PySem PySem.Spec PyProof.Rows L2
open Evl (Ex ex_rd ex_l ex_t)

/-! ### sum(list of lists, start=[]) -/
theorem args_sum_start (a v : Value) : argsOk "sum" ⟨[a], [(Str.ofString "start", v)]⟩ := by unfold argsOk; kernel_rfl
abbrev lobj (vs : List Value) (n : Nat) : Obj := { cls := .type "list", data := .seq vs.toArray n }
section
variable {prog : Program} {w : World} {A : Around} {s0 : Shared}
theorem sum_loopL {a it S : Addr} {its : List Value} {xss : List (List Value)} {R : Result → Shared → Prop} (hh : A.in1.handled = none) (hit : s0.heap.objs.size ≤ it) (hS : s0.heap.objs.size ≤ S) (hne : it ≠ S)
    (ha : s0.heap.IsList a its.toArray) (hln : its.length = xss.length) (hl : ∀ (i : Nat) v xs, its[i]? = some v → xss[i]? = some xs → ∃ l n, v = .ref l ∧ s0.heap.get? l = some (lobj xs n)) :
    ∀ (k i : Nat) (h : Heap) (tk : Nat) (T : Addr) (acc : List Value) (n c : Nat), xss.length - i = k → i ≤ xss.length → (∀ b o, s0.heap.get? b = some o → h.get? b = some o) → h.IsListIter it a i →
      h.get? S = some { cls := .type "list", data := .seq #[.ref T] c } → h.get? T = some (lobj acc n) → T ≠ it → T ≠ S → acc.length + (xss.drop i).flatten.length ≤ sizeLine →
      (∀ h' tk' T' n', (∀ b o, s0.heap.get? b = some o → h'.get? b = some o) → h'.get? T' = some (lobj (acc ++ (xss.drop i).flatten) n') → (i = xss.length → T' = T) → (i < xss.length → s0.heap.objs.size ≤ T') →
        R (.ok (.ret (.ref T'))) { s0 with heap := h', toks := tk' }) →
      codeAny (model prog w) A (.builtin "sum.loop" ⟨[.ref it, .ref S, rawInt 2, rawInt 0], []⟩) R { s0 with heap := h, toks := tk } := by
  intro k
  induction k with
  | zero =>
    intro i h tk T acc n c hk hi keep hIt hSo hTo hTi hTS hz hR
    have hin : i = xss.length := by omega
    subst hin
    refine codeAny_builtin F.entry_sum_loop ?_
    rw [Around.under_plainId F.plain_sum_loop _]
    show wpAny _ A.in1 (seqItems? (.ref S) >>= _) _ _ _
    refine wpAny_bind (wpAny_seqItems hSo rfl ?_)
    show wpAny _ A.in1 (tryCatch (pyNext (.ref it)) _ >>= _) _ _ _
    have ha' : h.IsList a its.toArray := by
      obtain ⟨o, e1, e2, e3⟩ := ha
      exact ⟨o, keep a o e1, e2, e3⟩
    refine wpAny_bind (wpAny_tryCatch (wpAny_pyNext_list_end hh hIt ha' (by rw [List.getElem?_toArray, List.getElem?_eq_none (by omega)]) fun h' eb => ?_))
    refine wpAny_pure (hR h' tk T n (fun b o e => eb b o (Nat.ne_of_lt (Nat.lt_of_lt_of_le (Heap.lt_size e) hit)) (keep b o e)) ?_ (fun _ => rfl) fun q => absurd q (Nat.lt_irrefl _))
    rw [List.drop_length]
    show h'.get? T = some (lobj (acc ++ []) n)
    rw [List.append_nil]
    exact eb T _ hTi hTo
  | succ k ih =>
    intro i h tk T acc n c hk hi keep hIt hSo hTo hTi hTS hz hR
    have hlt : i < xss.length := by omega
    obtain ⟨v, hv⟩ : ∃ v, its[i]? = some v := ⟨_, List.getElem?_eq_getElem (by omega)⟩
    obtain ⟨xs, hx⟩ : ∃ xs, xss[i]? = some xs := ⟨_, List.getElem?_eq_getElem hlt⟩
    have ed : xss.drop i = xs :: xss.drop (i + 1) := by
      rw [List.drop_eq_getElem_cons hlt]
      rw [List.getElem?_eq_getElem hlt] at hx
      rw [Option.some.inj hx]
    obtain ⟨l, nl, rfl, hlo⟩ := hl i v xs hv hx
    refine codeAny_builtin F.entry_sum_loop ?_
    rw [Around.under_plainId F.plain_sum_loop _]
    show wpAny _ A.in1 (seqItems? (.ref S) >>= _) _ _ _
    refine wpAny_bind (wpAny_seqItems hSo rfl ?_)
    show wpAny _ A.in1 (tryCatch (pyNext (.ref it)) _ >>= _) _ _ _
    have ha' : h.IsList a its.toArray := by
      obtain ⟨o, e1, e2, e3⟩ := ha
      exact ⟨o, keep a o e1, e2, e3⟩
    refine wpAny_bind (wpAny_tryCatch (wpAny_pyNext_list_item hIt ha' (x := .ref l) (by rw [List.getElem?_toArray]; exact hv) fun h1 hIt1 sb => ?_))
    have k1 : ∀ b o, b ≠ it → h.get? b = some o → h1.get? b = some o := fun b o hb e => (sb.2 b hb).trans e
    have old : ∀ b o, s0.heap.get? b = some o → b ≠ it ∧ b ≠ S := fun b o e => ⟨Nat.ne_of_lt (Nat.lt_of_lt_of_le (Heap.lt_size e) hit), Nat.ne_of_lt (Nat.lt_of_lt_of_le (Heap.lt_size e) hS)⟩
    have hT1 : h1.get? T = some (lobj acc n) := k1 T _ hTi hTo
    have hl1 : h1.get? l = some (lobj xs nl) := k1 l _ (old l _ hlo).1 (keep l _ hlo)
    have hS1 := k1 S _ hne.symm hSo
    have hz2 : acc.length + xs.length ≤ sizeLine := by
      rw [ed, List.flatten_cons, List.length_append] at hz
      omega
    show wpAny _ A.in1 ((holding [Value.ref l] (binaryOp .Add (.ref T) (.ref l))).attempt >>= _) _ _ _
    refine wpAny_bind (wpAny_attempt (wpAny_holding (PySem.P.add_list hT1 hl1 ?_ (by rw [List.size_toArray, List.size_toArray]; exact hz2))))
    show wpAny _ A.in1 (updateSeq S (fun _ => #[.ref h1.objs.size]) >>= _) _ _ _
    have hS2 : (h1.push { cls := .type "list", data := .seq (acc.toArray ++ xs.toArray) }).get? S = some { cls := .type "list", data := .seq #[.ref T] c } := Heap.get?_push_of_some _ hS1
    refine wpAny_bind (wpAny_updateSeq hS2 rfl ?_)
    have hS3 := Heap.get?_update_self (Obj.mapSeq fun _ => #[Value.ref h1.objs.size]) hS2 rfl
    refine wpAny_bind (wpAny_letGo ?_)
    show wpAny _ A.in1 (updateSeq S (fun _ => #[.ref h1.objs.size]) >>= _) _ _ _
    refine wpAny_bind (wpAny_updateSeq hS3 rfl ?_)
    have hS4 := Heap.get?_update_self (Obj.mapSeq fun _ => #[Value.ref h1.objs.size]) hS3 rfl
    have nS : h1.objs.size ≠ S := Nat.ne_of_gt (Heap.lt_size hS1)
    have nI : h1.objs.size ≠ it := by
      obtain ⟨o, e1, _⟩ := hIt1
      exact Nat.ne_of_gt (Heap.lt_size e1)
    have k3 : ∀ b o, b ≠ S → h1.get? b = some o → (((h1.push { cls := .type "list", data := .seq (acc.toArray ++ xs.toArray) }).update S (Obj.mapSeq fun _ => #[Value.ref h1.objs.size])).update S (Obj.mapSeq fun _ => #[Value.ref h1.objs.size])).get? b = some o := fun b o hb e => by
      rw [Heap.get?_update_other _ _ (Ne.symm hb), Heap.get?_update_other _ _ (Ne.symm hb)]
      exact Heap.get?_push_of_some _ e
    have hTn : (((h1.push { cls := .type "list", data := .seq (acc.toArray ++ xs.toArray) }).update S (Obj.mapSeq fun _ => #[Value.ref h1.objs.size])).update S (Obj.mapSeq fun _ => #[Value.ref h1.objs.size])).get? h1.objs.size = some (lobj (acc ++ xs) 0) := by
      rw [Heap.get?_update_other _ _ (Ne.symm nS), Heap.get?_update_other _ _ (Ne.symm nS)]
      rw [Heap.get?_push_size _ rfl]
      simp [lobj]
    have hsz : s0.heap.objs.size ≤ h1.objs.size := by
      obtain ⟨o, e1, _⟩ := hIt1
      exact Nat.le_trans hit (Nat.le_of_lt (Heap.lt_size e1))
    refine wpAny_pure ⟨plainId_quiet F.plain_sum_loop _, ih (i + 1) _ tk h1.objs.size (acc ++ xs) 0 _ (by omega) hlt (fun b o e => k3 b o (old b o e).2 (k1 b o (old b o e).1 (keep b o e))) ?_ hS4 hTn nI nS ?_ fun h' tk' T' n' a1 a2 a3 a4 => ?_⟩
    · exact hIt1.at fun o e => k3 it o hne e
    · rw [List.length_append]
      rw [ed, List.flatten_cons, List.length_append] at hz
      omega
    · refine hR h' tk' T' n' a1 ?_ (fun q => absurd q (Nat.ne_of_lt hlt)) fun _ => ?_
      · rw [ed, List.flatten_cons, ← List.append_assoc]
        exact a2
      · by_cases q : i + 1 = xss.length
        · rw [a3 q]
          exact hsz
        · exact a4 (by omega)
theorem sum_listsW {a b : Addr} {its : List Value} {xss : List (List Value)} {nb : Nat} {Q : Value → Shared → Prop} {E : Value → Shared → Prop} (hh : A.in1.handled = none)
    (ha : s0.heap.IsList a its.toArray) (hb : s0.heap.get? b = some (lobj [] nb)) (hln : its.length = xss.length) (hl : ∀ (i : Nat) v xs, its[i]? = some v → xss[i]? = some xs → ∃ l n, v = .ref l ∧ s0.heap.get? l = some (lobj xs n))
    (hz : xss.flatten.length ≤ sizeLine)
    (h : ∀ h' tk' T' n', (∀ b o, s0.heap.get? b = some o → h'.get? b = some o) → h'.get? T' = some (lobj xss.flatten n') → (xss = [] → T' = b) → (xss ≠ [] → s0.heap.objs.size ≤ T') → Q (.ref T') { s0 with heap := h', toks := tk' }) :
    wpAny (model prog w) A (call (.builtin "sum") [.ref a] [(Str.ofString "start", .ref b)]) Q E s0 := by
  refine PyProof.Rows.kmk_tree F.kind_sum F.plain_sum F.entry_sum (args_sum_start _ _) ?_
  unfold Builtin.«sum»
  simp only [List.length_cons, List.length_nil]
  rw [if_neg (by decide)]
  refine wpAny_bind (wpAny_of_eq (show Builtin.Builtins.bindParams "sum" ["start"] 0 ⟨[], [(Str.ofString "start", .ref b)]⟩ = pure [some (.ref b)] from rfl) ?_)
  refine wpAny_bind (wpAny_pyIter_list ha ?_)
  refine wpAny_bind (wpAny_pure ?_)
  simp only [List.forIn_cons, List.forIn_nil]
  have tb : Shared.TypeIs { s0 with heap := s0.heap.push { cls := .type "list_iterator", data := .fields #[.ref a, .int 0 0] } } (.ref b) "list" := ⟨_, Heap.get?_push_of_some _ hb, rfl⟩
  refine wpAny_bind (wpAny_bind (wpAny_bind (wpAny_isInstance (T := "list") (b := false) tb F.sub_list_str ?_)))
  simp only [Bool.false_eq_true, if_false]
  refine wpAny_pure (wpAny_bind (wpAny_bind (wpAny_isInstance (T := "list") (b := false) tb F.sub_list_bytes ?_)))
  simp only [Bool.false_eq_true, if_false]
  refine wpAny_pure (wpAny_bind (wpAny_bind (wpAny_isInstance (T := "list") (b := false) tb (by first | exact F.sub_list_bytearray | (rw [isSubtype_type]; kernel_rfl)) ?_)))
  simp only [Bool.false_eq_true, if_false]
  refine wpAny_pure (wpAny_pure ?_)
  refine wpAny_bind (wpAny_newObj_type ?_)
  have e1 : (s0.heap.push { cls := .type "list_iterator", data := .fields #[.ref a, .int 0 0] }).objs.size = s0.heap.objs.size + 1 := Heap.size_push ..
  have hbl : b < s0.heap.objs.size := Heap.lt_size hb
  refine wpAny_pure ⟨plainId_quiet F.plain_sum_loop _, ?_⟩
  show codeAny (model prog w) A (.builtin "sum.loop" ⟨[.ref s0.heap.objs.size, .ref (s0.heap.push { cls := .type "list_iterator", data := .fields #[.ref a, .int 0 0] }).objs.size, rawInt 2, rawInt 0], []⟩) _ _
  rw [e1]
  refine sum_loopL (s0 := s0) (a := a) (it := s0.heap.objs.size) (S := s0.heap.objs.size + 1) (its := its) (xss := xss) hh (Nat.le_refl _) (Nat.le_succ _) (Nat.ne_of_lt (Nat.lt_succ_self _)) ha hln hl xss.length 0 _ s0.toks b [] nb 0 (by omega) (Nat.zero_le _)
    (fun c o e => Heap.get?_push_of_some _ (Heap.get?_push_of_some _ e)) ⟨_, Heap.get?_push_of_some _ (Heap.get?_push_size _ rfl), rfl, rfl⟩ ?_ (Heap.get?_push_of_some _ (Heap.get?_push_of_some _ hb)) (Nat.ne_of_lt hbl) (Nat.ne_of_lt (Nat.lt_succ_of_lt hbl)) (by simpa using hz) fun h' tk' T' n' a1 a2 a3 a4 => ?_
  · have := Heap.get?_push_size (s0.heap.push { cls := .type "list_iterator", data := .fields #[.ref a, .int 0 0] }) (o := { cls := .type "list", data := .seq #[.ref b] }) rfl
    rw [e1] at this
    exact this
  · exact h h' tk' T' n' a1 (by simpa using a2) (fun q => a3 (by rw [q]; rfl)) fun q => a4 (List.length_pos_iff.mpr q)
end
end DL

namespace DL
open PySem PySem.Spec PyProof.Rows L2
open Evl (Ex ex_rd ex_l ex_t)

section
variable {X : Cx}
/-! ### sum(.., start=[]) over the layer -/
def rSumL (K : PySem.W.Frag) : List V → List V → Hp → VK → Prop := fun vs zs H Q => ∃ (a b : Addr) (as : List Addr) (xss : List (List V)), vs = [V.ref a] ∧ zs = [V.ref b] ∧ SqL K H a (as.map V.ref) ∧ H b = some (.lst []) ∧ as.length = xss.length ∧
  (∀ (i : Nat) l xs, as[i]? = some l → xss[i]? = some xs → H l = some (.lst xs)) ∧ xss.flatten.length ≤ sizeLine ∧ (xss = [] → Q (.ref b) H) ∧ (xss ≠ [] → ∀ p, H p = none → Q (.ref p) (upd H p (.lst xss.flatten)))
theorem vals_refs : ∀ {as : List Addr} {us : List Value}, Vals (as.map V.ref) us → us = as.map Value.ref
  | [], _, h => by cases h; rfl
  | a :: as, _, h => by
    cases h with
    | cons h1 h2 =>
      rw [vals_refs h2, (show _ = Value.ref a from h1)]
      rfl
theorem lists_of {pins : List (Addr × Obj)} {σ : L2.St} {H : Hp} {s : Shared} (I : Inv X pins σ H s) : ∀ (as : List Addr) (xss : List (List V)), as.length = xss.length → (∀ (i : Nat) l xs, as[i]? = some l → xss[i]? = some xs → H l = some (.lst xs)) →
    ∃ uss : List (List Value), Paired Vals xss uss ∧ ∀ (i : Nat) l, as[i]? = some l → ∃ us n, uss[i]? = some us ∧ s.heap.get? l = some (lobj us n)
  | [], [], _, _ => ⟨[], .nil, fun i l h => by simp at h⟩
  | [], _ :: _, h, _ => by simp at h
  | _ :: _, [], h, _ => by simp at h
  | a :: as, xs :: xss, h, hl => by
    obtain ⟨uss, h1, h2⟩ := lists_of I as xss (by simpa using h) fun i l xs a b => hl (i + 1) l xs (by simpa using a) (by simpa using b)
    obtain ⟨z, its, n, r, hl', e⟩ := I.lstM (hl 0 a xs rfl rfl)
    refine ⟨its :: uss, .cons r h1, fun i l hi => ?_⟩
    cases i with
    | zero =>
      cases hi
      exact ⟨its, n, rfl, e⟩
    | succ i =>
      obtain ⟨us, m, a, b⟩ := h2 i l (by simpa using hi)
      exact ⟨us, m, by simpa using a, b⟩
theorem paired_flat : ∀ {xss : List (List V)} {uss : List (List Value)}, Paired Vals xss uss → Vals xss.flatten uss.flatten
  | _, _, .nil => .nil
  | _, _, .cons h t => by
    rw [List.flatten_cons, List.flatten_cons]
    exact Vals.append h (paired_flat t)
theorem cr_sumL (hc : X.calm = true) : CallRK X (.builtin "sum") [Str.ofString "start"] (rSumL X.K) := by
  intro pins s σ H vs zs us ws Q I r rz h
  obtain ⟨a, b, as, xss, rfl, rfl, hs, hb, hln, hl, hz, q0, q1⟩ := h
  obtain rfl := Vals.ref1 r
  obtain rfl := Vals.ref1 rz
  obtain ⟨its, rv, pl, hz2⟩ := I.list hs
  have ei := vals_refs rv
  subst ei
  obtain ⟨uss, h1, h2⟩ := lists_of I as xss hln hl
  have hu := Paired.length h1
  obtain ⟨zb, ib, nb, rb, _, eb⟩ := I.lstM hb
  have hib : ib = [] := by cases rb; rfl
  subst hib
  have hfl := (paired_flat h1).length
  refine sum_listsW (xss := uss) (A := X.A) (show X.A.in1.handled = none from I.ok.hd hc) pl.isList eb (by rw [List.length_map, hln, hu]) (fun i v xs e1 e2 => ?_) (by rw [← hfl]; exact hz) fun h' tk' T' n' a1 a2 a3 a4 => ?_
  · rw [List.getElem?_map] at e1
    cases e3 : as[i]? with
    | none => rw [e3] at e1; cases e1
    | some l =>
      rw [e3] at e1
      obtain ⟨us, m, g1, g2⟩ := h2 i l e3
      rw [e2] at g1
      cases g1
      exact ⟨l, m, (Option.some.inj e1).symm, g2⟩
  · by_cases hx : xss = []
    · subst hx
      cases h1
      rw [a3 rfl]
      exact ⟨.ref b, H, I.kept (t' := tk') a1, rfl, q0 rfl⟩
    · have hux : uss ≠ [] := fun q => by
        subst q
        cases h1
        exact hx rfl
      have hT := a4 hux
      exact ⟨.ref T', upd H T' (.lst xss.flatten), I.laid (t' := tk') a1 hT ⟨hz, uss.flatten, n', paired_flat h1, a2⟩, rfl, q1 hx T' (I.hok.fresh hT)⟩
/-! ### max(xs, default=d), whole numbers -/
def rMaxDf (K : PySem.W.Frag) : List V → List V → Hp → VK → Prop := fun vs zs H Q => ∃ (a : Addr) (ns : List Int) (d : Int), vs = [V.ref a] ∧ zs = [V.int d] ∧ SqL K H a (ns.map V.int) ∧ ∀ m, (ns = [] ∧ m = d ∨ m ∈ ns) → Q (.int m) H
theorem dp_ints {K : PySem.W.Frag} {H : Hp} : ∀ ns : List Int, DpAll K H (ns.map V.int) (ns.map .int)
  | [] => .nil
  | n :: ns => .cons (.int n) (dp_ints ns)
theorem depthAll_ints : ∀ ns : List Int, PyData.depthAll (ns.map .int) = 0
  | [] => by simp [PyData.depthAll]
  | n :: ns => by
    show PyData.depthAll (.int n :: ns.map .int) = 0
    rw [PyData.depthAll, depthAll_ints ns]
    simp [PyData.depth]
theorem cr_maxDf (hc : X.calm = true) (hu : X.A.units + 200 < cLine) : CallRK X (.builtin "max") [Str.ofString "default"] (rMaxDf X.K) := by
  intro pins s σ H vs zs us ws Q I r rz h
  obtain ⟨a, ns, d, rfl, rfl, hs, q⟩ := h
  obtain rfl := Vals.ref1 r
  obtain ⟨w1, rfl, td, e1⟩ := vals1 rz
  subst e1
  obtain ⟨its, rv, pl, hz⟩ := I.list hs
  obtain ⟨as, hr⟩ := Dp.readsAll I (ns.map .int) _ _ (dp_ints ns) rv
  have hal : PySem.W.AlikeAll (ns.map PyData.int) := ⟨fun x hx y hy => by
    obtain ⟨i, _, rfl⟩ := List.mem_map.mp hx
    obtain ⟨j, _, rfl⟩ := List.mem_map.mp hy
    rfl, fun x hx => by
    obtain ⟨i, _, rfl⟩ := List.mem_map.mp hx
    exact fun z => nomatch z⟩
  refine PySem.W.max_list_default (xs := ns.map .int) (A := X.A) (I.ok.hd hc) pl.isList (by simpa using hr) hal (by rw [depthAll_ints]; omega) (fun e0 h' tk k => ?_) fun y ys i v h' tk bs e0 hv _ k => ?_
  · have hn : ns = [] := List.map_eq_nil_iff.mp e0
    exact ⟨.int d, H, I.kept (t' := tk) k, ⟨td, rfl⟩, q d (.inl ⟨hn, rfl⟩)⟩
  · rw [List.getElem?_toArray] at hv
    have hlt : i < its.length := (List.getElem?_eq_some_iff.mp hv).1
    have hl := rv.length
    rw [List.length_map] at hl
    have hx : (ns.map V.int)[i]? = some (.int (ns[i]'(by omega))) := by rw [List.getElem?_map, List.getElem?_eq_getElem (by omega)]; rfl
    obtain ⟨u, e2, ru⟩ := rv.get hx
    rw [hv] at e2
    cases e2
    exact ⟨.int (ns[i]'(by omega)), H, I.kept (t' := tk) k, ru, q _ (.inr (List.getElem_mem _))⟩
/-! ### sorted(xs), sorted(xs, reverse=True), data -/
open PySem.W in
def SortOk (ds : List PyData) : Prop := AllAlike ds ∧ Sortable ds ∧ ∀ d ∈ ds, d.depth ≤ 64
def sortedZ (rev : Bool) (xs : List V) (ds : List PyData) : List (V × PyData) := (xs.zip ds).mergeSort (PySem.W.dataLe rev Prod.snd)
def rSortD (K : PySem.W.Frag) (rev : Bool) : List V → Hp → VK → Prop := fun vs H Q => ∃ (a : Addr) (xs : List V) (ds : List PyData), vs = [V.ref a] ∧ SqL K H a xs ∧ DpAll K H xs ds ∧ SortOk ds ∧ ∀ p, H p = none → Q (.ref p) (upd H p (.lst ((sortedZ rev xs ds).map Prod.fst)))
theorem dpAll_len {K : PySem.W.Frag} {H : Hp} : ∀ {vs : List V} {ds : List PyData}, DpAll K H vs ds → vs.length = ds.length
  | _, [], h => by cases h; rfl
  | _, d :: ds, h => by
    cases h with
    | cons h1 h2 => exact congrArg (· + 1) (dpAll_len h2)
theorem each_vals : ∀ {us : List Value} {bs : List (V × PyData)}, PySem.W.EachIs (fun u (b : V × PyData) => RelV b.1 u) us bs → Vals (bs.map Prod.fst) us
  | _, _, .nil => .nil
  | _, _, .cons h t => .cons h (each_vals t)
theorem vals_each : ∀ {xs : List V} {us : List Value} {ds : List PyData}, Vals xs us → xs.length = ds.length → PySem.W.EachIs (fun u (b : V × PyData) => RelV b.1 u) us (xs.zip ds)
  | _, _, [], .nil, _ => .nil
  | _, _, _ :: _, .nil, h => by simp at h
  | _, _, [], .cons _ _, h => by simp at h
  | _, _, d :: ds, .cons a t, h => .cons a (vals_each t (by simpa using h))
theorem reads_each : ∀ {h : Heap} {xs : List V} {us : List Value} {ds : List PyData} {as : List Addr}, ReadsAll h us ds as → xs.length = ds.length → PySem.W.EachIs (fun u (b : V × PyData) => ∃ as, Reads h u b.2 as) us (xs.zip ds)
  | _, [], _, [], _, r, _ => by cases r; exact .nil
  | _, [], _, _ :: _, _, _, h => by simp at h
  | _, _ :: _, _, [], _, _, h => by simp at h
  | _, x :: xs, _, d :: ds, _, r, h => by
    cases r with
    | cons h1 h2 => exact .cons ⟨_, h1⟩ (reads_each h2 (by simpa using h))
theorem zip_snd {α β : Type} : ∀ {xs : List α} {ds : List β}, xs.length = ds.length → (xs.zip ds).map Prod.snd = ds
  | [], [], _ => rfl
  | [], _ :: _, h => by simp at h
  | _ :: _, [], h => by simp at h
  | x :: xs, d :: ds, h => by
    rw [List.zip_cons_cons, List.map_cons, zip_snd (by simpa using h)]
theorem sortedZ_len (rev : Bool) {xs : List V} {ds : List PyData} (h : xs.length = ds.length) : (sortedZ rev xs ds).length = ds.length := by
  unfold sortedZ
  rw [List.length_mergeSort, List.length_zip, h, Nat.min_self]
open PySem.W in
theorem sort_fin {pins : List (Addr × Obj)} {s : Shared} {σ : L2.St} {H : Hp} {xs : List V} {ds : List PyData} {rev : Bool} {Q : VK} {us : List Value} (I : Inv X pins σ H s) (hl : xs.length = ds.length) (hz : xs.length ≤ sizeLine)
    (q : ∀ p, H p = none → Q (.ref p) (upd H p (.lst ((sortedZ rev xs ds).map Prod.fst)))) (out : List Value) (ho : EachIs (fun u (b : V × PyData) => RelV b.1 u) out ((xs.zip ds).mergeSort (dataLe rev Prod.snd))) :
    EP X pins σ Q (.ref (s.heap.objs.size + 1)) { s with heap := sortedAll s.heap us out.toArray } := by
  have hv := each_vals ho
  obtain ⟨ep, he'⟩ := PyProof.Rows.sortedAll_at s.heap us out.toArray
  have hlen : ((sortedZ rev xs ds).map Prod.fst).length ≤ sizeLine := by
    rw [List.length_map, sortedZ_len rev hl, ← hl]
    exact hz
  exact ⟨.ref _, upd H (s.heap.objs.size + 1) (.lst ((sortedZ rev xs ds).map Prod.fst)), I.laid (t' := s.toks) (fun _ _ => PyProof.Rows.sortedAll_old) (Nat.le_succ _) ⟨hlen, _, ep, hv, he'⟩, rfl, q _ (I.hok.fresh (Nat.le_succ _))⟩
theorem cr_sortD (hu : X.A.units + 200 < cLine) : CallR X (.builtin "sorted") (rSortD X.K false) := by
  intro pins s σ H vs us Q I r h
  obtain ⟨a, xs, ds, rfl, hs, hd, ⟨o1, o2, o3⟩, q⟩ := h
  obtain rfl := Vals.ref1 r
  obtain ⟨its, rv, pl, hz⟩ := I.list hs
  obtain ⟨as, hr⟩ := Dp.readsAll I ds _ _ hd rv
  have hl := dpAll_len hd
  have ez : (xs.zip ds).map Prod.snd = ds := zip_snd hl
  refine PySem.W.sorted_data (enc := Prod.snd) (bs := xs.zip ds) (R := fun u (b : V × PyData) => RelV b.1 u) (vs := its) pl.isList (vals_each rv hl) (reads_each hr hl) (by rw [ez]; exact o1) (by rw [ez]; exact o2) (by rw [List.length_zip]; omega) (fun b hb => ?_) fun out hlen ho => sort_fin I hl hz q out ho
  have h3 := o3 b.2 (by rw [← ez]; exact List.mem_map_of_mem hb)
  omega
theorem cr_sortR (hu : X.A.units + 200 < cLine) {rev : Bool} : CallRK X (.builtin "sorted") [Str.ofString "reverse"] (fun vs zs H Q => zs = [.bl rev] ∧ rSortD X.K rev vs H Q) := by
  intro pins s σ H vs zs us ws Q I r rz h
  obtain ⟨rfl, a, xs, ds, rfl, hs, hd, ⟨o1, o2, o3⟩, q⟩ := h
  obtain rfl := Vals.ref1 r
  obtain ⟨w1, rfl, e1⟩ := vals1 rz
  obtain rfl : w1 = Value.bool rev := e1
  obtain ⟨its, rv, pl, hz⟩ := I.list hs
  obtain ⟨as, hr⟩ := Dp.readsAll I ds _ _ hd rv
  have hl := dpAll_len hd
  have ez : (xs.zip ds).map Prod.snd = ds := zip_snd hl
  refine PySem.W.sorted_rev_data (enc := Prod.snd) (bs := xs.zip ds) (R := fun u (b : V × PyData) => RelV b.1 u) (vs := its) (b := rev) pl.isList (vals_each rv hl) (reads_each hr hl) (by rw [ez]; exact o1) (by rw [ez]; exact o2) (by rw [List.length_zip]; omega) (fun b hb => ?_) fun out hlen ho => sort_fin I hl hz q out ho
  have h3 := o3 b.2 (by rw [← ez]; exact List.mem_map_of_mem hb)
  omega
end
end DL

namespace DL
open PySem PySem.Spec PyProof.Rows L2
open Evl (Ex ex_rd ex_l ex_t)
open PySem.W (KeyPure kla_obj kla_fn)

/-! ### a lambda of one parameter, nothing captured, as a key -/
section
variable {prog : Program} {w : World}
/-- what the body gives for the data d at its one name -/
def GivesKey (prog : Program) (w : World) (x : Str) (body : Expr) (scope : Scope) (d k : PyData) : Prop :=
  ∀ (A : Around) (env : Env) (s : Shared) (v : Value) (as : List Addr), env.scope = scope → s.heap.Ns env.locals (fun y => ([(x, v)] : List (Str × Value)).reverse.lookup y) → Reads s.heap v d as →
    wpAny (model prog w) A (eval body env) (KeyPure k s) (fun _ _ => False) s
structure LamK (prog : Program) (w : World) (x : Str) (params : Arguments) (body : Expr) (scope : Scope) (dom : PyData → Prop) (key : PyData → PyData) : Prop where
  kind : scope.kind = .function
  co : scope.isCoroutine = false
  gen : scope.isGenerator = false
  loc : scope.names.lookup x = some .local
  nocell : ∀ y ∈ scope.names, y.2 ≠ .cell
  nofree : ∀ y ∈ scope.names, y.2 ≠ .free
  bind : ∀ (q : Str) (cl : List (Str × Addr)) (pm cv ctv u : Value), bindArgs (kla_fn "<lambda>" q params body scope cl pm cv ctv) ⟨[u], []⟩ = pure [(x, u)]
  dflt : ∀ env : Env, defaultsOf params env = ([], [])
  run : ∀ d, dom d → GivesKey prog w x body scope d (key d)
theorem lam_call {A : Around} {s : Shared} {x : Str} {params : Arguments} {body : Expr} {scope : Scope} {dom : PyData → Prop} {key : PyData → PyData} {f c' : Addr} {q : Str} {cl : List (Str × Addr)} {pm ctv v : Value} {d : PyData} {as : List Addr}
    (L : LamK prog w x params body scope dom key) (hd : A.depth < recursionLimit) (ho : s.heap.get? f = some (kla_obj "<lambda>" q params body scope cl pm c' ctv)) (hc : s.heap.CodeRec (.ref c') q) (hn : s.heap.NoLimit) (hr : Reads s.heap v d as) (dd : dom d) :
    wpAny (model prog w) A (call (.ref f) [v]) (KeyPure (key d) s) (fun _ _ => False) s := by
  refine wpAny_call (PySem.W.kla_callFunE hd ho rfl L.co L.gen rfl hc ?_)
  rw [L.bind]
  refine wpAny_pure (wpAny_newFunctionEnv L.nocell (fun y hy => ?_) (fun h₁ hns hsb => ⟨hn.fresh _ hsb, ?_⟩) L.kind)
  · have e : y = (x, v) := by simpa using hy
    subst e
    exact L.loc
  · have kp : ∀ b o, s.heap.get? b = some o → h₁.get? b = some o := fun b o e => hsb.extBut b o (Nat.ne_of_lt (Heap.lt_size e)) (Heap.get?_push_of_some _ e)
    refine PySem.W.kla_codeExpr (wpAny_mono (L.run d dd _ _ _ v as rfl hns (PyProof.Rows.Reads.keeps kp hr)) (fun r s' hk => ?_) fun _ _ z => z.elim)
    obtain ⟨h', tk, e, k1, k2⟩ := hk
    exact ⟨h', tk, e, fun b o eb => k1 b o (kp b o eb), k2⟩
end
section
variable {X : Cx} {pins : List (Addr × Obj)} {σ : L2.St} {H : Hp} {s : Shared}
/-- the lambda is made; all but its own table is as it was -/
theorem lam_new {c P : Addr} {params : Arguments} {body : Expr} {scope : Scope} {pos : Pos} {E : Value → Shared → Prop} {Q : Value → Shared → Prop} (I : Inv X pins σ H s) (TB : LamX.TabB X.base X.mg c P) (hcode : X.env.code = .ref c) (hT : LamX.TabS H P (X.env.qual ++ "<lambda>"))
    (hdef : defaultsOf params X.env = ([], [])) (hfree : ∀ y ∈ scope.names, y.2 ≠ .free)
    (h : ∀ (f c' : Addr) (pm ctv : Value) (H1 : Hp) (s' : Shared), Inv X pins σ H1 s' → (∀ b o, b ≠ P → H b = some o → H1 b = some o) → LamX.TabS H1 P (X.env.qual ++ "<lambda>") →
      s'.heap.get? f = some (kla_obj "<lambda>" (X.env.qual ++ "<lambda>") params body scope (cloFrom X.env.cells scope.names []) pm c' ctv) → H1 c' = some (LamX.CodeO c' (X.env.qual ++ "<lambda>")) → Q (.ref f) s') :
    wpAny (model X.prog X.w) X.A (eval (.Lambda params body scope pos) X.env) Q E s := by
  obtain ⟨ps, hP, ht, ha⟩ := hT
  have bP : s.heap.BuiltinsAt X.mg P := TB.bm.keeps I.bk
  have hP' : s.heap.get? P = some { cls := .none, data := .fields ps } := I.hok P _ hP
  have hcl : closureFor scope X.env = pure (cloFrom X.env.cells scope.names []) := closure_ok fun y hy e => absurd e (hfree y hy)
  refine PySem.W.kla_eval hdef ?_
  cases hc : codeAmong pos ps.toList with
  | some cv =>
    obtain ⟨c', rfl, hco⟩ := ha pos cv hc
    refine PySem.W.kla_makeFunctionHit (mg := X.mg) (c := c) (P := P) (ps := ps) hcl I.ok.glob (I.mod.glob.keeps I.bk) hcode (TB.code.keeps I.bk) hP' ht hc bP fun ctv h' tk hx hsz => ?_
    exact h h'.objs.size c' ((X.mg "__name__").getD .none) ctv H _ (I.kept (t' := tk) fun b o e => Heap.get?_push_of_some _ (hx b o e)) (fun _ _ _ e => e) ⟨ps, hP, ht, ha⟩ (Heap.get?_push_size _ rfl) hco
  | none =>
    refine PySem.W.kla_makeFunction (mg := X.mg) (c := c) (P := P) (ps := ps) hcl I.ok.glob (I.mod.glob.keeps I.bk) hcode (TB.code.keeps I.bk) hP' ht hc TB.gP bP fun c' ctv h' tk hx hge hlt hrec htb => ?_
    obtain ⟨c2, oc, vs, t, e2, hoc, hd, hv⟩ := hrec
    obtain rfl : c' = c2 := by cases e2; rfl
    have nC : H c' = none := I.hok.fresh hge
    have nPc : P ≠ c' := ne_of_none hP nC
    have eL : (ps ++ #[rawInt pos.line, rawInt pos.col, .ref c']).toList = ps.toList ++ [rawInt pos.line, rawInt pos.col, .ref c'] := by simp
    have I1 := LamX.inv_table (t' := tk) (more := #[rawInt pos.line, rawInt pos.col, .ref c']) (q := X.env.qual ++ "<lambda>") (h' := h'.push (kla_obj "<lambda>" (X.env.qual ++ "<lambda>") params body scope (cloFrom X.env.cells scope.names []) ((X.mg "__name__").getD .none) c' ctv)) I hP
      (fun b o hb e => Heap.get?_push_of_some _ (hx b o hb e)) (Heap.get?_push_of_some _ htb) hge ⟨oc, vs, t, Heap.get?_push_of_some _ hoc, hd, hv⟩
    have keep : ∀ b o, b ≠ P → H b = some o → upd (upd H P (.tbl (ps ++ #[rawInt pos.line, rawInt pos.col, .ref c']))) c' (LamX.CodeO c' (X.env.qual ++ "<lambda>")) b = some o := fun b o hb e => by
      rw [upd_ne (ne_of_none e nC), upd_ne hb]
      exact e
    refine h h'.objs.size c' ((X.mg "__name__").getD .none) ctv _ _ I1 keep ⟨_, by rw [upd_ne nPc, upd_same], by rw [eL]; exact PySem.TriplesOk_snoc _ _ _ _ ht, fun p' cv hcv => ?_⟩ (Heap.get?_push_size _ rfl) upd_same
    rw [eL] at hcv
    rcases LamX.among_app _ ht hcv with z | z
    · obtain ⟨c0, e1, e2⟩ := ha p' cv z
      exact ⟨c0, e1, keep _ _ (fun q => by rw [q, hP] at e2; exact LamX.codeO_ne ps (Option.some.inj e2).symm) e2⟩
    · exact ⟨c', z, upd_same⟩
/-! ### sorted(xs, key=lambda x: ..) -/
def tSortKey (K : PySem.W.Frag) (P : Addr) (q : Str) (dom : PyData → Prop) (key : PyData → PyData) (ts : TA) : TE := fun σ H Q => ts σ H fun vs H1 => LamX.TabS H1 P q ∧ ∃ (a : Addr) (xs : List V) (ds : List PyData), vs = [.ref a] ∧ SqL K H1 a xs ∧ DpAll K H1 xs ds ∧ (∀ d ∈ ds, dom d) ∧ SortOk (ds.map key) ∧
  ∀ H2, (∀ b o, b ≠ P → H1 b = some o → H2 b = some o) → LamX.TabS H2 P q → ∀ p, H2 p = none → Q (.ref p) (upd H2 p (.lst (((xs.zip ds).mergeSort (PySem.W.dataLe false fun b => key b.2)).map Prod.fst)))
theorem tabS_mut {K : PySem.W.Frag} {P a : Addr} {xs : List V} {q : Str} {H1 H2 : Hp} (hT : LamX.TabS H1 P q) (k : ∀ b o, b ≠ P → H1 b = some o → H2 b = some o) (h : SqL K H1 a xs) : SqL K H2 a xs := by
  obtain ⟨ps, hP, _⟩ := hT
  rcases h with (h | ⟨o, h⟩) | h
  · exact .inl (.inl (k a _ (fun e => by rw [e, hP] at h; cases h) h))
  · exact .inl (.inr ⟨o, k a _ (fun e => by rw [e, hP] at h; cases h) h⟩)
  · exact .inr h
theorem tabS_mutT {K : PySem.W.Frag} {P a : Addr} {xs : List V} {q : Str} {H1 H2 : Hp} (hT : LamX.TabS H1 P q) (k : ∀ b o, b ≠ P → H1 b = some o → H2 b = some o) (h : SqT K H1 a xs) : SqT K H2 a xs := by
  obtain ⟨ps, hP, _⟩ := hT
  rcases h with (h | ⟨o, h⟩) | h
  · exact .inl (.inl (k a _ (fun e => by rw [e, hP] at h; cases h) h))
  · exact .inl (.inr ⟨o, k a _ (fun e => by rw [e, hP] at h; cases h) h⟩)
  · exact .inr h
mutual
theorem dp_mut {K : PySem.W.Frag} {P : Addr} {q : Str} {H1 H2 : Hp} (hT : LamX.TabS H1 P q) (k : ∀ b o, b ≠ P → H1 b = some o → H2 b = some o) : ∀ (d : PyData) (v : V), Dp K H1 v d → Dp K H2 v d
  | .none, _, h => by cases h; exact .non
  | .bool _, _, h => by cases h; exact .bl _
  | .int _, _, h => by cases h; exact .int _
  | .str _, _, h => by cases h; exact .str _
  | .list ds, _, h => by
    cases h with
    | lst h1 h2 => exact .lst (tabS_mut hT k h1) (dpAll_mut hT k ds _ h2)
  | .tuple ds, _, h => by
    cases h with
    | tup h1 h2 => exact .tup (tabS_mutT hT k h1) (dpAll_mut hT k ds _ h2)
  | .dict _, _, h => by cases h
theorem dpAll_mut {K : PySem.W.Frag} {P : Addr} {q : Str} {H1 H2 : Hp} (hT : LamX.TabS H1 P q) (k : ∀ b o, b ≠ P → H1 b = some o → H2 b = some o) : ∀ (ds : List PyData) (vs : List V), DpAll K H1 vs ds → DpAll K H2 vs ds
  | [], _, h => by cases h; exact .nil
  | d :: ds, _, h => by
    cases h with
    | cons h1 h2 => exact .cons (dp_mut hT k d _ h1) (dpAll_mut hT k ds _ h2)
end
theorem units_in2 (A : Around) : A.in1.in1.units = A.units + 2 := rfl
theorem depth_in2 (A : Around) : A.in1.in1.depth = A.depth := rfl
theorem key_zip {α : Type} (key : PyData → PyData) : ∀ {xs : List α} {ds : List PyData}, xs.length = ds.length → (xs.zip ds).map (fun b => key b.2) = ds.map key
  | [], [], _ => rfl
  | [], _ :: _, h => by simp at h
  | _ :: _, [], h => by simp at h
  | x :: xs, d :: ds, h => by
    rw [List.zip_cons_cons, List.map_cons, List.map_cons, key_zip key (by simpa using h)]
theorem mem_zip2 {α β : Type} : ∀ {xs : List α} {ds : List β} {p : α × β}, p ∈ xs.zip ds → p.2 ∈ ds := fun {xs ds p} h => (List.of_mem_zip (show (p.1, p.2) ∈ xs.zip ds from h)).2
theorem each_and {α β : Type} {R S : α → β → Prop} : ∀ {as : List α} {bs : List β}, PySem.W.EachIs R as bs → PySem.W.EachIs S as bs → PySem.W.EachIs (fun a b => R a b ∧ S a b) as bs
  | _, _, .nil, .nil => .nil
  | _, _, .cons h t, .cons g u => .cons ⟨h, g⟩ (each_and t u)
theorem pe_sortKey {j : Nat} {c P : Addr} {x : Str} {params : Arguments} {body : Expr} {scope : Scope} {dom : PyData → Prop} {key : PyData → PyData} {p pos lpos kpos : Pos} {e : Expr} {ts : TA} (hr : Room (j + 1) X.A) (hc : X.calm = true) (hg : Gl X "sorted") (hm : X.mg "sorted" = none)
    (TB : LamX.TabB X.base X.mg c P) (hcode : X.env.code = .ref c) (L : LamK X.prog X.w x params body scope dom key) (ha : PA X [e] ts)
    (hst : backTo pos (starEach [e] X.env) = (false, eval e X.env) :: backTo pos (starEach [] X.env) := by rfl) (hpl : (backTo pos (starEach [e] X.env)).any (·.1) = false := by rfl)
    (hall : (backToKw pos (keywordEach [⟨some "key", .Lambda params body scope lpos, kpos⟩] X.env)).all (·.1.isSome) = true := by rfl) (hnone : (backToKw pos (keywordEach [⟨some "key", .Lambda params body scope lpos, kpos⟩] X.env)).any (·.1.isNone) = false := by rfl)
    (hks : (backToKw pos (keywordEach [⟨some "key", .Lambda params body scope lpos, kpos⟩] X.env)).filterMap (·.1) = [Str.ofString "key"] := by rfl) :
    PE X (.Call (.Name "sorted" p) [e] [⟨some "key", .Lambda params body scope lpos, kpos⟩] pos) (tSortKey X.K P (X.env.qual ++ "<lambda>") dom key ts) := by
  refine ⟨fun pins s σ H Q I h => ?_⟩
  refine wpAny_Call_Name_kw (ld_blt (u := .builtin "sorted") I hg hm (by decide +kernel) ?_ (by decide) (by decide))
  refine PyProof.Rows.callWith_kw (thn (ha.run pos pins s σ H _ I h) fun us s1 ⟨vs, H1, I1, r1, q1⟩ => ?_) hst hpl hall hnone
  rw [hks]
  show wpAny _ _ (evalAll ((do let v ← eval (.Lambda params body scope lpos) X.env; standAt pos; pure v) :: [])) _ _ s1
  obtain ⟨hT, a, xs, ds, ev, hs, hd, hdom, ⟨o1, o2, o3⟩, q⟩ := q1
  subst ev
  refine wpAny_evalAll_cons (wpAny_bind (lam_new I1 TB hcode hT (L.dflt _) L.nofree fun f c' pm ctv H2 s2 I2 k12 hT2 hf hco => wpAny_bind (wpAny_standAt (wpAny_pure (wpAny_evalAll_nil ?_)))))
  obtain rfl := Vals.ref1 r1
  have hs2 := tabS_mut hT k12 hs
  have hd2 := dpAll_mut hT k12 _ _ hd
  obtain ⟨its, rv, pl, hz⟩ := I2.list hs2
  obtain ⟨as, hrd⟩ := Dp.readsAll I2 ds _ _ hd2 rv
  have hl := dpAll_len hd2
  have ez := key_zip key hl
  obtain ⟨⟨oc, vs', t, hoc, hdc, hvc⟩, _, _⟩ := I2.hok c' _ hco
  show wpAny _ _ (call (.builtin "sorted") [.ref a] [(Str.ofString "key", .ref f)]) _ _ s2
  refine PySem.W.sorted_key_data (β := V × PyData) (b := false) (bs := xs.zip ds) (R := fun u (b : V × PyData) => RelV b.1 u ∧ ∃ as, Reads s2.heap u b.2 as) (vs := its) (fun b => key b.2) pl.isList (each_and (vals_each rv hl) (reads_each hrd hl)) (by rw [ez]; exact o1) (by rw [ez]; exact o2) (by rw [List.length_zip]; omega) (fun b hb => ?_)
    (PyProof.Rows.ksk_s1 _ _) (fun _ => PyProof.Rows.ksk_l1 _ _) (fun z => PyProof.Rows.ksk_t1 f z) (fun v b hR hb h tk kp => ?_) fun out c h' tk kp hfr hat hlen ho => ?_
  · have h3 := o3 (key b.2) (List.mem_map_of_mem (mem_zip2 hb))
    have h4 := hr.un
    omega
  · obtain ⟨rr, as', hrr⟩ := hR
    refine lam_call (s := { s2 with heap := h, toks := tk }) L (by rw [depth_in2]; exact hr.depth) (kp _ _ hf) ⟨c', oc, vs', t, rfl, kp _ _ hoc, hdc, hvc⟩ (I2.nolimit.keeps kp) (PyProof.Rows.Reads.keeps kp hrr) (hdom _ (mem_zip2 hb))
  · have hv := each_vals (ho.mono fun u b z => z.1)
    have hlen2 : ((((xs.zip ds).mergeSort (PySem.W.dataLe false fun b => key b.2)).map Prod.fst)).length ≤ sizeLine := by
      rw [List.length_map, List.length_mergeSort, List.length_zip]
      omega
    exact ⟨.ref (s2.heap.objs.size + 1), upd H2 (s2.heap.objs.size + 1) (.lst (((xs.zip ds).mergeSort (PySem.W.dataLe false fun b => key b.2)).map Prod.fst)), I2.laid (t' := tk) kp (Nat.le_succ _) ⟨hlen2, out, c, hv, hat⟩, rfl, q H2 k12 hT2 _ (I2.hok.fresh (Nat.le_succ _))⟩
end
end DL

namespace DL
open PySem PySem.Spec PyProof.Rows L2
open Evl (Ex ex_rd ex_l ex_t)
open PySem.W (KeyPure kla_obj kla_fn)

/-! ### the two keys' bodies -/
section
variable {prog : Program} {w : World}
theorem name_raw {A : Around} {env : Env} {s : Shared} {x : Str} {v : Value} {p : Pos} {Q : Value → Shared → Prop} {E : Value → Shared → Prop} (hk : env.scope.kind = .function) (hl : env.scope.names.lookup x = some .local) (hd : (x == ("__debug__" : Str)) = false)
    (hn : s.heap.Ns env.locals (fun y => ([(x, v)] : List (Str × Value)).reverse.lookup y)) (q : Q v s) : wpAny (model prog w) A (eval (.Name x p) env) Q E s :=
  wpAny_Name (wpAny_loadName_local hk hl hn (by simp) q) hd
theorem at_raw {A : Around} {env : Env} {s : Shared} {x : Str} {v : Value} {p1 p2 p3 : Pos} {j : Nat} {i : Nat} {d : PyData} {ds : List PyData} {as : List Addr} {Q : Value → Shared → Prop} {E : Value → Shared → Prop} (hk : env.scope.kind = .function) (hl : env.scope.names.lookup x = some .local) (hd : (x == ("__debug__" : Str)) = false)
    (hn : s.heap.Ns env.locals (fun y => ([(x, v)] : List (Str × Value)).reverse.lookup y)) (hr : Reads s.heap v (.tuple ds) as) (hi : ds[i]? = some d) (h63 : i < 2 ^ 63) (q : ∀ u bs, Reads s.heap u d bs → Q u { s with toks := s.toks + 1 }) :
    wpAny (model prog w) A (eval (.Subscript (.Name x p1) (.Constant (.int (i : Int)) j p2) p3) env) Q E s := by
  cases hr with
  | tuple h1 h2 h3 h4 =>
    rename_i a o vs n
    refine Subscript_ (name_raw hk hl hd hn (wpAny_Constant_int ?_))
    obtain ⟨u, hu, bs, hb⟩ : ∃ u, vs.toList[i]? = some u ∧ ∃ bs, Reads s.heap u d bs := by
      clear h1 h2 h3 hn
      generalize vs.toList = l at h4
      induction ds generalizing l i as with
      | nil => simp at hi
      | cons e es ih =>
        cases h4 with
        | cons g1 g2 =>
          cases i with
          | zero =>
            cases hi
            exact ⟨_, rfl, _, g1⟩
          | succ i =>
            obtain ⟨u, a, b⟩ := ih (by simpa using hi) (by omega) _ g2
            exact ⟨u, by simpa using a, b⟩
    have hlt : i < vs.toList.length := (List.getElem?_eq_some_iff.mp hu).1
    have e1 : seqIndex? (i : Int) vs.toList.length = some i := (ixN_seq (by unfold ixN; rw [if_pos (by omega), if_pos (by omega)]; simp)).1
    exact item_tupleT (s := { s with toks := s.toks + 1 }) (l := vs.toList) ⟨o, h1, h2, n, by rw [Array.toArray_toList]; exact h3⟩ (by omega) (by omega) e1 hu (q u bs hb)
theorem gives_first {x : Str} {p1 p2 p3 : Pos} {j : Nat} {scope : Scope} {i : Int} {r : List PyData} (hk : scope.kind = .function) (hl : scope.names.lookup x = some .local) (hd : (x == ("__debug__" : Str)) = false) :
    GivesKey prog w x (.Subscript (.Name x p1) (.Constant (.int 0) j p2) p3) scope (.tuple (.int i :: r)) (.int i) := by
  intro A env s v as he hn hr
  subst he
  refine at_raw (i := 0) hk hl hd hn hr rfl (by decide) fun u bs hu => ⟨s.heap, s.toks + 1, rfl, fun _ _ e => e, ?_⟩
  cases hu with
  | int i t => exact .int i t
theorem gives_two {x : Str} {p1 p2 p3 p4 p5 p6 p7 p8 p9 : Pos} {j k l m : Nat} {scope : Scope} {a b : Int} (hk : scope.kind = .function) (hl : scope.names.lookup x = some .local) (hd : (x == ("__debug__" : Str)) = false) :
    GivesKey prog w x (.Tuple [.Subscript (.Name x p1) (.Constant (.int 0) j p2) p3, .BinOp (.Constant (.int 0) k p4) .Sub (.Subscript (.Name x p5) (.Constant (.int 1) l p6) p7) p8] m p9) scope (.tuple [.int a, .int b]) (.tuple [.int a, .int (0 - b)]) := by
  intro A env s v as he hn hr
  subst he
  refine wpAny_Tuple ?_
  show wpAny _ _ (spliced ((false, _) :: (false, _) :: [])) _ _ _
  refine Calls.spliced_cons ?_
  show wpAny _ _ (eval (.Subscript (.Name x p1) (.Constant (.int 0) j p2) p3) env) _ _ _
  refine at_raw (i := 0) hk hl hd hn hr rfl (by decide) fun u bs hu => ?_
  refine Calls.spliced_cons ?_
  show wpAny _ _ (eval (.BinOp (.Constant (.int 0) k p4) .Sub (.Subscript (.Name x p5) (.Constant (.int 1) l p6) p7) p8) env) _ _ _
  refine wpAny_BinOp (wpAny_Constant_int (at_raw (i := 1) (s := { s with toks := s.toks + 1 + 1 }) hk hl hd hn hr rfl (by decide) fun u2 bs2 hu2 => ?_))
  cases hu with
  | int a t =>
    cases hu2 with
    | int b t2 =>
      refine sub_int ?_
      refine Calls.spliced_nil ⟨by show 2 ≤ sizeLine; decide, _, _, rfl, fun c o e => Heap.get?_push_of_some _ e, ?_⟩
      refine Reads.tuple (vs := [Value.int a t, Value.int (0 - b) _].toArray) (n := 0) (Heap.get?_push_size _ rfl) rfl rfl ?_
      exact .cons (.int _ _) (.cons (.int _ _) .nil)
end
/-! ### list(d.values()), tuple keys -/
theorem vals_of_get {α : Type} : ∀ {kvs : List (α × V)} {l : List Value}, l.length = kvs.length → (∀ (j : Nat) (kv : α × V), kvs[j]? = some kv → ∃ u, l[j]? = some u ∧ RelV kv.2 u) → Vals (kvs.map (·.2)) l
  | [], [], _, _ => .nil
  | [], _ :: _, h, _ => by simp at h
  | _ :: _, [], h, _ => by simp at h
  | kv :: r, u :: l, h, key => by
    obtain ⟨u', e1, e2⟩ := key 0 kv rfl
    cases e1
    exact .cons e2 (vals_of_get (by simpa using h) fun j kv hj => by
      obtain ⟨u, a, b⟩ := key (j + 1) kv (by simpa using hj)
      exact ⟨u, by simpa using a, b⟩)
def tListVals (te : TE) : TE := fun σ H Q => te σ H fun x H1 => ∃ (d : Addr) (kvs : List (List Key × V)), x = .ref d ∧ H1 d = some (.dT kvs) ∧ ∀ p, H1 p = none → Q (.ref p) (upd H1 p (.lst (kvs.map (·.2))))
section
variable {X : Cx} {e : Expr} {te : TE} {p apos cpos pos : Pos}
theorem pe_listVals (hc : X.calm = true) (he : PE X e te) (hg : Gl X "list") (hm : X.mg "list" = none) (hbase : attributeBase e "values" X.env (eval e X.env) = eval e X.env := by rfl) (hline : (apos.endLine == cpos.line) = true := by rfl)
    (hs : starEach [.Call (.Attribute e "values" apos) [] [] cpos] X.env = (false, eval (.Call (.Attribute e "values" apos) [] [] cpos) X.env) :: starEach [] X.env := by rfl) :
    PE X (.Call (.Name "list" p) [.Call (.Attribute e "values" apos) [] [] cpos] [] pos) (tListVals te) := by
  refine ⟨fun pins s σ H Q I hq => ?_⟩
  refine wpAny_Call_Name_kw (ld_blt (u := .type "list") I hg hm (by decide +kernel) ?_ (by decide) (by decide))
  refine PyProof.Rows.callWith_type1 ?_ hs rfl
  rw [hs]
  show wpAny _ _ (spliced ((false, eval (.Call (.Attribute e "values" apos) [] [] cpos) X.env) :: backTo pos (starEach [] X.env))) _ _ s
  refine Calls.spliced_cons ?_
  refine wpAny_Call_method (T := "dict") (id := "dict.values") hbase rfl hline F.plainAttrs_dict F.slot_dict_values F.type_dict_values (thn (he.run pins s σ H _ I hq) fun u s1 ⟨x, H1, I1, rx, d, kvs, ex, hd, q⟩ => ?_)
  subst ex
  obtain rfl : u = Value.ref d := rx
  obtain ⟨t1, t2, lo⟩ := isD_at I1 (.inr ⟨kvs, .inl hd⟩)
  refine ⟨t1, t2, ?_⟩
  obtain ⟨hz, _, xs, pr, o, es, ep, ho, hx, hdt, hes, _⟩ := I1.hok d _ hd
  have raw : s1.heap.DictRaw d es ep := ⟨o, ho, hx, hdt⟩
  have lk : kvs.length = xs.length := Paired.length pr
  have lz : es.size = kvs.length := by rw [← Array.length_toList, hes, List.length_map, lk]
  have I2 : Inv X pins σ H1 { s1 with heap := s1.heap.push { cls := .type "dict_values", data := .fields #[.ref d] } } := I1.kept (t' := s1.toks) fun b ob q => Heap.get?_push_of_some _ q
  show wpAny _ _ (callWith cpos (.builtin "dict.values") [.ref d] [] []) _ X.xe s1
  refine method_meetsIn F.slot_dict_values F.entry_dict_values rfl (PySem.evalArgs_none ⟨rfl, raw.typeIs, F.args_dict_values_1 _, _, meets_dict_values_raw d lo, ⟨es, ep, raw⟩, ?_⟩)
  refine Calls.spliced_nil ?_
  refine PySem.W.kdl_call (PySem.KdlSrc.rawValues (r := s1.heap.objs.size) (d := d) (es := es) (ep := ep)) (I1.ok.hd hc) ⟨⟨_, Heap.get?_push_size _ rfl, rfl, rfl⟩, raw.push _⟩ (by omega) fun h' tk acc c hk hS hacc => ?_
  have hv : Vals (kvs.map (·.2)) acc.toList := by
    obtain ⟨hn, hi⟩ := hacc
    have key : ∀ (j : Nat) (kv : List Key × V), kvs[j]? = some kv → ∃ u, acc.toList[j]? = some u ∧ RelV kv.2 u := fun j kv hj => by
      obtain ⟨x, e1, _, _, e2⟩ := LiI.paired_get pr hj
      have hj' : j < es.size := by rw [lz]; exact (List.getElem?_eq_some_iff.mp hj).1
      have hja : j < acc.size := by omega
      obtain ⟨_, ev⟩ := hi j acc[j] (by simp [hja])
      have e3 : es.toList[j]? = some es[j] := by simp [hj']
      rw [hes, List.getElem?_map, e1] at e3
      have e4 : entryOfKey (tupleKind (mixKind X.prog X.w)) x = es[j] := Option.some.inj e3
      refine ⟨acc[j], by simp [hja], ?_⟩
      rw [ev, ← e4]
      exact e2
    have hlen : acc.toList.length = kvs.length := by rw [Array.length_toList]; omega
    exact vals_of_get hlen key
  refine ⟨.ref _, upd H1 _ (.lst (kvs.map (·.2))), I2.laid (t' := tk) hk (Nat.le_refl _) ⟨by rw [List.length_map]; exact hz, acc.toList, c, hv, by rw [Array.toArray_toList]; exact hS⟩, rfl, q _ (I2.hok.fresh (Nat.le_refl _))⟩
end
/-! ### d.get(k), d a dict of the module -/
def KGet (K : PySem.W.Frag) (w : World) (a : Addr) (x : Str) (o : Option V) : Prop := (∃ v, KDct K w a x v ∧ o = some v) ∨ (KMiss K w a x ∧ o = none)
def tKGet (K : PySem.W.Frag) (w : World) (td ty : TE) : TE := fun σ H Q => td σ H fun x H1 => ∃ a, x = .ref a ∧ (∃ z o, KGet K w a z o) ∧ ty σ H1 fun y H2 => ∃ z o, y = .str z ∧ KGet K w a z o ∧ Q (o.getD .non) H2
theorem KGet.at {K : PySem.W.Frag} {w : World} {a : Addr} {x : Str} {o : Option V} (g : KGet K w a x o) : ∃ es n, K.lookup a = some ⟨.type "dict", none, .dict es n, #[]⟩ ∧ PySem.W.KeysLit w.params es.toList ∧ ∃ r, PySem.W.nsIn K a x = some r ∧ RelV (o.getD .non) (r.getD .none) := by
  rcases g with ⟨v, ⟨es, n, u, h1, h2, h3, h4⟩, rfl⟩ | ⟨⟨es, n, h1, h2, h3, h4⟩, rfl⟩
  · exact ⟨es, n, h1, h2, some u, h3, h4⟩
  · exact ⟨es, n, h1, h2, none, h4, rfl⟩
section
variable {X : Cx} {o e : Expr} {apos cpos : Pos} {td ty : TE}
theorem pe_kget (hlo : ∀ a, X.K.lookup a ≠ none → (a == sysModules) = false) (ho : PE X o td) (he : PE X e ty) (m : M1 X o "get" apos e cpos) : PE X (.Call (.Attribute o "get" apos) [e] [] cpos) (tKGet X.K X.w td ty) := by
  refine ⟨fun pins s σ H Q I h => ?_⟩
  refine wpAny_Call_method m.base m.few m.line PySem.F.plainAttrs_dict PySem.F.slot_dict_get PySem.F.type_dict_get (thn (ho.run pins s σ H _ I h) fun u s1 ⟨x, H1, I1, rx, a, ex, ⟨z0, o0, g0⟩, q1⟩ => ?_)
  subst ex
  obtain rfl : u = Value.ref a := rx
  obtain ⟨es, n, hl, hk, _⟩ := g0.at
  have hm0 := PySem.W.mapOf_K (prog := X.prog) (w := X.w) I1.kIn hl hk
  have hlo' := hlo a (by rw [hl]; exact fun z => nomatch z)
  refine ⟨hm0.typeIs, hm0.noDict, ?_⟩
  rw [m.trees]
  refine Calls.callWith_builtin rfl (Calls.evalArgs_plain (Calls.spliced_cons (thn (he.run pins s1 σ H1 _ I1 q1) fun iv s2 ⟨y, H2, I2, ry, z, ov, ey, g, q2⟩ => Calls.spliced_nil ?_)))
  subst ey
  obtain ⟨t, rfl⟩ := ry
  obtain ⟨es', n', hl', hk', r, hr, rv⟩ := g.at
  have hm := PySem.W.mapOf_K (prog := X.prog) (w := X.w) I2.kIn hl' hk'
  refine call_meetsIn PySem.F.slot_dict_get hm.typeIs PySem.F.entry_dict_get (PySem.F.args_dict_get_2 _ _) (meets_dict_get (knd := strKind X.prog X.w) (d := a) (strKind_is X.prog X.w z t) hlo') ⟨_, hm, ?_⟩
  refine ⟨ov.getD .non, H2, I2.tok _, ?_, q2⟩
  show RelV (ov.getD .non) ((findBy Value.isStrOf es' z).getD .none)
  rw [PySem.W.find_K hl' hr]
  exact rv
end
end DL

namespace DL
open PySem PySem.Spec PyProof.Rows L2
open Evl (Ex ex_rd ex_l ex_t)

/-! ### dicts, told by entities -/
def keyD : Key → PyData
  | .inl i => .int i
  | .inr s => .str s
section
variable {κ : Type} [DecidableEq κ]
def valE (kes : List (κ × Ent)) (k : κ) : Option Ent := (kes.find? fun kv => decide (kv.1 = k)).map (·.2)
def putE (kes : List (κ × Ent)) (k : κ) (e : Ent) : List (κ × Ent) :=
  if (kes.any fun kv => decide (kv.1 = k)) = true then kes.map (fun kv => if kv.1 = k then (kv.1, e) else kv) else kes ++ [(k, e)]
def KE (K : PySem.W.Frag) (F : Hp) : List (κ × V) → List (κ × Ent) → Prop := Paired fun p q => p.1 = q.1 ∧ EntOk K F p.2 q.2
end
section
variable {κ : Type} [DecidableEq κ] {K : PySem.W.Frag} {F F' : Hp}
theorem KE.mono (x : Ex F F') {kvs : List (κ × V)} {kes : List (κ × Ent)} (h : KE K F kvs kes) : KE K F' kvs kes := Paired.mapP h fun a b q => ⟨q.1, EntOk.mono x q.2⟩
theorem KE.any : ∀ {kvs : List (κ × V)} {kes : List (κ × Ent)} (h : KE K F kvs kes) (k : κ), (kvs.any fun kv => decide (kv.1 = k)) = (kes.any fun kv => decide (kv.1 = k))
  | _, _, .nil, _ => rfl
  | _, _, .cons h t, k => by
    rw [List.any_cons, List.any_cons, h.1, KE.any t k]
theorem KE.val : ∀ {kvs : List (κ × V)} {kes : List (κ × Ent)} (h : KE K F kvs kes) (k : κ), (valE kes k = none → valV kvs k = none) ∧ ∀ e, valE kes k = some e → ∃ v, valV kvs k = some v ∧ EntOk K F v e
  | _, _, .nil, _ => ⟨fun _ => rfl, fun e h => by simp [valE] at h⟩
  | _, _, .cons (a := a) (b := b) h t, k => by
    have ih := KE.val t k
    by_cases e : b.1 = k
    · have ea : a.1 = k := h.1.trans e
      refine ⟨fun q => ?_, fun x q => ?_⟩
      · simp [valE, List.find?_cons, e] at q
      · simp [valE, List.find?_cons, e] at q
        subst q
        exact ⟨a.2, valV_pos ea, h.2⟩
    · have ea : ¬ a.1 = k := fun q => e (h.1 ▸ q)
      have e1 : ∀ l : List (κ × Ent), valE (b :: l) k = valE l k := fun l => by simp [valE, List.find?_cons, e]
      rw [e1, valV_neg ea]
      exact ih
theorem KE.map_put (k : κ) {v : V} {x : Ent} (hv : EntOk K F v x) : ∀ {kvs : List (κ × V)} {kes : List (κ × Ent)}, KE K F kvs kes → KE K F (kvs.map fun kv => if kv.1 = k then (kv.1, v) else kv) (kes.map fun kv => if kv.1 = k then (kv.1, x) else kv)
  | _, _, .nil => .nil
  | _, _, .cons (a := a) (b := b) h t => by
    refine .cons ?_ (KE.map_put k hv t)
    dsimp only
    by_cases e : b.1 = k
    · rw [if_pos (h.1.trans e), if_pos e]
      exact ⟨h.1, hv⟩
    · rw [if_neg (fun q => e (h.1 ▸ q)), if_neg e]
      exact h
theorem KE.append {kvs kvs' : List (κ × V)} {kes kes' : List (κ × Ent)} : KE K F kvs kes → KE K F kvs' kes' → KE K F (kvs ++ kvs') (kes ++ kes')
  | .nil, h => h
  | .cons a t, h => .cons a (KE.append t h)
theorem KE.put {kvs : List (κ × V)} {kes : List (κ × Ent)} (h : KE K F kvs kes) (k : κ) {v : V} {x : Ent} (hv : EntOk K F v x) : KE K F (putK kvs k v) (putE kes k x) := by
  unfold putK putE
  rw [KE.any h k]
  split
  · exact KE.map_put k hv h
  · exact KE.append h (.cons ⟨rfl, hv⟩ .nil)
theorem KE.len {kvs : List (κ × V)} {kes : List (κ × Ent)} (h : KE K F kvs kes) : kvs.length = kes.length := Paired.length h
end
theorem valE_put {κ : Type} [DecidableEq κ] (kes : List (κ × Ent)) (k j : κ) (x : Ent) : valE (putE kes k x) j = if j = k then some x else valE kes j := by
  have gen : ∀ l : List (κ × Ent), valE (l.map fun kv => if kv.1 = k then (kv.1, x) else kv) j = (valE l j).map fun y => if j = k then x else y := by
    intro l
    induction l with
    | nil => rfl
    | cons p r ih =>
      unfold valE at ih ⊢
      rw [List.map_cons]
      by_cases h : p.1 = k
      · rw [if_pos h]
        by_cases h2 : p.1 = j
        · have : j = k := h2 ▸ h
          simp [List.find?_cons, h2, this]
        · rw [List.find?_cons, List.find?_cons]
          simp only [h2, decide_false]
          exact ih
      · rw [if_neg h]
        by_cases h2 : p.1 = j
        · have : ¬ j = k := fun q => h (h2.trans q)
          simp [List.find?_cons, h2, this]
        · rw [List.find?_cons, List.find?_cons]
          simp only [h2, decide_false]
          exact ih
  have gen2 : ∀ l : List (κ × Ent), (l.any fun kv => decide (kv.1 = k)) = (valE l k).isSome := by
    intro l
    induction l with
    | nil => rfl
    | cons p r ih =>
      rw [List.any_cons, ih]
      by_cases h : p.1 = k
      · simp [valE, List.find?_cons, h]
      · simp [valE, List.find?_cons, h]
  unfold putE
  rw [gen2]
  by_cases hk : (valE kes k).isSome = true
  · rw [if_pos hk, gen]
    by_cases e : j = k
    · subst e
      rw [if_pos rfl]
      obtain ⟨y, hy⟩ := Option.isSome_iff_exists.mp hk
      rw [hy]
      simp
    · simp [e]
  · rw [if_neg hk]
    have hn : valE kes k = none := by
      cases q : valE kes k with
      | none => rfl
      | some y => rw [q] at hk; simp at hk
    unfold valE at hn ⊢
    rw [List.find?_append]
    by_cases e : j = k
    · subst e
      rw [if_pos rfl]
      have : kes.find? (fun kv => decide (kv.1 = j)) = none := by
        cases q : kes.find? (fun kv => decide (kv.1 = j)) with
        | none => rfl
        | some y => rw [q] at hn; simp at hn
      rw [this]
      simp
    · rw [if_neg e]
      have e' : ¬ k = j := fun q => e q.symm
      cases q : kes.find? (fun kv => decide (kv.1 = j)) with
      | none => simp [e']
      | some y => simp

section
variable {K : PySem.W.Frag} {F F' B B' H H' : Hp} {M M' : Mh} {G G' : Gm} {σ : L2.St} {v : V} {e x y : Ent} {R : Ent → Mh → Prop} {RB : Bool → Mh → Prop} {ta tb tc te to td ty tx : TE} {t u : TT} {D : DE} {ts us : TS}
theorem Da.kV {k : Key} (h : Da K F v (keyD k)) : v = kV k := by
  cases k with
  | inl i => exact Da.int_inv h
  | inr s => exact Da.str_inv h
theorem da_keys : ∀ {ks : List Key} {xs : List V}, DaAll K F xs (ks.map keyD) → xs = ks.map kV
  | [], _, h => by cases h; rfl
  | k :: ks, _, h => by
    cases h with
    | cons h1 h2 => rw [Da.kV h1, da_keys h2]; rfl
/-- e1 is a dict of ours, e2 a key; what it finds -/
inductive DG (M : Mh) : Ent → Ent → Option Ent → Prop
  | k {p : Addr} {kes : List (Key × Ent)} (k : Key) (h : M p = some (.dK kes)) : DG M (.v (.ref p)) (.d (keyD k)) (valE kes k)
  | f {p : Addr} {od : Obj} {kvs : List (Key × V)} {kes : List (Key × Ent)} (k : Key) (h : M p = some (.fK od kvs kes)) : DG M (.v (.ref p)) (.d (keyD k)) (valE kes k)
  | t {p : Addr} {kes : List (List Key × Ent)} (ks : List Key) (h : M p = some (.dT kes)) : DG M (.v (.ref p)) (.d (.tuple (ks.map keyD))) (valE kes ks)
theorem DG.get {o : Option Ent} (g : DG M x y o) {a b : V} (m : MOk K M H) (ha : EntOk K (less H M) a x) (hb : EntOk K (less H M) b y) : ∃ p ov, a = .ref p ∧ IsD H p ∧ DGet H p b ov ∧ (o = none → ov = none) ∧ ∀ e, o = some e → ∃ v, ov = some v ∧ EntOk K (less H M) v e := by
  cases g with
  | k k h =>
    rename_i p kes
    obtain ⟨o, e1, kvs, e2, r⟩ := m p _ h
    subst e2
    cases ha
    rw [Da.kV hb]
    exact ⟨p, _, rfl, .inl ⟨kvs, .inl e1⟩, DGet.k e1, (KE.val r k).1, (KE.val r k).2⟩
  | f k h =>
    rename_i p od kvs kes
    obtain ⟨o, e1, e2, r⟩ := m p _ h
    subst e2
    cases ha
    rw [Da.kV hb]
    exact ⟨p, _, rfl, .inl ⟨kvs, .inr ⟨od, e1⟩⟩, .inl ⟨kvs, k, .inr ⟨od, e1⟩, rfl, rfl⟩, (KE.val r k).1, (KE.val r k).2⟩
  | t ks h =>
    rename_i p kes
    obtain ⟨o, e1, kvs, e2, r⟩ := m p _ h
    subst e2
    cases ha
    cases hb with
    | tup g1 g2 =>
      rename_i q xs
      have e := da_keys g2
      subst e
      exact ⟨p, _, rfl, .inr ⟨kvs, .inl e1⟩, DGet.t e1 (less_ex _ _ g1), (KE.val r ks).1, (KE.val r ks).2⟩
theorem w_dget (h : W K td G M fun e1 M1 => W K ty G M1 fun e2 M2 => ∃ e, DG M2 e1 e2 (some e) ∧ R e M2) : W K (tDGet td ty) G M R := fun B σ H k Q q =>
  h B σ H k _ fun a H1 e1 M1 h1 k1 ha => h1 (less H1 M1) σ H1 k1.rebase _ fun b H2 e2 M2 h2 k2 hb => by
    obtain ⟨e, g, r⟩ := h2
    obtain ⟨p, ov, rfl, _, dg, _, f⟩ := g.get k2.m (ha.mono k2.ex) hb
    obtain ⟨z, rfl, hz⟩ := f e rfl
    exact ⟨p, z, rfl, dg, q z H2 e M2 r (k2.base k1.ex) hz⟩
def IsDict (M : Mh) : Ent → Prop
  | .v (.ref p) => (∃ kes, M p = some (.dK kes)) ∨ (∃ od kvs kes, M p = some (.fK od kvs kes)) ∨ ∃ kes, M p = some (.dT kes)
  | _ => False
theorem IsDict.at (g : IsDict M x) {a : V} (m : MOk K M H) (ha : EntOk K (less H M) a x) : ∃ p, a = .ref p ∧ IsD H p := by
  cases x with
  | d d => exact g.elim
  | s d => exact g.elim
  | v w =>
    cases w with
    | ref p =>
      cases ha
      rcases g with ⟨kes, h⟩ | ⟨od, kvs, kes, h⟩ | ⟨kes, h⟩
      · obtain ⟨o, e1, kvs, e2, r⟩ := m p _ h
        subst e2
        exact ⟨p, rfl, .inl ⟨kvs, .inl e1⟩⟩
      · obtain ⟨o, e1, e2, r⟩ := m p _ h
        subst e2
        exact ⟨p, rfl, .inl ⟨kvs, .inr ⟨od, e1⟩⟩⟩
      · obtain ⟨o, e1, kvs, e2, r⟩ := m p _ h
        subst e2
        exact ⟨p, rfl, .inr ⟨kvs, .inl e1⟩⟩
    | _ => exact g.elim
theorem w_dget1 (h : W K td G M fun e1 M1 => IsDict M1 e1 ∧ W K ty G M1 fun e2 M2 => ∃ o, DG M2 e1 e2 o ∧ R (o.getD (.d .none)) M2) : W K (tDGet1 td ty) G M R := fun B σ H k Q q =>
  h B σ H k _ fun a H1 e1 M1 h1 k1 ha => by
    obtain ⟨p, rfl, d⟩ := h1.1.at k1.m ha
    refine ⟨p, rfl, d, h1.2 (less H1 M1) σ H1 k1.rebase _ fun b H2 e2 M2 h2 k2 hb => ?_⟩
    obtain ⟨o, g, r⟩ := h2
    obtain ⟨p', ov, e, _, dg, f0, f⟩ := g.get k2.m (ha.mono k2.ex) hb
    cases e
    refine ⟨ov, dg, ?_⟩
    cases o with
    | none =>
      rw [f0 rfl]
      exact q _ H2 _ M2 r (k2.base k1.ex) .non
    | some e =>
      obtain ⟨z, rfl, hz⟩ := f e rfl
      exact q z H2 e M2 r (k2.base k1.ex) hz
theorem w_dget2 (h : W K td G M fun e1 M1 => IsDict M1 e1 ∧ W K ty G M1 fun e2 M2 => W K tx G M2 fun e3 M3 => ∃ o, DG M3 e1 e2 o ∧ R (o.getD e3) M3) : W K (tDGet2 td ty tx) G M R := fun B σ H k Q q =>
  h B σ H k _ fun a H1 e1 M1 h1 k1 ha => by
    obtain ⟨p, rfl, d⟩ := h1.1.at k1.m ha
    refine ⟨p, rfl, d, h1.2 (less H1 M1) σ H1 k1.rebase _ fun b H2 e2 M2 h2 k2 hb => h2 (less H2 M2) σ H2 k2.rebase _ fun c H3 e3 M3 h3 k3 hc => ?_⟩
    obtain ⟨o, g, r⟩ := h3
    obtain ⟨p', ov, e, _, dg, f0, f⟩ := g.get k3.m (ha.mono (k2.ex.trans k3.ex)) (hb.mono k3.ex)
    cases e
    refine ⟨ov, dg, ?_⟩
    have kk := k3.base (k1.ex.trans k2.ex)
    cases o with
    | none =>
      rw [f0 rfl]
      exact q _ H3 _ M3 r kk hc
    | some e =>
      obtain ⟨z, rfl, hz⟩ := f e rfl
      exact q z H3 e M3 r kk hz
theorem w_din (h : W K ty G M fun e2 M1 => W K td G M1 fun e1 M2 => ∃ o, DG M2 e1 e2 o ∧ R (.d (.bool o.isSome)) M2) : W K (tDIn ty td) G M R := fun B σ H k Q q =>
  h B σ H k _ fun b H1 e2 M1 h1 k1 hb => h1 (less H1 M1) σ H1 k1.rebase _ fun a H2 e1 M2 h2 k2 ha => by
    obtain ⟨o, g, r⟩ := h2
    obtain ⟨p, ov, rfl, _, dg, f0, f⟩ := g.get k2.m ha (hb.mono k2.ex)
    refine ⟨p, ov, rfl, dg, ?_⟩
    have e : ov.isSome = o.isSome := by
      cases o with
      | none =>
        rw [f0 rfl]
        rfl
      | some e =>
        obtain ⟨z, rfl, _⟩ := f e rfl
        rfl
    rw [e]
    exact q _ H2 _ M2 r (k2.base k1.ex) (.bl _)
/-- d[k] = v: into a dict of ours -/
inductive DP (M : Mh) (e : Ent) : Ent → Ent → Mh → Prop
  | k {p : Addr} {kes : List (Key × Ent)} (k : Key) (h : M p = some (.dK kes)) (hl : kes.length < sizeLine) : DP M e (.v (.ref p)) (.d (keyD k)) (mupd M p (.dK (putE kes k e)))
  | t {p : Addr} {kes : List (List Key × Ent)} (ks : List Key) (h : M p = some (.dT kes)) (hl : kes.length < sizeLine) : DP M e (.v (.ref p)) (.d (.tuple (ks.map keyD))) (mupd M p (.dT (putE kes ks e)))
theorem ru_dput (h : W K te G M fun e M1 => W K td G M1 fun e1 M2 => W K ty G M2 fun e2 M3 => ∃ M4, DP M3 e e1 e2 M4 ∧ D.nx G M4) : Ru K (sDPut td ty te) G M D := fun B σ H Z k r =>
  h B σ H k _ fun v H1 e M1 h1 k1 hv => h1 (less H1 M1) σ H1 k1.rebase _ fun a H2 e1 M2 h2 k2 ha => h2 (less H2 M2) σ H2 k2.rebase _ fun b H3 e2 M3 h3 k3 hb => by
    obtain ⟨M4, g, n⟩ := h3
    have kk : Ok K B M3 G σ H3 := k3.base (k1.ex.trans k2.ex)
    have ha' := ha.mono k3.ex
    have hv' := hv.mono (k2.ex.trans k3.ex)
    cases g with
    | k k0 hp hl =>
      rename_i p kes
      obtain ⟨o, e1, kvs, e2, rr⟩ := k3.m p _ hp
      subst e2
      cases ha'
      rw [Da.kV hb]
      exact ⟨p, _, rfl, DPut.k e1 (by rw [KE.len rr]; exact hl), r.nx G _ σ _ n (kk.write hp ⟨_, rfl, KE.put rr k0 hv'⟩)⟩
    | t ks hp hl =>
      rename_i p kes
      obtain ⟨o, e1, kvs, e2, rr⟩ := k3.m p _ hp
      subst e2
      cases ha'
      cases hb with
      | tup g1 g2 =>
        rename_i qa xs
        have e := da_keys g2
        subst e
        exact ⟨p, _, rfl, DPut.t e1 (less_ex _ _ g1) (by rw [KE.len rr]; exact hl), r.nx G _ σ _ n (kk.write hp ⟨_, rfl, KE.put rr ks hv'⟩)⟩
/-- d.setdefault(k, x) -/
theorem w_dsetd (h : W K td G M fun e1 M1 => IsDict M1 e1 ∧ W K ty G M1 fun e2 M2 => W K tx G M2 fun e3 M3 => ∃ p kes k, e1 = .v (.ref p) ∧ e2 = .d (keyD k) ∧ M3 p = some (.dK kes) ∧ kes.length < sizeLine ∧
    (∀ e, valE kes k = some e → R e M3) ∧ (valE kes k = none → R e3 (mupd M3 p (.dK (putE kes k e3))))) : W K (tDSetd td ty tx) G M R := fun B σ H k Q q =>
  h B σ H k _ fun a H1 e1 M1 h1 k1 ha => by
    obtain ⟨p, rfl, d⟩ := h1.1.at k1.m ha
    refine ⟨p, rfl, d, h1.2 (less H1 M1) σ H1 k1.rebase _ fun b H2 e2 M2 h2 k2 hb => h2 (less H2 M2) σ H2 k2.rebase _ fun c H3 e3 M3 h3 k3 hc => ?_⟩
    obtain ⟨p', kes, k0, rfl, rfl, hp, hl, r1, r2⟩ := h3
    cases ha
    obtain ⟨o, g1, kvs, g2, rr⟩ := k3.m p _ hp
    subst g2
    have kk : Ok K B M3 G σ H3 := k3.base (k1.ex.trans k2.ex)
    refine ⟨kvs, k0, g1, Da.kV hb, by rw [KE.len rr]; exact hl, fun v hv => ?_, fun hn => ?_⟩
    · cases hE : valE kes k0 with
      | none => rw [(KE.val rr k0).1 hE] at hv; cases hv
      | some e =>
        obtain ⟨z, e1, e2⟩ := (KE.val rr k0).2 e hE
        rw [hv] at e1
        cases e1
        exact q _ H3 e M3 (r1 e hE) kk e2
    · have hE : valE kes k0 = none := by
        cases hE : valE kes k0 with
        | none => rfl
        | some e =>
          obtain ⟨z, e1, _⟩ := (KE.val rr k0).2 e hE
          rw [hn] at e1
          cases e1
      refine q _ _ e3 _ (r2 hE) (kk.write hp ⟨_, rfl, KE.put rr k0 hc⟩) ?_
      rw [less_mupd_same hp, less_upd_mut hp]
      exact hc
/-- {}, keys ints and texts; keys tuples -/
theorem w_dnewK (r : ∀ p, M p = none → R (.v (.ref p)) (mupd M p (.dK []))) : W K tDNewK G M R := fun B σ H k Q q p hp => q _ _ _ _ (r p (k.m.free hp)) (k.mnew hp ⟨[], rfl, .nil⟩) rfl
theorem w_dnewT (r : ∀ p, M p = none → R (.v (.ref p)) (mupd M p (.dT []))) : W K tDNewT G M R := fun B σ H k Q q p hp => q _ _ _ _ (r p (k.m.free hp)) (k.mnew hp ⟨[], rfl, .nil⟩) rfl
/-! a written dict -/
def WPs (K : PySem.W.Frag) : List (TE × TE) → Gm → Mh → (List (Ent × Ent) → Mh → Prop) → Prop
  | [], _, M, R => R [] M
  | (tk, tv) :: r, G, M, R => W K tk G M fun e1 M1 => W K tv G M1 fun e2 M2 => WPs K r G M2 fun ps M3 => R ((e1, e2) :: ps) M3
theorem wps_run : ∀ {trs : List (TE × TE)} {M : Mh} {R : List (Ent × Ent) → Mh → Prop}, WPs K trs G M R → ∀ (B : Hp) (σ : L2.St) (H : Hp), Ok K B M G σ H → ∀ Q : List (V × V) → Hp → Prop, (∀ ps H' es M', R es M' → Ok K B M' G σ H' → Paired (fun (p : V × V) (q : Ent × Ent) => EntOk K (less H' M') p.1 q.1 ∧ EntOk K (less H' M') p.2 q.2) ps es → Q ps H') → tPairs trs σ H Q
  | [], M, R, h, B, σ, H, k, Q, q => q [] H [] M h k .nil
  | (tk, tv) :: r, M, R, h, B, σ, H, k, Q, q => (show W K tk G M _ from h) B σ H k _ fun a H1 e1 M1 h1 k1 ha => h1 (less H1 M1) σ H1 k1.rebase _ fun b H2 e2 M2 h2 k2 hb =>
    wps_run h2 (less H2 M2) σ H2 k2.rebase _ fun ps H3 es M3 h3 k3 hp => q ((a, b) :: ps) H3 ((e1, e2) :: es) M3 h3 (k3.base (k1.ex.trans k2.ex)) (.cons ⟨ha.mono (k2.ex.trans k3.ex), hb.mono k3.ex⟩ hp)
def mergeE (kes more : List (Key × Ent)) : List (Key × Ent) := more.foldl (fun acc kv => putE acc kv.1 kv.2) kes
theorem KE.merge : ∀ {more : List (Key × V)} {morE : List (Key × Ent)} {kvs : List (Key × V)} {kes : List (Key × Ent)}, KE K F more morE → KE K F kvs kes → KE K F (mergeK kvs more) (mergeE kes morE)
  | _, _, _, _, .nil, h => h
  | _, _, _, _, .cons (a := a) (b := b) q t, h => by
    unfold mergeK mergeE
    rw [List.foldl_cons, List.foldl_cons, q.1]
    exact KE.merge t (KE.put h b.1 q.2)
theorem w_disp {trs : List (TE × TE)} (h : ∀ p, M p = none → WPs K trs G (mupd M p (.dK [])) fun es M1 => M1 p = some (.dK []) ∧ ∃ kes : List (Key × Ent), es = kes.map (fun kv => (Ent.d (keyD kv.1), kv.2)) ∧ kes.length ≤ 15 ∧ R (.v (.ref p)) (mupd M1 p (.dK (mergeE [] kes)))) : W K (tDisp trs) G M R := fun B σ H k Q q p hp => by
  refine wps_run (h p (k.m.free hp)) B σ _ (k.mnew hp ⟨[], rfl, .nil⟩) _ fun ps H' es M' h' k' hps => ?_
  obtain ⟨h1, kes, rfl, hl, r⟩ := h'
  obtain ⟨o, e1, kvs0, e2, r0⟩ := k'.m p _ h1
  subst e2
  have hk0 : kvs0 = [] := by cases r0; rfl
  subst hk0
  have hex : ∀ (kes : List (Key × Ent)) (ps : List (V × V)), Paired (fun (p : V × V) (q : Ent × Ent) => EntOk K (less H' M') p.1 q.1 ∧ EntOk K (less H' M') p.2 q.2) ps (kes.map (fun kv => (Ent.d (keyD kv.1), kv.2))) → ∃ kvs : List (Key × V), ps = kvs.map (fun kv => (kV kv.1, kv.2)) ∧ KE K (less H' M') kvs kes := by
    intro kes
    induction kes with
    | nil => intro ps h; cases h; exact ⟨[], rfl, .nil⟩
    | cons kv kes ih =>
      intro ps h
      cases h with
      | cons a t =>
        obtain ⟨kvs, rfl, ke⟩ := ih _ t
        rename_i pv
        refine ⟨(kv.1, pv.2) :: kvs, ?_, .cons ⟨rfl, a.2⟩ ke⟩
        rw [List.map_cons, ← Da.kV a.1]
  obtain ⟨kvs, rfl, ke⟩ := hex kes ps hps
  refine ⟨e1, kvs, rfl, by rw [KE.len ke]; exact hl, q _ _ _ _ r (k'.write h1 ⟨_, rfl, KE.merge ke .nil⟩) rfl⟩
/-! dict(list of pairs) -/
theorem rc_dictP {ps : List (Key × PyData)} (h : SeqL K M x ((ps.map fun kv => PyData.tuple [keyD kv.1, kv.2]).map Ent.d)) (r : ∀ p, M p = none → R (.v (.ref p)) (mupd M p (.dK (mergeE [] (ps.map fun kv => (kv.1, Ent.d kv.2)))))) :
    RC K (fun xs H Q => ∃ (a : Addr) (ps : List Addr) (kvs : List (Key × V)), xs = [.ref a] ∧ SqL K H a (ps.map V.ref) ∧ Paired (fun p kv => SqT K H p [kV kv.1, kv.2]) ps kvs ∧ ∀ p, H p = none → Q (.ref p) (upd H p (.dK (mergeK [] kvs)))) [x] M R := fun vs H m hv Q q => by
  obtain ⟨v, rfl, h0⟩ := ents1 hv
  obtain ⟨a, xs, rfl, h1, h2⟩ := h H v m h0
  have hex : ∀ (ps : List (Key × PyData)) (xs : List V), DaAll K (less H M) xs (ps.map fun kv => PyData.tuple [keyD kv.1, kv.2]) → ∃ (as : List Addr) (kvs : List (Key × V)), xs = as.map V.ref ∧ Paired (fun p kv => SqT K H p [kV kv.1, kv.2]) as kvs ∧ KE K (less H M) kvs (ps.map fun kv => (kv.1, Ent.d kv.2)) := by
    intro ps
    induction ps with
    | nil => intro xs h; cases h; exact ⟨[], [], rfl, .nil, .nil⟩
    | cons kv ps ih =>
      intro xs h
      cases h with
      | cons a t =>
        obtain ⟨as, kvs, rfl, p2, ke⟩ := ih _ t
        cases a with
        | tup g1 g2 =>
          rename_i b ys
          cases g2 with
          | cons j1 j2 =>
            cases j2 with
            | cons j3 j4 =>
              cases j4
              rename_i y1 y2
              refine ⟨b :: as, (kv.1, y2) :: kvs, rfl, .cons ?_ p2, .cons ⟨rfl, j3⟩ ke⟩
              rw [Da.kV j1] at g1
              exact SqT.of (less_ex _ _ g1)
  obtain ⟨as, kvs, rfl, p2, ke⟩ := hex ps xs (ents_data h2)
  refine ⟨a, as, kvs, rfl, SqL.of h1, p2, fun p hp => ?_⟩
  have k : Ok K (less H M) M [] [] H := ⟨Ex.refl _, m, rfl, fun i e z => by simp at z⟩
  have k2 := k.mnew (o := .dK (mergeK [] kvs)) (mo := .dK (mergeE [] (ps.map fun kv => (kv.1, Ent.d kv.2)))) hp ⟨_, rfl, KE.merge ke .nil⟩
  exact q _ _ _ _ (r p (m.free hp)) ⟨k2.ex, k2.m, rfl⟩
/-! a dict walked -/
theorem w_lockE {te : TE} (p : Addr) (kes : List (Key × Ent)) (hp : M p = some (.dK kes)) (h : ∀ od kvs, W K te G (mupd M p (.fK od kvs kes)) fun e M1 => M1 p = some (.fK od kvs kes) ∧ R e (mupd M1 p (.dK kes)) ∧ ∃ d, e = .d d) : W K (tLockE te) G M R := fun B σ H k Q q => by
  obtain ⟨o, e1, kvs, e2, rr⟩ := k.m p _ hp
  subst e2
  refine ⟨p, .dK kvs, e1, trivial, fun od => ?_⟩
  refine h od kvs B σ _ (k.write hp ⟨rfl, rr⟩) _ fun v H' e M1 h1 k1 hv => ?_
  obtain ⟨g1, g2, d, rfl⟩ := h1
  obtain ⟨o, e3, e4, r4⟩ := k1.m p _ g1
  subst e4
  refine ⟨e3, q _ _ _ _ g2 (k1.write g1 ⟨kvs, rfl, r4⟩) ?_⟩
  rw [less_mupd_same g1, less_upd_mut g1]
  exact hv
theorem wi_keys {R : List Ent → (Mh → Prop) → Mh → Prop} (h : W K td G M fun e M1 => ∃ p od kvs kes, e = .v (.ref p) ∧ M1 p = some (.fK od kvs kes) ∧ R (kes.map fun kv => Ent.d (keyD kv.1)) (fun M => M p = some (.fK od kvs kes)) M1) : WI K (iKeys td) G M R := fun B σ H k Q q =>
  h B σ H k _ fun v H1 e M1 h1 k1 hv => by
    obtain ⟨p, od, kvs, kes, rfl, hp, r⟩ := h1
    cases hv
    obtain ⟨o, e1, e2, rr⟩ := k1.m p _ hp
    subst e2
    have hl := KE.len rr
    refine ⟨p, od, rfl, .inl ⟨kvs, e1, q _ H1 _ _ M1 r k1 ⟨fun i H M hi x m g => ?_, fun H M x m g => ?_, fun i H M z H' hi x m g yl => ?_⟩⟩⟩
    · obtain ⟨o, e3, e4, r4⟩ := m p _ g
      subst e4
      rw [List.length_map] at hi
      exact ⟨e3, by omega⟩
    · obtain ⟨o, e3, e4, r4⟩ := m p _ g
      subst e4
      rw [List.length_map]
      exact ⟨e3, by omega⟩
    · obtain ⟨rfl, key, val, e5, rfl⟩ := yl
      obtain ⟨o, e3, e4, r4⟩ := m p _ g
      subst e4
      obtain ⟨q', e6, e7, _⟩ := LiI.paired_get r4 e5
      refine ⟨.d (keyD key), by rw [List.getElem?_map, e6]; show some (Ent.d (keyD q'.1)) = _; rw [← e7], .same m ?_⟩
      cases key with
      | inl i => exact .int i
      | inr s => exact .str s
end
/-! ### d.values() walked, locked from then on -/
def tLk (td : TE) : TE := fun σ H Q => td σ H fun x H1 => ∃ d kvs, x = .ref d ∧ H1 d = some (.dK kvs) ∧ ∀ od, Q x (upd H1 d (.frz od (.dK kvs)))
theorem pe_lk {X : Cx} {e : Expr} {td : TE} (he : PE X e td) : PE X e (tLk td) := ⟨fun pins s σ H Q I h => thn (he.run pins s σ H _ I h) fun u s1 ⟨x, H1, I1, rx, d, kvs, ex, hd, q⟩ => by
  obtain ⟨od, I2⟩ := I1.lock hd trivial
  exact ⟨x, _, I2, rx, q od⟩⟩
section
variable {K : PySem.W.Frag} {G : Gm} {M : Mh} {td : TE}
theorem w_lk {R : Ent → Mh → Prop} (h : W K td G M fun e M1 => ∃ p kes, e = .v (.ref p) ∧ M1 p = some (.dK kes) ∧ ∀ od kvs, R e (mupd M1 p (.fK od kvs kes))) : W K (tLk td) G M R := fun B σ H k Q q =>
  h B σ H k _ fun v H1 e M1 h1 k1 hv => by
    obtain ⟨p, kes, rfl, hp, r⟩ := h1
    cases hv
    obtain ⟨o, e1, kvs, e2, rr⟩ := k1.m p _ hp
    subst e2
    exact ⟨p, kvs, rfl, e1, fun od => q _ _ _ _ (r od kvs) (k1.write hp ⟨rfl, rr⟩) rfl⟩
theorem wi_vals {R : List Ent → (Mh → Prop) → Mh → Prop} (h : W K td G M fun e M1 => ∃ p od kvs kes, e = .v (.ref p) ∧ M1 p = some (.fK od kvs kes) ∧ R (kes.map (·.2)) (fun M => M p = some (.fK od kvs kes)) M1) : WI K (iVals td) G M R := fun B σ H k Q q =>
  h B σ H k _ fun v H1 e M1 h1 k1 hv => by
    obtain ⟨p, od, kvs, kes, rfl, hp, r⟩ := h1
    cases hv
    obtain ⟨o, e1, e2, rr⟩ := k1.m p _ hp
    subst e2
    have hl := KE.len rr
    refine ⟨p, od, kvs, rfl, e1, q _ H1 _ _ M1 r k1 ⟨fun i H M hi x m g => ?_, fun H M x m g => ?_, fun i H M z H' hi x m g yl => ?_⟩⟩
    · obtain ⟨o, e3, e4, r4⟩ := m p _ g
      subst e4
      rw [List.length_map] at hi
      exact ⟨e3, by omega⟩
    · obtain ⟨o, e3, e4, r4⟩ := m p _ g
      subst e4
      rw [List.length_map]
      exact ⟨e3, by omega⟩
    · obtain ⟨rfl, key, e5⟩ := yl
      obtain ⟨o, e3, e4, r4⟩ := m p _ g
      subst e4
      obtain ⟨q', e6, _, e8⟩ := LiI.paired_get r4 e5
      exact ⟨q'.2, by rw [List.getElem?_map, e6]; rfl, .same m e8⟩
end
end DL

namespace DL
open PySem PySem.Spec PyProof.Rows L2
open Evl (Ex ex_rd ex_l ex_t)

section
variable {K : PySem.W.Frag} {F F' B B' H H' : Hp} {M M' : Mh} {G G' : Gm} {σ : L2.St} {v : V} {e x y : Ent} {R : Ent → Mh → Prop} {ta tb tc te to td ty tx : TE} {t u : TT} {D : DE} {ts us : TS}
/-! ### calls with keywords -/
def RK (K : PySem.W.Frag) (r : List V → List V → Hp → VK → Prop) (xs zs : List Ent) (M : Mh) (R : Ent → Mh → Prop) : Prop :=
  ∀ (vs ws : List V) (H : Hp), MOk K M H → Ents K (less H M) vs xs → Ents K (less H M) ws zs → ∀ Q : VK, (∀ z H' e M', R e M' → RtOk K (less H M) M' e z H' → Q z H') → r vs ws H Q
theorem ents_mono' {vs : List V} {es : List Ent} (x : Ex F F') (h : Ents K F vs es) : Ents K F' vs es := Ents.mono x h
theorem w_ckw {r : List V → List V → Hp → VK → Prop} {ta tk : TA} (h : WA K ta G M fun es M1 => WA K tk G M1 fun zs M2 => RK K r es zs M2 R) : W K (tCKw r ta tk) G M R := fun B σ H k Q q =>
  h B σ H k _ fun vs H1 es M1 h1 k1 hv => h1 (less H1 M1) σ H1 k1.rebase _ fun ws H2 zs M2 h2 k2 hw =>
    h2 vs ws H2 k2.m (hv.mono k2.ex) hw Q fun z H3 e M3 r3 k3 => q z H3 e M3 r3 (k3.up (B' := B) (k2.base k1.ex)) k3.v
theorem rk_sumL {ls : List (List PyData)} (hx : SeqL K M x ((ls.map PyData.list).map Ent.d)) (hz : ls.flatten.length ≤ sizeLine) (r : R (.d (.list ls.flatten)) M) : RK K (rSumL K) [x] [.d (.list [])] M R := fun vs ws H m hv hw Q q => by
  obtain ⟨v, rfl, h0⟩ := ents1 hv
  obtain ⟨w, rfl, g0⟩ := ents1 hw
  obtain ⟨a, xs, rfl, h1, h2⟩ := hx H v m h0
  have hex : ∀ (ls : List (List PyData)) (xs : List V), DaAll K (less H M) xs (ls.map PyData.list) → ∃ (as : List Addr) (xss : List (List V)), xs = as.map V.ref ∧ as.length = xss.length ∧ xss.length = ls.length ∧ (∀ (i : Nat) l xs, as[i]? = some l → xss[i]? = some xs → H l = some (.lst xs)) ∧ DaAll K (less H M) xss.flatten ls.flatten := by
    intro ls
    induction ls with
    | nil => intro xs h; cases h; exact ⟨[], [], rfl, rfl, rfl, fun i l xs h => by simp at h, .nil⟩
    | cons l ls ih =>
      intro xs h
      cases h with
      | cons a t =>
        obtain ⟨as, xss, rfl, e1, e2, f, da⟩ := ih _ t
        cases a with
        | lst j1 j2 =>
          rename_i b ys
          refine ⟨b :: as, ys :: xss, rfl, by simp [e1], by simp [e2], fun i l xs p1 p2 => ?_, ?_⟩
          · cases i with
            | zero => cases p1; cases p2; exact less_ex _ _ j1
            | succ i => exact f i l xs (by simpa using p1) (by simpa using p2)
          · rw [List.flatten_cons, List.flatten_cons]
            exact j2.append da
  obtain ⟨as, xss, rfl, e1, e2, f, da⟩ := hex ls xs (ents_data h2)
  cases g0 with
  | lst j1 j2 =>
    cases j2
    rename_i b
    refine ⟨a, b, as, xss, rfl, rfl, SqL.of h1, less_ex _ _ j1, e1, f, by rw [da.length]; exact hz, fun hn => ?_, fun _ p hp => q _ _ _ M r (rt_new m hp (da_newL m hp da))⟩
    subst hn
    cases ls with
    | cons _ _ => simp at e2
    | nil => exact q _ _ _ M r (.same m (.lst j1 .nil))
theorem rk_maxDf {ns : List Int} {d : Int} {ds : List PyData} (hd : ds = ns.map .int) (hx : SeqL K M x (ds.map Ent.d)) (r : ∀ m, (ns = [] ∧ m = d ∨ m ∈ ns) → R (.d (.int m)) M) : RK K (rMaxDf K) [x] [.d (.int d)] M R := fun vs ws H m hv hw Q q => by
  subst hd
  obtain ⟨v, rfl, h0⟩ := ents1 hv
  obtain ⟨w, rfl, g0⟩ := ents1 hw
  obtain ⟨a, xs, rfl, h1, h2⟩ := hx H v m h0
  have e := da_ints (ents_data h2)
  subst e
  exact ⟨a, ns, d, rfl, by rw [Da.int_inv g0], SqL.of h1, fun n hn => q _ H _ M (r n hn) (.same m (.int _))⟩
/-! ### sorted -/
theorem sorted_da {xs : List V} {ds : List PyData} (h : DaAll K F xs ds) (r : V × PyData → V × PyData → Bool) (s : PyData → PyData → Bool) (hrs : ∀ a b, r a b = s a.2 b.2) : DaAll K F (((xs.zip ds).mergeSort r).map Prod.fst) (ds.mergeSort s) := by
  have e : ds.mergeSort s = ((xs.zip ds).mergeSort r).map Prod.snd := by
    rw [PySem.W.sort_maps Prod.snd (s := s) fun a _ b _ => hrs a b, zip_snd h.length]
  rw [e]
  have hm : ∀ p, p ∈ (xs.zip ds).mergeSort r → Da K F p.1 p.2 := fun p hp => by
    have hp' := (List.mergeSort_perm _ _).mem_iff.mp hp
    obtain ⟨i, hi, he⟩ := List.mem_iff_getElem.mp hp'
    have e1 : (xs.zip ds)[i]? = some p := by rw [List.getElem?_eq_getElem hi, he]
    rw [List.getElem?_zip_eq_some] at e1
    obtain ⟨d, e2, e3⟩ := h.getV e1.1
    rw [e1.2] at e2
    cases e2
    exact e3
  generalize (xs.zip ds).mergeSort r = l at hm
  induction l with
  | nil => exact .nil
  | cons p l ih => exact .cons (hm p List.mem_cons_self) (ih fun p' hp => hm p' (List.mem_cons_of_mem _ hp))
theorem rsortD {ds : List PyData} {rev : Bool} (hx : SeqL K M x (ds.map Ent.d)) (ok : SortOk ds) (r : R (.d (.list (ds.mergeSort (PySem.W.dataLe rev id)))) M) {v : V} (m : MOk K M H) (h0 : EntOk K (less H M) v x) {Q : VK} (q : ∀ z H' e M', R e M' → RtOk K (less H M) M' e z H' → Q z H') : rSortD K rev [v] H Q := by
  obtain ⟨a, xs, rfl, h1, h2⟩ := hx H v m h0
  have hd := ents_data h2
  exact ⟨a, xs, ds, rfl, SqL.of h1, DaAll.dp _ _ (DaAll.mono less_ex _ _ hd), ok, fun p hp => q _ _ _ M r (rt_new m hp (da_newL m hp (sorted_da hd _ _ fun a b => rfl)))⟩
theorem rc_sortD {ds : List PyData} (hx : SeqL K M x (ds.map Ent.d)) (ok : SortOk ds) (r : R (.d (.list (ds.mergeSort (PySem.W.dataLe false id)))) M) : RC K (rSortD K false) [x] M R := fun vs H m hv Q q => by
  obtain ⟨v, rfl, h0⟩ := ents1 hv
  exact rsortD hx ok r m h0 q
theorem rk_sortR {ds : List PyData} {rev : Bool} (hx : SeqL K M x (ds.map Ent.d)) (ok : SortOk ds) (r : R (.d (.list (ds.mergeSort (PySem.W.dataLe rev id)))) M) : RK K (fun vs zs H Q => zs = [.bl rev] ∧ rSortD K rev vs H Q) [x] [.d (.bool rev)] M R := fun vs ws H m hv hw Q q => by
  obtain ⟨v, rfl, h0⟩ := ents1 hv
  obtain ⟨w, rfl, g0⟩ := ents1 hw
  exact ⟨by rw [Da.bl_inv g0], rsortD hx ok r m h0 q⟩
theorem MOk.tabS {P : Addr} {q : Str} (m : MOk K M H) (hP : M P = some (.tab q)) : LamX.TabS H P q := by
  obtain ⟨o, e1, ps, e2, h1, h2⟩ := m P _ hP
  subst e2
  exact ⟨ps, e1, h1, fun pos cv hc => let ⟨c, a, b⟩ := h2 pos cv hc; ⟨c, a, less_ex _ _ b⟩⟩
/-- the lambda's table has grown, all else stands -/
theorem MOk.grown {P : Addr} {q : Str} {H2 : Hp} (m : MOk K M H) (hP : M P = some (.tab q)) (k : ∀ b o, b ≠ P → H b = some o → H2 b = some o) (hT : LamX.TabS H2 P q) : MOk K M H2 ∧ Ex (less H M) (less H2 M) := by
  have ex : Ex (less H M) (less H2 M) := fun b o e => by
    have hb : M b = none := by
      cases h : M b with
      | none => rfl
      | some mo =>
        rw [less_some h] at e
        cases e
    rw [less_none hb] at e ⊢
    exact k b o (fun z => by rw [z, hP] at hb; cases hb) e
  refine ⟨fun a mo h => ?_, ex⟩
  by_cases ha : a = P
  · subst ha
    rw [hP] at h
    cases h
    obtain ⟨ps, e1, h1, h2⟩ := hT
    refine ⟨_, e1, ps, rfl, h1, fun pos cv hc => ?_⟩
    obtain ⟨c, e2, e3⟩ := h2 pos cv hc
    refine ⟨c, e2, ?_⟩
    have hc0 : M c = none := by
      cases hm : M c with
      | none => rfl
      | some mo =>
        exfalso
        by_cases hcP : c = a
        · rw [hcP, e1] at e3
          exact LamX.codeO_ne ps (Option.some.inj e3).symm
        · obtain ⟨o, f1, f2⟩ := m c mo hm
          have f3 := k c o hcP f1
          rw [e3] at f3
          have f4 : LamX.CodeO c q = o := Option.some.inj f3
          unfold LamX.CodeO at f4
          subst f4
          cases mo with
          | lst es => obtain ⟨_, z, _⟩ := f2; cases z
          | dK kes => obtain ⟨_, z, _⟩ := f2; cases z
          | dT kes => obtain ⟨_, z, _⟩ := f2; cases z
          | fK od kvs kes => obtain ⟨z, _⟩ := f2; cases z
          | tab q => obtain ⟨_, z, _⟩ := f2; cases z
    rw [less_none hc0]
    exact e3
  · obtain ⟨o, e1, h1⟩ := m a mo h
    exact ⟨o, k a o ha e1, h1.mono ex⟩
theorem w_sortKey {P : Addr} {q : Str} {dom : PyData → Prop} {key : PyData → PyData} {ts : TA} (h : WA K ts G M fun es M1 => M1 P = some (.tab q) ∧ ∃ (x : Ent) (ds : List PyData), es = [x] ∧ SeqL K M1 x (ds.map Ent.d) ∧ (∀ d ∈ ds, dom d) ∧ SortOk (ds.map key) ∧ R (.d (.list (ds.mergeSort (PySem.W.dataLe false key)))) M1) : W K (tSortKey K P q dom key ts) G M R := fun B σ H k Q qq =>
  h B σ H k _ fun vs H1 es M1 h1 k1 hv => by
    obtain ⟨hP, x, ds, rfl, hx, hdom, ok, r⟩ := h1
    obtain ⟨v, rfl, h0⟩ := ents1 hv
    obtain ⟨a, xs, rfl, g1, g2⟩ := hx H1 v k1.m h0
    have hd := ents_data g2
    refine ⟨k1.m.tabS hP, a, xs, ds, rfl, SqL.of g1, DaAll.dp _ _ (DaAll.mono less_ex _ _ hd), hdom, ok, fun H2 kk hT2 p hp => ?_⟩
    obtain ⟨m2, ex2⟩ := k1.m.grown hP kk hT2
    have k2 : Ok K B M1 G σ H2 := ⟨k1.ex.trans ex2, m2, k1.sl.mono ex2⟩
    exact qq _ _ _ M1 r (k2.new hp) (da_newL m2 hp (sorted_da (DaAll.mono ex2 _ _ hd) _ _ fun a b => rfl))
/-! ### list(d.values()), written dicts -/
theorem w_listVals {te : TE} (h : W K te G M fun e M1 => ∃ (p : Addr) (kes : List (List Key × Ent)) (ds : List PyData), e = .v (.ref p) ∧ M1 p = some (.dT kes) ∧ kes.map (·.2) = ds.map Ent.d ∧ R (.d (.list ds)) M1) : W K (tListVals te) G M R := fun B σ H k Q q =>
  h B σ H k _ fun v H1 e M1 h1 k1 hv => by
    obtain ⟨p, kes, ds, rfl, hp, hd, r⟩ := h1
    cases hv
    obtain ⟨o, e1, kvs, e2, rr⟩ := k1.m p _ hp
    subst e2
    have hv : Ents K (less H1 M1) (kvs.map (·.2)) (kes.map (·.2)) := by
      clear hd hp e1
      induction rr with
      | nil => exact .nil
      | cons a t ih => exact .cons a.2 ih
    rw [hd] at hv
    exact ⟨p, kvs, rfl, e1, fun l hl => q _ _ _ M1 r (k1.new hl) (da_newL k1.m hl (ents_data hv))⟩
theorem w_kget {w : World} {td ty : TE} (h : W K td G M fun e1 M1 => ∃ a, e1 = .v (.ref a) ∧ (∃ z o, KGet K w a z o) ∧ W K ty G M1 fun e2 M2 => ∃ z o d, e2 = .d (.str z) ∧ KGet K w a z o ∧ (∀ F, Da K F (o.getD .non) d) ∧ R (.d d) M2) : W K (tKGet K w td ty) G M R := fun B σ H k Q q =>
  h B σ H k _ fun v H1 e M1 h1 k1 hv => by
    obtain ⟨a, rfl, g0, h2⟩ := h1
    cases hv
    refine ⟨a, rfl, g0, h2 (less H1 M1) σ H1 k1.rebase _ fun b H2 e2 M2 h3 k2 hb => ?_⟩
    obtain ⟨z, o, d, rfl, g, hd, r⟩ := h3
    exact ⟨z, o, Da.str_inv hb, g, q _ H2 _ M2 r (k2.base k1.ex) (hd _)⟩
theorem rw_ixD {w : World} {a : Addr} {z : Str} {v : V} {d : PyData} (g : KDct K w a z v) (hd : ∀ F, Da K F v d) (r : R (.d d) M) : RW K (rIxD K w) (.v (.ref a)) (.d (.str z)) M R := fun v' w' H m hv hw Q q => by
  cases hv
  exact ⟨a, z, v, rfl, Da.str_inv hw, g, q _ H _ M r (.same m (hd _))⟩
/-! ### reversed slices -/
theorem w_revL {te : TE} (h : W K te G M fun e M1 => ∃ ds : List PyData, SeqL K M1 e (ds.map Ent.d) ∧ R (.d (.list ds.reverse)) M1) : W K (tRevL K te) G M R := fun B σ H k Q q =>
  h B σ H k _ fun v H1 e M1 h1 k1 hv => by
    obtain ⟨ds, hs, r⟩ := h1
    obtain ⟨a, xs, rfl, g1, g2⟩ := hs H1 v k1.m hv
    exact ⟨a, xs, rfl, SqL.of g1, fun p hp => q _ _ _ M1 r (k1.new hp) (da_newL k1.m hp (ents_data g2).reverse)⟩
end
end DL

namespace DL
open PySem PySem.Spec PyProof.Rows L2
section
variable {K : PySem.W.Frag} {M : Mh} {G : Gm} {R : Ent → Mh → Prop} {te : TE} {tt : TT} {RB : Bool → Mh → Prop}
theorem wt_yes (r : RB true M) : WT K tYes G M RB := fun B σ H k Q q => q true H M r k
/-- a comprehension that changes nothing: f says what each turn gives -/
theorem w_lcP {wi : TI} {g : TG} {vs : List Nat} (hw : WpG g vs) (h : WI K wi G M fun es Gd M1 => ∃ f : Nat → Option PyData, es.length < sizeLine ∧ (∀ p acc, M1 p = none → Gd (mupd M1 p acc)) ∧
    (∀ (i : Nat) e p acc, es[i]? = some e → M1 p = none → GW K g e (wipeG G vs) (mupd M1 p (.lst acc)) fun G2 M2 => WT K tt G2 M2 fun b M3 =>
      if b = true then W K te G2 M3 fun y M4 => M4 = mupd M1 p (.lst acc) ∧ ∃ d, y = .d d ∧ f i = some d else M3 = mupd M1 p (.lst acc) ∧ f i = none) ∧
    R (.d (.list ((List.range es.length).filterMap f))) M1) : W K (tLc wi g tt te vs) G M R := by
  refine w_lc hw fun B σ H k Q q => h B σ H k Q fun J H' es Gd M1 h1 k1 wk => q J H' es Gd M1 ?_ k1 wk
  obtain ⟨f, hl, hg, hs, hd⟩ := h1
  have hlen : ∀ i, ((List.range i).filterMap f).length ≤ i := fun i => by
    have := List.length_filterMap_le f (List.range i)
    rw [List.length_range] at this
    exact this
  refine ⟨fun i acc M' => i ≤ es.length ∧ M' = M1 ∧ acc = ((List.range i).filterMap f).map Ent.d, ⟨Nat.zero_le _, rfl, rfl⟩, fun p acc i M' hp ⟨_, e1, e2⟩ _ => by subst e1; exact hg p _ hp, fun i e acc M' p he ⟨hi, e1, e2⟩ hp _ => ?_, fun acc M' ⟨_, e1, e2⟩ => by subst e1 e2; exact isDs_map hd⟩
  subst e1
  have hlt : i < es.length := (List.getElem?_eq_some_iff.mp he).1
  have hr : (List.range (i + 1)).filterMap f = (List.range i).filterMap f ++ (match f i with | some d => [d] | none => []) := by
    rw [List.range_succ, List.filterMap_append]
    cases hf : f i <;> simp [hf]
  refine fun B σ H v k hv Q q => hs i e p acc he hp B σ H v k hv Q fun G' M2 σ' H' w k' => q G' M2 σ' H' ?_ k'
  refine fun B σ H k Q q => w B σ H k Q fun b H' M3 w2 k2 => q b H' M3 ?_ k2
  cases b with
  | true =>
    have w3 : W K te G' M3 fun y M4 => M4 = mupd M' p (.lst acc) ∧ ∃ d, y = .d d ∧ f i = some d := w2
    show W K te G' M3 _
    refine w3.mono fun y M4 hy => ?_
    obtain ⟨e3, d, e4, e5⟩ := hy
    refine ⟨M', hp, e3, ?_, hlt, rfl, ?_⟩
    · rw [e2, List.length_map]
      have := hlen i
      omega
    · rw [hr, e5, e2, e4]
      simp
  | false =>
    obtain ⟨e3, e5⟩ : M3 = mupd M' p (.lst acc) ∧ f i = none := w2
    refine ⟨M', hp, e3, hlt, rfl, ?_⟩
    rw [hr, e5, e2]
    simp
end
/-! ### the data of the program -/
inductive Ln where
  | port | star | down | aport | astar | up
  deriving DecidableEq, Inhabited
inductive Wh where
  | i (n : Int)
  | s (x : Str)
  deriving DecidableEq, Inhabited
structure Row where
  m : Int
  l : Ln
  w : Wh
  deriving DecidableEq, Inhabited
def Ln.s : Ln → Str
  | .port => "port"
  | .star => "star"
  | .down => "down"
  | .aport => "aport"
  | .astar => "astar"
  | .up => "up"
theorem Ln.s_inj {a b : Ln} : a.s = b.s ↔ a = b := by
  constructor
  · intro h
    revert h
    cases a <;> cases b <;> first | (intro _; rfl) | (intro h; exact absurd h (by decide +kernel))
  · intro h
    rw [h]
def hs : Bool → Str
  | true => "bridge"
  | false => "room"
theorem hs_inj {a b : Bool} : hs a = hs b ↔ a = b := by
  constructor
  · intro h
    revert h
    cases a <;> cases b <;> first | (intro _; rfl) | (intro h; exact absurd h (by decide +kernel))
  · intro h
    rw [h]
def encW : Wh → PyData
  | .i n => .int n
  | .s x => .str x
abbrev encRow (r : Row) : PyData := .tuple [.int r.m, .str r.l.s, encW r.w]
abbrev encLog (l : List Row) : PyData := .tuple (l.map encRow)
abbrev encP (p : Nat × Nat) : PyData := .tuple [.int (p.1 : Int), .int (p.2 : Int)]
abbrev encPs (l : List (Nat × Nat)) : PyData := .list (l.map encP)
abbrev natD (n : Nat) : PyData := .int (n : Int)
abbrev nats (l : List Nat) : List PyData := l.map natD

/-! ### the text by places -/
def topS (i : Nat) : Stmt := PySem.Challenge.pw_ringorders_k50_whole_rings_told_otherwis.main.body.getD i (.Pass ⟨0, 0, 0, 0⟩)
end DL
namespace DL
open PySem PySem.Spec PyProof.Rows L2
/-- what the top has left: built-ins that are still built-ins, the written tables -/
structure Gb (w : World) (K : PySem.W.Frag) (mg : Str → Option Value) (aD aS aB aE : Addr) : Prop where
  len : mg "len" = none
  isi : mg "isinstance" = none
  int : mg "int" = none
  bool : mg "bool" = none
  tuple : mg "tuple" = none
  list : mg "list" = none
  dict : mg "dict" = none
  range : mg "range" = none
  enumerate : mg "enumerate" = none
  sorted : mg "sorted" = none
  max : mg "max" = none
  min : mg "min" = none
  sum : mg "sum" = none
  abs : mg "abs" = none
  dials : mg "DIALS" = some (.ref aD)
  dialsP : KDct K w aD "port" (.str "aport")
  dialsS : KDct K w aD "star" (.str "astar")
  sent : mg "SENT" = some (.ref aS)
  sent1 : KDct K w aS "port" (.str "bridge")
  sent2 : KDct K w aS "star" (.str "bridge")
  sent3 : KDct K w aS "down" (.str "bridge")
  sent4 : KDct K w aS "aport" (.str "room")
  sent5 : KDct K w aS "astar" (.str "room")
  sent6 : KDct K w aS "up" (.str "room")
  bells : mg "BELLS" = some (.ref aB)
  bellsT : ∀ H, SqT K H aB [.str "port", .str "star"]
  beside : mg "BESIDE" = some (.ref aE)
  beside1 : KGet K w aE "port" (some (.str "star"))
  beside2 : KGet K w aE "star" (some (.str "port"))
  beside3 : KGet K w aE "aport" (some (.str "astar"))
  beside4 : KGet K w aE "astar" (some (.str "aport"))
  beside5 : KGet K w aE "down" none
  beside6 : KGet K w aE "up" none
  low : ∀ a, K.lookup a ≠ none → (a == sysModules) = false
end DL

namespace DL
open PySem PySem.Spec PyProof.Rows L2
/-! ### the rules with the written part named -/
section
variable {X : Cx} (K : PySem.W.Frag) (hK : X.K = K) {a b e : Expr} {es : List Expr} {ta tb te : TE} {t : TA} {pos p apos cpos p2 : Pos} {tg : Expr} {j k : Nat}
include hK
theorem e_ixT (ha : PE X a ta) (hb : PE X b tb) (hs : PlainIx b) : PE X (.Subscript a b pos) (tOp (rIxT K) ta tb) := by subst hK; exact pe_ix ix_tup ha hb hs
theorem e_ixL (ha : PE X a ta) (hb : PE X b tb) (hs : PlainIx b) : PE X (.Subscript a b pos) (tOp (rIxL K) ta tb) := by subst hK; exact pe_ix ix_list ha hb hs
theorem e_ixK (w : World) (hw : X.w = w) (ha : PE X a ta) (hb : PE X b tb) (hs : PlainIx b) : PE X (.Subscript a b pos) (tOp (rIxD K w) ta tb) := by subst hK hw; exact pe_ix ix_kdict ha hb hs
theorem e_slL {lo hi : Option Expr} {tl th : TO} (he : PE X e te) (hl : PO X lo tl) (hu : PO X hi th) : PE X (.Subscript e (.Slice lo hi none p2) pos) (tSl (rSlL K) te tl th) := by subst hK; exact pe_slice sl_list he hl hu
theorem e_slT {lo hi : Option Expr} {tl th : TO} (he : PE X e te) (hl : PO X lo tl) (hu : PO X hi th) : PE X (.Subscript e (.Slice lo hi none p2) pos) (tSl (rSlA K) te tl th) := by subst hK; exact pe_slice sl_tupA he hl hu
theorem e_revL {k : Nat} {p1 p2 p3 : Pos} (he : PE X e te) : PE X (.Subscript e (.Slice none none (some (.UnaryOp .USub (.Constant (.int 1) k p1) p2)) p3) pos) (tRevL K te) := by subst hK; exact pe_revL he
theorem e_catT (ha : PE X a ta) (hb : PE X b tb) : PE X (.BinOp a .Add b pos) (tOp (rCatA K) ta tb) := by subst hK; exact pe_op op_catA ha hb
theorem e_eqD (hr : Room j X.A) (ha : PE X a ta) (hb : PE X b tb) : PE X (.Compare a [.Eq] [b] pos) (tOp (rEqD K) ta tb) := by subst hK; exact pe_cmpR (op_eqD hr.units) ha hb (nomark _)
theorem e_neD (hr : Room j X.A) (ha : PE X a ta) (hb : PE X b tb) : PE X (.Compare a [.NotEq] [b] pos) (tOp (rNeD K) ta tb) := by subst hK; exact pe_cmpR (op_neD hr.units) ha hb (nomark _)
theorem c_eqD (hr : Room j X.A) (ha : PE X a ta) (hb : PE X b tb) : PT X (.Compare a [.Eq] [b] pos) (tTest (tOp (rEqD K) ta tb)) := by subst hK; exact pt_cmpR (op_eqD hr.units) ha hb (nomark _)
theorem c_neD (hr : Room j X.A) (ha : PE X a ta) (hb : PE X b tb) : PT X (.Compare a [.NotEq] [b] pos) (tTest (tOp (rNeD K) ta tb)) := by subst hK; exact pt_cmpR (op_neD hr.units) ha hb (nomark _)
theorem e_in (ha : PE X a ta) (hb : PE X b tb) (hm : behindInMarks .In b = false) : PE X (.Compare a [.In] [b] pos) (tOp (rIn K false) ta tb) := by subst hK; exact pe_cmpR op_in_seq ha hb hm
theorem e_notin (ha : PE X a ta) (hb : PE X b tb) (hm : behindInMarks .NotIn b = false) : PE X (.Compare a [.NotIn] [b] pos) (tOp (rIn K true) ta tb) := by subst hK; exact pe_cmpR op_notIn_seq ha hb hm
theorem c_in (ha : PE X a ta) (hb : PE X b tb) (hm : behindInMarks .In b = false) : PT X (.Compare a [.In] [b] pos) (tTest (tOp (rIn K false) ta tb)) := by subst hK; exact pt_cmpR op_in_seq ha hb hm
theorem c_notin (ha : PE X a ta) (hb : PE X b tb) (hm : behindInMarks .NotIn b = false) : PT X (.Compare a [.NotIn] [b] pos) (tTest (tOp (rIn K true) ta tb)) := by subst hK; exact pt_cmpR op_notIn_seq ha hb hm
abbrev rLen (K : PySem.W.Frag) : List V → Hp → VK → Prop := fun xs H Q => ∃ p ys, xs = [.ref p] ∧ (SqL K H p ys ∨ SqT K H p ys) ∧ Q (.int ys.length) H
theorem e_len (hm : X.mg "len" = none) (hg : Gl X "len") (ha : PA X [e] t) (he : starEach [e] X.env = (false, eval e X.env) :: starEach [] X.env := by rfl) (hpl : (backTo pos (starEach [] X.env)).any (·.1) = false := by rfl) : PE X (.Call (.Name "len" p) [e] [] pos) (tCB (rLen K) t) := by
  subst hK
  exact pe_callB call_len_seq hg hm PySem.boot_len ha (by decide) (by decide) he hpl
abbrev rListOf (K : PySem.W.Frag) : List V → Hp → VK → Prop := fun xs H Q => ∃ p ys, xs = [.ref p] ∧ (SqL K H p ys ∨ SqT K H p ys) ∧ ∀ l, H l = none → Q (.ref l) (upd H l (.lst ys))
theorem e_list (hm : X.mg "list" = none) (hg : Gl X "list") (ha : PA X [e] t) (he : starEach [e] X.env = (false, eval e X.env) :: starEach [] X.env := by rfl) (hpl : (backTo pos (starEach [] X.env)).any (·.1) = false := by rfl) : PE X (.Call (.Name "list" p) [e] [] pos) (tCB (rListOf K) t) := by
  subst hK
  exact pe_callTy call_list_of hg hm (by decide +kernel) ha (by decide) (by decide) he hpl
abbrev rTupleOf (K : PySem.W.Frag) : List V → Hp → VK → Prop := fun xs H Q => ∃ p ys, xs = [.ref p] ∧ ((SqL K H p ys ∧ ∀ l, H l = none → Q (.ref l) (upd H l (.tup ys))) ∨ (SqT K H p ys ∧ Q (.ref p) H))
theorem e_tuple (hm : X.mg "tuple" = none) (hg : Gl X "tuple") (ha : PA X [e] t) (he : starEach [e] X.env = (false, eval e X.env) :: starEach [] X.env := by rfl) (hpl : (backTo pos (starEach [] X.env)).any (·.1) = false := by rfl) : PE X (.Call (.Name "tuple" p) [e] [] pos) (tCB (rTupleOf K) t) := by
  subst hK
  exact pe_callTy call_tuple_of hg hm (by decide +kernel) ha (by decide) (by decide) he hpl
theorem e_isi (hm : X.mg "isinstance" = none) (hg : Gl X "isinstance") (ha : PA X (e :: es) t) (he : starEach (e :: es) X.env = (false, eval e X.env) :: starEach es X.env := by rfl) (hpl : (backTo pos (starEach es X.env)).any (·.1) = false := by rfl) : PE X (.Call (.Name "isinstance" p) (e :: es) [] pos) (tCB (rIsi K) t) := by
  subst hK
  exact pe_callB call_isi hg hm (by decide +kernel) ha (by decide) (by decide) he hpl
abbrev rDictP (K : PySem.W.Frag) : List V → Hp → VK → Prop := fun xs H Q => ∃ (a : Addr) (ps : List Addr) (kvs : List (Key × V)), xs = [.ref a] ∧ SqL K H a (ps.map V.ref) ∧ Paired (fun p kv => SqT K H p [kV kv.1, kv.2]) ps kvs ∧ ∀ p, H p = none → Q (.ref p) (upd H p (.dK (mergeK [] kvs)))
theorem e_dict (hc : X.calm = true) (hm : X.mg "dict" = none) (hg : Gl X "dict") (ha : PA X [e] t) (he : starEach [e] X.env = (false, eval e X.env) :: starEach [] X.env := by rfl) (hpl : (backTo pos (starEach [] X.env)).any (·.1) = false := by rfl) : PE X (.Call (.Name "dict" p) [e] [] pos) (tCB (rDictP K) t) := by
  subst hK
  exact pe_callTy (call_dictP hc) hg hm (by decide +kernel) ha (by decide) (by decide) he hpl
theorem e_sortD (hr : Room j X.A) (hm : X.mg "sorted" = none) (hg : Gl X "sorted") (ha : PA X [e] t) (he : starEach [e] X.env = (false, eval e X.env) :: starEach [] X.env := by rfl) (hpl : (backTo pos (starEach [] X.env)).any (·.1) = false := by rfl) : PE X (.Call (.Name "sorted" p) [e] [] pos) (tCB (rSortD K false) t) := by
  subst hK
  exact pe_callB (cr_sortD (by have := hr.un; omega)) hg hm (by decide +kernel) ha (by decide) (by decide) he hpl
abbrev rSortR (K : PySem.W.Frag) (rev : Bool) : List V → List V → Hp → VK → Prop := fun vs zs H Q => zs = [.bl rev] ∧ rSortD K rev vs H Q
theorem e_sortR {kws : List Keyword} {tk : TA} (rev : Bool) (hr : Room j X.A) (hm : X.mg "sorted" = none) (hg : Gl X "sorted") (ha : PA X [e] t) (hk : PK X kws tk)
    (he : backTo pos (starEach [e] X.env) = (false, eval e X.env) :: backTo pos (starEach [] X.env) := by rfl) (hpl : (backTo pos (starEach [e] X.env)).any (·.1) = false := by rfl)
    (hall : (backToKw pos (keywordEach kws X.env)).all (·.1.isSome) = true := by rfl) (hnone : (backToKw pos (keywordEach kws X.env)).any (·.1.isNone) = false := by rfl) (hks : (backToKw pos (keywordEach kws X.env)).filterMap (·.1) = [Str.ofString "reverse"] := by rfl) :
    PE X (.Call (.Name "sorted" p) [e] kws pos) (tCKw (rSortR K rev) t tk) := by
  subst hK
  exact pe_callBK (cr_sortR (by have := hr.un; omega)) hg hm (by decide +kernel) ha hk (by decide) (by decide) he hpl hall hnone hks
theorem e_maxDf {kws : List Keyword} {tk : TA} (hc : X.calm = true) (hr : Room j X.A) (hm : X.mg "max" = none) (hg : Gl X "max") (ha : PA X [e] t) (hk : PK X kws tk)
    (he : backTo pos (starEach [e] X.env) = (false, eval e X.env) :: backTo pos (starEach [] X.env) := by rfl) (hpl : (backTo pos (starEach [e] X.env)).any (·.1) = false := by rfl)
    (hall : (backToKw pos (keywordEach kws X.env)).all (·.1.isSome) = true := by rfl) (hnone : (backToKw pos (keywordEach kws X.env)).any (·.1.isNone) = false := by rfl) (hks : (backToKw pos (keywordEach kws X.env)).filterMap (·.1) = [Str.ofString "default"] := by rfl) :
    PE X (.Call (.Name "max" p) [e] kws pos) (tCKw (rMaxDf K) t tk) := by
  subst hK
  exact pe_callBK (cr_maxDf hc (by have := hr.un; omega)) hg hm (by decide +kernel) ha hk (by decide) (by decide) he hpl hall hnone hks
theorem e_sumL {kws : List Keyword} {tk : TA} (hc : X.calm = true) (hm : X.mg "sum" = none) (hg : Gl X "sum") (ha : PA X [e] t) (hk : PK X kws tk)
    (he : backTo pos (starEach [e] X.env) = (false, eval e X.env) :: backTo pos (starEach [] X.env) := by rfl) (hpl : (backTo pos (starEach [e] X.env)).any (·.1) = false := by rfl)
    (hall : (backToKw pos (keywordEach kws X.env)).all (·.1.isSome) = true := by rfl) (hnone : (backToKw pos (keywordEach kws X.env)).any (·.1.isNone) = false := by rfl) (hks : (backToKw pos (keywordEach kws X.env)).filterMap (·.1) = [Str.ofString "start"] := by rfl) :
    PE X (.Call (.Name "sum" p) [e] kws pos) (tCKw (rSumL K) t tk) := by
  subst hK
  exact pe_callBK (cr_sumL hc) hg hm (by decide +kernel) ha hk (by decide) (by decide) he hpl hall hnone hks
theorem e_app {o : Expr} {to : TE} (ho : PE X o to) (ha : PA X [e] t) (hb : attributeBase o "append" X.env (eval o X.env) = eval o X.env := by rfl)
    (hf : ((backTo cpos (starEach [e] X.env)).all (fun x => !x.1) && (backToKw cpos (keywordEach [] X.env)).all (fun x => x.1.isSome) && decide (([e] : List Expr).length + ([] : List Keyword).length + (if ([] : List Keyword).isEmpty then 0 else 1) < 30)) = true := by rfl) (hl : (apos.endLine == cpos.line) = true := by rfl)
    (he : starEach [e] X.env = (false, eval e X.env) :: starEach [] X.env := by rfl) (hpl : (backTo cpos (starEach [] X.env)).any (·.1) = false := by rfl) :
    PE X (.Call (.Attribute o "append" apos) [e] [] cpos) (tBM K "list" rAppend to t) := by
  subst hK
  exact pe_bm PySem.F.plainAttrs_list PySem.F.slot_list_append PySem.F.type_list_append mt_append ho ha hb hf hl he hpl
end
end DL

namespace DL
open PySem PySem.Spec PyProof.Rows L2
theorem un1 {k : Nat} {A : Around} (r : Room k A) : A.units + 1 < cLine := by have := r.un; omega
section
variable {X : Cx} (K : PySem.W.Frag) (hK : X.K = K) {a b e o : Expr} {es : List Expr} {ta tb te to td ty : TE} {t : TA} {pos p apos cpos p2 : Pos} {tg : Expr} {j k : Nat}
include hK
theorem e_ext (ho : PE X o to) (ha : PA X [e] t) (hb : attributeBase o "extend" X.env (eval o X.env) = eval o X.env := by rfl)
    (hf : ((backTo cpos (starEach [e] X.env)).all (fun x => !x.1) && (backToKw cpos (keywordEach [] X.env)).all (fun x => x.1.isSome) && decide (([e] : List Expr).length + ([] : List Keyword).length + (if ([] : List Keyword).isEmpty then 0 else 1) < 30)) = true := by rfl) (hl : (apos.endLine == cpos.line) = true := by rfl)
    (he : starEach [e] X.env = (false, eval e X.env) :: starEach [] X.env := by rfl) (hpl : (backTo cpos (starEach [] X.env)).any (·.1) = false := by rfl) :
    PE X (.Call (.Attribute o "extend" apos) [e] [] cpos) (tBM K "list" rExtend to t) := by
  subst hK
  exact pe_bm PySem.F.plainAttrs_list PySem.F.slot_list_extend PySem.F.type_list_extend mt_extend ho ha hb hf hl he hpl
theorem e_idx (ho : PE X o to) (ha : PA X [e] t) (hb : attributeBase o "index" X.env (eval o X.env) = eval o X.env := by rfl)
    (hf : ((backTo cpos (starEach [e] X.env)).all (fun x => !x.1) && (backToKw cpos (keywordEach [] X.env)).all (fun x => x.1.isSome) && decide (([e] : List Expr).length + ([] : List Keyword).length + (if ([] : List Keyword).isEmpty then 0 else 1) < 30)) = true := by rfl) (hl : (apos.endLine == cpos.line) = true := by rfl)
    (he : starEach [e] X.env = (false, eval e X.env) :: starEach [] X.env := by rfl) (hpl : (backTo cpos (starEach [] X.env)).any (·.1) = false := by rfl) :
    PE X (.Call (.Attribute o "index" apos) [e] [] cpos) (tBM K "list" (rIndex K) to t) := by
  subst hK
  exact pe_bm PySem.F.plainAttrs_list PySem.F.slot_list_index PySem.F.type_list_index mt_index ho ha hb hf hl he hpl
theorem e_ixS (ha : PE X a ta) (hb : PE X b tb) (hs : PlainIx b) : PE X (.Subscript a b pos) (tOp (rIx K) ta tb) := by subst hK; exact pe_ix ix_seq ha hb hs
theorem i_list (he : PE X e te) : PI X tg e (iList K te) := by subst hK; exact pi_list he
theorem i_tup (he : PE X e te) : PI X tg e (iTup K te) := by subst hK; exact pi_tup he
theorem i_enumT {kk : Nat} {elts : List Expr} {tpos : Pos} (hm : X.mg "enumerate" = none) (hg : Gl X "enumerate") (ha : PA X [e] t) (hs : starEach [e] X.env = [(false, eval e X.env)] := by rfl) : PI X (.Tuple elts kk tpos) (.Call (.Name "enumerate" p) [e] [] pos) (iEnumT K t) := by
  subst hK
  exact pi_enumT hg hm ha hs
theorem g_tup (n : Nat) {g : TGs} {kk : Nat} (hc : X.calm = true) (h : PGs X es g) (hn : (assignEach es X.env).length = n := by rfl) (hst : (assignEach es X.env).findIdx? (·.1) = none := by rfl) : PG X (.Tuple es kk pos) (gTup K n g) := by
  subst hK
  exact pg_tup hc h hn hst
theorem e_kget (w : World) (hw : X.w = w) (hlo : ∀ a, K.lookup a ≠ none → (a == sysModules) = false) (ho : PE X o td) (he : PE X e ty) (m : M1 X o "get" apos e cpos) : PE X (.Call (.Attribute o "get" apos) [e] [] cpos) (tKGet K w td ty) := by
  subst hK hw
  exact pe_kget hlo ho he m
theorem e_abs (hm : X.mg "abs" = none) (hg : Gl X "abs") (ha : PA X [e] t) (he : starEach [e] X.env = (false, eval e X.env) :: starEach [] X.env := by rfl) (hpl : (backTo pos (starEach [] X.env)).any (·.1) = false := by rfl) : PE X (.Call (.Name "abs" p) [e] [] pos) (tCB (fun xs H Q => ∃ i, xs = [.int i] ∧ Q (.int (if i < 0 then -i else i)) H) t) := pe_callB call_abs hg hm (by decide +kernel) ha (by decide) (by decide) he hpl
theorem e_max2 (hc : X.calm = true) (hm : X.mg "max" = none) (hg : Gl X "max") (ha : PA X (e :: es) t) (he : starEach (e :: es) X.env = (false, eval e X.env) :: starEach es X.env := by rfl) (hpl : (backTo pos (starEach es X.env)).any (·.1) = false := by rfl) : PE X (.Call (.Name "max" p) (e :: es) [] pos) (tCB (fun xs H Q => ∃ i j, xs = [.int i, .int j] ∧ Q (.int (if j > i then j else i)) H) t) := pe_callB (call_max2 hc) hg hm (by decide +kernel) ha (by decide) (by decide) he hpl
theorem e_min2 (hc : X.calm = true) (hm : X.mg "min" = none) (hg : Gl X "min") (ha : PA X (e :: es) t) (he : starEach (e :: es) X.env = (false, eval e X.env) :: starEach es X.env := by rfl) (hpl : (backTo pos (starEach es X.env)).any (·.1) = false := by rfl) : PE X (.Call (.Name "min" p) (e :: es) [] pos) (tCB (fun xs H Q => ∃ i j, xs = [.int i, .int j] ∧ Q (.int (if j < i then j else i)) H) t) := pe_callB (call_min2 hc) hg hm (by decide +kernel) ha (by decide) (by decide) he hpl
theorem e_intB (hm : X.mg "int" = none) (hg : Gl X "int") (ha : PA X [e] t) (he : starEach [e] X.env = (false, eval e X.env) :: starEach [] X.env := by rfl) (hpl : (backTo pos (starEach [] X.env)).any (·.1) = false := by rfl) : PE X (.Call (.Name "int" p) [e] [] pos) (tCB (fun xs H Q => (∃ i, xs = [.int i] ∧ Q (.int i) H) ∨ ∃ k, xs = [.bl k] ∧ Q (.int (if k then 1 else 0)) H) t) := pe_callTy call_int1 hg hm (by decide +kernel) ha (by decide) (by decide) he hpl
end
section
variable {X : Cx} (P : Program) (w : World) (K : PySem.W.Frag) (mg : Str → Option Value) (base : Heap) (hP : X.prog = P) (hw : X.w = w) (hK : X.K = K) (hmg : X.mg = mg) (hb : X.base = base) {j k : Nat} {x : Str} {spec : Spec} {dvs : List V} {p pos : Pos} {e : Expr} {es : List Expr} {t : TA}
include hP hw hK hmg hb
theorem e_def (c : Cd P w K mg base k x spec dvs) (hr : Room j X.A) (hk : k ≤ j) (hg : Gl X x) (ha : PA X (e :: es) t)
    (hdb : (x == ("__debug__" : Str)) = false := by decide) (he : starEach (e :: es) X.env = (false, eval e X.env) :: starEach es X.env := by rfl) (hpl : (backTo pos (starEach es X.env)).any (·.1) = false := by rfl) :
    PE X (.Call (.Name x p) (e :: es) [] pos) (tCall (PSp K spec) dvs E0 t) := by
  subst hP hw hK hmg hb
  exact e_call c hr hk hg ha hdb he hpl
theorem e_sortKey {c Pt : Addr} {q : Str} {y : Str} {params : Arguments} {body : Expr} {scope : Scope} {dom : PyData → Prop} {key : PyData → PyData} {lpos kpos : Pos} (hr : Room (j + 1) X.A) (hc : X.calm = true) (hm : mg "sorted" = none) (TB : LamX.TabB base mg c Pt) (hcode : X.env.code = .ref c) (L : LamK P w y params body scope dom key) (hq : X.env.qual ++ "<lambda>" = q) (hg : Gl X "sorted") (ha : PA X [e] t)
    (hst : backTo pos (starEach [e] X.env) = (false, eval e X.env) :: backTo pos (starEach [] X.env) := by rfl) (hpl : (backTo pos (starEach [e] X.env)).any (·.1) = false := by rfl)
    (hall : (backToKw pos (keywordEach [⟨some "key", .Lambda params body scope lpos, kpos⟩] X.env)).all (·.1.isSome) = true := by rfl) (hnone : (backToKw pos (keywordEach [⟨some "key", .Lambda params body scope lpos, kpos⟩] X.env)).any (·.1.isNone) = false := by rfl)
    (hks : (backToKw pos (keywordEach [⟨some "key", .Lambda params body scope lpos, kpos⟩] X.env)).filterMap (·.1) = [Str.ofString "key"] := by rfl) :
    PE X (.Call (.Name "sorted" p) [e] [⟨some "key", .Lambda params body scope lpos, kpos⟩] pos) (tSortKey K Pt q dom key t) := by
  subst hP hw hK hmg hb hq
  exact pe_sortKey hr hc hg hm TB hcode L ha hst hpl hall hnone hks
end
end DL

namespace DL
open PySem PySem.Spec PyProof.Rows L2
/-! ### what is computed -/
def Ln.dial : Ln → Ln
  | .port => .aport
  | .star => .astar
  | l => l
def Ln.br : Ln → Bool
  | .port => true
  | .star => true
  | .down => true
  | _ => false
def Ln.bell : Ln → Bool
  | .port => true
  | .star => true
  | _ => false
def Ln.tube : Ln → Bool
  | .down => true
  | .up => true
  | _ => false
def Ln.beside : Ln → Option Ln
  | .port => some .star
  | .star => some .port
  | .aport => some .astar
  | .astar => some .aport
  | _ => none
def rowAt (log : List Row) (i : Nat) : Row := log.getD i ⟨0, .port, .i 0⟩
def onLine (log : List Row) (l : Ln) (i : Nat) : Bool := decide ((rowAt log i).l = l)
def rowsOn (log : List Row) (l : Ln) : List Nat := (List.range log.length).filter (onLine log l)
inductive Fate where
  | taken (o : Nat)
  | answered (o : Nat)
  | opn
def fateAt (log : List Row) (e : Ln) (x : Wh) (o : Nat) : Option Fate :=
  if (rowAt log o).l = e then some (.taken o) else if (rowAt log o).l = e.dial ∧ (rowAt log o).w = x then some (.answered o) else none
def fateOf (log : List Row) (e : Ln) (n : Nat) : Fate := ((List.range' (n + 1) (log.length - (n + 1))).findSome? (fateAt log e (rowAt log n).w)).getD .opn
def encFate : Fate → PyData
  | .taken o => .tuple [.str "taken", natD o]
  | .answered o => .tuple [.str "answered", natD o]
  | .opn => .tuple [.str "open", .none]
def look (ps : List (Nat × Nat)) (n : Nat) : Option Nat := (ps.find? fun p => decide (p.1 = n)).map (·.2)
def lookR (ps : List (Nat × Nat)) (n : Nat) : Option Nat := (ps.find? fun p => decide (p.2 = n)).map (·.1)
inductive Ring where
  | never
  | answered (h o : Nat) (seen : Option Nat)
  | taken (h o : Nat)
  | opn (h : Nat)
def optD : Option Nat → PyData
  | some n => natD n
  | none => .none
def ringAt (rm : List Row) (ps : List (Nat × Nat)) (l : Ln) : Option Nat → Ring
  | none => .never
  | some h => match fateOf rm l h with
    | .answered o => .answered h o (lookR ps o)
    | .taken o => .taken h o
    | .opn => .opn h
def ringOf (br rm : List Row) (ps : List (Nat × Nat)) (n : Nat) : Ring := ringAt rm ps (rowAt br n).l (look ps n)
def encRing : Ring → List PyData
  | .never => [.str "never"]
  | .answered h o s => [.str "answered", natD h, natD o, optD s]
  | .taken h o => [.str "taken", natD h, natD o]
  | .opn h => [.str "open", natD h]
def obeyAt (rm : List Row) (l : Ln) (d : Int) : Option Nat → Option (Int × Option Int)
  | none => none
  | some h => some ((rowAt rm h).m - d, ((rowsOn rm l).filter fun k => decide (h < k)).head?.map fun k => (rowAt rm k).m - d)
def obeyOf (br rm : List Row) (ps : List (Nat × Nat)) (n : Nat) (d : Int) : Option (Int × Option Int) := obeyAt rm (rowAt br n).l d (look ps n)
def optI : Option Int → PyData
  | some n => .int n
  | none => .none
def encOb : Option (Int × Option Int) → PyData
  | none => .none
  | some (a, b) => .tuple [.int a, optI b]
def leftB (br : List Row) (ps : List (Nat × Nat)) (s : Bool) : List Nat := (List.range br.length).filter fun i => decide ((rowAt br i).l.br = s) && !decide (i ∈ ps.map (·.1))
def leftR (rm : List Row) (ps : List (Nat × Nat)) (s : Bool) : List Nat := (List.range rm.length).filter fun i => decide ((!(rowAt rm i).l.br) = s) && !decide (i ∈ ps.map (·.2))
def leftOf (br rm : List Row) (ps : List (Nat × Nat)) (s : Bool) : List (Bool × Nat) := (leftB br ps s).map (true, ·) ++ (leftR rm ps s).map (false, ·)
abbrev encHN (p : Bool × Nat) : PyData := .tuple [.str (hs p.1), natD p.2]
def dbl (log : List Row) (n : Nat) (lag : Int) : Bool := match ((rowsOn log (rowAt log n).l).filter fun k => decide (k < n)).getLast? with
  | none => false
  | some k => decide ((rowAt log k).w = (rowAt log n).w) && decide ((rowAt log n).m - (rowAt log k).m ≤ lag)
def byBr (h : Bool) (m d : Int) : Int := if h then m else m - d
def logOf (br rm : List Row) (h : Bool) : List Row := if h then br else rm
def crsAt (br rm : List Row) (h : Bool) (n : Nat) (d lag : Int) (p : Bool × Nat) : Bool :=
  let r := rowAt (logOf br rm h) n
  let q := rowAt (logOf br rm p.1) p.2
  decide (r.l.beside = some q.l) && decide (q.w = r.w) && (decide (0 ≤ byBr h r.m d - byBr p.1 q.m d) && decide (byBr h r.m d - byBr p.1 q.m d ≤ lag))
def crs (br rm : List Row) (h : Bool) (n : Nat) (lost : List (Bool × Nat)) (d lag : Int) : Bool := lost.any (crsAt br rm h n d lag)
def whyOf (br rm : List Row) (ps : List (Nat × Nat)) (d lag : Int) (p : Bool × Nat) : Str :=
  if dbl (logOf br rm p.1) p.2 lag then "doubled" else if crs br rm p.1 p.2 (leftOf br rm ps true) d lag then "crossed" else "unsent"
def strOf (br rm : List Row) (ps : List (Nat × Nat)) (d lag : Int) : List PyData := (leftOf br rm ps false).map fun p => .tuple [.str (hs p.1), natD p.2, .str (whyOf br rm ps d lag p)]
def lotOf (br rm : List Row) (ps : List (Nat × Nat)) : Int := (br.length : Int) + rm.length - 2 * ps.length
def bellsOf (br : List Row) : List Nat := (List.range br.length).filter fun i => (rowAt br i).l.bell
def lessOb (more : Int) : Option (Int × Option Int) → Option (Int × Option Int)
  | none => none
  | some (a, b) => some (a - more, b.map (· - more))
def allOf (br rm : List Row) (ps : List (Nat × Nat)) (d lag more : Int) : PyData :=
  .list [.list ((bellsOf br).map fun i => .tuple [natD i, .tuple (encRing (ringOf br rm ps i)), encOb (lessOb more (obeyOf br rm ps i d))]),
    .list [.list ((leftOf br rm ps true).map encHN), .list (strOf br rm ps d lag), .int (lotOf br rm ps)]]
/-- pairs that may be told -/
structure Pairs (br rm : List Row) (ps : List (Nat × Nat)) : Prop where
  lt : ∀ p ∈ ps, p.1 < br.length ∧ p.2 < rm.length
  same : ∀ p ∈ ps, (rowAt br p.1).l = (rowAt rm p.2).l ∧ (rowAt br p.1).w = (rowAt rm p.2).w
  nd1 : (ps.map (·.1)).Nodup
  nd2 : (ps.map (·.2)).Nodup
/-- tubes carry texts, the other lines numbers -/
def RowOk (r : Row) : Prop := if r.l.tube then ∃ x, r.w = .s x else ∃ n, r.w = .i n

/-! ### reading -/
theorem atI_nat {α : Type} {xs : List α} {i : Nat} {x : α} (h : xs[i]? = some x) : atI xs (i : Int) = some x := by
  have hi : i < xs.length := (List.getElem?_eq_some_iff.mp h).1
  unfold atI
  have : ixN xs.length (i : Int) = some i := by
    unfold ixN
    simp
    omega
  rw [this]
  exact h
theorem row_get {log : List Row} {i : Nat} (h : i < log.length) : log[i]? = some (rowAt log i) := by
  unfold rowAt
  rw [List.getD_eq_getElem?_getD, List.getElem?_eq_getElem h]
  rfl
theorem at_log {log : List Row} {i : Nat} (h : i < log.length) : atI (log.map encRow) (i : Int) = some (encRow (rowAt log i)) := atI_nat (by rw [List.getElem?_map, row_get h]; rfl)
theorem at_ps {ps : List (Nat × Nat)} {i : Nat} {p : Nat × Nat} (h : ps[i]? = some p) : atI (ps.map encP) (i : Int) = some (encP p) := atI_nat (by rw [List.getElem?_map, h]; rfl)
section
variable {K : PySem.W.Frag} {M : Mh} {R : Ent → Mh → Prop} {G : Gm}
theorem rw_eqL {a b : Ln} (r : R (.d (.bool (decide (a = b)))) M) : RW K rEq (.d (.str a.s)) (.d (.str b.s)) M R := rw_eqS (by
  have e : decide (a.s = b.s) = decide (a = b) := by simp only [Ln.s_inj]
  rw [e]
  exact r)
theorem rw_eqH {a b : Bool} (r : R (.d (.bool (decide (a = b)))) M) : RW K rEq (.d (.str (hs a))) (.d (.str (hs b))) M R := rw_eqS (by
  have e : decide (hs a = hs b) = decide (a = b) := by simp only [hs_inj]
  rw [e]
  exact r)
theorem rw_eqW {a b : Wh} (r : R (.d (.bool (decide (a = b)))) M) : RW K rEq (.d (encW a)) (.d (encW b)) M R := by
  cases a <;> cases b
  · refine rw_eqI ?_
    simpa using r
  · refine rw_eqIS ?_
    simpa using r
  · refine rw_eqSI ?_
    simpa using r
  · refine rw_eqS ?_
    simpa using r
theorem rw_neW {a b : Wh} (r : R (.d (.bool (!decide (a = b)))) M) : RW K rNe (.d (encW a)) (.d (encW b)) M R := by
  cases a <;> cases b
  · refine rw_neI ?_
    simpa using r
  · refine rw_neIS ?_
    simpa using r
  · refine rw_neSI ?_
    simpa using r
  · refine rw_neS ?_
    simpa using r
theorem rw_ixLog {log : List Row} {i : Nat} (hi : i < log.length) (r : R (.d (encRow (rowAt log i))) M) : RW K (rIxT K) (.d (encLog log)) (.d (.int (i : Int))) M R := rw_ixTd (at_log hi) r
end
theorem dec_if {p : Prop} [Decidable p] {A B : Prop} (h1 : p → A) (h2 : ¬p → B) : if decide p = true then A else B := by
  by_cases h : p
  · rw [decide_eq_true h]; exact h1 h
  · rw [decide_eq_false h]; exact h2 h
theorem dec_ifn {p : Prop} [Decidable p] {A B : Prop} (h1 : ¬p → A) (h2 : p → B) : if (!decide p) = true then A else B := by
  by_cases h : p
  · rw [decide_eq_true h]; exact h2 h
  · rw [decide_eq_false h]; exact h1 h
theorem bool_if {b : Bool} {A B : Prop} (h1 : b = true → A) (h2 : b = false → B) : if b = true then A else B := by
  cases b
  · exact h2 rfl
  · exact h1 rfl
/-! ### items of what is walked -/
theorem enum_log {log : List Row} {i : Nat} {e : Ent} (h : (enumE (log.map encRow))[i]? = some e) : i < log.length ∧ e = .d (.tuple [natD i, encRow (rowAt log i)]) := by
  have hl : i < (enumE (log.map encRow)).length := (List.getElem?_eq_some_iff.mp h).1
  rw [enumE_len, List.length_map] at hl
  have h2 : (log.map encRow)[i]? = some (encRow (rowAt log i)) := by rw [List.getElem?_map, row_get hl]; rfl
  rw [enumE_get h2] at h
  exact ⟨hl, (Option.some.inj h).symm⟩
theorem enum_len {log : List Row} : (enumE (log.map encRow)).length = log.length := by rw [enumE_len, List.length_map]
theorem rng_at {lo : Int} {n i : Nat} {e : Ent} (h : (rngE lo n)[i]? = some e) : i < n ∧ e = .d (.int (lo + (i : Int))) := by
  have hl : i < (rngE lo n).length := (List.getElem?_eq_some_iff.mp h).1
  rw [rngE_len] at hl
  rw [rngE_get hl] at h
  exact ⟨hl, (Option.some.inj h).symm⟩
theorem rng0_at {n i : Nat} {e : Ent} (h : (rngE 0 n)[i]? = some e) : i < n ∧ e = .d (natD i) := by
  obtain ⟨h1, h2⟩ := rng_at h
  rw [Int.zero_add] at h2
  exact ⟨h1, h2⟩
theorem map_at {α : Type} {f : α → PyData} {xs : List α} {i : Nat} {e : Ent} (h : ((xs.map f).map Ent.d)[i]? = some e) : ∃ x, xs[i]? = some x ∧ e = .d (f x) := by
  rw [List.getElem?_map, List.getElem?_map] at h
  cases hx : xs[i]? with
  | none => rw [hx] at h; cases h
  | some x => rw [hx] at h; exact ⟨x, rfl, (Option.some.inj h).symm⟩
theorem map_len {α : Type} {f : α → PyData} {xs : List α} : ((xs.map f).map Ent.d).length = xs.length := by rw [List.length_map, List.length_map]
/-- a comprehension that changes nothing: p says which turns give, v what -/
theorem w_lcQ {K : PySem.W.Frag} {M : Mh} {R : Ent → Mh → Prop} {G : Gm} {te : TE} {tt : TT} {wi : TI} {g : TG} {vs : List Nat} (hw : WpG g vs) (h : WI K wi G M fun es Gd M1 => ∃ (p : Nat → Bool) (v : Nat → PyData), es.length ≤ 100000 ∧ (∀ q acc, M1 q = none → Gd (mupd M1 q acc)) ∧
    (∀ (i : Nat) e q acc, es[i]? = some e → M1 q = none → GW K g e (wipeG G vs) (mupd M1 q (.lst acc)) fun G2 M2 => WT K tt G2 M2 fun b M3 => M3 = mupd M1 q (.lst acc) ∧ b = p i ∧ (p i = true → W K te G2 M3 fun y M4 => M4 = mupd M1 q (.lst acc) ∧ y = .d (v i))) ∧
    R (.d (.list (((List.range es.length).filter p).map v))) M1) : W K (tLc wi g tt te vs) G M R := by
  refine w_lcP hw fun B σ H k Q q => h B σ H k Q fun J H' es Gd M1 h1 k1 wk => q J H' es Gd M1 ?_ k1 wk
  obtain ⟨p, v, hl, hg, hs, hd⟩ := h1
  refine ⟨fun i => if p i = true then some (v i) else none, Nat.lt_of_le_of_lt hl (by decide), hg, fun i e q acc he hq => ?_, ?_⟩
  · refine fun B σ H x k hv Q q' => hs i e q acc he hq B σ H x k hv Q fun G' M2 σ' H' w k' => q' G' M2 σ' H' ?_ k'
    refine fun B σ H k Q q' => w B σ H k Q fun b H' M3 w2 k2 => q' b H' M3 ?_ k2
    obtain ⟨e1, e2, w3⟩ := w2
    subst e2
    refine bool_if (fun hp => ?_) (fun hp => ?_)
    · refine (w3 hp).mono fun y M4 hy => ⟨hy.1, _, hy.2, ?_⟩
      show (if p i = true then some (v i) else none) = some (v i)
      rw [if_pos hp]
    · refine ⟨e1, ?_⟩
      show (if p i = true then some (v i) else none) = none
      rw [hp]; rfl
  · have : (List.range es.length).filterMap (fun i => if p i = true then some (v i) else none) = ((List.range es.length).filter p).map v := by
      rw [← List.filterMap_eq_map, List.filterMap_filter]
      rfl
    rw [this]
    exact hd
/-! ### searching -/
theorem findSome_at {α β : Type} {f : α → Option β} : ∀ {xs : List α} {i : Nat} {x : α} {b : β}, xs[i]? = some x → f x = some b → (∀ (j : Nat) y, j < i → xs[j]? = some y → f y = none) → xs.findSome? f = some b
  | [], _, _, _, h, _, _ => by simp at h
  | y :: ys, 0, x, b, h, hf, _ => by
    cases h
    rw [List.findSome?_cons, hf]
  | y :: ys, i + 1, x, b, h, hf, hn => by
    rw [List.findSome?_cons, hn 0 y (Nat.succ_pos _) rfl]
    exact findSome_at (i := i) (by simpa using h) hf fun j z hj hz => hn (j + 1) z (by omega) (by simpa using hz)
theorem range'_at {s n i : Nat} (h : i < n) : (List.range' s n)[i]? = some (s + i) := by
  rw [List.getElem?_eq_getElem (by simpa using h)]
  simp
theorem fate_some {log : List Row} {e : Ln} {n i : Nat} {F : Fate} (hi : n + 1 + i < log.length) (hf : fateAt log e (rowAt log n).w (n + 1 + i) = some F) (hn : ∀ j, j < i → fateAt log e (rowAt log n).w (n + 1 + j) = none) : fateOf log e n = F := by
  unfold fateOf
  rw [findSome_at (i := i) (x := n + 1 + i) (range'_at (by omega)) hf fun j y hj hy => ?_]
  · rfl
  · rw [range'_at (by omega)] at hy
    cases hy
    exact hn j hj
theorem fate_opn {log : List Row} {e : Ln} {n : Nat} (hn : ∀ j, n + 1 + j < log.length → fateAt log e (rowAt log n).w (n + 1 + j) = none) : fateOf log e n = .opn := by
  unfold fateOf
  rw [List.findSome?_eq_none_iff.mpr fun o ho => ?_]
  · rfl
  · rw [List.mem_range'_1] at ho
    have := hn (o - (n + 1)) (by omega)
    rwa [show n + 1 + (o - (n + 1)) = o from by omega] at this
end DL

namespace DL
open PySem PySem.Spec PyProof.Rows L2
theorem if_t {b : Bool} {A B : Prop} (hb : b = true) (h : A) : if b = true then A else B := by rw [hb]; exact h
theorem if_f {b : Bool} {A B : Prop} (hb : b = false) (h : B) : if b = true then A else B := by rw [hb]; exact h
theorem iteNT {A B : Prop} (h : A) : if (!false) = true then A else B := h
theorem iteNF {A B : Prop} (h : B) : if (!true) = true then A else B := h
section
variable {K : PySem.W.Frag} {M : Mh} {R : Ent → Mh → Prop} {G : Gm} {te ta ty : TE} {D : DE} {t : TS}
theorem gws_consM {i : Nat} {g : TGs} {d : PyData} {ds : List PyData} {P : Gm → Mh → Prop} (h : GWs K g (ds.map Ent.d) (G.set i (some (.d d))) M P) : GWs K (gCons (gName i) g) ((d :: ds).map Ent.d) G M P := gws_cons h
theorem gws_nilM {P : Gm → Mh → Prop} (h : P G M) : GWs K gNil (([] : List PyData).map Ent.d) G M P := gws_nil h
theorem rc_lenMT {α : Type} {f : α → PyData} {xs : List α} (r : R (.d (.int (xs.length : Int))) M) : RC K (rLen K) [.d (.tuple (xs.map f))] M R := rc_lenT seqT_d (by rw [List.length_map, List.length_map]; exact r)
theorem rc_lenML {α : Type} {f : α → PyData} {xs : List α} (r : R (.d (.int (xs.length : Int))) M) : RC K (rLen K) [.d (.list (xs.map f))] M R := rc_lenL seqL_d (by rw [List.length_map, List.length_map]; exact r)
theorem range_map {α β : Type} {xs : List α} {v : Nat → β} {f : α → β} (h : ∀ (i : Nat) x, xs[i]? = some x → v i = f x) : (List.range xs.length).map v = xs.map f := by
  apply List.ext_getElem?
  intro i
  rw [List.getElem?_map, List.getElem?_map]
  by_cases hi : i < xs.length
  · rw [List.getElem?_eq_getElem hi, List.getElem?_range hi]
    exact congrArg some (h i _ (List.getElem?_eq_getElem hi))
  · rw [List.getElem?_eq_none (by simpa using hi), List.getElem?_eq_none (by simpa using hi)]
    rfl
/-- a comprehension over a list of data: each gives -/
theorem w_lcE {α : Type} [Inhabited α] {wi : TI} {g : TG} {vs : List Nat} (hw : WpG g vs) (h : WI K wi G M fun es Gd M1 => ∃ (xs : List α) (en f : α → PyData), es = (xs.map en).map Ent.d ∧ xs.length ≤ 100000 ∧ (∀ q acc, M1 q = none → Gd (mupd M1 q acc)) ∧
    (∀ (i : Nat) x q acc, xs[i]? = some x → M1 q = none → GW K g (.d (en x)) (wipeG G vs) (mupd M1 q (.lst acc)) fun G2 M2 => M2 = mupd M1 q (.lst acc) ∧ W K te G2 M2 fun y M4 => M4 = mupd M1 q (.lst acc) ∧ y = .d (f x)) ∧
    R (.d (.list (xs.map f))) M1) : W K (tLc wi g tYes te vs) G M R := by
  refine w_lcQ hw fun B σ H k Q q => h B σ H k Q fun J H' es Gd M1 h1 k1 wk => q J H' es Gd M1 ?_ k1 wk
  obtain ⟨xs, en, f, rfl, hl, hg, hs, hd⟩ := h1
  refine ⟨fun _ => true, fun i => f (xs[i]?.getD default), by rw [map_len]; exact hl, hg, fun i e q acc he hq => ?_, ?_⟩
  · obtain ⟨x, hx, rfl⟩ := map_at he
    refine fun B σ H v k hv Q q' => hs i x q acc hx hq B σ H v k hv Q fun G' M2 σ' H' w k' => q' G' M2 σ' H' ?_ k'
    refine fun B σ H k Q q'' => q'' true H M2 ⟨w.1, rfl, fun _ => ?_⟩ k
    · refine w.2.mono fun y M4 hy => ⟨hy.1, ?_⟩
      show y = .d (f (xs[i]?.getD default))
      rw [hx]
      exact hy.2
  · rw [map_len, List.filter_eq_self.mpr (fun _ _ => rfl), range_map (f := f) fun i x hx => by rw [hx]; rfl]
    exact hd
theorem rw_ixSL {x y : Ent} (h : RW K (rIxL K) x y M R) : RW K (rIx K) x y M R := fun v w H m hv hw Q q => .inl (h v w H m hv hw Q q)
theorem rw_ixST {x y : Ent} (h : RW K (rIxT K) x y M R) : RW K (rIx K) x y M R := fun v w H m hv hw Q q => .inr (.inl (h v w H m hv hw Q q))
theorem w_postdrop (h : W K te G M fun e M1 => ∃ p, R e (mdel M1 p)) : W K te G M R := fun B σ H k Q q =>
  h B σ H k Q fun v H' e M1 hp k1 hv => let ⟨p, r⟩ := hp; q v H' e (mdel M1 p) r (k1.drop p) (hv.mono less_mdel_ex)
theorem valE_merge {κ : Type} [DecidableEq κ] (f : List (κ × Ent) → List (κ × Ent) → List (κ × Ent)) (hf0 : ∀ a, f a [] = a) (hf : ∀ a q r, f a (q :: r) = f (putE a q.1 q.2) r) : ∀ (more kes : List (κ × Ent)) (k : κ), (more.map (·.1)).Nodup → valE (f kes more) k = ((more.find? (fun q => decide (q.1 = k))).map (·.2)).or (valE kes k)
  | [], kes, k, _ => by rw [hf0]; rfl
  | q :: more, kes, k, hn => by
    rw [List.map_cons, List.nodup_cons] at hn
    rw [hf, valE_merge f hf0 hf more _ k hn.2, List.find?_cons]
    by_cases h : q.1 = k
    · rw [decide_eq_true h]
      have hnone : more.find? (fun q => decide (q.1 = k)) = none := by
        rw [List.find?_eq_none]
        intro z hz hd
        exact hn.1 (by rw [h, ← of_decide_eq_true hd]; exact List.mem_map_of_mem hz)
      rw [hnone]
      show valE (putE kes q.1 q.2) k = some q.2
      rw [valE_put, if_pos h.symm]
    · rw [decide_eq_false h]
      rw [valE_put, if_neg (Ne.symm h)]
theorem valE_mergeE {more kes : List (Key × Ent)} {k : Key} (hn : (more.map (·.1)).Nodup) : valE (mergeE kes more) k = ((more.find? (fun q => decide (q.1 = k))).map (·.2)).or (valE kes k) := valE_merge mergeE (fun _ => rfl) (fun _ _ _ => rfl) more kes k hn
/-- dict(pairs).get(k) -/
theorem w_dgetP (h : W K ta G M fun e M1 => ∃ kps : List (Key × PyData), SeqL K M1 e ((kps.map fun kv => PyData.tuple [keyD kv.1, kv.2]).map Ent.d) ∧ (kps.map (·.1)).Nodup ∧
    ∀ M2, W K ty G M2 fun e2 M3 => M3 = M2 ∧ ∃ k, e2 = .d (keyD k) ∧ R (.d (((kps.find? fun q => decide (q.1 = k)).map (·.2)).getD .none)) M1) : W K (tDGet1 (tCB (rDictP K) (tCons ta tNil)) ty) G M R := by
  refine w_postdrop (w_dget1 (w_cb (wa_cons (h.mono fun e M1 he => wa_nil ?_))))
  obtain ⟨kps, hx, hn, hty⟩ := he
  refine rc_dictP hx fun p hp => ⟨.inl ⟨_, mupd_same⟩, (hty _).mono fun e2 M3 h2 => ?_⟩
  obtain ⟨rfl, k, rfl, r⟩ := h2
  refine ⟨_, DG.k k mupd_same, p, ?_⟩
  rw [mdel_mupd hp, valE_mergeE (by rw [List.map_map]; exact hn)]
  have : ((((kps.map fun (kv : Key × PyData) => (kv.1, Ent.d kv.2)).find? (fun q => decide (q.1 = k))).map (·.2)).or (valE ([] : List (Key × Ent)) k)).getD (.d .none) = Ent.d (((kps.find? fun q => decide (q.1 = k)).map (·.2)).getD .none) := by
    rw [List.find?_map]
    show ((((kps.find? fun q => decide (q.1 = k)).map _).map _).or _).getD _ = _
    cases kps.find? (fun q => decide (q.1 = k)) <;> rfl
  rw [this]
  exact r
theorem kps_pairs (ps : List (Nat × Nat)) : ((ps.map fun p => ((Sum.inl (p.1 : Int) : Key), natD p.2)).map fun kv => PyData.tuple [keyD kv.1, kv.2]) = ps.map encP := by
  rw [List.map_map]
  rfl
theorem kps_pairs2 (ps : List (Nat × Nat)) : ((ps.map fun p => ((Sum.inl (p.2 : Int) : Key), natD p.1)).map fun kv => PyData.tuple [keyD kv.1, kv.2]) = ps.map fun p => .tuple [natD p.2, natD p.1] := by
  rw [List.map_map]
  rfl
theorem at_head {α : Type} {x : α} {xs : List α} : atI (x :: xs) 0 = some x := atI_nat (i := 0) rfl
theorem at_last {α : Type} {x : α} {xs : List α} : atI (xs ++ [x]) (-1) = some x := by
  unfold atI
  have : ixN (xs ++ [x]).length (-1) = some xs.length := by
    unfold ixN
    simp
    omega
  rw [this]
  simp
theorem nd_inl : ∀ {ns : List Nat}, ns.Nodup → (ns.map fun (n : Nat) => (Sum.inl (n : Int) : Key)).Nodup := fun h => by
  refine List.Pairwise.map _ (fun a b hab => ?_) h
  intro e
  exact hab (Int.ofNat.inj (Sum.inl.inj e))
theorem kps_nd {ps : List (Nat × Nat)} (h : (ps.map (·.1)).Nodup) : ((ps.map fun p => ((Sum.inl (p.1 : Int) : Key), natD p.2)).map (·.1)).Nodup := by
  have := nd_inl h
  rw [List.map_map] at this ⊢
  exact this
theorem kps_nd2 {ps : List (Nat × Nat)} (h : (ps.map (·.2)).Nodup) : ((ps.map fun p => ((Sum.inl (p.2 : Int) : Key), natD p.1)).map (·.1)).Nodup := by
  have := nd_inl h
  rw [List.map_map] at this ⊢
  exact this
theorem look_find (ps : List (Nat × Nat)) (n : Nat) : (((ps.map fun p => ((Sum.inl (p.1 : Int) : Key), natD p.2)).find? fun q => decide (q.1 = Sum.inl (n : Int))).map (·.2)).getD .none = optD (look ps n) := by
  unfold look
  rw [List.find?_map]
  have : ((fun (q : Key × PyData) => decide (q.1 = Sum.inl (n : Int))) ∘ fun (p : Nat × Nat) => ((Sum.inl (p.1 : Int) : Key), natD p.2)) = fun p => decide (p.1 = n) := by
    funext p
    simp
    omega
  rw [this]
  cases ps.find? (fun p => decide (p.1 = n)) <;> rfl
theorem look_findR (ps : List (Nat × Nat)) (n : Nat) : (((ps.map fun p => ((Sum.inl (p.2 : Int) : Key), natD p.1)).find? fun q => decide (q.1 = Sum.inl (n : Int))).map (·.2)).getD .none = optD (lookR ps n) := by
  unfold lookR
  rw [List.find?_map]
  have : ((fun (q : Key × PyData) => decide (q.1 = Sum.inl (n : Int))) ∘ fun (p : Nat × Nat) => ((Sum.inl (p.2 : Int) : Key), natD p.1)) = fun p => decide (p.2 = n) := by
    funext p
    simp
    omega
  rw [this]
  cases ps.find? (fun p => decide (p.2 = n)) <;> rfl
theorem look_mem {ps : List (Nat × Nat)} {n h : Nat} (e : look ps n = some h) : (n, h) ∈ ps := by
  unfold look at e
  cases q : ps.find? (fun p => decide (p.1 = n)) with
  | none => rw [q] at e; cases e
  | some p =>
    rw [q] at e
    have h1 := List.find?_some q
    have h2 := List.mem_of_find?_eq_some q
    have e2 : p.2 = h := Option.some.inj e
    have e1 : p.1 = n := of_decide_eq_true h1
    rw [← e1, ← e2]
    exact h2
end
end DL

namespace DL
open PySem PySem.Spec PyProof.Rows L2
/-! ### what may be compared -/
def Sh (n : Nat) (d : PyData) : Prop := d.canLay0 = true ∧ d.depth ≤ n
theorem Sh.mono {n m : Nat} {d : PyData} (h : Sh n d) (hm : n ≤ m) : Sh m d := ⟨h.1, Nat.le_trans h.2 hm⟩
theorem Sh.shaped {n : Nat} {d : PyData} (h : Sh n d) (hn : n ≤ 64) : SeqAt.shaped d = true := by
  unfold SeqAt.shaped
  rw [h.1, decide_eq_true (Nat.le_trans h.2 hn)]
  rfl
theorem sh_int {n : Nat} {i : Int} : Sh n (.int i) := ⟨by simp [PyData.canLay0], by simp [PyData.depth]⟩
theorem sh_str {n : Nat} {i : Str} (h : PyData.strOk i = true) : Sh n (.str i) := ⟨by simp [PyData.canLay0, h], by simp [PyData.depth]⟩
theorem sh_non {n : Nat} : Sh n .none := ⟨by simp [PyData.canLay0], by simp [PyData.depth]⟩
theorem sh_bool {n : Nat} {i : Bool} : Sh n (.bool i) := ⟨by simp [PyData.canLay0], by simp [PyData.depth]⟩
def WOk : Wh → Prop
  | .i _ => True
  | .s x => PyData.strOk x = true
theorem sh_W {n : Nat} {x : Wh} (h : WOk x) : Sh n (encW x) := by
  cases x
  · exact sh_int
  · exact sh_str h
theorem sh_L {n : Nat} {l : Ln} : Sh n (.str l.s) := by
  cases l <;> exact sh_str (by decide +kernel)
theorem sh_H {n : Nat} {l : Bool} : Sh n (.str (hs l)) := by
  cases l <;> exact sh_str (by decide +kernel)
def LogOk (log : List Row) : Prop := ∀ r ∈ log, RowOk r ∧ WOk r.w
theorem rowAt_ok {log : List Row} (h : LogOk log) (i : Nat) : RowOk (rowAt log i) ∧ WOk (rowAt log i).w := by
  by_cases hi : i < log.length
  · exact h _ (List.mem_of_getElem? (row_get hi))
  · unfold rowAt
    rw [List.getD_eq_getElem?_getD, List.getElem?_eq_none (by omega)]
    exact ⟨⟨0, rfl⟩, trivial⟩
theorem sh_all {n : Nat} : ∀ {xs : List PyData}, (∀ x ∈ xs, Sh n x) → PyData.canLayAll0 xs = true ∧ PyData.depthAll xs ≤ n
  | [], _ => ⟨by simp [PyData.canLayAll0], by simp [PyData.depthAll]⟩
  | x :: xs, h => by
    have h1 := h x List.mem_cons_self
    have h2 := sh_all (xs := xs) fun y hy => h y (List.mem_cons_of_mem _ hy)
    refine ⟨by rw [PyData.canLayAll0, h1.1, h2.1]; rfl, ?_⟩
    have a := h1.2
    have b := h2.2
    rw [PyData.depthAll]
    omega
theorem sh_list {n : Nat} {xs : List PyData} (h : ∀ x ∈ xs, Sh n x) : Sh (n + 1) (.list xs) := by
  obtain ⟨a, b⟩ := sh_all h
  refine ⟨by rw [PyData.canLay0]; exact a, ?_⟩
  rw [PyData.depth]
  omega
theorem sh_tup {n : Nat} {xs : List PyData} (h : ∀ x ∈ xs, Sh n x) : Sh (n + 1) (.tuple xs) := by
  obtain ⟨a, b⟩ := sh_all h
  refine ⟨by rw [PyData.canLay0]; exact a, ?_⟩
  rw [PyData.depth]
  omega
theorem sh_map {α : Type} {n : Nat} {f : α → PyData} {xs : List α} (h : ∀ x ∈ xs, Sh n (f x)) : ∀ y ∈ xs.map f, Sh n y := by
  intro y hy
  obtain ⟨x, hx, rfl⟩ := List.mem_map.mp hy
  exact h x hx
theorem all_nil {P : PyData → Prop} : ∀ x ∈ ([] : List PyData), P x := fun _ h => by cases h
theorem all_cons {P : PyData → Prop} {x : PyData} {xs : List PyData} (h : P x) (t : ∀ y ∈ xs, P y) : ∀ y ∈ x :: xs, P y := by
  intro y hy
  rcases List.mem_cons.mp hy with rfl | hy
  · exact h
  · exact t y hy
theorem Sh.refl {n : Nat} {d : PyData} (h : Sh n d) : PyData.eqv d d = true := SeqAt.eqv_refl d h.1
/-! a list is empty -/
theorem eqv_nil {xs : List PyData} : PyData.eqv (.list xs) (.list []) = xs.isEmpty := by
  cases xs <;> rfl
theorem eqv_W {a b : Wh} : PyData.eqv (encW a) (encW b) = decide (a = b) := by
  cases a <;> cases b
  · rename_i i j
    show (i == j) = decide (Wh.i i = Wh.i j)
    rw [Bool.beq_eq_decide_eq]
    simp
  · simp [encW, PyData.eqv]
  · simp [encW, PyData.eqv]
  · rename_i i j
    show (i == j) = decide (Wh.s i = Wh.s j)
    rw [Bool.beq_eq_decide_eq]
    simp
/-- a list comprehension with a test, over data -/
theorem range_filter {α β : Type} [Inhabited α] {P : α → Bool} {f : α → β} : ∀ {xs : List α}, ((List.range xs.length).filter fun i => P (xs[i]?.getD default)).map (fun i => f (xs[i]?.getD default)) = (xs.filter P).map f := fun {xs} => by
  have e : xs = (List.range xs.length).map fun i => xs[i]?.getD default := by
    have := range_map (xs := xs) (v := fun i => xs[i]?.getD default) (f := id) fun i x hx => by rw [hx]; rfl
    rw [List.map_id] at this
    exact this.symm
  conv => rhs; rw [e]
  rw [List.filter_map, List.map_map]
  rfl
theorem w_lcF {K : PySem.W.Frag} {M : Mh} {R : Ent → Mh → Prop} {G : Gm} {te : TE} {tt : TT} {α : Type} [Inhabited α] {wi : TI} {g : TG} {vs : List Nat} (hw : WpG g vs) (h : WI K wi G M fun es Gd M1 => ∃ (xs : List α) (en f : α → PyData) (P : α → Bool), es = (xs.map en).map Ent.d ∧ xs.length ≤ 100000 ∧ (∀ q acc, M1 q = none → Gd (mupd M1 q acc)) ∧
    (∀ (i : Nat) x q acc, xs[i]? = some x → M1 q = none → GW K g (.d (en x)) (wipeG G vs) (mupd M1 q (.lst acc)) fun G2 M2 => WT K tt G2 M2 fun b M3 => M3 = mupd M1 q (.lst acc) ∧ b = P x ∧ (P x = true → W K te G2 M3 fun y M4 => M4 = mupd M1 q (.lst acc) ∧ y = .d (f x))) ∧
    R (.d (.list ((xs.filter P).map f))) M1) : W K (tLc wi g tt te vs) G M R := by
  refine w_lcQ hw fun B σ H k Q q => h B σ H k Q fun J H' es Gd M1 h1 k1 wk => q J H' es Gd M1 ?_ k1 wk
  obtain ⟨xs, en, f, P, rfl, hl, hg, hs, hd⟩ := h1
  refine ⟨fun i => P (xs[i]?.getD default), fun i => f (xs[i]?.getD default), by rw [map_len]; exact hl, hg, fun i e q acc he hq => ?_, ?_⟩
  · obtain ⟨x, hx, rfl⟩ := map_at he
    refine fun B σ H v k hv Q q' => hs i x q acc hx hq B σ H v k hv Q fun G' M2 σ' H' w k' => q' G' M2 σ' H' ?_ k'
    show WT K tt G' M2 fun b M3 => M3 = mupd M1 q (.lst acc) ∧ b = P (xs[i]?.getD default) ∧ (P (xs[i]?.getD default) = true → W K te G' M3 fun y M4 => M4 = mupd M1 q (.lst acc) ∧ y = .d (f (xs[i]?.getD default)))
    rw [hx]
    exact w
  · rw [map_len, range_filter]
    exact hd
end DL

namespace DL
open PySem PySem.Spec PyProof.Rows L2
open Evl (Ex ex_rd ex_l ex_t)
theorem cmulL {i j : Int} (h1 : -(2 ^ 64) < i) (h2 : i < 2 ^ 64) : CMul i j := .inl ⟨h1, h2⟩
theorem cmulR {i j : Int} (h1 : -(2 ^ 64) < j) (h2 : j < 2 ^ 64) : CMul i j := .inr ⟨h1, h2⟩
theorem cpowI {i j : Int} (h1 : 0 ≤ j) (h2 : j ≤ 1000000) (h3 : i.natAbs < 2 ^ 64) : CPow i j := ⟨h1, h2, h3⟩
theorem cdivI {i j : Int} (h1 : 0 < j) (h2 : j < 1073741824) : CDiv i j := ⟨h1, h2⟩
def IsI (e : Ent) (P : Int → Prop) : Prop := ∃ b, e = .d (.int b) ∧ P b
theorem isI {b : Int} {P : Int → Prop} (h : P b) : IsI (.d (.int b)) P := ⟨b, rfl, h⟩
section
variable {K : PySem.W.Frag} {M : Mh} {R : Ent → Mh → Prop} {G : Gm} {te ta ty : TE} {D : DE} {t : TS}
theorem wo_someI {RO : Option Int → Mh → Prop} (h : W K te G M fun e M1 => IsI e fun i => RO (some i) M1) : WO K (tPart te) G M RO := wo_some h
theorem w_neg (h : W K ta G M fun e M1 => IsI e fun i => R (.d (.int (-i))) M1) : W K (tUn (rU fun i => .int (-i)) ta) G M R := fun B σ H k Q q =>
  h B σ H k _ fun v H1 e M1 h1 k1 hv => by
    obtain ⟨i, rfl, r⟩ := h1
    exact ⟨i, Da.int_inv hv, q _ H1 _ M1 r k1 (.int _)⟩
theorem ru_cut {us ts : TS} {P : Gm → Mh → Prop} (h : Ru K ts G M ⟨P, D.rt, D.bk, D.ct⟩) (h2 : ∀ G' M', P G' M' → Ru K us G' M' D) : Ru K (tSeq ts us) G M D := ru_seq (h.mono h2 (fun _ _ h => h) (fun _ _ h => h) fun _ _ h => h)
/-- what is mutable, less -/
def Sub (M M' : Mh) : Prop := ∀ a o, M a = some o → M' a = some o
theorem Sub.refl (M : Mh) : Sub M M := fun _ _ h => h
theorem Sub.trans {M1 M2 M3 : Mh} (h : Sub M1 M2) (g : Sub M2 M3) : Sub M1 M3 := fun a o q => g a o (h a o q)
theorem Sub.new {M M' : Mh} {p : Addr} {o : MO} (h : Sub M M') (hp : M p = none) : Sub M (mupd M' p o) := fun a u q => by
  by_cases e : a = p
  · subst e; rw [hp] at q; cases q
  · rw [mupd_ne e]; exact h a u q
theorem Sub.del {M M' : Mh} {p : Addr} (h : Sub M M') (hp : M p = none) : Sub M (mdel M' p) := fun a u q => by
  by_cases e : a = p
  · subst e; rw [hp] at q; cases q
  · unfold mdel; rw [if_neg e]; exact h a u q
theorem less_sub {H : Hp} {M M' : Mh} (h : Sub M M') : Ex (less H M') (less H M) := fun a o q => by
  have h1 : M' a = none := by
    cases z : M' a with
    | none => rfl
    | some mo => rw [less_some z] at q; cases q
  rw [less_none h1] at q
  have h2 : M a = none := by
    cases z : M a with
    | none => rfl
    | some mo => rw [h a mo z] at h1; cases h1
  rw [less_none h2]
  exact q
theorem Ok.sub {B : Hp} {M M' : Mh} {σ : L2.St} {H : Hp} (s : Sub M M') (k : Ok K B M' G σ H) : Ok K B M G σ H :=
  ⟨k.ex.trans (less_sub s), fun a mo q => let ⟨o, e, h⟩ := k.m a mo (s a mo q); ⟨o, e, h.mono (less_sub s)⟩, k.sl.mono (less_sub s)⟩
theorem w_postsub (h : W K te G M fun e M1 => ∃ M2, Sub M2 M1 ∧ R e M2) : W K te G M R := fun B σ H k Q q =>
  h B σ H k Q fun v H' e M1 hp k1 hv => let ⟨M2, s, r⟩ := hp; q v H' e M2 r (k1.sub s) (hv.mono (less_sub s))
theorem ru_sub {M2 : Mh} (s : Sub M2 M) (h : Ru K t G M2 D) : Ru K t G M D := fun B σ H Z k r => h B σ H Z (k.sub s) r
/-- a comprehension whose test is not known: some of what is walked -/
theorem w_lcS {tt : TT} {α : Type} {wi : TI} {g : TG} {vs : List Nat} (hw : WpG g vs) (h : WI K wi G M fun es Gd M1 => ∃ (xs : List α) (en : α → PyData), es = (xs.map en).map Ent.d ∧ xs.length ≤ 100000 ∧ (∀ q acc, M1 q = none → Gd (mupd M1 q acc)) ∧
    (∀ (i : Nat) x q acc, xs[i]? = some x → M1 q = none → GW K g (.d (en x)) (wipeG G vs) (mupd M1 q (.lst acc)) fun G2 M2 => WT K tt G2 M2 fun b M3 => M3 = mupd M1 q (.lst acc) ∧ W K te G2 M3 fun y M4 => M4 = mupd M1 q (.lst acc) ∧ y = .d (en x)) ∧
    ∀ ys, List.Sublist ys xs → R (.d (.list (ys.map en))) M1) : W K (tLc wi g tt te vs) G M R := by
  refine w_lc hw fun B σ H k Q q => h B σ H k Q fun J H' es Gd M1 h1 k1 wk => q J H' es Gd M1 ?_ k1 wk
  obtain ⟨xs, en, rfl, hl, hg, hs, hd⟩ := h1
  refine ⟨fun i acc M' => i ≤ xs.length ∧ M' = M1 ∧ ∃ ys, List.Sublist ys (xs.take i) ∧ acc = (ys.map en).map Ent.d, ⟨Nat.zero_le _, rfl, [], by simp, rfl⟩, fun p acc i M' hp ⟨_, e1, _⟩ _ => by subst e1; exact hg p _ hp, fun i e acc M' p he ⟨hi, e1, ys, hys, e2⟩ hp _ => ?_, fun acc M' ⟨_, e1, ys, hys, e2⟩ => ?_⟩
  · subst e1
    obtain ⟨x, hx, rfl⟩ := map_at he
    have hlt : i < xs.length := (List.getElem?_eq_some_iff.mp hx).1
    have htk : xs.take (i + 1) = xs.take i ++ [x] := by rw [List.take_succ, hx]; rfl
    have hlen := hys.length_le
    rw [List.length_take] at hlen
    have hsz : acc.length < sizeLine := by
      rw [e2, List.length_map, List.length_map]
      refine Nat.lt_of_le_of_lt hlen ?_
      refine Nat.lt_of_le_of_lt (Nat.min_le_right _ _) (Nat.lt_of_le_of_lt hl (by decide))
    refine fun B σ H v k hv Q q => hs i x p acc hx hp B σ H v k hv Q fun G' M2 σ' H' w k' => q G' M2 σ' H' ?_ k'
    refine fun B σ H k Q q => w B σ H k Q fun b H' M3 w2 k2 => q b H' M3 ?_ k2
    obtain ⟨e3, w3⟩ := w2
    refine bool_if (fun _ => ?_) (fun _ => ?_)
    · refine w3.mono fun y M4 hy => ⟨M', hp, hy.1, hsz, hlt, rfl, ys ++ [x], ?_, ?_⟩
      · rw [htk]
        exact hys.append (List.Sublist.refl _)
      · rw [hy.2, e2]
        simp
    · refine ⟨M', hp, e3, hlt, rfl, ys, ?_, e2⟩
      rw [htk]
      exact hys.trans (List.sublist_append_left _ _)
  · subst e1 e2
    rw [map_len, List.take_length] at hys
    exact isDs_map (hd ys hys)
end
theorem cut1 {a b c : PyData} : cutG [a, b, c] (some 1) none = [b, c] := rfl
theorem eqv_lw {a b : Ln} {x y : Wh} : PyData.eqv (.tuple [.str a.s, encW x]) (.tuple [.str b.s, encW y]) = (decide (a = b) && decide (x = y)) := by
  have h : PyData.eqv (.tuple [.str a.s, encW x]) (.tuple [.str b.s, encW y]) = ((a.s == b.s) && (PyData.eqv (encW x) (encW y) && true)) := by
    rw [PyData.eqv, PyData.eqvAll, PyData.eqvAll, PyData.eqvAll, PyData.eqv]
  rw [h, eqv_W, Bool.and_true, Bool.beq_eq_decide_eq]
  congr 1
  simp only [Ln.s_inj]
theorem sh_lw {l : Ln} {x : Wh} (h : WOk x) : SeqAt.shaped (.tuple [.str l.s, encW x]) = true := Sh.shaped (n := 1) (sh_tup (all_cons sh_L (all_cons (sh_W h) all_nil))) (by decide)
end DL

namespace DL
open PySem PySem.Spec PyProof.Rows L2
local macro_rules
  | `(tactic| walk_at "d") => `(tactic| first
    | with_reducible refine ru_seq ?_
    | with_reducible refine ru_asg ?_
    | with_reducible refine ru_ret ?_
    | with_reducible refine ru_if ?_
    | with_reducible refine ru_next ?_
    | with_reducible refine ru_cont ?_
    | with_reducible refine ru_break ?_
    | with_reducible refine ru_dropE ?_
    | with_reducible refine gw_name ?_
    | with_reducible refine gw_tup rfl ?_
    | with_reducible refine gws_consM ?_
    | with_reducible refine gws_nilM ?_
    | with_reducible refine gws_cons ?_
    | with_reducible refine gws_nil ?_
    | with_reducible refine w_var (by with_unfolding_all rfl) ?_
    | with_reducible refine w_int ?_
    | with_reducible refine w_str ?_
    | with_reducible refine w_bl ?_
    | with_reducible refine w_non ?_
    | with_reducible refine w_ref ?_
    | with_reducible refine w_ty ?_
    | with_reducible refine w_op ?_
    | with_reducible refine w_chain ?_
    | with_reducible refine w_cb ?_
    | with_reducible refine w_call0 ?_
    | with_reducible refine w_bm ?_
    | with_reducible refine w_neg ?_
    | with_reducible refine w_ckw ?_
    | with_reducible refine w_andV ?_
    | with_reducible refine w_orV ?_
    | with_reducible refine w_notV ?_
    | with_reducible refine w_sl ?_
    | with_reducible refine w_tup ?_
    | with_reducible refine wo_none ?_
    | with_reducible refine wt_test ?_
    | with_reducible refine wt_B ?_
    | with_reducible refine wt_and ?_
    | with_reducible refine wt_or ?_
    | with_reducible refine wt_not ?_
    | with_reducible refine wt_yes ?_
    | with_reducible refine wa_cons ?_
    | with_reducible refine wa_nil ?_
    | with_reducible refine isB ?_
    | with_reducible refine isI ?_
    | with_reducible refine wo_someI ?_
    | with_reducible refine rs_T ?_
    | with_reducible refine isDs_cons ?_
    | with_reducible refine isDs_nil ?_
    | with_reducible refine ⟨Nat.le_of_ble_eq_true (by with_unfolding_all rfl), ?_⟩
    | with_reducible refine rw_I0 ?_
    | with_reducible refine rw_B0 ?_
    | with_reducible refine rw_I (cmulL (by decide) (by decide)) ?_
    | with_reducible refine rw_I (cmulR (by decide) (by decide)) ?_
    | with_reducible refine rw_I (cpowI (by decide) (by decide) (by decide)) ?_
    | with_reducible refine rw_I (cdivI (by decide) (by decide)) ?_
    | with_reducible refine rw_I (C := fun _ j => 0 < j) (by show (0 : Int) < _; decide) ?_
    | with_reducible refine rw_eqI ?_
    | with_reducible refine rw_eqL ?_
    | with_reducible refine rw_eqH ?_
    | with_reducible refine rw_eqW ?_
    | with_reducible refine rw_eqS ?_
    | with_reducible refine rw_eqB ?_
    | with_reducible refine rw_eqSN ?_
    | with_reducible refine rw_neI ?_
    | with_reducible refine rw_neW ?_
    | with_reducible refine rw_neS ?_
    | with_reducible refine rw_isN ?_
    | with_reducible refine rw_notN ?_
    | with_reducible refine rw_ixLog (by assumption) ?_
    | with_reducible refine rw_ixTd (by with_unfolding_all rfl) ?_
    | with_reducible refine rw_ixLd (by with_unfolding_all rfl) ?_
    | with_reducible refine rc_lenMT ?_
    | with_reducible refine rc_lenML ?_
    | with_reducible refine rc_lenT seqT_d ?_
    | with_reducible refine rc_lenL seqL_d ?_
    | with_reducible refine rc_abs ?_
    | with_reducible refine rc_max2 ?_
    | with_reducible refine rc_min2 ?_
    | with_reducible refine rc_intB ?_
    | with_reducible refine rc_tupL seqL_d ?_
    | with_reducible refine iteT ?_
    | with_reducible refine iteF ?_
    | with_reducible refine iteNT ?_
    | with_reducible refine iteNF ?_)
abbrev s_is_whole : Stmt := topS 5
abbrev N_is_whole : List Str := ["thing"]
abbrev p_is_whole : List Str := ["thing"]
theorem sc_is_whole : FnScope N_is_whole p_is_whole (defScope s_is_whole) := ⟨rfl, rfl, rfl, by decide +kernel, rfl, by decide +kernel, by decide +kernel⟩

def sp_is_whole : Spec := fun M es R => es.length = 1 ∧ ∃ i : Int, es = [.d (.int i)] ∧ R (.d (.bool true)) M
theorem ok_is_whole {P : Program} {w : World} {K : PySem.W.Frag} {mg : Str → Option Value} {base : Heap} {aD aS aB aE : Addr}  {f : Addr} {fd : FuncData} (F : FunD K "is_whole" "is_whole" s_is_whole f fd) (T : Gb w K mg aD aS aB aE)  : FnOk P w K mg base CX0 1 f fd p_is_whole (PSp K sp_is_whole) := by
  refine okD F sc_is_whole (fun M es R h => h.1) (fun cdv A outer s H E hr => ⟨_, (pss_one (ps_ret (pe_and (e_isi K rfl T.isi (by rfl) (pa_cons (pv 0) (pa_cons (pe_bltn (v := .ty "int") (by rfl) T.int (by decide +kernel) rfl) pa_nil))) (pe_one (pe_not (e_isi K rfl T.isi (by rfl) (pa_cons (pv 0) (pa_cons (pe_bltn (v := .ty "bool") (by rfl) T.bool (by decide +kernel) rfl) pa_nil)))))))), fun M es R h => ?_⟩)
  obtain ⟨_, h⟩ := h
  obtain ⟨i, rfl, h⟩ := h
  repeat walk_at "d"
  refine rc_isi (b := true) (by rfl) ?_
  repeat walk_at "d"
  refine rc_isi (b := false) (by rfl) ?_
  repeat walk_at "d"
  exact h
abbrev s_is_from_to : Stmt := topS 6
abbrev N_is_from_to : List Str := ["thing", "least", "most"]
abbrev p_is_from_to : List Str := ["thing", "least", "most"]
theorem sc_is_from_to : FnScope N_is_from_to p_is_from_to (defScope s_is_from_to) := ⟨rfl, rfl, rfl, by decide +kernel, rfl, by decide +kernel, by decide +kernel⟩

def sp_is_from_to : Spec := fun M es R => es.length = 3 ∧ ∃ i a b : Int, es = [.d (.int i), .d (.int a), .d (.int b)] ∧ R (.d (.bool (decide (a ≤ i) && decide (i ≤ b)))) M
theorem ok_is_from_to {P : Program} {w : World} {K : PySem.W.Frag} {mg : Str → Option Value} {base : Heap} {aD aS aB aE : Addr}  {f : Addr} {fd : FuncData} (F : FunD K "is_from_to" "is_from_to" s_is_from_to f fd) (T : Gb w K mg aD aS aB aE) (c_is_whole : Cd P w K mg base 1 "is_whole" sp_is_whole []) : FnOk P w K mg base CX0 2 f fd p_is_from_to (PSp K sp_is_from_to) := by
  refine okD F sc_is_from_to (fun M es R h => h.1) (fun cdv A outer s H E hr => ⟨_, (pss_one (ps_ret (pe_and (e_def P w K mg base rfl rfl rfl rfl rfl c_is_whole hr (by decide) (by rfl) (pa_cons (pv 0) pa_nil)) (pe_one (pe_chain op_le op_le (pv 1) (pv 0) (pv 2)))))), fun M es R h => ?_⟩)
  obtain ⟨_, h⟩ := h
  obtain ⟨i, a, b, rfl, h⟩ := h
  repeat walk_at "d"
  refine ⟨rfl, _, rfl, ?_⟩
  repeat walk_at "d"
  by_cases h1 : a ≤ i
  · rw [decide_eq_true h1] at h ⊢
    repeat walk_at "d"
    rw [Bool.true_and] at h
    exact h
  · rw [decide_eq_false h1] at h ⊢
    repeat walk_at "d"
    exact h
abbrev s_dial_of : Stmt := topS 10
abbrev N_dial_of : List Str := ["engine"]
abbrev p_dial_of : List Str := ["engine"]
theorem sc_dial_of : FnScope N_dial_of p_dial_of (defScope s_dial_of) := ⟨rfl, rfl, rfl, by decide +kernel, rfl, by decide +kernel, by decide +kernel⟩

def sp_dial_of : Spec := fun M es R => es.length = 1 ∧ ∃ l : Ln, es = [.d (.str l.s)] ∧ l.bell = true ∧ R (.d (.str l.dial.s)) M
theorem ok_dial_of {P : Program} {w : World} {K : PySem.W.Frag} {mg : Str → Option Value} {base : Heap} {aD aS aB aE : Addr}  {f : Addr} {fd : FuncData} (F : FunD K "dial_of" "dial_of" s_dial_of f fd) (T : Gb w K mg aD aS aB aE)  : FnOk P w K mg base CX0 1 f fd p_dial_of (PSp K sp_dial_of) := by
  refine okD F sc_dial_of (fun M es R h => h.1) (fun cdv A outer s H E hr => ⟨_, (pss_one (ps_ret (e_ixK K rfl w rfl (pe_glob (v := .ref aD) (by rfl) T.dials rfl) (pv 0) (fun _ _ => rfl)))), fun M es R h => ?_⟩)
  obtain ⟨_, h⟩ := h
  obtain ⟨l, rfl, hl, h⟩ := h
  repeat walk_at "d"
  cases l with
  | port => exact rw_ixD T.dialsP (fun _ => .str _) h
  | star => exact rw_ixD T.dialsS (fun _ => .str _) h
  | _ => cases hl
abbrev s_sent_from : Stmt := topS 11
abbrev N_sent_from : List Str := ["line"]
abbrev p_sent_from : List Str := ["line"]
theorem sc_sent_from : FnScope N_sent_from p_sent_from (defScope s_sent_from) := ⟨rfl, rfl, rfl, by decide +kernel, rfl, by decide +kernel, by decide +kernel⟩

def sp_sent_from : Spec := fun M es R => es.length = 1 ∧ ∃ l : Ln, es = [.d (.str l.s)] ∧ R (.d (.str (hs l.br))) M
theorem ok_sent_from {P : Program} {w : World} {K : PySem.W.Frag} {mg : Str → Option Value} {base : Heap} {aD aS aB aE : Addr}  {f : Addr} {fd : FuncData} (F : FunD K "sent_from" "sent_from" s_sent_from f fd) (T : Gb w K mg aD aS aB aE)  : FnOk P w K mg base CX0 1 f fd p_sent_from (PSp K sp_sent_from) := by
  refine okD F sc_sent_from (fun M es R h => h.1) (fun cdv A outer s H E hr => ⟨_, (pss_one (ps_ret (e_ixK K rfl w rfl (pe_glob (v := .ref aS) (by rfl) T.sent rfl) (pv 0) (fun _ _ => rfl)))), fun M es R h => ?_⟩)
  obtain ⟨_, h⟩ := h
  obtain ⟨l, rfl, h⟩ := h
  repeat walk_at "d"
  cases l with
  | port => exact rw_ixD T.sent1 (fun _ => .str _) h
  | star => exact rw_ixD T.sent2 (fun _ => .str _) h
  | down => exact rw_ixD T.sent3 (fun _ => .str _) h
  | aport => exact rw_ixD T.sent4 (fun _ => .str _) h
  | astar => exact rw_ixD T.sent5 (fun _ => .str _) h
  | up => exact rw_ixD T.sent6 (fun _ => .str _) h
abbrev s_rows_on : Stmt := topS 13
abbrev N_rows_on : List Str := ["log", "line", "number", "row"]
abbrev p_rows_on : List Str := ["log", "line"]
theorem sc_rows_on : FnScope N_rows_on p_rows_on (defScope s_rows_on) := ⟨rfl, rfl, rfl, by decide +kernel, rfl, by decide +kernel, by decide +kernel⟩

def sp_rows_on : Spec := fun M es R => es.length = 2 ∧ ∃ (log : List Row) (l : Ln), es = [.d (encLog log), .d (.str l.s)] ∧ log.length ≤ 1000 ∧ R (.d (.list (nats (rowsOn log l)))) M
theorem ok_rows_on {P : Program} {w : World} {K : PySem.W.Frag} {mg : Str → Option Value} {base : Heap} {aD aS aB aE : Addr}  {f : Addr} {fd : FuncData} (F : FunD K "rows_on" "rows_on" s_rows_on f fd) (T : Gb w K mg aD aS aB aE)  : FnOk P w K mg base CX0 1 f fd p_rows_on (PSp K sp_rows_on) := by
  refine okD F sc_rows_on (fun M es R h => h.1) (fun cdv A outer s H E hr => ⟨_, (pss_one (ps_ret (pe_lc (own := [("number", 2), ("row", 3)]) (g := (gTup K 2 (gCons (gName 2) (gCons (gName 3) gNil)))) rfl sc_rows_on.nd (i_enumT K rfl T.enumerate (by rfl) (pa_cons (pv 0) pa_nil)) (blkOk_by (own := [("number", 2), ("row", 3)]) (N := N_rows_on) (sc := defScope s_rows_on) (by decide +kernel)) (fun _ _ _ _ _ => (g_tup K rfl 2 rfl (pgs_cons (pg_name (i := 2) sc_rows_on.nd rfl (Or.inl rfl)) (pgs_cons (pg_name (i := 3) sc_rows_on.nd rfl (Or.inl rfl)) pgs_nil)))) (fun _ _ _ _ _ => (pts_one (pt_cmpR op_eq (e_ixT K rfl (pv 3) pe_int (fun _ _ => rfl)) (pv 1) (nomark _)))) (fun _ _ _ _ _ => (pv 2))))), fun M es R h => ?_⟩)
  obtain ⟨_, h⟩ := h
  obtain ⟨log, l, rfl, hl, h⟩ := h
  repeat walk_at "d"
  refine w_lcQ (wpg_tup (wpgs_cons (by decide) (wpgs_cons (by decide) wpgs_nil))) ?_
  refine wi_enumT ?_
  repeat walk_at "d"
  refine ⟨_, rfl, onLine log l, natD, by rw [enum_len]; omega, fun _ _ _ => trivial, fun i e q acc he hq => ?_, ?_⟩
  · obtain ⟨hi, rfl⟩ := enum_log he
    repeat walk_at "d"
    refine ⟨rfl, rfl, fun _ => ?_⟩
    repeat walk_at "d"
    exact ⟨rfl, rfl⟩
  · rw [enum_len]
    exact h
end DL


namespace DL
open PySem PySem.Spec PyProof.Rows L2
local macro_rules
  | `(tactic| walk_at "d") => `(tactic| first
    | with_reducible refine ru_seq ?_
    | with_reducible refine ru_asg ?_
    | with_reducible refine ru_ret ?_
    | with_reducible refine ru_if ?_
    | with_reducible refine ru_next ?_
    | with_reducible refine ru_cont ?_
    | with_reducible refine ru_break ?_
    | with_reducible refine ru_dropE ?_
    | with_reducible refine gw_name ?_
    | with_reducible refine gw_tup rfl ?_
    | with_reducible refine gws_consM ?_
    | with_reducible refine gws_nilM ?_
    | with_reducible refine gws_cons ?_
    | with_reducible refine gws_nil ?_
    | with_reducible refine w_var (by with_unfolding_all rfl) ?_
    | with_reducible refine w_int ?_
    | with_reducible refine w_str ?_
    | with_reducible refine w_bl ?_
    | with_reducible refine w_non ?_
    | with_reducible refine w_ref ?_
    | with_reducible refine w_ty ?_
    | with_reducible refine w_op ?_
    | with_reducible refine w_chain ?_
    | with_reducible refine w_cb ?_
    | with_reducible refine w_call0 ?_
    | with_reducible refine w_bm ?_
    | with_reducible refine w_neg ?_
    | with_reducible refine w_ckw ?_
    | with_reducible refine w_andV ?_
    | with_reducible refine w_orV ?_
    | with_reducible refine w_notV ?_
    | with_reducible refine w_sl ?_
    | with_reducible refine w_tup ?_
    | with_reducible refine wo_none ?_
    | with_reducible refine wt_test ?_
    | with_reducible refine wt_B ?_
    | with_reducible refine wt_and ?_
    | with_reducible refine wt_or ?_
    | with_reducible refine wt_not ?_
    | with_reducible refine wt_yes ?_
    | with_reducible refine wa_cons ?_
    | with_reducible refine wa_nil ?_
    | with_reducible refine isB ?_
    | with_reducible refine isI ?_
    | with_reducible refine wo_someI ?_
    | with_reducible refine rs_T ?_
    | with_reducible refine isDs_cons ?_
    | with_reducible refine isDs_nil ?_
    | with_reducible refine ⟨Nat.le_of_ble_eq_true (by with_unfolding_all rfl), ?_⟩
    | with_reducible refine rw_I0 ?_
    | with_reducible refine rw_B0 ?_
    | with_reducible refine rw_I (cmulL (by decide) (by decide)) ?_
    | with_reducible refine rw_I (cmulR (by decide) (by decide)) ?_
    | with_reducible refine rw_I (cpowI (by decide) (by decide) (by decide)) ?_
    | with_reducible refine rw_I (cdivI (by decide) (by decide)) ?_
    | with_reducible refine rw_I (C := fun _ j => 0 < j) (by show (0 : Int) < _; decide) ?_
    | with_reducible refine rw_eqI ?_
    | with_reducible refine rw_eqL ?_
    | with_reducible refine rw_eqH ?_
    | with_reducible refine rw_eqW ?_
    | with_reducible refine rw_eqS ?_
    | with_reducible refine rw_eqB ?_
    | with_reducible refine rw_eqSN ?_
    | with_reducible refine rw_neI ?_
    | with_reducible refine rw_neW ?_
    | with_reducible refine rw_neS ?_
    | with_reducible refine rw_isN ?_
    | with_reducible refine rw_notN ?_
    | with_reducible refine rw_ixLog (by assumption) ?_
    | with_reducible refine rw_ixTd (by with_unfolding_all rfl) ?_
    | with_reducible refine rw_ixLd (by with_unfolding_all rfl) ?_
    | with_reducible refine rc_lenMT ?_
    | with_reducible refine rc_lenML ?_
    | with_reducible refine rc_lenT seqT_d ?_
    | with_reducible refine rc_lenL seqL_d ?_
    | with_reducible refine rc_abs ?_
    | with_reducible refine rc_max2 ?_
    | with_reducible refine rc_min2 ?_
    | with_reducible refine rc_intB ?_
    | with_reducible refine rc_tupL seqL_d ?_
    | with_reducible refine iteT ?_
    | with_reducible refine iteF ?_
    | with_reducible refine iteNT ?_
    | with_reducible refine iteNF ?_)
abbrev s_fate : Stmt := topS 15
abbrev N_fate : List Str := ["log", "engine", "number", "dial", "other", "minute", "line", "what"]
abbrev p_fate : List Str := ["log", "engine", "number"]
theorem sc_fate : FnScope N_fate p_fate (defScope s_fate) := ⟨rfl, rfl, rfl, by decide +kernel, rfl, by decide +kernel, by decide +kernel⟩

def sp_fate : Spec := fun M es R => es.length = 3 ∧ ∃ (log : List Row) (l : Ln) (n : Nat), es = [.d (encLog log), .d (.str l.s), .d (natD n)] ∧ l.bell = true ∧ n < log.length ∧ log.length ≤ 1000 ∧ R (.d (encFate (fateOf log l n))) M
theorem ok_fate {P : Program} {w : World} {K : PySem.W.Frag} {mg : Str → Option Value} {base : Heap} {aD aS aB aE : Addr}  {f : Addr} {fd : FuncData} (F : FunD K "fate" "fate" s_fate f fd) (T : Gb w K mg aD aS aB aE) (c_dial_of : Cd P w K mg base 1 "dial_of" sp_dial_of []) : FnOk P w K mg base CX0 2 f fd p_fate (PSp K sp_fate) := by
  refine okD F sc_fate (fun M es R h => h.1) (fun cdv A outer s H E hr => ⟨_, (pss_cons (ps_set (i := 3) sc_fate.nd rfl (Or.inl rfl) (e_def P w K mg base rfl rfl rfl rfl rfl c_dial_of hr (by decide) (by rfl) (pa_cons (pv 1) pa_nil)))
    (pss_cons (ps_for PassesOwn.never rfl (pi_range2 (by rfl) T.range (pa_cons (pe_op op_add (pv 2) pe_int) (pa_cons (e_len K rfl T.len (by rfl) (pa_cons (pv 0) pa_nil)) pa_nil))) (pg_name (i := 4) sc_fate.nd rfl (Or.inl rfl)) (pss_cons (ps_asg (e_ixT K rfl (pv 0) (pv 4) (fun _ _ => rfl)) (g_tup K rfl 3 rfl (pgs_cons (pg_name (i := 5) sc_fate.nd rfl (Or.inl rfl)) (pgs_cons (pg_name (i := 6) sc_fate.nd rfl (Or.inl rfl)) (pgs_cons (pg_name (i := 7) sc_fate.nd rfl (Or.inl rfl)) pgs_nil)))))
    (pss_cons (ps_if (pt_cmpR op_eq (pv 6) (pv 1) (nomark _)) (pss_one (ps_ret (pe_tup (pa_cons pe_str (pa_cons (pv 4) pa_nil))))) pss_nil)
    (pss_one (ps_if (PW.pt (pw_and (pt_cmpR op_eq (pv 6) (pv 3) (nomark _)) (pw_and1 (pt_cmpR op_eq (pv 7) (e_ixT K rfl (e_ixT K rfl (pv 0) (pv 2) (fun _ _ => rfl)) pe_int (fun _ _ => rfl)) (nomark _))))) (pss_one (ps_ret (pe_tup (pa_cons pe_str (pa_cons (pv 4) pa_nil))))) pss_nil)))))
    (pss_one (ps_ret (pe_tup (pa_cons pe_str (pa_cons pe_non pa_nil))))))), fun M es R h => ?_⟩)
  obtain ⟨_, h⟩ := h
  obtain ⟨log, l, n, rfl, hb, hn, hl, h⟩ := h
  repeat walk_at "d"
  refine ⟨rfl, l, rfl, hb, ?_⟩
  repeat walk_at "d"
  refine ru_for (wi_rng2 ?_)
  repeat walk_at "d"
  refine ⟨_, _, rfl, ?_, ?_⟩
  · omega
  refine ⟨fun i G' M' => M' = M ∧ (∃ a b c d : Option Ent, G' = [some (.d (encLog log)), some (.d (.str l.s)), some (.d (natD n)), some (.d (.str l.dial.s)), a, b, c, d]) ∧ ∀ j, j < i → fateAt log l (rowAt log n).w (n + 1 + j) = none, ⟨rfl, ⟨_, _, _, _, rfl⟩, fun j hj => absurd hj (Nat.not_lt_zero _)⟩, fun _ _ _ _ => trivial, ?_, ?_⟩
  · rintro i e G' M' he ⟨rfl, ⟨a, b, c, d, rfl⟩, hp⟩
    obtain ⟨hi, rfl⟩ := rng_at he
    have hi2 : n + 1 + i < log.length := by omega
    have ec : ((n : Int) + 1 + (i : Int)) = ((n + 1 + i : Nat) : Int) := by omega
    rw [ec]
    repeat walk_at "d"
    refine dec_if (fun h1 => ?_) (fun h1 => ?_)
    · repeat walk_at "d"
      rw [fate_some hi2 (F := .taken (n + 1 + i)) (by unfold fateAt; rw [if_pos h1]) hp] at h
      exact h
    · repeat walk_at "d"
      refine dec_if (fun h2 => ?_) (fun h2 => ?_)
      · repeat walk_at "d"
        refine dec_if (fun h3 => ?_) (fun h3 => ?_)
        · repeat walk_at "d"
          rw [fate_some hi2 (F := .answered (n + 1 + i)) (by unfold fateAt; rw [if_neg h1, if_pos ⟨h2, h3⟩]) hp] at h
          exact h
        · repeat walk_at "d"
          refine ⟨rfl, ⟨_, _, _, _, rfl⟩, fun j hj => ?_⟩
          rcases Nat.lt_succ_iff_lt_or_eq.mp hj with hj | rfl
          · exact hp j hj
          · unfold fateAt; rw [if_neg h1, if_neg fun z => h3 z.2]
      · repeat walk_at "d"
        refine ⟨rfl, ⟨_, _, _, _, rfl⟩, fun j hj => ?_⟩
        rcases Nat.lt_succ_iff_lt_or_eq.mp hj with hj | rfl
        · exact hp j hj
        · unfold fateAt; rw [if_neg h1, if_neg fun z => h2 z.1]
  · rintro G' M' ⟨rfl, ⟨a, b, c, d, rfl⟩, hp⟩
    repeat walk_at "d"
    rw [fate_opn fun j hj => hp j (by rw [rngE_len]; omega)] at h
    exact h
abbrev s_need_ring : Stmt := topS 18
abbrev N_need_ring : List Str := ["bridge", "number"]
abbrev p_need_ring : List Str := ["bridge", "number"]
theorem sc_need_ring : FnScope N_need_ring p_need_ring (defScope s_need_ring) := ⟨rfl, rfl, rfl, by decide +kernel, rfl, by decide +kernel, by decide +kernel⟩

def sp_need_ring : Spec := fun M es R => es.length = 2 ∧ ∃ (log : List Row) (n : Nat), es = [.d (encLog log), .d (natD n)] ∧ n < log.length ∧ (rowAt log n).l.bell = true ∧ R (.d .none) M
theorem bell_in {l : Ln} (h : l.bell = true) : l.s ∈ [("port" : Str), "star"] := by
  cases l with
  | port => decide +kernel
  | star => decide +kernel
  | _ => cases h
theorem ok_need_ring {P : Program} {w : World} {K : PySem.W.Frag} {mg : Str → Option Value} {base : Heap} {aD aS aB aE : Addr}  {f : Addr} {fd : FuncData} (F : FunD K "need_ring" "need_ring" s_need_ring f fd) (T : Gb w K mg aD aS aB aE)  : FnOk P w K mg base CX0 1 f fd p_need_ring (PSp K sp_need_ring) := by
  refine okD F sc_need_ring (fun M es R h => h.1) (fun cdv A outer s H E hr => ⟨_, (pss_cons (ps_if (PW.pt (pw_or (pt_not (pt_val (e_isi K rfl T.isi (by rfl) (pa_cons (pv 1) (pa_cons (pe_bltn (v := .ty "int") (by rfl) T.int (by decide +kernel) rfl) pa_nil))))) (pw_or (pt_val (e_isi K rfl T.isi (by rfl) (pa_cons (pv 1) (pa_cons (pe_bltn (v := .ty "bool") (by rfl) T.bool (by decide +kernel) rfl) pa_nil)))) (pw_or1 (pt_not (pt_chain op_le op_lt pe_int (pv 1) (e_len K rfl T.len (by rfl) (pa_cons (pv 0) pa_nil)))))))) (pss_one ps_never) pss_nil)
    (pss_one (ps_if (c_notin K rfl (e_ixT K rfl (e_ixT K rfl (pv 0) (pv 1) (fun _ _ => rfl)) pe_int (fun _ _ => rfl)) (pe_glob (v := .ref aB) (by rfl) T.bells rfl) (by first | rfl | decide)) (pss_one ps_never) pss_nil))), fun M es R h => ?_⟩)
  obtain ⟨_, h⟩ := h
  obtain ⟨log, n, rfl, hn, hb, h⟩ := h
  repeat walk_at "d"
  refine rc_isi (b := true) (by rfl) ?_
  repeat walk_at "d"
  refine rc_isi (b := false) (by rfl) ?_
  repeat walk_at "d"
  refine dec_if (fun h1 => ?_) (fun h1 => absurd (Int.natCast_nonneg n) h1)
  repeat walk_at "d"
  rw [decide_eq_true (show (n : Int) < (log.length : Int) by omega)]
  repeat walk_at "d"
  refine rw_inKS (ss := ["port", "star"]) T.bellsT ?_
  rw [decide_eq_true (bell_in hb)]
  show IsB (.d (.bool false)) _
  repeat walk_at "d"
  exact h
abbrev s_ring_of : Stmt := topS 19
abbrev N_ring_of : List Str := ["bridge", "room", "joining", "number", "heard", "word", "other", "seen", "b", "r"]
abbrev p_ring_of : List Str := ["bridge", "room", "joining", "number"]
theorem sc_ring_of : FnScope N_ring_of p_ring_of (defScope s_ring_of) := ⟨rfl, rfl, rfl, by decide +kernel, rfl, by decide +kernel, by decide +kernel⟩

def sp_ring_of : Spec := fun M es R => es.length = 4 ∧ ∃ (br rm : List Row) (ps : List (Nat × Nat)) (n : Nat), es = [.d (encLog br), .d (encLog rm), .d (encPs ps), .d (natD n)] ∧ n < br.length ∧ (rowAt br n).l.bell = true ∧ Pairs br rm ps ∧ rm.length ≤ 1000 ∧ ps.length ≤ 1000 ∧
  R (.d (.tuple (encRing (ringOf br rm ps n)))) M
theorem ok_ring_of {P : Program} {w : World} {K : PySem.W.Frag} {mg : Str → Option Value} {base : Heap} {aD aS aB aE : Addr}  {f : Addr} {fd : FuncData} (F : FunD K "ring_of" "ring_of" s_ring_of f fd) (T : Gb w K mg aD aS aB aE) (c_need_ring : Cd P w K mg base 1 "need_ring" sp_need_ring []) (c_fate : Cd P w K mg base 2 "fate" sp_fate []) : FnOk P w K mg base CX0 3 f fd p_ring_of (PSp K sp_ring_of) := by
  refine okD F sc_ring_of (fun M es R h => h.1) (fun cdv A outer s H E hr => ⟨_, (pss_cons (ps_expr (e_def P w K mg base rfl rfl rfl rfl rfl c_need_ring hr (by decide) (by rfl) (pa_cons (pv 0) (pa_cons (pv 3) pa_nil))))
    (pss_cons (ps_set (i := 4) sc_ring_of.nd rfl (Or.inl rfl) (pe_dget1 (un1 hr) (e_dict K rfl rfl T.dict (by rfl) (pa_cons (pv 2) pa_nil)) (pv 3) ⟨rfl, rfl, rfl, rfl⟩))
    (pss_cons (ps_if (pt_cmpR op_isN (pv 4) pe_non (nomark _)) (pss_one (ps_ret (pe_tup (pa_cons pe_str pa_nil)))) pss_nil)
    (pss_cons (ps_asg (e_def P w K mg base rfl rfl rfl rfl rfl c_fate hr (by decide) (by rfl) (pa_cons (pv 1) (pa_cons (e_ixT K rfl (e_ixT K rfl (pv 0) (pv 3) (fun _ _ => rfl)) pe_int (fun _ _ => rfl)) (pa_cons (pv 4) pa_nil)))) (g_tup K rfl 2 rfl (pgs_cons (pg_name (i := 5) sc_ring_of.nd rfl (Or.inl rfl)) (pgs_cons (pg_name (i := 6) sc_ring_of.nd rfl (Or.inl rfl)) pgs_nil))))
    (pss_cons (ps_if (pt_cmpR op_eq (pv 5) pe_str (nomark _)) (pss_cons (ps_set (i := 7) sc_ring_of.nd rfl (Or.inl rfl) (pe_dget1 (un1 hr) (e_dict K rfl rfl T.dict (by rfl) (pa_cons (pe_lc (own := [("b", 8), ("r", 9)]) (g := (gTup K 2 (gCons (gName 8) (gCons (gName 9) gNil)))) rfl sc_ring_of.nd (i_list K rfl (pv 2)) (blkOk_by (own := [("b", 8), ("r", 9)]) (N := N_ring_of) (sc := defScope s_ring_of) (by decide +kernel)) (fun _ _ _ _ _ => (g_tup K rfl 2 rfl (pgs_cons (pg_name (i := 8) sc_ring_of.nd rfl (Or.inl rfl)) (pgs_cons (pg_name (i := 9) sc_ring_of.nd rfl (Or.inl rfl)) pgs_nil)))) (fun _ _ _ _ _ => pts_nil) (fun _ _ _ _ _ => (pe_tup (pa_cons (pv 9) (pa_cons (pv 8) pa_nil))))) pa_nil)) (pv 6) ⟨rfl, rfl, rfl, rfl⟩))
    (pss_one (ps_ret (pe_tup (pa_cons (pv 5) (pa_cons (pv 4) (pa_cons (pv 6) (pa_cons (pv 7) pa_nil)))))))) pss_nil)
    (pss_cons (ps_if (pt_cmpR op_eq (pv 5) pe_str (nomark _)) (pss_one (ps_ret (pe_tup (pa_cons (pv 5) (pa_cons (pv 4) (pa_cons (pv 6) pa_nil)))))) pss_nil)
    (pss_one (ps_ret (pe_tup (pa_cons (pv 5) (pa_cons (pv 4) pa_nil))))))))))), fun M es R h => ?_⟩)
  obtain ⟨_, h⟩ := h
  obtain ⟨br, rm, ps, n, rfl, hn, hb, hp, hl, hz, h⟩ := h
  repeat walk_at "d"
  refine ⟨rfl, _, _, rfl, hn, hb, ?_⟩
  repeat walk_at "d"
  refine w_dgetP ?_
  repeat walk_at "d"
  refine ⟨ps.map fun p => (Sum.inl (p.1 : Int), natD p.2), by rw [kps_pairs]; exact seqL_d, kps_nd hp.nd1, fun M2 => ?_⟩
  repeat walk_at "d"
  refine ⟨rfl, Sum.inl (n : Int), rfl, ?_⟩
  rw [look_find]
  repeat walk_at "d"
  cases hk : look ps n with
  | none =>
    refine if_t rfl ?_
    repeat walk_at "d"
    unfold ringOf at h
    rw [hk] at h
    exact h
  | some r =>
    unfold ringOf at h
    rw [hk] at h
    have hr2 := (hp.lt _ (look_mem hk)).2
    refine if_f rfl ?_
    repeat walk_at "d"
    refine ⟨rfl, rm, (rowAt br n).l, r, rfl, hb, hr2, hl, ?_⟩
    cases hf : fateOf rm (rowAt br n).l r with
    | taken o =>
      show GW K _ (.d (.tuple [.str "taken", natD o])) _ _ _
      repeat walk_at "d"
      refine if_f (by decide +kernel) ?_
      repeat walk_at "d"
      refine if_t (by decide +kernel) ?_
      repeat walk_at "d"
      simp only [ringAt, hf] at h
      exact h
    | answered o =>
      show GW K _ (.d (.tuple [.str "answered", natD o])) _ _ _
      repeat walk_at "d"
      refine if_t (by decide +kernel) ?_
      repeat walk_at "d"
      refine w_dgetP (w_lcE (α := Nat × Nat) (wpg_tup (wpgs_cons (by decide) (wpgs_cons (by decide) wpgs_nil))) (wi_listD ?_))
      repeat walk_at "d"
      refine ⟨_, rfl, ps, encP, fun p => .tuple [natD p.2, natD p.1], rfl, by omega, fun _ _ _ => trivial, fun i x q acc hx hq => ?_, ps.map fun p => (Sum.inl (p.2 : Int), natD p.1), ?_, kps_nd2 hp.nd2, fun M2 => ?_⟩
      · repeat walk_at "d"
        refine ⟨rfl, ?_⟩
        repeat walk_at "d"
        exact ⟨rfl, rfl⟩
      · rw [kps_pairs2]
        exact seqL_d
      · repeat walk_at "d"
        refine ⟨rfl, Sum.inl (o : Int), rfl, ?_⟩
        rw [look_findR]
        repeat walk_at "d"
        simp only [ringAt, hf] at h
        exact h
    | opn =>
      show GW K _ (.d (.tuple [.str "open", .none])) _ _ _
      repeat walk_at "d"
      refine if_f (by decide +kernel) ?_
      repeat walk_at "d"
      refine if_f (by decide +kernel) ?_
      repeat walk_at "d"
      simp only [ringAt, hf] at h
      exact h
abbrev s_obeyed : Stmt := topS 20
abbrev N_obeyed : List Str := ["bridge", "room", "joining", "number", "d", "heard", "behind", "k"]
abbrev p_obeyed : List Str := ["bridge", "room", "joining", "number", "d"]
theorem sc_obeyed : FnScope N_obeyed p_obeyed (defScope s_obeyed) := ⟨rfl, rfl, rfl, by decide +kernel, rfl, by decide +kernel, by decide +kernel⟩

def sp_obeyed : Spec := fun M es R => es.length = 5 ∧ ∃ (br rm : List Row) (ps : List (Nat × Nat)) (n : Nat) (d : Int), es = [.d (encLog br), .d (encLog rm), .d (encPs ps), .d (natD n), .d (.int d)] ∧ n < br.length ∧ (rowAt br n).l.bell = true ∧ Pairs br rm ps ∧ rm.length ≤ 1000 ∧ ps.length ≤ 1000 ∧
  R (.d (encOb (obeyOf br rm ps n d))) M
theorem rowsOn_lt {log : List Row} {l : Ln} {k : Nat} (h : k ∈ rowsOn log l) : k < log.length := by
  unfold rowsOn at h
  exact List.mem_range.mp (List.mem_filter.mp h).1
theorem rowsOn_len (log : List Row) (l : Ln) : (rowsOn log l).length ≤ log.length := by
  unfold rowsOn
  have := List.length_filter_le (onLine log l) (List.range log.length)
  rwa [List.length_range] at this
theorem ok_obeyed {P : Program} {w : World} {K : PySem.W.Frag} {mg : Str → Option Value} {base : Heap} {aD aS aB aE : Addr}  {f : Addr} {fd : FuncData} (F : FunD K "obeyed" "obeyed" s_obeyed f fd) (T : Gb w K mg aD aS aB aE) (c_need_ring : Cd P w K mg base 1 "need_ring" sp_need_ring []) (c_rows_on : Cd P w K mg base 1 "rows_on" sp_rows_on []) : FnOk P w K mg base CX0 2 f fd p_obeyed (PSp K sp_obeyed) := by
  refine okD F sc_obeyed (fun M es R h => h.1) (fun cdv A outer s H E hr => ⟨_, (pss_cons (ps_expr (e_def P w K mg base rfl rfl rfl rfl rfl c_need_ring hr (by decide) (by rfl) (pa_cons (pv 0) (pa_cons (pv 3) pa_nil))))
    (pss_cons (ps_set (i := 5) sc_obeyed.nd rfl (Or.inr rfl) (pe_dget1 (un1 hr) (e_dict K rfl rfl T.dict (by rfl) (pa_cons (pv 2) pa_nil)) (pv 3) ⟨rfl, rfl, rfl, rfl⟩))
    (pss_cons (ps_if (pt_cmpR op_isN (pv 5) pe_non (nomark _)) (pss_one (ps_ret pe_non)) pss_nil)
    (pss_cons (ps_setLc (i := 6) (own := [("k", 7)]) (g := (gName 7)) rfl sc_obeyed.nd rfl rfl (sw_true rfl rfl rfl (by decide +kernel)) (i_list K rfl (e_def P w K mg base rfl rfl rfl rfl rfl c_rows_on hr (by decide) (by rfl) (pa_cons (pv 1) (pa_cons (e_ixT K rfl (e_ixT K rfl (pv 0) (pv 3) (fun _ _ => rfl)) pe_int (fun _ _ => rfl)) pa_nil)))) (blkOk_by (own := [("k", 7)]) (N := N_obeyed) (sc := defScope s_obeyed) (by decide +kernel)) (fun _ _ _ _ _ => (pg_name (i := 7) sc_obeyed.nd rfl (Or.inl rfl))) (fun _ _ _ _ _ => (pts_one (pt_cmpR op_gt (pv 7) (pv 5) (nomark _)))) (fun _ _ _ _ _ => (pe_op op_sub (e_ixT K rfl (e_ixT K rfl (pv 1) (pv 7) (fun _ _ => rfl)) pe_int (fun _ _ => rfl)) (pv 4))))
    (pss_cons (ps_if (c_eqD K rfl hr (pv 6) (pe_lst pa_nil)) (pss_one (ps_ret (pe_tup (pa_cons (pe_op op_sub (e_ixT K rfl (e_ixT K rfl (pv 1) (pv 5) (fun _ _ => rfl)) pe_int (fun _ _ => rfl)) (pv 4)) (pa_cons pe_non pa_nil))))) pss_nil)
    (pss_one (ps_ret (pe_tup (pa_cons (pe_op op_sub (e_ixT K rfl (e_ixT K rfl (pv 1) (pv 5) (fun _ _ => rfl)) pe_int (fun _ _ => rfl)) (pv 4)) (pa_cons (e_ixL K rfl (pv 6) pe_int (fun _ _ => rfl)) pa_nil)))))))))), fun M es R h => ?_⟩)
  obtain ⟨_, h⟩ := h
  obtain ⟨br, rm, ps, n, d, rfl, hn, hb, hp, hl, hz, h⟩ := h
  repeat walk_at "d"
  refine ⟨rfl, _, _, rfl, hn, hb, ?_⟩
  repeat walk_at "d"
  refine w_dgetP ?_
  repeat walk_at "d"
  refine ⟨ps.map fun p => (Sum.inl (p.1 : Int), natD p.2), by rw [kps_pairs]; exact seqL_d, kps_nd hp.nd1, fun M2 => ?_⟩
  repeat walk_at "d"
  refine ⟨rfl, Sum.inl (n : Int), rfl, ?_⟩
  rw [look_find]
  repeat walk_at "d"
  unfold obeyOf at h
  cases hk : look ps n with
  | none =>
    refine if_t rfl ?_
    repeat walk_at "d"
    rw [hk] at h
    exact h
  | some r =>
    rw [hk] at h
    rw [show optD (some r) = natD r from rfl]
    have hr2 := (hp.lt _ (look_mem hk)).2
    refine if_f rfl ?_
    repeat walk_at "d"
    refine w_lcF (α := Nat) (wpg_name (by decide)) (wi_listD ?_)
    repeat walk_at "d"
    refine ⟨rfl, rm, (rowAt br n).l, rfl, hl, ?_⟩
    refine ⟨_, rfl, rowsOn rm (rowAt br n).l, natD, fun k => .int ((rowAt rm k).m - d), fun k => decide (r < k), rfl, Nat.le_trans (rowsOn_len _ _) (by omega), fun _ _ _ => trivial, fun i k q acc hx hq => ?_, ?_⟩
    · have hk3 := rowsOn_lt (List.mem_of_getElem? hx)
      repeat walk_at "d"
      refine ⟨rfl, by simp, fun _ => ?_⟩
      repeat walk_at "d"
      exact ⟨rfl, rfl⟩
    · repeat walk_at "d"
      refine w_lst ?_
      repeat walk_at "d"
      refine rw_eqD asD_d asD_d (Sh.shaped (n := 1) (sh_list (sh_map fun _ _ => sh_int)) (by decide)) (Sh.shaped (n := 1) (sh_list all_nil) (by decide)) ?_
      rw [eqv_nil]
      refine isB ?_
      unfold obeyAt at h
      cases hb2 : (rowsOn rm (rowAt br n).l).filter fun k => decide (r < k) with
      | nil =>
        simp only [hb2, List.map_nil] at h ⊢
        refine if_t rfl ?_
        repeat walk_at "d"
        exact h
      | cons k ks =>
        simp only [hb2, List.map_cons] at h ⊢
        refine if_f rfl ?_
        repeat walk_at "d"
        refine rw_ixLd at_head ?_
        repeat walk_at "d"
        exact h
end DL


namespace DL
open PySem PySem.Spec PyProof.Rows L2
local macro_rules
  | `(tactic| walk_at "d") => `(tactic| first
    | with_reducible refine ru_seq ?_
    | with_reducible refine ru_asg ?_
    | with_reducible refine ru_ret ?_
    | with_reducible refine ru_if ?_
    | with_reducible refine ru_next ?_
    | with_reducible refine ru_cont ?_
    | with_reducible refine ru_break ?_
    | with_reducible refine ru_dropE ?_
    | with_reducible refine gw_name ?_
    | with_reducible refine gw_tup rfl ?_
    | with_reducible refine gws_consM ?_
    | with_reducible refine gws_nilM ?_
    | with_reducible refine gws_cons ?_
    | with_reducible refine gws_nil ?_
    | with_reducible refine w_var (by with_unfolding_all rfl) ?_
    | with_reducible refine w_int ?_
    | with_reducible refine w_str ?_
    | with_reducible refine w_bl ?_
    | with_reducible refine w_non ?_
    | with_reducible refine w_ref ?_
    | with_reducible refine w_ty ?_
    | with_reducible refine w_op ?_
    | with_reducible refine w_chain ?_
    | with_reducible refine w_cb ?_
    | with_reducible refine w_call0 ?_
    | with_reducible refine w_bm ?_
    | with_reducible refine w_neg ?_
    | with_reducible refine w_ckw ?_
    | with_reducible refine w_andV ?_
    | with_reducible refine w_orV ?_
    | with_reducible refine w_notV ?_
    | with_reducible refine w_sl ?_
    | with_reducible refine w_tup ?_
    | with_reducible refine wo_none ?_
    | with_reducible refine wt_test ?_
    | with_reducible refine wt_B ?_
    | with_reducible refine wt_and ?_
    | with_reducible refine wt_or ?_
    | with_reducible refine wt_not ?_
    | with_reducible refine wt_yes ?_
    | with_reducible refine wa_cons ?_
    | with_reducible refine wa_nil ?_
    | with_reducible refine isB ?_
    | with_reducible refine isI ?_
    | with_reducible refine wo_someI ?_
    | with_reducible refine rs_T ?_
    | with_reducible refine isDs_cons ?_
    | with_reducible refine isDs_nil ?_
    | with_reducible refine ⟨Nat.le_of_ble_eq_true (by with_unfolding_all rfl), ?_⟩
    | with_reducible refine rw_I0 ?_
    | with_reducible refine rw_B0 ?_
    | with_reducible refine rw_I (cmulL (by decide) (by decide)) ?_
    | with_reducible refine rw_I (cmulR (by decide) (by decide)) ?_
    | with_reducible refine rw_I (cpowI (by decide) (by decide) (by decide)) ?_
    | with_reducible refine rw_I (cdivI (by decide) (by decide)) ?_
    | with_reducible refine rw_I (C := fun _ j => 0 < j) (by show (0 : Int) < _; decide) ?_
    | with_reducible refine rw_eqI ?_
    | with_reducible refine rw_eqL ?_
    | with_reducible refine rw_eqH ?_
    | with_reducible refine rw_eqW ?_
    | with_reducible refine rw_eqS ?_
    | with_reducible refine rw_eqB ?_
    | with_reducible refine rw_eqSN ?_
    | with_reducible refine rw_neI ?_
    | with_reducible refine rw_neW ?_
    | with_reducible refine rw_neS ?_
    | with_reducible refine rw_isN ?_
    | with_reducible refine rw_notN ?_
    | with_reducible refine rw_ixLog (by assumption) ?_
    | with_reducible refine rw_ixTd (by with_unfolding_all rfl) ?_
    | with_reducible refine rw_ixLd (by with_unfolding_all rfl) ?_
    | with_reducible refine rc_lenMT ?_
    | with_reducible refine rc_lenML ?_
    | with_reducible refine rc_lenT seqT_d ?_
    | with_reducible refine rc_lenL seqL_d ?_
    | with_reducible refine rc_abs ?_
    | with_reducible refine rc_max2 ?_
    | with_reducible refine rc_min2 ?_
    | with_reducible refine rc_intB ?_
    | with_reducible refine rc_tupL seqL_d ?_
    | with_reducible refine iteT ?_
    | with_reducible refine iteF ?_
    | with_reducible refine iteNT ?_
    | with_reducible refine iteNF ?_)
def Same (br rm : List Row) (p : Nat × Nat) : Prop := p.1 < br.length ∧ p.2 < rm.length ∧ (rowAt br p.1).l = (rowAt rm p.2).l ∧ (rowAt br p.1).w = (rowAt rm p.2).w
abbrev s_is_pair : Stmt := topS 22
abbrev N_is_pair : List Str := ["bridge", "room", "thing"]
abbrev p_is_pair : List Str := ["bridge", "room", "thing"]
theorem sc_is_pair : FnScope N_is_pair p_is_pair (defScope s_is_pair) := ⟨rfl, rfl, rfl, by decide +kernel, rfl, by decide +kernel, by decide +kernel⟩

def sp_is_pair : Spec := fun M es R => es.length = 3 ∧ ∃ (br rm : List Row) (p : Nat × Nat), es = [.d (encLog br), .d (encLog rm), .d (encP p)] ∧ Same br rm p ∧ LogOk br ∧ LogOk rm ∧ R (.d (.bool true)) M
theorem ok_is_pair {P : Program} {w : World} {K : PySem.W.Frag} {mg : Str → Option Value} {base : Heap} {aD aS aB aE : Addr}  {f : Addr} {fd : FuncData} (F : FunD K "is_pair" "is_pair" s_is_pair f fd) (T : Gb w K mg aD aS aB aE) (c_is_from_to : Cd P w K mg base 2 "is_from_to" sp_is_from_to []) : FnOk P w K mg base CX0 3 f fd p_is_pair (PSp K sp_is_pair) := by
  refine okD F sc_is_pair (fun M es R h => h.1) (fun cdv A outer s H E hr => ⟨_, (pss_cons (ps_if (PW.pt (pw_or (pt_not (pt_val (e_isi K rfl T.isi (by rfl) (pa_cons (pv 2) (pa_cons (pe_bltn (v := .ty "tuple") (by rfl) T.tuple (by decide +kernel) rfl) pa_nil))))) (pw_or1 (pt_cmpR op_ne (e_len K rfl T.len (by rfl) (pa_cons (pv 2) pa_nil)) pe_int (nomark _))))) (pss_one (ps_ret pe_bl)) pss_nil)
    (pss_cons (ps_if (PW.pt (pw_or (pt_not (pt_val (e_def P w K mg base rfl rfl rfl rfl rfl c_is_from_to hr (by decide) (by rfl) (pa_cons (e_ixT K rfl (pv 2) pe_int (fun _ _ => rfl)) (pa_cons pe_int (pa_cons (pe_op op_sub (e_len K rfl T.len (by rfl) (pa_cons (pv 0) pa_nil)) pe_int) pa_nil)))))) (pw_or1 (pt_not (pt_val (e_def P w K mg base rfl rfl rfl rfl rfl c_is_from_to hr (by decide) (by rfl) (pa_cons (e_ixT K rfl (pv 2) pe_int (fun _ _ => rfl)) (pa_cons pe_int (pa_cons (pe_op op_sub (e_len K rfl T.len (by rfl) (pa_cons (pv 1) pa_nil)) pe_int) pa_nil))))))))) (pss_one (ps_ret pe_bl)) pss_nil)
    (pss_one (ps_ret (e_eqD K rfl hr (e_slT K rfl (e_ixT K rfl (pv 0) (e_ixT K rfl (pv 2) pe_int (fun _ _ => rfl)) (fun _ _ => rfl)) (po_some pe_int) po_none) (e_slT K rfl (e_ixT K rfl (pv 1) (e_ixT K rfl (pv 2) pe_int (fun _ _ => rfl)) (fun _ _ => rfl)) (po_some pe_int) po_none)))))), fun M es R h => ?_⟩)
  obtain ⟨_, h⟩ := h
  obtain ⟨br, rm, p, rfl, ⟨h1, h2, h3, h4⟩, o1, o2, h⟩ := h
  repeat walk_at "d"
  refine rc_isiT (b := true) (by rfl) ?_
  repeat walk_at "d"
  refine if_f rfl ?_
  repeat walk_at "d"
  refine ⟨rfl, _, _, _, rfl, ?_⟩
  rw [decide_eq_true (Int.natCast_nonneg p.1), decide_eq_true (show (p.1 : Int) ≤ (br.length : Int) - 1 by omega)]
  refine isB ?_
  refine if_f rfl ?_
  repeat walk_at "d"
  refine ⟨rfl, _, _, _, rfl, ?_⟩
  rw [decide_eq_true (Int.natCast_nonneg p.2), decide_eq_true (show (p.2 : Int) ≤ (rm.length : Int) - 1 by omega)]
  refine isB ?_
  refine if_f rfl ?_
  repeat walk_at "d"
  rw [cut1, cut1]
  refine rw_eqD asD_d asD_d (sh_lw (rowAt_ok o1 _).2) (sh_lw (rowAt_ok o2 _).2) ?_
  rw [eqv_lw, h3, h4, decide_eq_true rfl, decide_eq_true rfl]
  exact h
abbrev s_span : Stmt := topS 23
abbrev N_span : List Str := ["bridge", "room", "pair", "lag", "row", "far"]
abbrev p_span : List Str := ["bridge", "room", "pair", "lag"]
theorem sc_span : FnScope N_span p_span (defScope s_span) := ⟨rfl, rfl, rfl, by decide +kernel, rfl, by decide +kernel, by decide +kernel⟩

def sp_span : Spec := fun M es R => es.length = 4 ∧ ∃ (br rm : List Row) (p : Nat × Nat) (lag : Int), es = [.d (encLog br), .d (encLog rm), .d (encP p), .d (.int lag)] ∧ Same br rm p ∧ LogOk br ∧ LogOk rm ∧ ∀ a b : Int, R (.d (.tuple [.int a, .int b])) M
theorem ok_span {P : Program} {w : World} {K : PySem.W.Frag} {mg : Str → Option Value} {base : Heap} {aD aS aB aE : Addr}  {f : Addr} {fd : FuncData} (F : FunD K "span" "span" s_span f fd) (T : Gb w K mg aD aS aB aE) (c_is_pair : Cd P w K mg base 3 "is_pair" sp_is_pair []) (c_sent_from : Cd P w K mg base 1 "sent_from" sp_sent_from []) : FnOk P w K mg base CX0 4 f fd p_span (PSp K sp_span) := by
  refine okD F sc_span (fun M es R h => h.1) (fun cdv A outer s H E hr => ⟨_, (pss_cons (ps_if (pt_not (pt_val (e_def P w K mg base rfl rfl rfl rfl rfl c_is_pair hr (by decide) (by rfl) (pa_cons (pv 0) (pa_cons (pv 1) (pa_cons (pv 2) pa_nil)))))) (pss_one ps_never) pss_nil)
    (pss_cons (ps_set (i := 4) sc_span.nd rfl (Or.inl rfl) (e_ixT K rfl (pv 0) (e_ixT K rfl (pv 2) pe_int (fun _ _ => rfl)) (fun _ _ => rfl)))
    (pss_cons (ps_set (i := 5) sc_span.nd rfl (Or.inl rfl) (pe_op op_sub (e_ixT K rfl (e_ixT K rfl (pv 1) (e_ixT K rfl (pv 2) pe_int (fun _ _ => rfl)) (fun _ _ => rfl)) pe_int (fun _ _ => rfl)) (e_ixT K rfl (pv 4) pe_int (fun _ _ => rfl))))
    (pss_cons (ps_if (pt_cmpR op_eq (e_def P w K mg base rfl rfl rfl rfl rfl c_sent_from hr (by decide) (by rfl) (pa_cons (e_ixT K rfl (pv 4) pe_int (fun _ _ => rfl)) pa_nil)) pe_str (nomark _)) (pss_one (ps_ret (pe_tup (pa_cons (pe_op op_sub (pv 5) (pv 3)) (pa_cons (pv 5) pa_nil))))) pss_nil)
    (pss_one (ps_ret (pe_tup (pa_cons (pv 5) (pa_cons (pe_op op_add (pv 5) (pv 3)) pa_nil))))))))), fun M es R h => ?_⟩)
  obtain ⟨_, h⟩ := h
  obtain ⟨br, rm, p, lag, rfl, hs, o1, o2, h⟩ := h
  have h1 := hs.1
  have h2 := hs.2.1
  repeat walk_at "d"
  refine ⟨rfl, _, _, _, rfl, hs, o1, o2, ?_⟩
  refine isB ?_
  refine if_f rfl ?_
  repeat walk_at "d"
  refine ⟨rfl, _, rfl, ?_⟩
  repeat walk_at "d"
  refine dec_if (fun _ => ?_) (fun _ => ?_)
  · repeat walk_at "d"
    exact h _ _
  · repeat walk_at "d"
    exact h _ _
abbrev s_meets : Stmt := topS 24
abbrev N_meets : List Str := ["bridge", "room", "pair", "lag", "low", "high", "least", "greatest"]
abbrev p_meets : List Str := ["bridge", "room", "pair", "lag", "low", "high"]
theorem sc_meets : FnScope N_meets p_meets (defScope s_meets) := ⟨rfl, rfl, rfl, by decide +kernel, rfl, by decide +kernel, by decide +kernel⟩

def sp_meets : Spec := fun M es R => es.length = 6 ∧ ∃ (br rm : List Row) (p : Nat × Nat) (lag low high : Int), es = [.d (encLog br), .d (encLog rm), .d (encP p), .d (.int lag), .d (.int low), .d (.int high)] ∧ Same br rm p ∧ LogOk br ∧ LogOk rm ∧ ∀ b : Bool, R (.d (.bool b)) M
theorem ok_meets {P : Program} {w : World} {K : PySem.W.Frag} {mg : Str → Option Value} {base : Heap} {aD aS aB aE : Addr}  {f : Addr} {fd : FuncData} (F : FunD K "meets" "meets" s_meets f fd) (T : Gb w K mg aD aS aB aE) (c_span : Cd P w K mg base 4 "span" sp_span []) : FnOk P w K mg base CX0 5 f fd p_meets (PSp K sp_meets) := by
  refine okD F sc_meets (fun M es R h => h.1) (fun cdv A outer s H E hr => ⟨_, (pss_cons (ps_asg (e_def P w K mg base rfl rfl rfl rfl rfl c_span hr (by decide) (by rfl) (pa_cons (pv 0) (pa_cons (pv 1) (pa_cons (pv 2) (pa_cons (pv 3) pa_nil))))) (g_tup K rfl 2 rfl (pgs_cons (pg_name (i := 6) sc_meets.nd rfl (Or.inl rfl)) (pgs_cons (pg_name (i := 7) sc_meets.nd rfl (Or.inl rfl)) pgs_nil))))
    (pss_one (ps_ret (pe_and (pe_cmpR op_le (pv 6) (pv 5) (nomark _)) (pe_one (pe_cmpR op_le (pv 4) (pv 7) (nomark _))))))), fun M es R h => ?_⟩)
  obtain ⟨_, h⟩ := h
  obtain ⟨br, rm, p, lag, low, high, rfl, hs, o1, o2, h⟩ := h
  repeat walk_at "d"
  refine ⟨rfl, _, _, _, _, rfl, hs, o1, o2, fun a b => ?_⟩
  repeat walk_at "d"
  refine dec_if (fun _ => ?_) (fun _ => ?_)
  · repeat walk_at "d"
    exact h _
  · repeat walk_at "d"
    exact h _
abbrev s_pairs_within : Stmt := topS 25
abbrev N_pairs_within : List Str := ["bridge", "room", "lag", "low", "high", "found", "b", "row", "some", "r", "other", "pair"]
abbrev p_pairs_within : List Str := ["bridge", "room", "lag", "low", "high"]
theorem sc_pairs_within : FnScope N_pairs_within p_pairs_within (defScope s_pairs_within) := ⟨rfl, rfl, rfl, by decide +kernel, rfl, by decide +kernel, by decide +kernel⟩

def sp_pairs_within : Spec := fun M es R => es.length = 5 ∧ ∃ (br rm : List Row) (lag low high : Int), es = [.d (encLog br), .d (encLog rm), .d (.int lag), .d (.int low), .d (.int high)] ∧ br.length ≤ 100 ∧ rm.length ≤ 100 ∧ LogOk br ∧ LogOk rm ∧ ∀ qs : List (Nat × Nat), (∀ q ∈ qs, Same br rm q) → qs.length ≤ br.length * rm.length → R (.d (encPs qs)) M
theorem ok_pairs_within {P : Program} {w : World} {K : PySem.W.Frag} {mg : Str → Option Value} {base : Heap} {aD aS aB aE : Addr}  {f : Addr} {fd : FuncData} (F : FunD K "pairs_within" "pairs_within" s_pairs_within f fd) (T : Gb w K mg aD aS aB aE) (c_meets : Cd P w K mg base 5 "meets" sp_meets []) : FnOk P w K mg base CX0 6 f fd p_pairs_within (PSp K sp_pairs_within) := by
  refine okD F sc_pairs_within (fun M es R h => h.1) (fun cdv A outer s H E hr => ⟨_, (pss_cons (ps_set (i := 5) sc_pairs_within.nd rfl (Or.inl rfl) (pe_lst pa_nil))
    (pss_cons (ps_for PassesOwn.never rfl (i_enumT K rfl T.enumerate (by rfl) (pa_cons (pv 0) pa_nil)) (g_tup K rfl 2 rfl (pgs_cons (pg_name (i := 6) sc_pairs_within.nd rfl (Or.inr rfl)) (pgs_cons (pg_name (i := 7) sc_pairs_within.nd rfl (Or.inr rfl)) pgs_nil))) (pss_cons (ps_setLc (i := 8) (own := [("r", 9), ("other", 10)]) (g := (gTup K 2 (gCons (gName 9) (gCons (gName 10) gNil)))) rfl sc_pairs_within.nd rfl rfl (sw_true rfl rfl rfl (by decide +kernel)) (i_enumT K rfl T.enumerate (by rfl) (pa_cons (pv 1) pa_nil)) (blkOk_by (own := [("r", 9), ("other", 10)]) (N := N_pairs_within) (sc := defScope s_pairs_within) (by decide +kernel)) (fun _ _ _ _ _ => (g_tup K rfl 2 rfl (pgs_cons (pg_name (i := 9) sc_pairs_within.nd rfl (Or.inl rfl)) (pgs_cons (pg_name (i := 10) sc_pairs_within.nd rfl (Or.inl rfl)) pgs_nil)))) (fun _ _ _ _ _ => (pts_one (c_eqD K rfl hr (e_slT K rfl (pv 10) (po_some pe_int) po_none) (e_slT K rfl (pv 7) (po_some pe_int) po_none)))) (fun _ _ _ _ _ => (pe_tup (pa_cons (pv 6) (pa_cons (pv 9) pa_nil)))))
    (pss_one (ps_expr (e_ext K rfl (pv 5) (pa_cons (pe_lc (own := [("pair", 11)]) (g := (gName 11)) rfl sc_pairs_within.nd (i_list K rfl (pv 8)) (blkOk_by (own := [("pair", 11)]) (N := N_pairs_within) (sc := defScope s_pairs_within) (by decide +kernel)) (fun _ _ _ _ _ => (pg_name (i := 11) sc_pairs_within.nd rfl (Or.inl rfl))) (fun _ _ _ _ _ => (pts_one (pt_val (e_def P w K mg base rfl rfl rfl rfl rfl c_meets hr (by decide) (by rfl) (pa_cons (pv 0) (pa_cons (pv 1) (pa_cons (pv 11) (pa_cons (pv 2) (pa_cons (pv 3) (pa_cons (pv 4) pa_nil)))))))))) (fun _ _ _ _ _ => (pv 11))) pa_nil))))))
    (pss_one (ps_ret (pv 5))))), fun M es R h => ?_⟩)
  obtain ⟨_, h⟩ := h
  obtain ⟨br, rm, lag, low, high, rfl, l1, l2, o1, o2, h⟩ := h
  repeat walk_at "d"
  refine w_lstM ?_
  repeat walk_at "d"
  refine fun p hp => ?_
  repeat walk_at "d"
  refine ru_for (wi_enumT ?_)
  repeat walk_at "d"
  refine ⟨_, rfl, fun i G' M' => (∃ qs : List (Nat × Nat), M' = mupd M p (.lst ((qs.map encP).map Ent.d)) ∧ (∀ q ∈ qs, Same br rm q) ∧ qs.length ≤ i * rm.length) ∧ ∃ a b c d e f : Option Ent, G' = [some (.d (encLog br)), some (.d (encLog rm)), some (.d (.int lag)), some (.d (.int low)), some (.d (.int high)), some (.v (.ref p)), a, b, c, d, e, f], ⟨⟨[], rfl, (fun q hq => by cases hq), Nat.zero_le _⟩, _, _, _, _, _, _, rfl⟩, fun _ _ _ _ => trivial, ?_, ?_⟩
  · rintro i e G' M' he ⟨⟨qs, rfl, hq, hz⟩, a, b, c, d, e', f', rfl⟩
    obtain ⟨hi, rfl⟩ := enum_log he
    repeat walk_at "d"
    refine w_lcQ (wpg_tup (wpgs_cons (by decide) (wpgs_cons (by decide) wpgs_nil))) (wi_enumT ?_)
    repeat walk_at "d"
    refine ⟨_, rfl, fun j => decide ((rowAt rm j).l = (rowAt br i).l) && decide ((rowAt rm j).w = (rowAt br i).w), fun j => encP (i, j), by rw [enum_len]; omega, fun _ _ _ => trivial, fun j e q acc he hq2 => ?_, ?_⟩
    · obtain ⟨hj, rfl⟩ := enum_log he
      repeat walk_at "d"
      rw [cut1, cut1]
      refine rw_eqD asD_d asD_d (sh_lw (rowAt_ok o2 _).2) (sh_lw (rowAt_ok o1 _).2) ?_
      rw [eqv_lw]
      refine isB ⟨rfl, rfl, fun _ => ?_⟩
      repeat walk_at "d"
      exact ⟨rfl, rfl⟩
    rw [enum_len]
    generalize hj : (List.range rm.length).filter (fun j => decide ((rowAt rm j).l = (rowAt br i).l) && decide ((rowAt rm j).w = (rowAt br i).w)) = js
    have hjs : ∀ j ∈ js, Same br rm (i, j) := fun j hm => by
      rw [← hj, List.mem_filter, List.mem_range, Bool.and_eq_true, decide_eq_true_eq, decide_eq_true_eq] at hm
      exact ⟨hi, hm.1, hm.2.1.symm, hm.2.2.symm⟩
    have hjl : js.length ≤ rm.length := by
      rw [← hj]
      have := List.length_filter_le (fun j => decide ((rowAt rm j).l = (rowAt br i).l) && decide ((rowAt rm j).w = (rowAt br i).w)) (List.range rm.length)
      rwa [List.length_range] at this
    repeat walk_at "d"
    refine ⟨ty_l (seqL_m mupd_same), ?_⟩
    repeat walk_at "d"
    refine w_lcS (α := Nat) (wpg_name (by decide)) (wi_listD ?_)
    repeat walk_at "d"
    refine ⟨_, rfl, js, fun j => encP (i, j), rfl, by omega, fun _ _ _ => trivial, fun k j q acc hk hq2 => ?_, fun ys hys => ?_⟩
    · repeat walk_at "d"
      refine ⟨rfl, _, _, _, _, _, _, rfl, hjs j (List.mem_of_getElem? hk), o1, o2, fun b => ?_⟩
      refine isB ⟨rfl, ?_⟩
      repeat walk_at "d"
      exact ⟨rfl, rfl⟩
    · repeat walk_at "d"
      have hyl := hys.length_le
      have hsz : qs.length ≤ 100 * 100 := Nat.le_trans hz (Nat.mul_le_mul (by omega) l2)
      refine rm_extend mupd_same seqL_d ?_ ?_
      · rw [List.length_map, List.length_map, List.length_map, List.length_map]
        have : sizeLine = 16777216 := rfl
        omega
      · rw [mupd_mupd]
        refine ⟨⟨qs ++ ys.map fun j => (i, j), ?_, fun q hm => ?_, ?_⟩, _, _, _, _, _, _, rfl⟩
        · simp only [List.map_append, List.map_map]
          rfl
        · rcases List.mem_append.mp hm with hm | hm
          · exact hq q hm
          · obtain ⟨j, hm2, rfl⟩ := List.mem_map.mp hm
            exact hjs j (hys.subset hm2)
        · rw [List.length_append, List.length_map, Nat.succ_mul]
          omega
  · rintro G' M' ⟨⟨qs, rfl, hq, hz⟩, a, b, c, d, e', f', rfl⟩
    refine ru_ret (w_varF (ds := qs.map encP) rfl mupd_same ?_)
    rw [mdel_mupd hp]
    rw [enum_len] at hz
    exact h qs hq hz
abbrev s_pairs_at : Stmt := topS 26
abbrev N_pairs_at : List Str := ["bridge", "room", "d", "lag"]
abbrev p_pairs_at : List Str := ["bridge", "room", "d", "lag"]
theorem sc_pairs_at : FnScope N_pairs_at p_pairs_at (defScope s_pairs_at) := ⟨rfl, rfl, rfl, by decide +kernel, rfl, by decide +kernel, by decide +kernel⟩

def sp_pairs_at : Spec := fun M es R => es.length = 4 ∧ ∃ (br rm : List Row) (d lag : Int), es = [.d (encLog br), .d (encLog rm), .d (.int d), .d (.int lag)] ∧ br.length ≤ 100 ∧ rm.length ≤ 100 ∧ LogOk br ∧ LogOk rm ∧ ∀ qs : List (Nat × Nat), (∀ q ∈ qs, Same br rm q) → qs.length ≤ br.length * rm.length → R (.d (encPs qs)) M
theorem ok_pairs_at {P : Program} {w : World} {K : PySem.W.Frag} {mg : Str → Option Value} {base : Heap} {aD aS aB aE : Addr}  {f : Addr} {fd : FuncData} (F : FunD K "pairs_at" "pairs_at" s_pairs_at f fd) (T : Gb w K mg aD aS aB aE) (c_pairs_within : Cd P w K mg base 6 "pairs_within" sp_pairs_within []) : FnOk P w K mg base CX0 7 f fd p_pairs_at (PSp K sp_pairs_at) := by
  refine okD F sc_pairs_at (fun M es R h => h.1) (fun cdv A outer s H E hr => ⟨_, (pss_one (ps_ret (e_def P w K mg base rfl rfl rfl rfl rfl c_pairs_within hr (by decide) (by rfl) (pa_cons (pv 0) (pa_cons (pv 1) (pa_cons (pv 3) (pa_cons (pv 2) (pa_cons (pv 2) pa_nil)))))))), fun M es R h => ?_⟩)
  obtain ⟨_, h⟩ := h
  obtain ⟨br, rm, d, lag, rfl, l1, l2, o1, o2, h⟩ := h
  repeat walk_at "d"
  exact ⟨rfl, _, _, _, _, _, rfl, l1, l2, o1, o2, h⟩
end DL


namespace DL
open PySem PySem.Spec PyProof.Rows L2
local macro_rules
  | `(tactic| walk_at "d") => `(tactic| first
    | with_reducible refine ru_seq ?_
    | with_reducible refine ru_asg ?_
    | with_reducible refine ru_ret ?_
    | with_reducible refine ru_if ?_
    | with_reducible refine ru_next ?_
    | with_reducible refine ru_cont ?_
    | with_reducible refine ru_break ?_
    | with_reducible refine ru_dropE ?_
    | with_reducible refine gw_name ?_
    | with_reducible refine gw_tup rfl ?_
    | with_reducible refine gws_consM ?_
    | with_reducible refine gws_nilM ?_
    | with_reducible refine gws_cons ?_
    | with_reducible refine gws_nil ?_
    | with_reducible refine w_var (by with_unfolding_all rfl) ?_
    | with_reducible refine w_int ?_
    | with_reducible refine w_str ?_
    | with_reducible refine w_bl ?_
    | with_reducible refine w_non ?_
    | with_reducible refine w_ref ?_
    | with_reducible refine w_ty ?_
    | with_reducible refine w_op ?_
    | with_reducible refine w_chain ?_
    | with_reducible refine w_cb ?_
    | with_reducible refine w_call0 ?_
    | with_reducible refine w_bm ?_
    | with_reducible refine w_neg ?_
    | with_reducible refine w_ckw ?_
    | with_reducible refine w_andV ?_
    | with_reducible refine w_orV ?_
    | with_reducible refine w_notV ?_
    | with_reducible refine w_sl ?_
    | with_reducible refine w_tup ?_
    | with_reducible refine wo_none ?_
    | with_reducible refine wt_test ?_
    | with_reducible refine wt_B ?_
    | with_reducible refine wt_and ?_
    | with_reducible refine wt_or ?_
    | with_reducible refine wt_not ?_
    | with_reducible refine wt_yes ?_
    | with_reducible refine wa_cons ?_
    | with_reducible refine wa_nil ?_
    | with_reducible refine isB ?_
    | with_reducible refine isI ?_
    | with_reducible refine wo_someI ?_
    | with_reducible refine rs_T ?_
    | with_reducible refine isDs_cons ?_
    | with_reducible refine isDs_nil ?_
    | with_reducible refine ⟨Nat.le_of_ble_eq_true (by with_unfolding_all rfl), ?_⟩
    | with_reducible refine rw_I0 ?_
    | with_reducible refine rw_B0 ?_
    | with_reducible refine rw_I (cmulL (by decide) (by decide)) ?_
    | with_reducible refine rw_I (cmulR (by decide) (by decide)) ?_
    | with_reducible refine rw_I (cpowI (by decide) (by decide) (by decide)) ?_
    | with_reducible refine rw_I (cdivI (by decide) (by decide)) ?_
    | with_reducible refine rw_I (C := fun _ j => 0 < j) (by show (0 : Int) < _; decide) ?_
    | with_reducible refine rw_eqI ?_
    | with_reducible refine rw_eqL ?_
    | with_reducible refine rw_eqH ?_
    | with_reducible refine rw_eqW ?_
    | with_reducible refine rw_eqS ?_
    | with_reducible refine rw_eqB ?_
    | with_reducible refine rw_eqSN ?_
    | with_reducible refine rw_neI ?_
    | with_reducible refine rw_neW ?_
    | with_reducible refine rw_neS ?_
    | with_reducible refine rw_isN ?_
    | with_reducible refine rw_notN ?_
    | with_reducible refine rw_ixLog (by assumption) ?_
    | with_reducible refine rw_ixTd (by with_unfolding_all rfl) ?_
    | with_reducible refine rw_ixLd (by with_unfolding_all rfl) ?_
    | with_reducible refine rc_lenMT ?_
    | with_reducible refine rc_lenML ?_
    | with_reducible refine rc_lenT seqT_d ?_
    | with_reducible refine rc_lenL seqL_d ?_
    | with_reducible refine rc_abs ?_
    | with_reducible refine rc_max2 ?_
    | with_reducible refine rc_min2 ?_
    | with_reducible refine rc_intB ?_
    | with_reducible refine rc_tupL seqL_d ?_
    | with_reducible refine iteT ?_
    | with_reducible refine iteF ?_
    | with_reducible refine iteNT ?_
    | with_reducible refine iteNF ?_)
abbrev s_by_lines : Stmt := topS 28
abbrev N_by_lines : List Str := ["bridge", "pairs", "found", "pair"]
abbrev p_by_lines : List Str := ["bridge", "pairs"]
theorem sc_by_lines : FnScope N_by_lines p_by_lines (defScope s_by_lines) := ⟨rfl, rfl, rfl, by decide +kernel, rfl, by decide +kernel, by decide +kernel⟩

def IsP (M : Mh) (q : Addr) (qs : List (Nat × Nat)) : Prop := M q = some (.lst ((qs.map encP).map Ent.d))
structure Grp (br : List Row) (ps : List (Nat × Nat)) (M : Mh) (kes : List (Key × Ent)) : Prop where
  nd : (kes.map (·.1)).Nodup
  each : ∀ kv ∈ kes, ∃ (l : Ln) (q : Addr) (qs : List (Nat × Nat)), kv = (Sum.inr l.s, .v (.ref q)) ∧ IsP M q qs ∧ (∀ x ∈ qs, x ∈ ps ∧ (rowAt br x.1).l = l) ∧ qs.length ≤ ps.length
def sp_by_lines : Spec := fun M es R => es.length = 2 ∧ ∃ (br : List Row) (ps : List (Nat × Nat)), es = [.d (encLog br), .d (encPs ps)] ∧ (∀ p ∈ ps, p.1 < br.length) ∧ ps.length ≤ 10000 ∧
  ∀ (p : Addr) (kes : List (Key × Ent)) (M' : Mh), M p = none → Sub M M' → M' p = some (.dK kes) → Grp br ps M' kes → kes.length ≤ ps.length → R (.v (.ref p)) M'
structure GI (br : List Row) (ps : List (Nat × Nat)) (M : Mh) (p : Addr) (i : Nat) (M' : Mh) (kes : List (Key × Ent)) : Prop where
  sub : Sub M M'
  here : M' p = some (.dK kes)
  nd : (kes.map (·.1)).Nodup
  len : kes.length ≤ i
  each : ∀ kv ∈ kes, ∃ (l : Ln) (q : Addr) (qs : List (Nat × Nat)), kv = (Sum.inr l.s, .v (.ref q)) ∧ M q = none ∧ q ≠ p ∧ IsP M' q qs ∧ (∀ x ∈ qs, x ∈ ps ∧ (rowAt br x.1).l = l) ∧ qs.length ≤ i
  inj : ∀ kv ∈ kes, ∀ kv' ∈ kes, kv.2 = kv'.2 → kv.1 = kv'.1
theorem valE_mem {κ : Type} [DecidableEq κ] {kes : List (κ × Ent)} {k : κ} {e : Ent} (h : valE kes k = some e) : (k, e) ∈ kes := by
  unfold valE at h
  cases q : kes.find? (fun kv => decide (kv.1 = k)) with
  | none => rw [q] at h; cases h
  | some kv =>
    rw [q] at h
    have h1 : kv.1 = k := of_decide_eq_true (List.find?_some (p := fun kv : κ × Ent => decide (kv.1 = k)) q)
    have h2 := List.mem_of_find?_eq_some q
    have h3 : kv.2 = e := Option.some.inj h
    rw [← h1, ← h3]
    exact h2
theorem valE_none {κ : Type} [DecidableEq κ] {kes : List (κ × Ent)} {k : κ} (h : valE kes k = none) : ∀ kv ∈ kes, kv.1 ≠ k := by
  unfold valE at h
  rw [Option.map_eq_none_iff, List.find?_eq_none] at h
  intro kv hm e
  exact h kv hm (decide_eq_true e)
theorem putE_new {κ : Type} [DecidableEq κ] {kes : List (κ × Ent)} {k : κ} {e : Ent} (h : valE kes k = none) : putE kes k e = kes ++ [(k, e)] := by
  have h1 := valE_none h
  unfold putE
  rw [if_neg]
  intro q
  obtain ⟨kv, hm, hd⟩ := List.any_eq_true.mp q
  exact h1 kv hm (of_decide_eq_true hd)
theorem isP_ne {M : Mh} {a q : Addr} {o : MO} {qs : List (Nat × Nat)} (h : q ≠ a) (hq : IsP M q qs) : IsP (mupd M a o) q qs := by
  unfold IsP
  rw [mupd_ne h]
  exact hq
theorem isP_app {M : Mh} {q : Addr} {qs : List (Nat × Nat)} {x : Nat × Nat} : IsP (mupd M q (.lst (((qs.map encP).map Ent.d) ++ [.d (encP x)]))) q (qs ++ [x]) := by
  unfold IsP
  rw [mupd_same]
  simp
theorem gi_old {br : List Row} {ps : List (Nat × Nat)} {M M' : Mh} {p q0 q : Addr} {i : Nat} {kes : List (Key × Ent)} {l : Ln} {qs : List (Nat × Nat)} {x : Nat × Nat} (g : GI br ps M p i M' kes) (h0 : M' q0 = none) (hm : (Sum.inr l.s, Ent.v (.ref q)) ∈ kes) (hq : IsP M' q qs) (hMq : M q = none) (hqp : q ≠ p) (hall : ∀ x ∈ qs, x ∈ ps ∧ (rowAt br x.1).l = l) (hz : qs.length ≤ i) (hx : x ∈ ps) (hl : (rowAt br x.1).l = l) :
    GI br ps M p (i + 1) (mupd (mupd M' q0 (.lst [])) q (.lst (((qs.map encP).map Ent.d) ++ [.d (encP x)]))) kes := by
  have n0 : ∀ a o, M' a = some o → a ≠ q0 := fun a o h e => by rw [e, h0] at h; cases h
  have hM0 : M q0 = none := by
    cases z : M q0 with
    | none => rfl
    | some o => rw [g.sub q0 o z] at h0; cases h0
  refine ⟨(g.sub.new hM0).new hMq, ?_, g.nd, Nat.le_succ_of_le g.len, fun kv hkv => ?_, g.inj⟩
  · rw [mupd_ne (Ne.symm hqp), mupd_ne (n0 p _ g.here)]
    exact g.here
  · obtain ⟨l', q', qs', rfl, a, b, c, d, e⟩ := g.each kv hkv
    by_cases hqq : q' = q
    · subst hqq
      have hk := g.inj _ hkv _ hm rfl
      have hll : l' = l := Ln.s_inj.mp (Sum.inr.inj hk)
      subst hll
      refine ⟨l', q', qs ++ [x], rfl, a, b, isP_app, fun y hy => ?_, by rw [List.length_append]; simp; omega⟩
      rcases List.mem_append.mp hy with hy | hy
      · exact hall y hy
      · rw [List.mem_singleton.mp hy]
        exact ⟨hx, hl⟩
    · exact ⟨l', q', qs', rfl, a, b, isP_ne hqq (isP_ne (n0 _ _ c) c), d, Nat.le_succ_of_le e⟩
theorem gi_new {br : List Row} {ps : List (Nat × Nat)} {M M' : Mh} {p q0 : Addr} {i : Nat} {kes : List (Key × Ent)} {l : Ln} {x : Nat × Nat} (g : GI br ps M p i M' kes) (hMp : M p = none) (h0 : M' q0 = none) (hv : valE kes (Sum.inr l.s) = none) (hx : x ∈ ps) (hl : (rowAt br x.1).l = l) :
    GI br ps M p (i + 1) (mupd (mupd (mupd M' q0 (.lst [])) p (.dK (putE kes (Sum.inr l.s) (.v (.ref q0))))) q0 (.lst ([] ++ [.d (encP x)]))) (putE kes (Sum.inr l.s) (.v (.ref q0))) := by
  have n0 : ∀ a o, M' a = some o → a ≠ q0 := fun a o h e => by rw [e, h0] at h; cases h
  have hM0 : M q0 = none := by
    cases z : M q0 with
    | none => rfl
    | some o => rw [g.sub q0 o z] at h0; cases h0
  have hp0 : p ≠ q0 := n0 p _ g.here
  rw [putE_new hv]
  refine ⟨((g.sub.new hM0).new hMp).new hM0, ?_, ?_, ?_, fun kv hkv => ?_, fun kv hkv kv' hkv' he => ?_⟩
  · rw [mupd_ne hp0, mupd_same]
  · rw [List.map_append, List.nodup_append]
    refine ⟨g.nd, by simp, fun a ha b hb => ?_⟩
    obtain ⟨kv, hm, rfl⟩ := List.mem_map.mp ha
    have hb2 : b = Sum.inr l.s := by simpa using hb
    rw [hb2]
    exact valE_none hv kv hm
  · rw [List.length_append]
    have := g.len
    simp
    omega
  · rcases List.mem_append.mp hkv with hkv | hkv
    · obtain ⟨l', q', qs', rfl, a, b, c, d, e⟩ := g.each kv hkv
      exact ⟨l', q', qs', rfl, a, b, isP_ne (n0 _ _ c) (isP_ne b (isP_ne (n0 _ _ c) c)), d, Nat.le_succ_of_le e⟩
    · rw [List.mem_singleton.mp hkv]
      refine ⟨l, q0, [x], rfl, hM0, Ne.symm hp0, ?_, fun y hy => by rw [List.mem_singleton.mp hy]; exact ⟨hx, hl⟩, by simp⟩
      unfold IsP
      rw [mupd_same]
      rfl
  · rcases List.mem_append.mp hkv with hkv | hkv
    · rcases List.mem_append.mp hkv' with hkv' | hkv'
      · exact g.inj kv hkv kv' hkv' he
      · obtain ⟨l', q', qs', rfl, a, b, c, d, e⟩ := g.each kv hkv
        rw [List.mem_singleton.mp hkv'] at he
        have : q' = q0 := by injection he with he; injection he
        exact absurd this (n0 _ _ c)
    · rcases List.mem_append.mp hkv' with hkv' | hkv'
      · obtain ⟨l', q', qs', rfl, a, b, c, d, e⟩ := g.each kv' hkv'
        rw [List.mem_singleton.mp hkv] at he
        have : q0 = q' := by injection he with he; injection he
        exact absurd this.symm (n0 _ _ c)
      · rw [List.mem_singleton.mp hkv, List.mem_singleton.mp hkv']
theorem ok_by_lines {P : Program} {w : World} {K : PySem.W.Frag} {mg : Str → Option Value} {base : Heap} {aD aS aB aE : Addr}  {f : Addr} {fd : FuncData} (F : FunD K "by_lines" "by_lines" s_by_lines f fd) (T : Gb w K mg aD aS aB aE)  : FnOk P w K mg base CX0 1 f fd p_by_lines (PSp K sp_by_lines) := by
  refine okD F sc_by_lines (fun M es R h => h.1) (fun cdv A outer s H E hr => ⟨_, (pss_cons (ps_set (i := 2) sc_by_lines.nd rfl (Or.inl rfl) pe_dnewK)
    (pss_cons (ps_for PassesOwn.never rfl (i_list K rfl (pv 1)) (pg_name (i := 3) sc_by_lines.nd rfl (Or.inl rfl)) (pss_one (ps_expr (e_app K rfl (pe_dsetd (pv 2) (e_ixT K rfl (e_ixT K rfl (pv 0) (e_ixT K rfl (pv 3) pe_int (fun _ _ => rfl)) (fun _ _ => rfl)) pe_int (fun _ _ => rfl)) (pe_lst pa_nil) ⟨rfl, rfl, rfl, rfl⟩) (pa_cons (pv 3) pa_nil)))))
    (pss_one (ps_ret (pv 2))))), fun M es R h => ?_⟩)
  obtain ⟨_, h⟩ := h
  obtain ⟨br, ps, rfl, hlt, hz, h⟩ := h
  repeat walk_at "d"
  refine w_dnewK fun p hp => ?_
  repeat walk_at "d"
  refine ru_for (wi_listD ?_)
  repeat walk_at "d"
  refine ⟨_, rfl, fun i G' M' => (∃ kes, GI br ps M p i M' kes) ∧ ∃ a : Option Ent, G' = [some (.d (encLog br)), some (.d (encPs ps)), some (.v (.ref p)), a], ⟨⟨[], (Sub.refl M).new hp, mupd_same, List.nodup_nil, Nat.zero_le _, (fun kv h => by cases h), fun kv h => by cases h⟩, _, rfl⟩, fun _ _ _ _ => trivial, ?_, ?_⟩
  · rintro i e G' M' he ⟨⟨kes, g⟩, a, rfl⟩
    obtain ⟨x, hx, rfl⟩ := map_at he
    have hi : i < ps.length := (List.getElem?_eq_some_iff.mp hx).1
    have hxm := List.mem_of_getElem? hx
    have hxl := hlt x hxm
    have sz : sizeLine = 16777216 := rfl
    repeat walk_at "d"
    refine w_dsetd ?_
    repeat walk_at "d"
    refine ⟨.inl ⟨_, g.here⟩, ?_⟩
    repeat walk_at "d"
    refine w_lstM ?_
    repeat walk_at "d"
    refine fun q0 h0 => ?_
    have hpq : p ≠ q0 := fun e => by rw [← e, g.here] at h0; cases h0
    refine ⟨p, kes, Sum.inr (rowAt br x.1).l.s, rfl, rfl, by rw [mupd_ne hpq]; exact g.here, by have := g.len; omega, fun e hv => ?_, fun hv => ?_⟩
    · have hm := valE_mem hv
      obtain ⟨l, q, qs, hkv, a1, b1, c1, d1, e1⟩ := g.each _ hm
      have hl : (rowAt br x.1).l = l := Ln.s_inj.mp (Sum.inr.inj (Prod.mk.inj hkv).1)
      have he2 : e = .v (.ref q) := (Prod.mk.inj hkv).2
      subst he2
      have hq0 : q ≠ q0 := fun e => by rw [← e, c1] at h0; cases h0
      have hq2 : mupd M' q0 (.lst []) q = some (.lst ((qs.map encP).map Ent.d)) := by rw [mupd_ne hq0]; exact c1
      refine ⟨ty_l (seqL_m hq2), ?_⟩
      repeat walk_at "d"
      refine rm_append hq2 (by rw [map_len]; omega) ?_
      rw [hl] at hm
      exact ⟨⟨kes, gi_old g h0 hm c1 a1 b1 d1 e1 hxm hl⟩, _, rfl⟩
    · have hq2 : mupd (mupd M' q0 (.lst [])) p (.dK (putE kes (Sum.inr (rowAt br x.1).l.s) (.v (.ref q0)))) q0 = some (.lst []) := by rw [mupd_ne (Ne.symm hpq), mupd_same]
      refine ⟨ty_l (seqL_m hq2), ?_⟩
      repeat walk_at "d"
      refine rm_append hq2 (by decide) ?_
      exact ⟨⟨_, gi_new g hp h0 hv hxm rfl⟩, _, rfl⟩
  · rintro G' M' ⟨⟨kes, g⟩, a, rfl⟩
    rw [map_len] at g
    repeat walk_at "d"
    refine h p kes M' hp g.sub g.here ⟨g.nd, fun kv hkv => ?_⟩ g.len
    obtain ⟨l, q, qs, e, _, _, c, d, z⟩ := g.each kv hkv
    exact ⟨l, q, qs, e, c, d, z⟩
end DL


namespace DL
open PySem PySem.Spec PyProof.Rows L2
local macro_rules
  | `(tactic| walk_at "d") => `(tactic| first
    | with_reducible refine ru_seq ?_
    | with_reducible refine ru_asg ?_
    | with_reducible refine ru_ret ?_
    | with_reducible refine ru_if ?_
    | with_reducible refine ru_next ?_
    | with_reducible refine ru_cont ?_
    | with_reducible refine ru_break ?_
    | with_reducible refine ru_dropE ?_
    | with_reducible refine gw_name ?_
    | with_reducible refine gw_tup rfl ?_
    | with_reducible refine gws_consM ?_
    | with_reducible refine gws_nilM ?_
    | with_reducible refine gws_cons ?_
    | with_reducible refine gws_nil ?_
    | with_reducible refine w_var (by with_unfolding_all rfl) ?_
    | with_reducible refine w_int ?_
    | with_reducible refine w_str ?_
    | with_reducible refine w_bl ?_
    | with_reducible refine w_non ?_
    | with_reducible refine w_ref ?_
    | with_reducible refine w_ty ?_
    | with_reducible refine w_op ?_
    | with_reducible refine w_chain ?_
    | with_reducible refine w_cb ?_
    | with_reducible refine w_call0 ?_
    | with_reducible refine w_bm ?_
    | with_reducible refine w_neg ?_
    | with_reducible refine w_ckw ?_
    | with_reducible refine w_andV ?_
    | with_reducible refine w_orV ?_
    | with_reducible refine w_notV ?_
    | with_reducible refine w_sl ?_
    | with_reducible refine w_tup ?_
    | with_reducible refine wo_none ?_
    | with_reducible refine wt_test ?_
    | with_reducible refine wt_B ?_
    | with_reducible refine wt_and ?_
    | with_reducible refine wt_or ?_
    | with_reducible refine wt_not ?_
    | with_reducible refine wt_yes ?_
    | with_reducible refine wa_cons ?_
    | with_reducible refine wa_nil ?_
    | with_reducible refine isB ?_
    | with_reducible refine isI ?_
    | with_reducible refine wo_someI ?_
    | with_reducible refine rs_T ?_
    | with_reducible refine isDs_cons ?_
    | with_reducible refine isDs_nil ?_
    | with_reducible refine ⟨Nat.le_of_ble_eq_true (by with_unfolding_all rfl), ?_⟩
    | with_reducible refine rw_I0 ?_
    | with_reducible refine rw_B0 ?_
    | with_reducible refine rw_I (cmulL (by decide) (by decide)) ?_
    | with_reducible refine rw_I (cmulR (by decide) (by decide)) ?_
    | with_reducible refine rw_I (cpowI (by decide) (by decide) (by decide)) ?_
    | with_reducible refine rw_I (cdivI (by decide) (by decide)) ?_
    | with_reducible refine rw_I (C := fun _ j => 0 < j) (by show (0 : Int) < _; decide) ?_
    | with_reducible refine rw_eqI ?_
    | with_reducible refine rw_eqL ?_
    | with_reducible refine rw_eqH ?_
    | with_reducible refine rw_eqW ?_
    | with_reducible refine rw_eqS ?_
    | with_reducible refine rw_eqB ?_
    | with_reducible refine rw_eqSN ?_
    | with_reducible refine rw_neI ?_
    | with_reducible refine rw_neW ?_
    | with_reducible refine rw_neS ?_
    | with_reducible refine rw_isN ?_
    | with_reducible refine rw_notN ?_
    | with_reducible refine rw_ixLog (by assumption) ?_
    | with_reducible refine rw_ixTd (by with_unfolding_all rfl) ?_
    | with_reducible refine rw_ixLd (by with_unfolding_all rfl) ?_
    | with_reducible refine rc_lenMT ?_
    | with_reducible refine rc_lenML ?_
    | with_reducible refine rc_lenT seqT_d ?_
    | with_reducible refine rc_lenL seqL_d ?_
    | with_reducible refine rc_abs ?_
    | with_reducible refine rc_max2 ?_
    | with_reducible refine rc_min2 ?_
    | with_reducible refine rc_intB ?_
    | with_reducible refine rc_tupL seqL_d ?_
    | with_reducible refine iteT ?_
    | with_reducible refine iteF ?_
    | with_reducible refine iteNT ?_
    | with_reducible refine iteNF ?_)
theorem sortOk_ps (qs : List (Nat × Nat)) : SortOk (qs.map encP) := by
  refine ⟨fun d hd d' hd' => ?_, .inl fun d hd => ?_, fun d hd => ?_⟩
  · obtain ⟨p, _, rfl⟩ := List.mem_map.mp hd
    obtain ⟨p', _, rfl⟩ := List.mem_map.mp hd'
    rfl
  · obtain ⟨p, _, rfl⟩ := List.mem_map.mp hd
    exact ⟨_, _, rfl⟩
  · obtain ⟨p, _, rfl⟩ := List.mem_map.mp hd
    exact Nat.le_trans (sh_tup (n := 0) (all_cons sh_int (all_cons sh_int all_nil))).2 (by decide)
theorem perm_enc {α : Type} {f : α → PyData} {g : PyData → α} (hg : ∀ a, g (f a) = a) {l : List PyData} {xs : List α} (hp : l.Perm (xs.map f)) : ∃ ys, List.Perm ys xs ∧ l = ys.map f := by
  have h2 := hp.map g
  rw [List.map_map] at h2
  have e : xs.map (g ∘ f) = xs := by
    rw [show g ∘ f = id from funext hg, List.map_id]
  rw [e] at h2
  refine ⟨l.map g, h2, ?_⟩
  have h : ∀ d ∈ l, f (g d) = d := fun d hd => by
    obtain ⟨x, _, rfl⟩ := List.mem_map.mp (hp.mem_iff.mp hd)
    rw [hg]
  rw [List.map_map]
  have e2 : l.map (f ∘ g) = l.map id := List.map_congr_left h
  rw [e2, List.map_id]
def decP : PyData → Nat × Nat
  | .tuple [.int a, .int b] => (a.toNat, b.toNat)
  | _ => (0, 0)
theorem decP_enc (p : Nat × Nat) : decP (encP p) = p := rfl
def pk (p : Nat × Nat) : List Key := [Sum.inl (p.1 : Int), Sum.inl (p.2 : Int)]
abbrev qR : Str := "ranks.<locals>.<lambda>"
def sp_ranks (tR : Addr) : Spec := fun M es R => es.length = 1 ∧ ∃ (q : Addr) (qs : List (Nat × Nat)), es = [.v (.ref q)] ∧ IsP M q qs ∧ M tR = some (.tab qR) ∧ qs.length ≤ 10000 ∧
  ∀ (p : Addr) (kes : List (List Key × Ent)) (M' : Mh), Sub M M' → M' p = some (.dT kes) → (∀ x ∈ qs, ∃ i : Int, valE kes (pk x) = some (.d (.int i))) → (∀ kv ∈ kes, ∃ i : Int, kv.2 = .d (.int i)) → R (.v (.ref p)) M'
def Dec (os : List (Nat × Nat)) : Prop := os.Pairwise fun a b => b.1 < a.1 ∧ b.2 < a.2
def Inc (os : List (Nat × Nat)) : Prop := os.Pairwise fun a b => a.1 < b.1 ∧ a.2 < b.2
def sp_longest (tR : Addr) : Spec := fun M es R => es.length = 1 ∧ ∃ (q : Addr) (qs : List (Nat × Nat)), es = [.v (.ref q)] ∧ IsP M q qs ∧ M tR = some (.tab qR) ∧ qs.length ≤ 10000 ∧
  ∀ os : List (Nat × Nat), (∀ x ∈ os, x ∈ qs) → Inc os → os.length ≤ qs.length → R (.d (encPs os)) M
theorem ints_of : ∀ {kes : List (List Key × Ent)}, (∀ kv ∈ kes, ∃ i : Int, kv.2 = .d (.int i)) → ∃ ns : List Int, kes.map (·.2) = (ns.map PyData.int).map Ent.d
  | [], _ => ⟨[], rfl⟩
  | kv :: kes, h => by
    obtain ⟨i, hi⟩ := h kv List.mem_cons_self
    obtain ⟨ns, hn⟩ := ints_of (kes := kes) fun x hx => h x (List.mem_cons_of_mem _ hx)
    exact ⟨i :: ns, by rw [List.map_cons, hn, hi]; rfl⟩
abbrev s_longest : Stmt := topS 31
abbrev N_longest : List Str := ["pairs", "rank", "wanted", "found", "pair"]
abbrev p_longest : List Str := ["pairs"]
theorem sc_longest : FnScope N_longest p_longest (defScope s_longest) := ⟨rfl, rfl, rfl, by decide +kernel, rfl, by decide +kernel, by decide +kernel⟩

theorem ok_longest {P : Program} {w : World} {K : PySem.W.Frag} {mg : Str → Option Value} {base : Heap} {aD aS aB aE : Addr} {tR : Addr} {f : Addr} {fd : FuncData} (F : FunD K "longest" "longest" s_longest f fd) (T : Gb w K mg aD aS aB aE) (c_ranks : Cd P w K mg base 2 "ranks" (sp_ranks tR) []) : FnOk P w K mg base CX0 3 f fd p_longest (PSp K (sp_longest tR)) := by
  refine okD F sc_longest (fun M es R h => h.1) (fun cdv A outer s H E hr => ⟨_, (pss_cons (ps_set (i := 1) sc_longest.nd rfl (Or.inl rfl) (e_def P w K mg base rfl rfl rfl rfl rfl c_ranks hr (by decide) (by rfl) (pa_cons (pv 0) pa_nil)))
    (pss_cons (ps_set (i := 2) sc_longest.nd rfl (Or.inl rfl) (e_maxDf K rfl rfl hr T.max (by rfl) (pa_cons (pe_listVals rfl (pv 1) (by rfl) T.list) pa_nil) (pk_cons pe_int pk_nil)))
    (pss_cons (ps_set (i := 3) sc_longest.nd rfl (Or.inl rfl) (pe_lst pa_nil))
    (pss_cons (ps_for PassesOwn.never rfl (i_list K rfl (e_sortR K rfl true hr T.sorted (by rfl) (pa_cons (pv 0) pa_nil) (pk_cons pe_bl pk_nil))) (pg_name (i := 4) sc_longest.nd rfl (Or.inl rfl)) (pss_one (ps_if (PW.pt (pw_and (pt_cmpR op_eq (pe_dget (un1 hr) (pv 1) (pv 4) (fun _ _ => rfl)) (pv 2) (nomark _)) (pw_and1 (PW.pt (pw_or (c_eqD K rfl hr (pv 3) (pe_lst pa_nil)) (pw_or1 (PW.pt (pw_and (pt_cmpR op_lt (e_ixT K rfl (pv 4) pe_int (fun _ _ => rfl)) (e_ixT K rfl (e_ixL K rfl (pv 3) (pe_un un_neg pe_int) (fun _ _ => rfl)) pe_int (fun _ _ => rfl)) (nomark _)) (pw_and1 (pt_cmpR op_lt (e_ixT K rfl (pv 4) pe_int (fun _ _ => rfl)) (e_ixT K rfl (e_ixL K rfl (pv 3) (pe_un un_neg pe_int) (fun _ _ => rfl)) pe_int (fun _ _ => rfl)) (nomark _))))))))))) (pss_cons (ps_expr (e_app K rfl (pv 3) (pa_cons (pv 4) pa_nil)))
    (pss_one (ps_aug (i := 2) sc_longest.nd rfl (Or.inl rfl) pe_int ip_sub))) pss_nil)))
    (pss_one (ps_ret (e_revL K rfl (pv 3)))))))), fun M es R h => ?_⟩)
  obtain ⟨_, h⟩ := h
  obtain ⟨q, qs, rfl, hq, ht, hz, h⟩ := h
  repeat walk_at "d"
  refine ⟨rfl, q, qs, rfl, hq, ht, hz, fun p kes M' hs hp hr hi => ?_⟩
  obtain ⟨ns, hns⟩ := ints_of hi
  repeat walk_at "d"
  refine w_listVals ?_
  repeat walk_at "d"
  refine ⟨p, kes, ns.map .int, rfl, hp, hns, ?_⟩
  repeat walk_at "d"
  refine rk_maxDf rfl seqL_d fun m _ => ?_
  repeat walk_at "d"
  refine w_lstM ?_
  repeat walk_at "d"
  refine fun p2 hp2 => ?_
  have hpp : p ≠ p2 := fun e => by rw [← e, hp] at hp2; cases hp2
  have hqq : q ≠ p2 := fun e => by rw [← e, hs _ _ hq] at hp2; cases hp2
  have hMp2 : M p2 = none := by
    cases z : M p2 with
    | none => rfl
    | some o => rw [hs _ o z] at hp2; cases hp2
  repeat walk_at "d"
  refine ru_for (wi_listD ?_)
  repeat walk_at "d"
  refine rk_sortR (ds := qs.map encP) (seqL_m (by rw [mupd_ne hqq]; exact hs _ _ hq)) (sortOk_ps qs) ?_
  obtain ⟨zs, hzs, he⟩ := perm_enc decP_enc (List.mergeSort_perm (qs.map encP) (PySem.W.dataLe true id))
  rw [he]
  refine ⟨_, rfl, fun i G' M2 => (∃ os : List (Nat × Nat), M2 = mupd M' p2 (.lst ((os.map encP).map Ent.d)) ∧ (∀ x ∈ os, x ∈ qs) ∧ Dec os ∧ os.length ≤ i) ∧ ∃ (n : Int) (a : Option Ent), G' = [some (.v (.ref q)), some (.v (.ref p)), some (.d (.int n)), some (.v (.ref p2)), a], ⟨⟨[], rfl, (fun x h => by cases h), List.Pairwise.nil, Nat.zero_le _⟩, _, _, rfl⟩, fun _ _ _ _ => trivial, ?_, ?_⟩
  · rintro i e G' M2 hx0 ⟨⟨os, rfl, ho, hd, hl⟩, n, a, rfl⟩
    obtain ⟨x, hx, rfl⟩ := map_at hx0
    have hi2 : i < zs.length := (List.getElem?_eq_some_iff.mp hx).1
    have hzl := hzs.length_eq
    have hxq : x ∈ qs := hzs.mem_iff.mp (List.mem_of_getElem? hx)
    obtain ⟨j, hj⟩ := hr x hxq
    have sz : sizeLine = 16777216 := rfl
    have hlen : os.length < sizeLine := by omega
    have skip : (∃ os' : List (Nat × Nat), mupd M' p2 (.lst ((os.map encP).map Ent.d)) = mupd M' p2 (.lst ((os'.map encP).map Ent.d)) ∧ (∀ x ∈ os', x ∈ qs) ∧ Dec os' ∧ os'.length ≤ i + 1) := ⟨os, rfl, ho, hd, Nat.le_succ_of_le hl⟩
    repeat walk_at "d"
    refine w_dget ?_
    repeat walk_at "d"
    refine ⟨.d (.int j), by rw [← hj]; exact DG.t (pk x) (by rw [mupd_ne hpp]; exact hp), ?_⟩
    repeat walk_at "d"
    refine dec_if (fun _ => ?_) (fun _ => ?_)
    · repeat walk_at "d"
      refine w_lst ?_
      repeat walk_at "d"
      refine rw_eqD (asD_m mupd_same) asD_d (Sh.shaped (n := 2) (sh_list (sh_map fun _ _ => sh_tup (all_cons sh_int (all_cons sh_int all_nil)))) (by decide)) (Sh.shaped (n := 1) (sh_list all_nil) (by decide)) ?_
      rw [eqv_nil]
      refine isB ?_
      have fin : (∀ y ∈ os, x.1 < y.1 ∧ x.2 < y.2) → (∃ os' : List (Nat × Nat), mupd (mupd M' p2 (.lst ((os.map encP).map Ent.d))) p2 (.lst (((os.map encP).map Ent.d) ++ [.d (encP x)])) = mupd M' p2 (.lst ((os'.map encP).map Ent.d)) ∧ (∀ x ∈ os', x ∈ qs) ∧ Dec os' ∧ os'.length ≤ i + 1) := fun hlt => by
        refine ⟨os ++ [x], ?_, fun y hy => ?_, ?_, ?_⟩
        · rw [mupd_mupd]
          simp
        · rcases List.mem_append.mp hy with hy | hy
          · exact ho y hy
          · rw [List.mem_singleton.mp hy]
            exact hxq
        · refine List.pairwise_append.mpr ⟨hd, List.pairwise_singleton _ _, fun a ha b hb => ?_⟩
          rw [List.mem_singleton.mp hb]
          exact hlt a ha
        · rw [List.length_append]
          simp
          omega
      rcases List.eq_nil_or_concat os with hos | ⟨os', y, hos⟩
      · subst hos
        refine if_t rfl ?_
        repeat walk_at "d"
        refine ⟨ty_l (seqL_m mupd_same), ?_⟩
        repeat walk_at "d"
        refine rm_append mupd_same (by decide) ?_
        repeat walk_at "d"
        refine ru_aug rfl ?_
        repeat walk_at "d"
        exact ⟨_, rfl, fin (fun y hy => by cases hy), _, _, rfl⟩
      · have hne : ((os.map encP).isEmpty) = false := by rw [hos]; simp
        refine if_f hne ?_
        have hat : ∀ e, e = Ent.d (encP y) → atI ((os.map encP).map Ent.d) (-1) = some e := fun e he => by
          rw [he, hos, List.concat_eq_append, List.map_append, List.map_append]
          exact at_last
        have hall : x.1 < y.1 → x.2 < y.2 → ∀ z ∈ os, x.1 < z.1 ∧ x.2 < z.2 := fun h1 h2 z hz => by
          rw [hos, List.concat_eq_append] at hz hd
          rcases List.mem_append.mp hz with hz | hz
          · have := (List.pairwise_append.mp hd).2.2 z hz y (List.mem_singleton.mpr rfl)
            omega
          · rw [List.mem_singleton.mp hz]
            exact ⟨h1, h2⟩
        repeat walk_at "d"
        refine rw_ixL (seqL_m mupd_same) (hat _ rfl) ?_
        repeat walk_at "d"
        refine dec_if (fun h1 => ?_) (fun h1 => ?_)
        · repeat walk_at "d"
          refine rw_ixL (seqL_m mupd_same) (hat _ rfl) ?_
          repeat walk_at "d"
          refine dec_if (fun h2 => ?_) (fun h2 => ?_)
          · repeat walk_at "d"
            refine ⟨ty_l (seqL_m mupd_same), ?_⟩
            repeat walk_at "d"
            refine rm_append mupd_same (by rw [map_len]; exact hlen) ?_
            repeat walk_at "d"
            refine ru_aug rfl ?_
            repeat walk_at "d"
            exact ⟨_, rfl, fin (hall (by omega) (by omega)), _, _, rfl⟩
          · repeat walk_at "d"
            exact ⟨skip, _, _, rfl⟩
        · repeat walk_at "d"
          exact ⟨skip, _, _, rfl⟩
    · repeat walk_at "d"
      exact ⟨skip, _, _, rfl⟩
  · rintro G' M2 ⟨⟨os, rfl, ho, hd, hl⟩, n, a, rfl⟩
    repeat walk_at "d"
    refine w_postsub (w_revL (w_var rfl ⟨os.map encP, seqL_m mupd_same, M, hs.new hMp2, ?_⟩))
    rw [map_len] at hl
    rw [← List.map_reverse]
    refine h os.reverse (fun x hx => ho x (List.mem_reverse.mp hx)) ?_ (by rw [List.length_reverse, ← hzs.length_eq]; exact hl)
    exact List.pairwise_reverse.mpr hd
end DL


namespace DL
open PySem PySem.Spec PyProof.Rows L2
local macro_rules
  | `(tactic| walk_at "d") => `(tactic| first
    | with_reducible refine ru_seq ?_
    | with_reducible refine ru_asg ?_
    | with_reducible refine ru_ret ?_
    | with_reducible refine ru_if ?_
    | with_reducible refine ru_next ?_
    | with_reducible refine ru_cont ?_
    | with_reducible refine ru_break ?_
    | with_reducible refine ru_dropE ?_
    | with_reducible refine gw_name ?_
    | with_reducible refine gw_tup rfl ?_
    | with_reducible refine gws_consM ?_
    | with_reducible refine gws_nilM ?_
    | with_reducible refine gws_cons ?_
    | with_reducible refine gws_nil ?_
    | with_reducible refine w_var (by with_unfolding_all rfl) ?_
    | with_reducible refine w_int ?_
    | with_reducible refine w_str ?_
    | with_reducible refine w_bl ?_
    | with_reducible refine w_non ?_
    | with_reducible refine w_ref ?_
    | with_reducible refine w_ty ?_
    | with_reducible refine w_op ?_
    | with_reducible refine w_chain ?_
    | with_reducible refine w_cb ?_
    | with_reducible refine w_call0 ?_
    | with_reducible refine w_bm ?_
    | with_reducible refine w_neg ?_
    | with_reducible refine w_ckw ?_
    | with_reducible refine w_andV ?_
    | with_reducible refine w_orV ?_
    | with_reducible refine w_notV ?_
    | with_reducible refine w_sl ?_
    | with_reducible refine w_tup ?_
    | with_reducible refine wo_none ?_
    | with_reducible refine wt_test ?_
    | with_reducible refine wt_B ?_
    | with_reducible refine wt_and ?_
    | with_reducible refine wt_or ?_
    | with_reducible refine wt_not ?_
    | with_reducible refine wt_yes ?_
    | with_reducible refine wa_cons ?_
    | with_reducible refine wa_nil ?_
    | with_reducible refine isB ?_
    | with_reducible refine isI ?_
    | with_reducible refine wo_someI ?_
    | with_reducible refine rs_T ?_
    | with_reducible refine isDs_cons ?_
    | with_reducible refine isDs_nil ?_
    | with_reducible refine ⟨Nat.le_of_ble_eq_true (by with_unfolding_all rfl), ?_⟩
    | with_reducible refine rw_I0 ?_
    | with_reducible refine rw_B0 ?_
    | with_reducible refine rw_I (cmulL (by decide) (by decide)) ?_
    | with_reducible refine rw_I (cmulR (by decide) (by decide)) ?_
    | with_reducible refine rw_I (cpowI (by decide) (by decide) (by decide)) ?_
    | with_reducible refine rw_I (cdivI (by decide) (by decide)) ?_
    | with_reducible refine rw_I (C := fun _ j => 0 < j) (by show (0 : Int) < _; decide) ?_
    | with_reducible refine rw_eqI ?_
    | with_reducible refine rw_eqL ?_
    | with_reducible refine rw_eqH ?_
    | with_reducible refine rw_eqW ?_
    | with_reducible refine rw_eqS ?_
    | with_reducible refine rw_eqB ?_
    | with_reducible refine rw_eqSN ?_
    | with_reducible refine rw_neI ?_
    | with_reducible refine rw_neW ?_
    | with_reducible refine rw_neS ?_
    | with_reducible refine rw_isN ?_
    | with_reducible refine rw_notN ?_
    | with_reducible refine rw_ixLog (by assumption) ?_
    | with_reducible refine rw_ixTd (by with_unfolding_all rfl) ?_
    | with_reducible refine rw_ixLd (by with_unfolding_all rfl) ?_
    | with_reducible refine rc_lenMT ?_
    | with_reducible refine rc_lenML ?_
    | with_reducible refine rc_lenT seqT_d ?_
    | with_reducible refine rc_lenL seqL_d ?_
    | with_reducible refine rc_abs ?_
    | with_reducible refine rc_max2 ?_
    | with_reducible refine rc_min2 ?_
    | with_reducible refine rc_intB ?_
    | with_reducible refine rc_tupL seqL_d ?_
    | with_reducible refine iteT ?_
    | with_reducible refine iteF ?_
    | with_reducible refine iteNT ?_
    | with_reducible refine iteNF ?_)
theorem sub_tab {M M' : Mh} (s : Sub M M') {a : Addr} {o : MO} (h : M a = some o) : M' a = some o := s a o h
theorem flat_enc : ∀ (ls : List (List (Nat × Nat))), (ls.map fun l => l.map encP).flatten = ls.flatten.map encP
  | [] => rfl
  | l :: ls => by rw [List.map_cons, List.flatten_cons, List.flatten_cons, List.map_append, flat_enc ls]
theorem flat_len {α : Type} {n : Nat} : ∀ {ls : List (List α)}, (∀ l ∈ ls, l.length ≤ n) → ls.flatten.length ≤ ls.length * n
  | [], _ => by simp
  | l :: ls, h => by
    have h1 := h l List.mem_cons_self
    have h2 := flat_len (ls := ls) fun x hx => h x (List.mem_cons_of_mem _ hx)
    rw [List.flatten_cons, List.length_append, List.length_cons, Nat.succ_mul]
    omega
/-- groups one by one: each has a line of its own -/
structure Parts (br : List Row) (ps : List (Nat × Nat)) (lls : List (Ln × List (Nat × Nat))) : Prop where
  nd : (lls.map (·.1)).Nodup
  each : ∀ x ∈ lls, Inc x.2 ∧ ∀ y ∈ x.2, y ∈ ps ∧ (rowAt br y.1).l = x.1
theorem parts_nd {br rm : List Row} {ps : List (Nat × Nat)} (hps : ∀ x ∈ ps, Same br rm x) (f : Nat × Nat → Nat) (hf : ∀ x y, x ∈ ps → y ∈ ps → f x = f y → (rowAt br x.1).l = (rowAt br y.1).l) (hi : ∀ x y : Nat × Nat, x.1 < y.1 ∧ x.2 < y.2 → f x ≠ f y) :
    ∀ {lls : List (Ln × List (Nat × Nat))}, Parts br ps lls → ((lls.map (·.2)).flatten.map f).Nodup
  | [], _ => List.nodup_nil
  | x :: lls, h => by
    have hn := h.nd
    rw [List.map_cons, List.nodup_cons] at hn
    have ht : Parts br ps lls := ⟨hn.2, fun y hy => h.each y (List.mem_cons_of_mem _ hy)⟩
    have hx := h.each x List.mem_cons_self
    rw [List.map_cons, List.flatten_cons, List.map_append, List.nodup_append]
    refine ⟨?_, parts_nd hps f hf hi ht, fun a ha b hb => ?_⟩
    · refine List.Pairwise.map _ (fun a b hab => hi a b hab) hx.1
    · intro e
      subst e
      obtain ⟨y, hy, hya⟩ := List.mem_map.mp ha
      obtain ⟨z, hz, hza⟩ := List.mem_map.mp hb
      obtain ⟨l, hl, hzl⟩ := List.mem_flatten.mp hz
      obtain ⟨w, hw, rfl⟩ := List.mem_map.mp hl
      have h1 := (hx.2 y hy)
      have h2 := (ht.each w hw).2 z hzl
      have h3 := hf y z h1.1 h2.1 (by rw [hya, hza])
      rw [h1.2, h2.2] at h3
      exact hn.1 (by rw [h3]; exact List.mem_map_of_mem hw)
theorem parts_pairs {br rm : List Row} {ps qs : List (Nat × Nat)} {lls : List (Ln × List (Nat × Nat))} (hps : ∀ x ∈ ps, Same br rm x) (h : Parts br ps lls) (hq : List.Perm qs (lls.map (·.2)).flatten) : Pairs br rm qs := by
  have hm : ∀ p ∈ qs, p ∈ ps := fun p hp => by
    obtain ⟨l, hl, hpl⟩ := List.mem_flatten.mp (hq.mem_iff.mp hp)
    obtain ⟨w, hw, rfl⟩ := List.mem_map.mp hl
    exact ((h.each w hw).2 p hpl).1
  refine ⟨fun p hp => ⟨(hps p (hm p hp)).1, (hps p (hm p hp)).2.1⟩, fun p hp => (hps p (hm p hp)).2.2, ?_, ?_⟩
  · exact (hq.map _).nodup_iff.mpr (parts_nd hps (·.1) (fun x y _ _ e => by rw [e]) (fun x y h => by omega) h)
  · refine (hq.map _).nodup_iff.mpr (parts_nd hps (·.2) (fun x y hx hy e => ?_) (fun x y h => by omega) h)
    rw [(hps x hx).2.2.1, (hps y hy).2.2.1, e]
abbrev s_greatest : Stmt := topS 33
abbrev N_greatest : List Str := ["bridge", "room", "pairs", "d", "lag", "some"]
abbrev p_greatest : List Str := ["bridge", "room", "pairs", "d", "lag"]
theorem sc_greatest : FnScope N_greatest p_greatest (defScope s_greatest) := ⟨rfl, rfl, rfl, by decide +kernel, rfl, by decide +kernel, by decide +kernel⟩

def sp_greatest (tR : Addr) : Spec := fun M es R => es.length = 5 ∧ ∃ (br rm : List Row) (ps : List (Nat × Nat)) (d lag : Int), es = [.d (encLog br), .d (encLog rm), .d (encPs ps), .d (.int d), .d (.int lag)] ∧ (∀ x ∈ ps, Same br rm x) ∧ ps.length ≤ 1000 ∧ M tR = some (.tab qR) ∧
  ∀ qs : List (Nat × Nat), Pairs br rm qs → R (.d (encPs qs)) M
theorem ok_greatest {P : Program} {w : World} {K : PySem.W.Frag} {mg : Str → Option Value} {base : Heap} {aD aS aB aE : Addr} {tR : Addr} {f : Addr} {fd : FuncData} (F : FunD K "greatest" "greatest" s_greatest f fd) (T : Gb w K mg aD aS aB aE) (c_by_lines : Cd P w K mg base 1 "by_lines" sp_by_lines []) (c_longest : Cd P w K mg base 3 "longest" (sp_longest tR) []) : FnOk P w K mg base CX0 4 f fd p_greatest (PSp K (sp_greatest tR)) := by
  refine okD F sc_greatest (fun M es R h => h.1) (fun cdv A outer s H E hr => ⟨_, (pss_one (ps_ret (e_sortD K rfl hr T.sorted (by rfl) (pa_cons (e_sumL K rfl rfl T.sum (by rfl) (pa_cons (pe_lc (own := [("some", 5)]) (g := (gName 5)) rfl sc_greatest.nd (pi_values (pe_lk (e_def P w K mg base rfl rfl rfl rfl rfl c_by_lines hr (by decide) (by rfl) (pa_cons (pv 0) (pa_cons (pv 2) pa_nil))))) (blkOk_by (own := [("some", 5)]) (N := N_greatest) (sc := defScope s_greatest) (by decide +kernel)) (fun _ _ _ _ _ => (pg_name (i := 5) sc_greatest.nd rfl (Or.inl rfl))) (fun _ _ _ _ _ => pts_nil) (fun _ _ _ _ _ => (e_def P w K mg base rfl rfl rfl rfl rfl c_longest hr (by decide) (by rfl) (pa_cons (pv 5) pa_nil)))) pa_nil) (pk_cons (pe_lst pa_nil) pk_nil)) pa_nil)))), fun M es R h => ?_⟩)
  obtain ⟨_, h⟩ := h
  obtain ⟨br, rm, ps, d, lag, rfl, hps, hz, ht, h⟩ := h
  refine ru_ret (w_postsub ?_)
  repeat walk_at "d"
  refine w_lc (wpg_name (by decide)) (wi_vals (w_lk ?_))
  repeat walk_at "d"
  refine ⟨rfl, br, ps, rfl, fun p hp => (hps p hp).1, by omega, fun p kes M' hMp hs hp g hk => ⟨p, kes, rfl, hp, fun od kvs => ⟨p, od, kvs, kes, rfl, mupd_same, ?_⟩⟩⟩
  refine ⟨fun i acc M2 => M2 = mupd M' p (.fK od kvs kes) ∧ ∃ lls : List (Ln × List (Nat × Nat)), acc = (lls.map fun x => encPs x.2).map Ent.d ∧ lls.length = i ∧ (∀ (j : Nat) x, lls[j]? = some x → (∃ kv, kes[j]? = some kv ∧ kv.1 = Sum.inr x.1.s) ∧ Inc x.2 ∧ x.2.length ≤ ps.length ∧ ∀ y ∈ x.2, y ∈ ps ∧ (rowAt br y.1).l = x.1), ⟨rfl, [], rfl, rfl, fun j x hx => by simp at hx⟩, ?_, ?_, ?_⟩
  · rintro q acc i M2 hq ⟨rfl, _⟩ _
    have : p ≠ q := fun e => by rw [← e, mupd_same] at hq; cases hq
    rw [mupd_ne this, mupd_same]
  · rintro i e acc M2 q he ⟨rfl, lls, rfl, hl, hall⟩ hq _
    have hpq : p ≠ q := fun e => by rw [← e, mupd_same] at hq; cases hq
    rw [List.getElem?_map] at he
    obtain ⟨kv, hkv, rfl⟩ : ∃ kv, kes[i]? = some kv ∧ kv.2 = e := by
      cases z : kes[i]? with
      | none => rw [z] at he; cases he
      | some kv => rw [z] at he; exact ⟨kv, rfl, Option.some.inj he⟩
    obtain ⟨l, q2, qs, rfl, hq2, hqs, hql⟩ := g.each kv (List.mem_of_getElem? hkv)
    have hi : i < kes.length := (List.getElem?_eq_some_iff.mp hkv).1
    have hMq : M' q = none := by rw [mupd_ne (Ne.symm hpq)] at hq; exact hq
    have h2 : q2 ≠ q := fun e => by rw [e] at hq2; unfold IsP at hq2; rw [hMq] at hq2; cases hq2
    have h3 : q2 ≠ p := fun e => by rw [e] at hq2; unfold IsP at hq2; rw [hp] at hq2; cases hq2
    have ht2 : M' tR = some (.tab qR) := hs _ _ ht
    have h4 : tR ≠ q := fun e => by rw [e, hMq] at ht2; cases ht2
    have h5 : tR ≠ p := fun e => by rw [e, hp] at ht2; cases ht2
    have sz : sizeLine = 16777216 := rfl
    repeat walk_at "d"
    refine ⟨rfl, q2, qs, rfl, isP_ne h2 (isP_ne h3 hq2), by rw [mupd_ne h4, mupd_ne h5]; exact ht2, by omega, fun os ho hinc hol => ?_⟩
    refine ⟨mupd M' p (.fK od kvs kes), hq, rfl, by rw [map_len]; omega, rfl, lls ++ [(l, os)], ?_, by rw [List.length_append]; simp; omega, fun j x hx => ?_⟩
    · rw [List.map_append, List.map_append]
      rfl
    · by_cases hj : j < lls.length
      · rw [List.getElem?_append_left hj] at hx
        exact hall j x hx
      · rw [List.getElem?_append_right (by omega)] at hx
        have hj2 : j = i := by
          have := (List.getElem?_eq_some_iff.mp hx).1
          simp at this
          omega
        subst hj2
        rw [hl, Nat.sub_self] at hx
        cases hx
        exact ⟨⟨_, hkv, rfl⟩, hinc, Nat.le_trans hol hql, fun y hy => hqs y (ho y hy)⟩
  · rintro acc M2 ⟨rfl, lls, rfl, hl, hall⟩
    refine isDs_map ?_
    rw [List.length_map] at hl
    repeat walk_at "d"
    refine w_lst ?_
    repeat walk_at "d"
    have e1 : (lls.map fun x => encPs x.2) = (lls.map fun x => x.2.map encP).map PyData.list := by rw [List.map_map]; rfl
    have e2 : (lls.map fun x => x.2.map encP).flatten = (lls.map (·.2)).flatten.map encP := by rw [← flat_enc, List.map_map]; rfl
    have sz : sizeLine = 16777216 := rfl
    have hfl : (lls.map (·.2)).flatten.length ≤ ps.length * ps.length := by
      refine Nat.le_trans (flat_len (n := ps.length) fun l hl2 => ?_) (Nat.mul_le_mul_right _ (by rw [List.length_map]; omega))
      obtain ⟨w, hw, rfl⟩ := List.mem_map.mp hl2
      obtain ⟨j, hj⟩ := List.mem_iff_getElem?.mp hw
      exact (hall j w hj).2.2.1
    have hsq : ps.length * ps.length ≤ 1000 * 1000 := Nat.mul_le_mul hz hz
    have parts : Parts br ps lls := by
      refine ⟨?_, fun x hx => ?_⟩
      · have hk2 : (lls.map fun x => (Sum.inr x.1.s : Key)) = kes.map (·.1) := by
          apply List.ext_getElem?
          intro j
          rw [List.getElem?_map, List.getElem?_map]
          cases hj : lls[j]? with
          | none =>
            have : kes[j]? = none := List.getElem?_eq_none (by rw [← hl]; exact List.getElem?_eq_none_iff.mp hj)
            rw [this]
            rfl
          | some x =>
            obtain ⟨kv, h1, h2⟩ := (hall j x hj).1
            rw [h1]
            exact congrArg some h2.symm
        have hn := g.nd
        rw [← hk2] at hn
        have hn2 : (lls.map fun x => x.1).map (fun l => (Sum.inr l.s : Key)) = lls.map fun x => (Sum.inr x.1.s : Key) := by rw [List.map_map]; rfl
        rw [← hn2] at hn
        exact List.Pairwise.of_map (fun l : Ln => (Sum.inr l.s : Key)) (fun a b hab e => hab (by rw [e])) hn
      · obtain ⟨j, hj⟩ := List.mem_iff_getElem?.mp hx
        exact ⟨(hall j x hj).2.1, (hall j x hj).2.2.2⟩
    refine rk_sumL (ls := lls.map fun x => x.2.map encP) (by rw [e1]; exact seqL_d) (by rw [e2, List.length_map]; omega) ?_
    rw [e2]
    repeat walk_at "d"
    refine rc_sortD seqL_d (sortOk_ps _) ?_
    obtain ⟨zs, hzs, he⟩ := perm_enc decP_enc (List.mergeSort_perm ((lls.map (·.2)).flatten.map encP) (PySem.W.dataLe false id))
    rw [he]
    exact ⟨M, hs.new hMp, h zs (parts_pairs hps parts hzs)⟩
abbrev s_joining : Stmt := topS 35
abbrev N_joining : List Str := ["bridge", "room", "d", "lag"]
abbrev p_joining : List Str := ["bridge", "room", "d", "lag"]
theorem sc_joining : FnScope N_joining p_joining (defScope s_joining) := ⟨rfl, rfl, rfl, by decide +kernel, rfl, by decide +kernel, by decide +kernel⟩

def sp_joining (tR : Addr) : Spec := fun M es R => es.length = 4 ∧ ∃ (br rm : List Row) (d lag : Int), es = [.d (encLog br), .d (encLog rm), .d (.int d), .d (.int lag)] ∧ br.length ≤ 100 ∧ rm.length ≤ 100 ∧ br.length * rm.length ≤ 1000 ∧ LogOk br ∧ LogOk rm ∧ M tR = some (.tab qR) ∧
  ∀ qs : List (Nat × Nat), Pairs br rm qs → R (.d (encPs qs)) M
theorem ok_joining {P : Program} {w : World} {K : PySem.W.Frag} {mg : Str → Option Value} {base : Heap} {aD aS aB aE : Addr} {tR : Addr} {f : Addr} {fd : FuncData} (F : FunD K "joining" "joining" s_joining f fd) (T : Gb w K mg aD aS aB aE) (c_greatest : Cd P w K mg base 4 "greatest" (sp_greatest tR) []) (c_pairs_at : Cd P w K mg base 7 "pairs_at" sp_pairs_at []) : FnOk P w K mg base CX0 8 f fd p_joining (PSp K (sp_joining tR)) := by
  refine okD F sc_joining (fun M es R h => h.1) (fun cdv A outer s H E hr => ⟨_, (pss_one (ps_ret (e_def P w K mg base rfl rfl rfl rfl rfl c_greatest hr (by decide) (by rfl) (pa_cons (pv 0) (pa_cons (pv 1) (pa_cons (e_def P w K mg base rfl rfl rfl rfl rfl c_pairs_at hr (by decide) (by rfl) (pa_cons (pv 0) (pa_cons (pv 1) (pa_cons (pv 2) (pa_cons (pv 3) pa_nil))))) (pa_cons (pv 2) (pa_cons (pv 3) pa_nil)))))))), fun M es R h => ?_⟩)
  obtain ⟨_, h⟩ := h
  obtain ⟨br, rm, d, lag, rfl, l1, l2, l3, o1, o2, ht, h⟩ := h
  repeat walk_at "d"
  refine ⟨rfl, _, _, _, _, rfl, l1, l2, o1, o2, fun qs hqs hlen => ?_⟩
  repeat walk_at "d"
  exact ⟨rfl, _, _, _, _, _, rfl, hqs, by omega, ht, h⟩
end DL


namespace DL
open PySem PySem.Spec PyProof.Rows L2
local macro_rules
  | `(tactic| walk_at "d") => `(tactic| first
    | with_reducible refine ru_seq ?_
    | with_reducible refine ru_asg ?_
    | with_reducible refine ru_ret ?_
    | with_reducible refine ru_if ?_
    | with_reducible refine ru_next ?_
    | with_reducible refine ru_cont ?_
    | with_reducible refine ru_break ?_
    | with_reducible refine ru_dropE ?_
    | with_reducible refine gw_name ?_
    | with_reducible refine gw_tup rfl ?_
    | with_reducible refine gws_consM ?_
    | with_reducible refine gws_nilM ?_
    | with_reducible refine gws_cons ?_
    | with_reducible refine gws_nil ?_
    | with_reducible refine w_var (by with_unfolding_all rfl) ?_
    | with_reducible refine w_int ?_
    | with_reducible refine w_str ?_
    | with_reducible refine w_bl ?_
    | with_reducible refine w_non ?_
    | with_reducible refine w_ref ?_
    | with_reducible refine w_ty ?_
    | with_reducible refine w_op ?_
    | with_reducible refine w_chain ?_
    | with_reducible refine w_cb ?_
    | with_reducible refine w_call0 ?_
    | with_reducible refine w_bm ?_
    | with_reducible refine w_neg ?_
    | with_reducible refine w_ckw ?_
    | with_reducible refine w_andV ?_
    | with_reducible refine w_orV ?_
    | with_reducible refine w_notV ?_
    | with_reducible refine w_sl ?_
    | with_reducible refine w_tup ?_
    | with_reducible refine wo_none ?_
    | with_reducible refine wt_test ?_
    | with_reducible refine wt_B ?_
    | with_reducible refine wt_and ?_
    | with_reducible refine wt_or ?_
    | with_reducible refine wt_not ?_
    | with_reducible refine wt_yes ?_
    | with_reducible refine wa_cons ?_
    | with_reducible refine wa_nil ?_
    | with_reducible refine isB ?_
    | with_reducible refine isI ?_
    | with_reducible refine wo_someI ?_
    | with_reducible refine rs_T ?_
    | with_reducible refine isDs_cons ?_
    | with_reducible refine isDs_nil ?_
    | with_reducible refine ⟨Nat.le_of_ble_eq_true (by with_unfolding_all rfl), ?_⟩
    | with_reducible refine rw_I0 ?_
    | with_reducible refine rw_B0 ?_
    | with_reducible refine rw_I (cmulL (by decide) (by decide)) ?_
    | with_reducible refine rw_I (cmulR (by decide) (by decide)) ?_
    | with_reducible refine rw_I (cpowI (by decide) (by decide) (by decide)) ?_
    | with_reducible refine rw_I (cdivI (by decide) (by decide)) ?_
    | with_reducible refine rw_I (C := fun _ j => 0 < j) (by show (0 : Int) < _; decide) ?_
    | with_reducible refine rw_eqI ?_
    | with_reducible refine rw_eqL ?_
    | with_reducible refine rw_eqH ?_
    | with_reducible refine rw_eqW ?_
    | with_reducible refine rw_eqS ?_
    | with_reducible refine rw_eqB ?_
    | with_reducible refine rw_eqSN ?_
    | with_reducible refine rw_neI ?_
    | with_reducible refine rw_neW ?_
    | with_reducible refine rw_neS ?_
    | with_reducible refine rw_isN ?_
    | with_reducible refine rw_notN ?_
    | with_reducible refine rw_ixLog (by assumption) ?_
    | with_reducible refine rw_ixTd (by with_unfolding_all rfl) ?_
    | with_reducible refine rw_ixLd (by with_unfolding_all rfl) ?_
    | with_reducible refine rc_lenMT ?_
    | with_reducible refine rc_lenML ?_
    | with_reducible refine rc_lenT seqT_d ?_
    | with_reducible refine rc_lenL seqL_d ?_
    | with_reducible refine rc_abs ?_
    | with_reducible refine rc_max2 ?_
    | with_reducible refine rc_min2 ?_
    | with_reducible refine rc_intB ?_
    | with_reducible refine rc_tupL seqL_d ?_
    | with_reducible refine iteT ?_
    | with_reducible refine iteF ?_
    | with_reducible refine iteNT ?_
    | with_reducible refine iteNF ?_)
abbrev hsK (a b : Ent) : List (Key × Ent) := [(Sum.inr (hs true), a), (Sum.inr (hs false), b)]
theorem hsD {a b : Ent} (h : Bool) : valE (mergeE [] (hsK a b)) (Sum.inr (hs h)) = some (if h then a else b) := by
  rw [valE_mergeE (by simp [hs_inj])]
  cases h <;> simp [List.find?, hs_inj]
theorem w_dispHS {K : PySem.W.Frag} {M : Mh} {R : Ent → Mh → Prop} {G : Gm} {t1 t2 : TE} (h : ∀ p, M p = none → W K t1 G (mupd M p (.dK [])) fun e1 M1 => M1 = mupd M p (.dK []) ∧ W K t2 G M1 fun e2 M2 => M2 = M1 ∧ R (.v (.ref p)) (mupd M p (.dK (mergeE [] (hsK e1 e2))))) : W K (tDisp [(tC (.str "bridge"), t1), (tC (.str "room"), t2)]) G M R := by
  refine w_disp fun p hp => ?_
  refine w_str ((h p hp).mono fun e1 M1 h1 => ?_)
  obtain ⟨rfl, h2⟩ := h1
  refine w_str (h2.mono fun e2 M2 h3 => ?_)
  obtain ⟨rfl, h4⟩ := h3
  refine ⟨mupd_same, hsK e1 e2, rfl, Nat.le_of_ble_eq_true rfl, ?_⟩
  rw [mupd_mupd]
  exact h4
def plf (h : Bool) (L : List Row) (js : List Nat) (s : Bool) (k : Nat) : Bool := decide ((if h then (rowAt L k).l.br else !(rowAt L k).l.br) = s) && !decide (k ∈ js)
theorem in_nats {k : Nat} {js : List Nat} : decide ((k : Int) ∈ js.map fun (n : Nat) => (n : Int)) = decide (k ∈ js) := by
  apply decide_eq_decide.mpr
  constructor
  · intro h
    obtain ⟨n, hn, e⟩ := List.mem_map.mp h
    have : n = k := Int.ofNat.inj e
    rw [← this]
    exact hn
  · exact fun h => List.mem_map_of_mem h
theorem plf_eq {h s : Bool} {l : Ln} : decide (decide (l.br = h) = s) = decide ((if h then l.br else !l.br) = s) := by
  cases h <;> cases l <;> cases s <;> rfl
theorem range_snoc {P : Nat → Bool} (i : Nat) : (List.range (i + 1)).filter P = (List.range i).filter P ++ if P i then [i] else [] := by
  rw [List.range_succ, List.filter_append]
  cases h : P i <;> simp [h]
theorem filt_len {P : Nat → Bool} (i : Nat) : ((List.range i).filter P).length ≤ i := by
  have := List.length_filter_le P (List.range i)
  rwa [List.length_range] at this
abbrev s_rows_left : Stmt := topS 38
abbrev N_rows_left : List Str := ["bridge", "room", "joining", "is_sent", "found", "paired", "house", "log", "number", "row", "b", "r"]
abbrev p_rows_left : List Str := ["bridge", "room", "joining", "is_sent"]
theorem sc_rows_left : FnScope N_rows_left p_rows_left (defScope s_rows_left) := ⟨rfl, rfl, rfl, by decide +kernel, rfl, by decide +kernel, by decide +kernel⟩

def sp_rows_left : Spec := fun M es R => es.length = 4 ∧ ∃ (br rm : List Row) (ps : List (Nat × Nat)) (s : Bool), es = [.d (encLog br), .d (encLog rm), .d (encPs ps), .d (.bool s)] ∧ br.length ≤ 1000 ∧ rm.length ≤ 1000 ∧ ps.length ≤ 1000 ∧ R (.d (.list ((leftOf br rm ps s).map encHN))) M
theorem ok_rows_left {P : Program} {w : World} {K : PySem.W.Frag} {mg : Str → Option Value} {base : Heap} {aD aS aB aE : Addr}  {f : Addr} {fd : FuncData} (F : FunD K "rows_left" "rows_left" s_rows_left f fd) (T : Gb w K mg aD aS aB aE) (c_sent_from : Cd P w K mg base 1 "sent_from" sp_sent_from []) : FnOk P w K mg base CX0 2 f fd p_rows_left (PSp K sp_rows_left) := by
  refine okD F sc_rows_left (fun M es R h => h.1) (fun cdv A outer s H E hr => ⟨_, (pss_cons (ps_set (i := 4) sc_rows_left.nd rfl (Or.inl rfl) (pe_lst pa_nil))
    (pss_cons (ps_set (i := 5) sc_rows_left.nd rfl (Or.inl rfl) (pe_disp (pps_cons pe_str (pe_lc (own := [("b", 10), ("r", 11)]) (g := (gTup K 2 (gCons (gName 10) (gCons (gName 11) gNil)))) rfl sc_rows_left.nd (i_list K rfl (pv 2)) (blkOk_by (own := [("b", 10), ("r", 11)]) (N := N_rows_left) (sc := defScope s_rows_left) (by decide +kernel)) (fun _ _ _ _ _ => (g_tup K rfl 2 rfl (pgs_cons (pg_name (i := 10) sc_rows_left.nd rfl (Or.inl rfl)) (pgs_cons (pg_name (i := 11) sc_rows_left.nd rfl (Or.inl rfl)) pgs_nil)))) (fun _ _ _ _ _ => pts_nil) (fun _ _ _ _ _ => (pv 10))) (pps_cons pe_str (pe_lc (own := [("b", 10), ("r", 11)]) (g := (gTup K 2 (gCons (gName 10) (gCons (gName 11) gNil)))) rfl sc_rows_left.nd (i_list K rfl (pv 2)) (blkOk_by (own := [("b", 10), ("r", 11)]) (N := N_rows_left) (sc := defScope s_rows_left) (by decide +kernel)) (fun _ _ _ _ _ => (g_tup K rfl 2 rfl (pgs_cons (pg_name (i := 10) sc_rows_left.nd rfl (Or.inl rfl)) (pgs_cons (pg_name (i := 11) sc_rows_left.nd rfl (Or.inl rfl)) pgs_nil)))) (fun _ _ _ _ _ => pts_nil) (fun _ _ _ _ _ => (pv 11))) pps_nil)) rfl rfl (fun z => nomatch z) (by decide)))
    (pss_cons (ps_for PassesOwn.never rfl (i_tup K rfl (pe_tup (pa_cons (pe_tup (pa_cons pe_str (pa_cons (pv 0) pa_nil))) (pa_cons (pe_tup (pa_cons pe_str (pa_cons (pv 1) pa_nil))) pa_nil)))) (g_tup K rfl 2 rfl (pgs_cons (pg_name (i := 6) sc_rows_left.nd rfl (Or.inl rfl)) (pgs_cons (pg_name (i := 7) sc_rows_left.nd rfl (Or.inl rfl)) pgs_nil))) (pss_one (ps_for PassesOwn.never rfl (i_enumT K rfl T.enumerate (by rfl) (pa_cons (pv 7) pa_nil)) (g_tup K rfl 2 rfl (pgs_cons (pg_name (i := 8) sc_rows_left.nd rfl (Or.inl rfl)) (pgs_cons (pg_name (i := 9) sc_rows_left.nd rfl (Or.inl rfl)) pgs_nil))) (pss_one (ps_if (PW.pt (pw_and (pt_cmpR op_eq (pe_cmpR op_eq (e_def P w K mg base rfl rfl rfl rfl rfl c_sent_from hr (by decide) (by rfl) (pa_cons (e_ixT K rfl (pv 9) pe_int (fun _ _ => rfl)) pa_nil)) (pv 6) (nomark _)) (pv 3) (nomark _)) (pw_and1 (c_notin K rfl (pv 8) (pe_dget (un1 hr) (pv 5) (pv 6) (fun _ _ => rfl)) (by first | rfl | decide))))) (pss_one (ps_expr (e_app K rfl (pv 4) (pa_cons (pe_tup (pa_cons (pv 6) (pa_cons (pv 8) pa_nil))) pa_nil)))) pss_nil)))))
    (pss_one (ps_ret (pv 4)))))), fun M es R h => ?_⟩)
  obtain ⟨_, h⟩ := h
  obtain ⟨br, rm, ps, s, rfl, l1, l2, l3, h⟩ := h
  repeat walk_at "d"
  refine w_lstM ?_
  repeat walk_at "d"
  refine fun f hf => ?_
  repeat walk_at "d"
  refine w_dispHS fun p hp => ?_
  have hfp : f ≠ p := fun e => by rw [e, ← e, mupd_same] at hp; cases hp
  have hMp : M p = none := by rw [mupd_ne (Ne.symm hfp)] at hp; exact hp
  refine w_lcE (α := Nat × Nat) (wpg_tup (wpgs_cons (by decide) (wpgs_cons (by decide) wpgs_nil))) (wi_listD ?_)
  repeat walk_at "d"
  refine ⟨_, rfl, ps, encP, fun p => natD p.1, rfl, by omega, fun _ _ _ => trivial, fun i x q acc hx hq => ?_, rfl, ?_⟩
  · repeat walk_at "d"
    refine ⟨rfl, ?_⟩
    repeat walk_at "d"
    exact ⟨rfl, rfl⟩
  refine w_lcE (α := Nat × Nat) (wpg_tup (wpgs_cons (by decide) (wpgs_cons (by decide) wpgs_nil))) (wi_listD ?_)
  repeat walk_at "d"
  refine ⟨_, rfl, ps, encP, fun p => natD p.2, rfl, by omega, fun _ _ _ => trivial, fun i x q acc hx hq => ?_, rfl, ?_⟩
  · repeat walk_at "d"
    refine ⟨rfl, ?_⟩
    repeat walk_at "d"
    exact ⟨rfl, rfl⟩
  repeat walk_at "d"
  generalize hM0 : mupd (mupd M f (.lst [])) p (.dK (mergeE [] (hsK (.d (.list (ps.map fun p => natD p.1))) (.d (.list (ps.map fun p => natD p.2)))))) = M0
  have hM0p : M0 p = some (.dK (mergeE [] (hsK (.d (.list (ps.map fun p => natD p.1))) (.d (.list (ps.map fun p => natD p.2)))))) := by rw [← hM0, mupd_same]
  have hM0f : M0 f = some (.lst []) := by rw [← hM0, mupd_ne hfp, mupd_same]
  have sz : sizeLine = 16777216 := rfl
  let L : Bool → List Row := fun h => if h then br else rm
  let js : Bool → List Nat := fun h => if h then ps.map (·.1) else ps.map (·.2)
  let part : Bool → Nat → List (Bool × Nat) := fun h i => ((List.range i).filter (plf h (L h) (js h) s)).map (h, ·)
  have hpl : ∀ h i, (part h i).length ≤ i := fun h i => by show (List.map _ _).length ≤ i; rw [List.length_map]; exact filt_len i
  have hL : ∀ h, (L h).length ≤ 1000 := fun h => by cases h; exact l2; exact l1
  refine ru_for (wi_tup ?_)
  repeat walk_at "d"
  refine ⟨_, rfl, fun i G' M' => (∃ pre : List (Bool × Nat), M' = mupd M0 f (.lst ((pre.map encHN).map Ent.d)) ∧ pre = (if 0 < i then part true br.length else []) ++ (if 1 < i then part false rm.length else [])) ∧ ∃ a b c d e g : Option Ent, G' = [some (.d (encLog br)), some (.d (encLog rm)), some (.d (encPs ps)), some (.d (.bool s)), some (.v (.ref f)), some (.v (.ref p)), a, b, c, d, e, g], ⟨⟨[], (mupd_self hM0f).symm, rfl⟩, _, _, _, _, _, _, rfl⟩, fun _ _ _ _ => trivial, ?_, ?_⟩
  · rintro i e G' M' he ⟨⟨pre, rfl, hpre⟩, a, b, c, d, e', g, rfl⟩
    obtain ⟨h', hi, rfl, hpz, hnext⟩ : ∃ h' : Bool, i < 2 ∧ e = .d (.tuple [.str (hs h'), encLog (L h')]) ∧ pre.length ≤ 1000 ∧ pre ++ part h' (L h').length = (if 0 < i + 1 then part true br.length else []) ++ (if 1 < i + 1 then part false rm.length else []) := by
      match i, he with
      | 0, he => exact ⟨true, by decide, (Option.some.inj he).symm, by rw [hpre]; exact Nat.zero_le _, by rw [hpre]; simp; rfl⟩
      | 1, he => exact ⟨false, by decide, (Option.some.inj he).symm, by rw [hpre]; simp; exact Nat.le_trans (hpl _ _) l1, by rw [hpre]; simp; rfl⟩
      | n + 2, he => cases he
    repeat walk_at "d"
    refine ru_for (wi_enumT ?_)
    repeat walk_at "d"
    refine ⟨_, rfl, fun k G' M' => M' = mupd M0 f (.lst (((pre ++ part h' k).map encHN).map Ent.d)) ∧ ∃ c d e g : Option Ent, G' = [some (.d (encLog br)), some (.d (encLog rm)), some (.d (encPs ps)), some (.d (.bool s)), some (.v (.ref f)), some (.v (.ref p)), some (.d (.str (hs h'))), some (.d (encLog (L h'))), c, d, e, g], ⟨by show _ = mupd M0 f (.lst (((pre ++ []).map encHN).map Ent.d)); rw [List.append_nil], _, _, _, _, rfl⟩, fun _ _ _ _ => trivial, ?_, ?_⟩
    · rintro k e G' M' he2 ⟨rfl, c, d, e', g, rfl⟩
      obtain ⟨hk, rfl⟩ := enum_log he2
      have hstep : part h' (k + 1) = part h' k ++ if plf h' (L h') (js h') s k then [(h', k)] else [] := by
        show List.map _ _ = List.map _ _ ++ _
        rw [range_snoc, List.map_append]
        cases plf h' (L h') (js h') s k <;> rfl
      have hplf : plf h' (L h') (js h') s k = (decide (decide ((rowAt (L h') k).l.br = h') = s) && !decide (k ∈ js h')) := by rw [plf_eq]; rfl
      repeat walk_at "d"
      refine ⟨rfl, _, rfl, ?_⟩
      repeat walk_at "d"
      refine dec_if (fun h1 => ?_) (fun h1 => ?_)
      · repeat walk_at "d"
        refine w_dget ?_
        repeat walk_at "d"
        refine ⟨.d (.list (nats (js h'))), ?_, ?_⟩
        · have := DG.k (M := mupd M0 f (.lst (((pre ++ part h' k).map encHN).map Ent.d))) (Sum.inr (hs h')) (by rw [mupd_ne (Ne.symm hfp)]; exact hM0p)
          rw [hsD] at this
          have e2 : (if h' = true then Ent.d (.list (ps.map fun p => natD p.1)) else Ent.d (.list (ps.map fun p => natD p.2))) = .d (.list (nats (js h'))) := by
            cases h'
            · show Ent.d (.list (ps.map fun p => natD p.2)) = .d (.list (nats (ps.map (·.2))))
              rw [nats, List.map_map]; rfl
            · show Ent.d (.list (ps.map fun p => natD p.1)) = .d (.list (nats (ps.map (·.1))))
              rw [nats, List.map_map]; rfl
          rw [e2] at this
          exact this
        · refine rw_inLI (ss := (js h').map fun (n : Nat) => (n : Int)) (by rw [List.map_map]; rfl) seqL_d ?_
          refine isB ?_
          rw [in_nats]
          show if (!decide (k ∈ js h')) = true then _ else _
          refine dec_ifn (fun h2 => ?_) (fun h2 => ?_)
          · repeat walk_at "d"
            refine ⟨ty_l (seqL_m mupd_same), ?_⟩
            repeat walk_at "d"
            refine rm_append mupd_same ?_ ?_
            · rw [map_len, List.length_append]
              have := hpl h' k
              have := hL h'
              omega
            · refine ⟨?_, _, _, _, _, rfl⟩
              rw [mupd_mupd, hstep, hplf, h1, decide_eq_true rfl, decide_eq_false h2]
              simp
          · repeat walk_at "d"
            refine ⟨?_, _, _, _, _, rfl⟩
            rw [hstep, hplf, decide_eq_true h2, Bool.not_true, Bool.and_false]
            simp
      · refine if_f rfl ?_
        repeat walk_at "d"
        refine ⟨?_, _, _, _, _, rfl⟩
        rw [hstep, hplf, decide_eq_false h1, Bool.false_and]
        simp
    · rintro G' M' ⟨rfl, c, d, e', g, rfl⟩
      rw [enum_len, hnext]
      exact ⟨⟨_, rfl, rfl⟩, _, _, _, _, _, _, rfl⟩
  · rintro G' M' ⟨⟨pre, rfl, hpre⟩, a, b, c, d, e', g, rfl⟩
    have hsub : Sub M (mdel (mupd M0 f (.lst ((pre.map encHN).map Ent.d))) f) := by
      rw [← hM0]
      exact ((((Sub.refl M).new hf).new hMp).new hf).del hf
    refine ru_ret (w_postsub (w_varF (ds := pre.map encHN) rfl mupd_same ⟨M, hsub, ?_⟩))
    rw [hpre]
    exact h
abbrev s_missed : Stmt := topS 39
abbrev N_missed : List Str := ["bridge", "room", "joining"]
abbrev p_missed : List Str := ["bridge", "room", "joining"]
theorem sc_missed : FnScope N_missed p_missed (defScope s_missed) := ⟨rfl, rfl, rfl, by decide +kernel, rfl, by decide +kernel, by decide +kernel⟩

def sp_missed : Spec := fun M es R => es.length = 3 ∧ ∃ (br rm : List Row) (ps : List (Nat × Nat)), es = [.d (encLog br), .d (encLog rm), .d (encPs ps)] ∧ br.length ≤ 1000 ∧ rm.length ≤ 1000 ∧ ps.length ≤ 1000 ∧ R (.d (.list ((leftOf br rm ps true).map encHN))) M
theorem ok_missed {P : Program} {w : World} {K : PySem.W.Frag} {mg : Str → Option Value} {base : Heap} {aD aS aB aE : Addr}  {f : Addr} {fd : FuncData} (F : FunD K "missed" "missed" s_missed f fd) (T : Gb w K mg aD aS aB aE) (c_rows_left : Cd P w K mg base 2 "rows_left" sp_rows_left []) : FnOk P w K mg base CX0 3 f fd p_missed (PSp K sp_missed) := by
  refine okD F sc_missed (fun M es R h => h.1) (fun cdv A outer s H E hr => ⟨_, (pss_one (ps_ret (e_def P w K mg base rfl rfl rfl rfl rfl c_rows_left hr (by decide) (by rfl) (pa_cons (pv 0) (pa_cons (pv 1) (pa_cons (pv 2) (pa_cons pe_bl pa_nil))))))), fun M es R h => ?_⟩)
  obtain ⟨_, h⟩ := h
  obtain ⟨br, rm, ps, rfl, l1, l2, l3, h⟩ := h
  repeat walk_at "d"
  exact ⟨rfl, br, rm, ps, true, rfl, l1, l2, l3, h⟩
abbrev s_by_bridge : Stmt := topS 40
abbrev N_by_bridge : List Str := ["house", "minute", "d"]
abbrev p_by_bridge : List Str := ["house", "minute", "d"]
theorem sc_by_bridge : FnScope N_by_bridge p_by_bridge (defScope s_by_bridge) := ⟨rfl, rfl, rfl, by decide +kernel, rfl, by decide +kernel, by decide +kernel⟩

def sp_by_bridge : Spec := fun M es R => es.length = 3 ∧ ∃ (h : Bool) (m d : Int), es = [.d (.str (hs h)), .d (.int m), .d (.int d)] ∧ R (.d (.int (byBr h m d))) M
theorem ok_by_bridge {P : Program} {w : World} {K : PySem.W.Frag} {mg : Str → Option Value} {base : Heap} {aD aS aB aE : Addr}  {f : Addr} {fd : FuncData} (F : FunD K "by_bridge" "by_bridge" s_by_bridge f fd) (T : Gb w K mg aD aS aB aE)  : FnOk P w K mg base CX0 1 f fd p_by_bridge (PSp K sp_by_bridge) := by
  refine okD F sc_by_bridge (fun M es R h => h.1) (fun cdv A outer s H E hr => ⟨_, (pss_cons (ps_if (pt_cmpR op_eq (pv 0) pe_str (nomark _)) (pss_one (ps_ret (pe_op op_sub (pv 1) (pv 2)))) pss_nil)
    (pss_one (ps_ret (pv 1)))), fun M es R h => ?_⟩)
  obtain ⟨_, h⟩ := h
  obtain ⟨b, m, d, rfl, h⟩ := h
  cases b with
  | true =>
    repeat walk_at "d"
    refine if_f (by decide +kernel) ?_
    repeat walk_at "d"
    exact h
  | false =>
    repeat walk_at "d"
    refine if_t (by decide +kernel) ?_
    repeat walk_at "d"
    exact h
abbrev s_lot : Stmt := topS 44
abbrev N_lot : List Str := ["bridge", "room", "joining"]
abbrev p_lot : List Str := ["bridge", "room", "joining"]
theorem sc_lot : FnScope N_lot p_lot (defScope s_lot) := ⟨rfl, rfl, rfl, by decide +kernel, rfl, by decide +kernel, by decide +kernel⟩

def sp_lot : Spec := fun M es R => es.length = 3 ∧ ∃ (br rm : List Row) (ps : List (Nat × Nat)), es = [.d (encLog br), .d (encLog rm), .d (encPs ps)] ∧ ps.length ≤ 1000 ∧ R (.d (.int (lotOf br rm ps))) M
theorem ok_lot {P : Program} {w : World} {K : PySem.W.Frag} {mg : Str → Option Value} {base : Heap} {aD aS aB aE : Addr}  {f : Addr} {fd : FuncData} (F : FunD K "lot" "lot" s_lot f fd) (T : Gb w K mg aD aS aB aE)  : FnOk P w K mg base CX0 1 f fd p_lot (PSp K sp_lot) := by
  refine okD F sc_lot (fun M es R h => h.1) (fun cdv A outer s H E hr => ⟨_, (pss_one (ps_ret (pe_op op_sub (pe_op op_add (e_len K rfl T.len (by rfl) (pa_cons (pv 0) pa_nil)) (e_len K rfl T.len (by rfl) (pa_cons (pv 1) pa_nil))) (pe_op op_mul pe_int (e_len K rfl T.len (by rfl) (pa_cons (pv 2) pa_nil)))))), fun M es R h => ?_⟩)
  obtain ⟨_, h⟩ := h
  obtain ⟨br, rm, ps, rfl, l3, h⟩ := h
  repeat walk_at "d"
  exact h
end DL


namespace DL
open PySem PySem.Spec PyProof.Rows L2
local macro_rules
  | `(tactic| walk_at "d") => `(tactic| first
    | with_reducible refine ru_seq ?_
    | with_reducible refine ru_asg ?_
    | with_reducible refine ru_ret ?_
    | with_reducible refine ru_if ?_
    | with_reducible refine ru_next ?_
    | with_reducible refine ru_cont ?_
    | with_reducible refine ru_break ?_
    | with_reducible refine ru_dropE ?_
    | with_reducible refine gw_name ?_
    | with_reducible refine gw_tup rfl ?_
    | with_reducible refine gws_consM ?_
    | with_reducible refine gws_nilM ?_
    | with_reducible refine gws_cons ?_
    | with_reducible refine gws_nil ?_
    | with_reducible refine w_var (by with_unfolding_all rfl) ?_
    | with_reducible refine w_int ?_
    | with_reducible refine w_str ?_
    | with_reducible refine w_bl ?_
    | with_reducible refine w_non ?_
    | with_reducible refine w_ref ?_
    | with_reducible refine w_ty ?_
    | with_reducible refine w_op ?_
    | with_reducible refine w_chain ?_
    | with_reducible refine w_cb ?_
    | with_reducible refine w_call0 ?_
    | with_reducible refine w_bm ?_
    | with_reducible refine w_neg ?_
    | with_reducible refine w_ckw ?_
    | with_reducible refine w_andV ?_
    | with_reducible refine w_orV ?_
    | with_reducible refine w_notV ?_
    | with_reducible refine w_sl ?_
    | with_reducible refine w_tup ?_
    | with_reducible refine wo_none ?_
    | with_reducible refine wt_test ?_
    | with_reducible refine wt_B ?_
    | with_reducible refine wt_and ?_
    | with_reducible refine wt_or ?_
    | with_reducible refine wt_not ?_
    | with_reducible refine wt_yes ?_
    | with_reducible refine wa_cons ?_
    | with_reducible refine wa_nil ?_
    | with_reducible refine isB ?_
    | with_reducible refine isI ?_
    | with_reducible refine wo_someI ?_
    | with_reducible refine rs_T ?_
    | with_reducible refine isDs_cons ?_
    | with_reducible refine isDs_nil ?_
    | with_reducible refine ⟨Nat.le_of_ble_eq_true (by with_unfolding_all rfl), ?_⟩
    | with_reducible refine rw_I0 ?_
    | with_reducible refine rw_B0 ?_
    | with_reducible refine rw_I (cmulL (by decide) (by decide)) ?_
    | with_reducible refine rw_I (cmulR (by decide) (by decide)) ?_
    | with_reducible refine rw_I (cpowI (by decide) (by decide) (by decide)) ?_
    | with_reducible refine rw_I (cdivI (by decide) (by decide)) ?_
    | with_reducible refine rw_I (C := fun _ j => 0 < j) (by show (0 : Int) < _; decide) ?_
    | with_reducible refine rw_eqI ?_
    | with_reducible refine rw_eqL ?_
    | with_reducible refine rw_eqH ?_
    | with_reducible refine rw_eqW ?_
    | with_reducible refine rw_eqS ?_
    | with_reducible refine rw_eqB ?_
    | with_reducible refine rw_eqSN ?_
    | with_reducible refine rw_neI ?_
    | with_reducible refine rw_neW ?_
    | with_reducible refine rw_neS ?_
    | with_reducible refine rw_isN ?_
    | with_reducible refine rw_notN ?_
    | with_reducible refine rw_ixLog (by assumption) ?_
    | with_reducible refine rw_ixTd (by with_unfolding_all rfl) ?_
    | with_reducible refine rw_ixLd (by with_unfolding_all rfl) ?_
    | with_reducible refine rc_lenMT ?_
    | with_reducible refine rc_lenML ?_
    | with_reducible refine rc_lenT seqT_d ?_
    | with_reducible refine rc_lenL seqL_d ?_
    | with_reducible refine rc_abs ?_
    | with_reducible refine rc_max2 ?_
    | with_reducible refine rc_min2 ?_
    | with_reducible refine rc_intB ?_
    | with_reducible refine rc_tupL seqL_d ?_
    | with_reducible refine iteT ?_
    | with_reducible refine iteF ?_
    | with_reducible refine iteNT ?_
    | with_reducible refine iteNF ?_)
theorem besG {w : World} {K : PySem.W.Frag} {mg : Str → Option Value} {aD aS aB aE : Addr} (T : Gb w K mg aD aS aB aE) (l : Ln) : KGet K w aE l.s (l.beside.map fun x => V.str x.s) := by
  cases l with
  | port => exact T.beside1
  | star => exact T.beside2
  | aport => exact T.beside3
  | astar => exact T.beside4
  | down => exact T.beside5
  | up => exact T.beside6
def besD (l : Ln) : PyData := match l.beside with
  | some x => .str x.s
  | none => .none
theorem bes_da {K : PySem.W.Frag} (l : Ln) (F : Hp) : Da K F ((l.beside.map fun x => V.str x.s).getD .non) (besD l) := by
  unfold besD
  cases l.beside with
  | none => exact .non
  | some x => exact .str _
theorem rw_eqBes {K : PySem.W.Frag} {M : Mh} {R : Ent → Mh → Prop} {a l : Ln} (r : R (.d (.bool (decide (l.beside = some a)))) M) : RW K rEq (.d (.str a.s)) (.d (besD l)) M R := by
  unfold besD
  cases h : l.beside with
  | none =>
    refine rw_eqSN ?_
    rw [h] at r
    simpa using r
  | some x =>
    refine rw_eqL ?_
    rw [h] at r
    have e : decide (some x = some a) = decide (a = x) := by
      by_cases q : a = x
      · simp [q]
      · rw [decide_eq_false q, decide_eq_false fun z => q (Option.some.inj z).symm]
    rw [e] at r
    exact r
abbrev s_is_doubled : Stmt := topS 41
abbrev N_is_doubled : List Str := ["log", "number", "lag", "minute", "line", "what", "ahead", "k"]
abbrev p_is_doubled : List Str := ["log", "number", "lag"]
theorem sc_is_doubled : FnScope N_is_doubled p_is_doubled (defScope s_is_doubled) := ⟨rfl, rfl, rfl, by decide +kernel, rfl, by decide +kernel, by decide +kernel⟩

def sp_is_doubled : Spec := fun M es R => es.length = 3 ∧ ∃ (log : List Row) (n : Nat) (lag : Int), es = [.d (encLog log), .d (natD n), .d (.int lag)] ∧ n < log.length ∧ log.length ≤ 1000 ∧ R (.d (.bool (dbl log n lag))) M
theorem ok_is_doubled {P : Program} {w : World} {K : PySem.W.Frag} {mg : Str → Option Value} {base : Heap} {aD aS aB aE : Addr}  {f : Addr} {fd : FuncData} (F : FunD K "is_doubled" "is_doubled" s_is_doubled f fd) (T : Gb w K mg aD aS aB aE) (c_rows_on : Cd P w K mg base 1 "rows_on" sp_rows_on []) : FnOk P w K mg base CX0 2 f fd p_is_doubled (PSp K sp_is_doubled) := by
  refine okD F sc_is_doubled (fun M es R h => h.1) (fun cdv A outer s H E hr => ⟨_, (pss_cons (ps_asg (e_ixT K rfl (pv 0) (pv 1) (fun _ _ => rfl)) (g_tup K rfl 3 rfl (pgs_cons (pg_name (i := 3) sc_is_doubled.nd rfl (Or.inl rfl)) (pgs_cons (pg_name (i := 4) sc_is_doubled.nd rfl (Or.inl rfl)) (pgs_cons (pg_name (i := 5) sc_is_doubled.nd rfl (Or.inl rfl)) pgs_nil)))))
    (pss_cons (ps_setLc (i := 6) (own := [("k", 7)]) (g := (gName 7)) rfl sc_is_doubled.nd rfl rfl (sw_true rfl rfl rfl (by decide +kernel)) (i_list K rfl (e_def P w K mg base rfl rfl rfl rfl rfl c_rows_on hr (by decide) (by rfl) (pa_cons (pv 0) (pa_cons (pv 4) pa_nil)))) (blkOk_by (own := [("k", 7)]) (N := N_is_doubled) (sc := defScope s_is_doubled) (by decide +kernel)) (fun _ _ _ _ _ => (pg_name (i := 7) sc_is_doubled.nd rfl (Or.inl rfl))) (fun _ _ _ _ _ => (pts_one (pt_cmpR op_lt (pv 7) (pv 1) (nomark _)))) (fun _ _ _ _ _ => (pv 7)))
    (pss_cons (ps_if (PW.pt (pw_or (c_eqD K rfl hr (pv 6) (pe_lst pa_nil)) (pw_or1 (pt_cmpR op_ne (e_ixT K rfl (e_ixT K rfl (pv 0) (e_ixL K rfl (pv 6) (pe_un un_neg pe_int) (fun _ _ => rfl)) (fun _ _ => rfl)) pe_int (fun _ _ => rfl)) (pv 5) (nomark _))))) (pss_one (ps_ret pe_bl)) pss_nil)
    (pss_one (ps_ret (pe_cmpR op_le (pe_op op_sub (pv 3) (e_ixT K rfl (e_ixT K rfl (pv 0) (e_ixL K rfl (pv 6) (pe_un un_neg pe_int) (fun _ _ => rfl)) (fun _ _ => rfl)) pe_int (fun _ _ => rfl))) (pv 2) (nomark _))))))), fun M es R h => ?_⟩)
  obtain ⟨_, h⟩ := h
  obtain ⟨log, n, lag, rfl, hn, hl, h⟩ := h
  repeat walk_at "d"
  refine w_lcF (α := Nat) (wpg_name (by decide)) (wi_listD ?_)
  repeat walk_at "d"
  refine ⟨rfl, log, (rowAt log n).l, rfl, hl, ?_⟩
  refine ⟨_, rfl, rowsOn log (rowAt log n).l, natD, natD, fun k => decide (k < n), rfl, Nat.le_trans (rowsOn_len _ _) (by omega), fun _ _ _ => trivial, fun i k q acc hx hq => ?_, ?_⟩
  · repeat walk_at "d"
    refine ⟨rfl, by simp, fun _ => ?_⟩
    repeat walk_at "d"
    exact ⟨rfl, rfl⟩
  repeat walk_at "d"
  refine w_lst ?_
  repeat walk_at "d"
  refine rw_eqD asD_d asD_d (Sh.shaped (n := 1) (sh_list (sh_map fun _ _ => sh_int)) (by decide)) (Sh.shaped (n := 1) (sh_list all_nil) (by decide)) ?_
  rw [eqv_nil]
  refine isB ?_
  unfold dbl at h
  rcases List.eq_nil_or_concat ((rowsOn log (rowAt log n).l).filter fun k => decide (k < n)) with he | ⟨zs, k, he⟩
  · rw [he] at h ⊢
    refine if_t rfl ?_
    repeat walk_at "d"
    exact h
  · rw [List.concat_eq_append] at he
    rw [he] at h ⊢
    rw [show (zs ++ [k]).getLast? = some k by simp] at h
    have hk : k < log.length := by
      have : k ∈ (rowsOn log (rowAt log n).l).filter fun k => decide (k < n) := by rw [he]; simp
      exact rowsOn_lt (List.mem_filter.mp this).1
    refine if_f (by simp) ?_
    have hat : atI ((zs ++ [k]).map natD) (-1) = some (natD k) := by rw [List.map_append]; exact at_last
    repeat walk_at "d"
    refine rw_ixLd hat ?_
    repeat walk_at "d"
    refine dec_ifn (fun h1 => ?_) (fun h1 => ?_)
    · repeat walk_at "d"
      have h : R (.d (.bool (decide ((rowAt log k).w = (rowAt log n).w) && decide ((rowAt log n).m - (rowAt log k).m ≤ lag)))) M := h
      rw [decide_eq_false h1] at h
      exact h
    · repeat walk_at "d"
      refine rw_ixLd hat ?_
      repeat walk_at "d"
      have h : R (.d (.bool (decide ((rowAt log k).w = (rowAt log n).w) && decide ((rowAt log n).m - (rowAt log k).m ≤ lag)))) M := h
      rw [decide_eq_true h1, Bool.true_and] at h
      exact h
abbrev logsK (br rm : List Row) : List (Key × Ent) := mergeE [] (hsK (.d (encLog br)) (.d (encLog rm)))
theorem dg_logs {M : Mh} {p : Addr} {br rm : List Row} (h : M p = some (.dK (logsK br rm))) (b : Bool) : DG M (.v (.ref p)) (.d (.str (hs b))) (some (.d (encLog (logOf br rm b)))) := by
  have := DG.k (Sum.inr (hs b)) h
  rw [hsD] at this
  cases b <;> exact this
abbrev s_is_crossed : Stmt := topS 42
abbrev N_is_crossed : List Str := ["logs", "house", "number", "lost", "d", "lag", "minute", "line", "what", "came", "other", "k", "sent", "beside", "order"]
abbrev p_is_crossed : List Str := ["logs", "house", "number", "lost", "d", "lag"]
theorem sc_is_crossed : FnScope N_is_crossed p_is_crossed (defScope s_is_crossed) := ⟨rfl, rfl, rfl, by decide +kernel, rfl, by decide +kernel, by decide +kernel⟩

def sp_is_crossed : Spec := fun M es R => es.length = 6 ∧ ∃ (p : Addr) (br rm : List Row) (h : Bool) (n : Nat) (lost : List (Bool × Nat)) (d lag : Int), es = [.v (.ref p), .d (.str (hs h)), .d (natD n), .d (.list (lost.map encHN)), .d (.int d), .d (.int lag)] ∧ M p = some (.dK (logsK br rm)) ∧ n < (logOf br rm h).length ∧ (∀ x ∈ lost, x.2 < (logOf br rm x.1).length) ∧ R (.d (.bool (crs br rm h n lost d lag))) M
theorem ok_is_crossed {P : Program} {w : World} {K : PySem.W.Frag} {mg : Str → Option Value} {base : Heap} {aD aS aB aE : Addr}  {f : Addr} {fd : FuncData} (F : FunD K "is_crossed" "is_crossed" s_is_crossed f fd) (T : Gb w K mg aD aS aB aE) (c_by_bridge : Cd P w K mg base 1 "by_bridge" sp_by_bridge []) : FnOk P w K mg base CX0 2 f fd p_is_crossed (PSp K sp_is_crossed) := by
  refine okD F sc_is_crossed (fun M es R h => h.1) (fun cdv A outer s H E hr => ⟨_, (pss_cons (ps_asg (e_ixT K rfl (pe_dget (un1 hr) (pv 0) (pv 1) (fun _ _ => rfl)) (pv 2) (fun _ _ => rfl)) (g_tup K rfl 3 rfl (pgs_cons (pg_name (i := 6) sc_is_crossed.nd rfl (Or.inl rfl)) (pgs_cons (pg_name (i := 7) sc_is_crossed.nd rfl (Or.inl rfl)) (pgs_cons (pg_name (i := 8) sc_is_crossed.nd rfl (Or.inl rfl)) pgs_nil)))))
    (pss_cons (ps_set (i := 9) sc_is_crossed.nd rfl (Or.inl rfl) (e_def P w K mg base rfl rfl rfl rfl rfl c_by_bridge hr (by decide) (by rfl) (pa_cons (pv 1) (pa_cons (pv 6) (pa_cons (pv 4) pa_nil)))))
    (pss_cons (ps_for PassesOwn.never rfl (i_list K rfl (pv 3)) (g_tup K rfl 2 rfl (pgs_cons (pg_name (i := 10) sc_is_crossed.nd rfl (Or.inl rfl)) (pgs_cons (pg_name (i := 11) sc_is_crossed.nd rfl (Or.inl rfl)) pgs_nil))) (pss_cons (ps_asg (e_ixT K rfl (pe_dget (un1 hr) (pv 0) (pv 10) (fun _ _ => rfl)) (pv 11) (fun _ _ => rfl)) (g_tup K rfl 3 rfl (pgs_cons (pg_name (i := 12) sc_is_crossed.nd rfl (Or.inl rfl)) (pgs_cons (pg_name (i := 13) sc_is_crossed.nd rfl (Or.inl rfl)) (pgs_cons (pg_name (i := 14) sc_is_crossed.nd rfl (Or.inl rfl)) pgs_nil)))))
    (pss_one (ps_if (PW.pt (pw_and (pt_cmpR op_eq (pv 13) (e_kget K rfl w rfl T.low (pe_glob (v := .ref aE) (by rfl) T.beside rfl) (pv 7) ⟨rfl, rfl, rfl, rfl⟩) (nomark _)) (pw_and (pt_cmpR op_eq (pv 14) (pv 8) (nomark _)) (pw_and1 (pt_chain op_le op_le pe_int (pe_op op_sub (pv 9) (e_def P w K mg base rfl rfl rfl rfl rfl c_by_bridge hr (by decide) (by rfl) (pa_cons (pv 10) (pa_cons (pv 12) (pa_cons (pv 4) pa_nil))))) (pv 5)))))) (pss_one (ps_ret pe_bl)) pss_nil))))
    (pss_one (ps_ret pe_bl))))), fun M es R h => ?_⟩)
  obtain ⟨_, h⟩ := h
  obtain ⟨p, br, rm, hh, n, lost, d, lag, rfl, hp, hn, hlt, h⟩ := h
  repeat walk_at "d"
  refine w_dget ?_
  repeat walk_at "d"
  refine ⟨_, dg_logs hp hh, ?_⟩
  repeat walk_at "d"
  refine ⟨rfl, hh, _, d, rfl, ?_⟩
  repeat walk_at "d"
  refine ru_for (wi_listD ?_)
  repeat walk_at "d"
  refine ⟨_, rfl, fun i G' M' => M' = M ∧ (∃ a b c e f : Option Ent, G' = [some (.v (.ref p)), some (.d (.str (hs hh))), some (.d (natD n)), some (.d (.list (lost.map encHN))), some (.d (.int d)), some (.d (.int lag)), some (.d (.int (rowAt (logOf br rm hh) n).m)), some (.d (.str (rowAt (logOf br rm hh) n).l.s)), some (.d (encW (rowAt (logOf br rm hh) n).w)), some (.d (.int (byBr hh (rowAt (logOf br rm hh) n).m d))), a, b, c, e, f]) ∧ ∀ j x, j < i → lost[j]? = some x → crsAt br rm hh n d lag x = false, ⟨rfl, ⟨_, _, _, _, _, rfl⟩, fun j x hj => absurd hj (Nat.not_lt_zero _)⟩, fun _ _ _ _ => trivial, ?_, ?_⟩
  · rintro i e G' M' he ⟨rfl, ⟨a, b, c, e', f', rfl⟩, hall⟩
    obtain ⟨x, hx, rfl⟩ := map_at he
    have hxl := hlt x (List.mem_of_getElem? hx)
    have yes : crsAt br rm hh n d lag x = true → crs br rm hh n lost d lag = true := fun hc => List.any_eq_true.mpr ⟨x, List.mem_of_getElem? hx, hc⟩
    have no : crsAt br rm hh n d lag x = false → ∀ j y, j < i + 1 → lost[j]? = some y → crsAt br rm hh n d lag y = false := fun hc j y hj hy => by
      rcases Nat.lt_succ_iff_lt_or_eq.mp hj with hj | rfl
      · exact hall j y hj hy
      · rw [hx] at hy; cases hy; exact hc
    unfold crsAt at yes no
    dsimp only at yes no
    repeat walk_at "d"
    refine w_dget ?_
    repeat walk_at "d"
    refine ⟨_, dg_logs hp x.1, ?_⟩
    repeat walk_at "d"
    refine w_kget ?_
    repeat walk_at "d"
    refine ⟨aE, rfl, ⟨_, _, besG T .port⟩, ?_⟩
    repeat walk_at "d"
    refine ⟨_, _, _, rfl, besG T _, bes_da _, rw_eqBes ?_⟩
    repeat walk_at "d"
    refine dec_if (fun h1 => ?_) (fun h1 => ?_)
    · repeat walk_at "d"
      refine dec_if (fun h2 => ?_) (fun h2 => ?_)
      · repeat walk_at "d"
        refine ⟨rfl, x.1, _, d, rfl, ?_⟩
        repeat walk_at "d"
        refine dec_if (fun h3 => ?_) (fun h3 => ?_)
        · repeat walk_at "d"
          refine dec_if (fun h4 => ?_) (fun h4 => ?_)
          · repeat walk_at "d"
            rw [yes (by rw [decide_eq_true h1, decide_eq_true h2, decide_eq_true h3, decide_eq_true h4]; rfl)] at h
            exact h
          · repeat walk_at "d"
            exact ⟨rfl, ⟨_, _, _, _, _, rfl⟩, no (by rw [decide_eq_false h4, Bool.and_false, Bool.and_false])⟩
        · repeat walk_at "d"
          exact ⟨rfl, ⟨_, _, _, _, _, rfl⟩, no (by rw [decide_eq_false h3, Bool.false_and, Bool.and_false])⟩
      · repeat walk_at "d"
        exact ⟨rfl, ⟨_, _, _, _, _, rfl⟩, no (by rw [decide_eq_false h2, Bool.and_false, Bool.false_and])⟩
    · repeat walk_at "d"
      exact ⟨rfl, ⟨_, _, _, _, _, rfl⟩, no (by rw [decide_eq_false h1, Bool.false_and, Bool.false_and])⟩
  · rintro G' M' ⟨rfl, ⟨a, b, c, e', f', rfl⟩, hall⟩
    repeat walk_at "d"
    have : crs br rm hh n lost d lag = false := by
      unfold crs
      rw [List.any_eq_false]
      intro x hx
      obtain ⟨j, hj⟩ := List.mem_iff_getElem?.mp hx
      rw [hall j x (by rw [map_len]; exact (List.getElem?_eq_some_iff.mp hj).1) hj]
      decide
    rw [this] at h
    exact h
theorem left_lt {br rm : List Row} {ps : List (Nat × Nat)} {s : Bool} {x : Bool × Nat} (h : x ∈ leftOf br rm ps s) : x.2 < (logOf br rm x.1).length := by
  rcases List.mem_append.mp h with h | h
  · obtain ⟨k, hk, rfl⟩ := List.mem_map.mp h
    exact List.mem_range.mp (List.mem_filter.mp hk).1
  · obtain ⟨k, hk, rfl⟩ := List.mem_map.mp h
    exact List.mem_range.mp (List.mem_filter.mp hk).1
theorem left_len {br rm : List Row} {ps : List (Nat × Nat)} {s : Bool} : (leftOf br rm ps s).length ≤ br.length + rm.length := by
  unfold leftOf
  rw [List.length_append, List.length_map, List.length_map]
  exact Nat.add_le_add (filt_len _) (filt_len _)
abbrev s_strange : Stmt := topS 43
abbrev N_strange : List Str := ["bridge", "room", "joining", "d", "lag", "logs", "lost", "found", "house", "number", "why"]
abbrev p_strange : List Str := ["bridge", "room", "joining", "d", "lag"]
theorem sc_strange : FnScope N_strange p_strange (defScope s_strange) := ⟨rfl, rfl, rfl, by decide +kernel, rfl, by decide +kernel, by decide +kernel⟩

def sp_strange : Spec := fun M es R => es.length = 5 ∧ ∃ (br rm : List Row) (ps : List (Nat × Nat)) (d lag : Int), es = [.d (encLog br), .d (encLog rm), .d (encPs ps), .d (.int d), .d (.int lag)] ∧ br.length ≤ 1000 ∧ rm.length ≤ 1000 ∧ ps.length ≤ 1000 ∧ R (.d (.list (strOf br rm ps d lag))) M
theorem ok_strange {P : Program} {w : World} {K : PySem.W.Frag} {mg : Str → Option Value} {base : Heap} {aD aS aB aE : Addr}  {f : Addr} {fd : FuncData} (F : FunD K "strange" "strange" s_strange f fd) (T : Gb w K mg aD aS aB aE) (c_missed : Cd P w K mg base 3 "missed" sp_missed []) (c_rows_left : Cd P w K mg base 2 "rows_left" sp_rows_left []) (c_is_doubled : Cd P w K mg base 2 "is_doubled" sp_is_doubled []) (c_is_crossed : Cd P w K mg base 2 "is_crossed" sp_is_crossed []) : FnOk P w K mg base CX0 4 f fd p_strange (PSp K sp_strange) := by
  refine okD F sc_strange (fun M es R h => h.1) (fun cdv A outer s H E hr => ⟨_, (pss_cons (ps_set (i := 5) sc_strange.nd rfl (Or.inl rfl) (pe_disp (pps_cons pe_str (pv 0) (pps_cons pe_str (pv 1) pps_nil)) rfl rfl (fun z => nomatch z) (by decide)))
    (pss_cons (ps_set (i := 6) sc_strange.nd rfl (Or.inl rfl) (e_def P w K mg base rfl rfl rfl rfl rfl c_missed hr (by decide) (by rfl) (pa_cons (pv 0) (pa_cons (pv 1) (pa_cons (pv 2) pa_nil)))))
    (pss_cons (ps_set (i := 7) sc_strange.nd rfl (Or.inl rfl) (pe_lst pa_nil))
    (pss_cons (ps_for PassesOwn.never rfl (i_list K rfl (e_def P w K mg base rfl rfl rfl rfl rfl c_rows_left hr (by decide) (by rfl) (pa_cons (pv 0) (pa_cons (pv 1) (pa_cons (pv 2) (pa_cons pe_bl pa_nil)))))) (g_tup K rfl 2 rfl (pgs_cons (pg_name (i := 8) sc_strange.nd rfl (Or.inl rfl)) (pgs_cons (pg_name (i := 9) sc_strange.nd rfl (Or.inl rfl)) pgs_nil))) (pss_cons (ps_set (i := 10) sc_strange.nd rfl (Or.inl rfl) pe_str)
    (pss_cons (ps_if (pt_val (e_def P w K mg base rfl rfl rfl rfl rfl c_is_doubled hr (by decide) (by rfl) (pa_cons (pe_dget (un1 hr) (pv 5) (pv 8) (fun _ _ => rfl)) (pa_cons (pv 9) (pa_cons (pv 4) pa_nil))))) (pss_one (ps_set (i := 10) sc_strange.nd rfl (Or.inl rfl) pe_str)) (pss_one (ps_if (pt_val (e_def P w K mg base rfl rfl rfl rfl rfl c_is_crossed hr (by decide) (by rfl) (pa_cons (pv 5) (pa_cons (pv 8) (pa_cons (pv 9) (pa_cons (pv 6) (pa_cons (pv 3) (pa_cons (pv 4) pa_nil)))))))) (pss_one (ps_set (i := 10) sc_strange.nd rfl (Or.inl rfl) pe_str)) pss_nil)))
    (pss_one (ps_expr (e_app K rfl (pv 7) (pa_cons (pe_tup (pa_cons (pv 8) (pa_cons (pv 9) (pa_cons (pv 10) pa_nil)))) pa_nil)))))))
    (pss_one (ps_ret (pv 7))))))), fun M es R h => ?_⟩)
  obtain ⟨_, h⟩ := h
  obtain ⟨br, rm, ps, d, lag, rfl, l1, l2, l3, h⟩ := h
  repeat walk_at "d"
  refine w_dispHS fun p hp => ?_
  repeat walk_at "d"
  refine ⟨rfl, ?_⟩
  repeat walk_at "d"
  refine ⟨rfl, ?_⟩
  repeat walk_at "d"
  refine ⟨rfl, br, rm, ps, rfl, l1, l2, l3, ?_⟩
  repeat walk_at "d"
  refine w_lstM ?_
  repeat walk_at "d"
  refine fun f hf => ?_
  have hfp : p ≠ f := fun e => by rw [← e, mupd_same] at hf; cases hf
  have hMf : M f = none := by rw [mupd_ne (Ne.symm hfp)] at hf; exact hf
  have sz : sizeLine = 16777216 := rfl
  have hll := left_len (br := br) (rm := rm) (ps := ps) (s := false)
  repeat walk_at "d"
  refine ru_for (wi_listD ?_)
  repeat walk_at "d"
  refine ⟨rfl, br, rm, ps, false, rfl, l1, l2, l3, ?_⟩
  let en : Bool × Nat → PyData := fun x => .tuple [.str (hs x.1), natD x.2, .str (whyOf br rm ps d lag x)]
  refine ⟨_, rfl, fun i G' M' => M' = mupd (mupd M p (.dK (logsK br rm))) f (.lst ((((leftOf br rm ps false).take i).map en).map Ent.d)) ∧ ∃ a b c : Option Ent, G' = [some (.d (encLog br)), some (.d (encLog rm)), some (.d (encPs ps)), some (.d (.int d)), some (.d (.int lag)), some (.v (.ref p)), some (.d (.list ((leftOf br rm ps true).map encHN))), some (.v (.ref f)), a, b, c], ⟨by rw [List.take_zero]; rfl, _, _, _, rfl⟩, fun _ _ _ _ => trivial, ?_, ?_⟩
  · rintro i e G' M' he ⟨rfl, a, b, c, rfl⟩
    obtain ⟨x, hx, rfl⟩ := map_at he
    have hxl := left_lt (List.mem_of_getElem? hx)
    have hi : i < (leftOf br rm ps false).length := (List.getElem?_eq_some_iff.mp hx).1
    have hl1 : (logOf br rm x.1).length ≤ 1000 := by cases x.1; exact l2; exact l1
    have hpM : (mupd (mupd M p (.dK (logsK br rm))) f (.lst ((((leftOf br rm ps false).take i).map en).map Ent.d))) p = some (.dK (logsK br rm)) := by rw [mupd_ne hfp, mupd_same]
    have hfin : ∀ (why : Str), whyOf br rm ps d lag x = why → mupd (mupd (mupd M p (.dK (logsK br rm))) f (.lst ((((leftOf br rm ps false).take i).map en).map Ent.d))) f (.lst (((((leftOf br rm ps false).take i).map en).map Ent.d) ++ [.d (.tuple [.str (hs x.1), natD x.2, .str why])])) = mupd (mupd M p (.dK (logsK br rm))) f (.lst ((((leftOf br rm ps false).take (i + 1)).map en).map Ent.d)) := fun why hw => by
      rw [mupd_mupd, List.take_succ, hx, ← hw]
      simp
      rfl
    have hz : ((((leftOf br rm ps false).take i).map en).map Ent.d).length < sizeLine := by
      rw [map_len, List.length_take]
      omega
    repeat walk_at "d"
    refine w_dget ?_
    repeat walk_at "d"
    refine ⟨_, dg_logs hpM x.1, ?_⟩
    repeat walk_at "d"
    refine ⟨rfl, _, _, _, rfl, hxl, hl1, ?_⟩
    refine isB (bool_if (fun h1 => ?_) (fun h1 => ?_))
    · repeat walk_at "d"
      refine ⟨ty_l (seqL_m mupd_same), ?_⟩
      repeat walk_at "d"
      refine rm_append mupd_same hz ?_
      exact ⟨hfin "doubled" (by unfold whyOf; rw [if_pos h1]), _, _, _, rfl⟩
    · repeat walk_at "d"
      refine ⟨rfl, p, br, rm, x.1, x.2, leftOf br rm ps true, d, lag, rfl, hpM, hxl, fun y hy => left_lt hy, ?_⟩
      refine isB (bool_if (fun h2 => ?_) (fun h2 => ?_))
      · repeat walk_at "d"
        refine ⟨ty_l (seqL_m mupd_same), ?_⟩
        repeat walk_at "d"
        refine rm_append mupd_same hz ?_
        exact ⟨hfin "crossed" (by unfold whyOf; rw [if_neg (by rw [h1]; decide), if_pos h2]), _, _, _, rfl⟩
      · repeat walk_at "d"
        refine ⟨ty_l (seqL_m mupd_same), ?_⟩
        repeat walk_at "d"
        refine rm_append mupd_same hz ?_
        exact ⟨hfin "unsent" (by unfold whyOf; rw [if_neg (by rw [h1]; decide), if_neg (by rw [h2]; decide)]), _, _, _, rfl⟩
  · rintro G' M' ⟨rfl, a, b, c, rfl⟩
    rw [map_len, List.take_length]
    refine ru_ret (w_postsub (w_varF (ds := (leftOf br rm ps false).map en) rfl mupd_same ⟨M, ?_, h⟩))
    exact (((Sub.refl M).new hp).new hMf).del hMf
end DL


namespace DL
open PySem PySem.Spec PyProof.Rows L2
local macro_rules
  | `(tactic| walk_at "d") => `(tactic| first
    | with_reducible refine ru_seq ?_
    | with_reducible refine ru_asg ?_
    | with_reducible refine ru_ret ?_
    | with_reducible refine ru_if ?_
    | with_reducible refine ru_next ?_
    | with_reducible refine ru_cont ?_
    | with_reducible refine ru_break ?_
    | with_reducible refine ru_dropE ?_
    | with_reducible refine gw_name ?_
    | with_reducible refine gw_tup rfl ?_
    | with_reducible refine gws_consM ?_
    | with_reducible refine gws_nilM ?_
    | with_reducible refine gws_cons ?_
    | with_reducible refine gws_nil ?_
    | with_reducible refine w_var (by with_unfolding_all rfl) ?_
    | with_reducible refine w_int ?_
    | with_reducible refine w_str ?_
    | with_reducible refine w_bl ?_
    | with_reducible refine w_non ?_
    | with_reducible refine w_ref ?_
    | with_reducible refine w_ty ?_
    | with_reducible refine w_op ?_
    | with_reducible refine w_chain ?_
    | with_reducible refine w_cb ?_
    | with_reducible refine w_call0 ?_
    | with_reducible refine w_bm ?_
    | with_reducible refine w_neg ?_
    | with_reducible refine w_ckw ?_
    | with_reducible refine w_andV ?_
    | with_reducible refine w_orV ?_
    | with_reducible refine w_notV ?_
    | with_reducible refine w_sl ?_
    | with_reducible refine w_tup ?_
    | with_reducible refine wo_none ?_
    | with_reducible refine wt_test ?_
    | with_reducible refine wt_B ?_
    | with_reducible refine wt_and ?_
    | with_reducible refine wt_or ?_
    | with_reducible refine wt_not ?_
    | with_reducible refine wt_yes ?_
    | with_reducible refine wa_cons ?_
    | with_reducible refine wa_nil ?_
    | with_reducible refine isB ?_
    | with_reducible refine isI ?_
    | with_reducible refine wo_someI ?_
    | with_reducible refine rs_T ?_
    | with_reducible refine isDs_cons ?_
    | with_reducible refine isDs_nil ?_
    | with_reducible refine ⟨Nat.le_of_ble_eq_true (by with_unfolding_all rfl), ?_⟩
    | with_reducible refine rw_I0 ?_
    | with_reducible refine rw_B0 ?_
    | with_reducible refine rw_I (cmulL (by decide) (by decide)) ?_
    | with_reducible refine rw_I (cmulR (by decide) (by decide)) ?_
    | with_reducible refine rw_I (cpowI (by decide) (by decide) (by decide)) ?_
    | with_reducible refine rw_I (cdivI (by decide) (by decide)) ?_
    | with_reducible refine rw_I (C := fun _ j => 0 < j) (by show (0 : Int) < _; decide) ?_
    | with_reducible refine rw_eqI ?_
    | with_reducible refine rw_eqL ?_
    | with_reducible refine rw_eqH ?_
    | with_reducible refine rw_eqW ?_
    | with_reducible refine rw_eqS ?_
    | with_reducible refine rw_eqB ?_
    | with_reducible refine rw_eqSN ?_
    | with_reducible refine rw_neI ?_
    | with_reducible refine rw_neW ?_
    | with_reducible refine rw_neS ?_
    | with_reducible refine rw_isN ?_
    | with_reducible refine rw_notN ?_
    | with_reducible refine rw_ixLog (by assumption) ?_
    | with_reducible refine rw_ixTd (by with_unfolding_all rfl) ?_
    | with_reducible refine rw_ixLd (by with_unfolding_all rfl) ?_
    | with_reducible refine rc_lenMT ?_
    | with_reducible refine rc_lenML ?_
    | with_reducible refine rc_lenT seqT_d ?_
    | with_reducible refine rc_lenL seqL_d ?_
    | with_reducible refine rc_abs ?_
    | with_reducible refine rc_max2 ?_
    | with_reducible refine rc_min2 ?_
    | with_reducible refine rc_intB ?_
    | with_reducible refine rc_tupL seqL_d ?_
    | with_reducible refine iteT ?_
    | with_reducible refine iteF ?_
    | with_reducible refine iteNT ?_
    | with_reducible refine iteNF ?_)
abbrev s_fits : Stmt := topS 50
abbrev N_fits : List Str := ["_law_above", "_law_below", "_law_b", "_law_r", "_law_gap", "_law_late", "_law_much"]
abbrev p_fits : List Str := ["_law_above", "_law_below", "_law_b", "_law_r", "_law_gap", "_law_late"]
theorem sc_fits : FnScope N_fits p_fits (defScope s_fits) := ⟨rfl, rfl, rfl, by decide +kernel, rfl, by decide +kernel, by decide +kernel⟩

def sp_fits : Spec := fun M es R => es.length = 6 ∧ ∃ (br rm : List Row) (b r : Nat) (gap late : Int), es = [.d (encLog br), .d (encLog rm), .d (natD b), .d (natD r), .d (.int gap), .d (.int late)] ∧ b < br.length ∧ r < rm.length ∧ LogOk br ∧ LogOk rm ∧ ∀ v : Bool, (v = true → Same br rm (b, r)) → R (.d (.bool v)) M
theorem ok_fits {P : Program} {w : World} {K : PySem.W.Frag} {mg : Str → Option Value} {base : Heap} {aD aS aB aE : Addr}  {f : Addr} {fd : FuncData} (F : FunD K "_law_fits" "_law_fits" s_fits f fd) (T : Gb w K mg aD aS aB aE)  : FnOk P w K mg base CX0 1 f fd p_fits (PSp K sp_fits) := by
  refine okD F sc_fits (fun M es R h => h.1) (fun cdv A outer s H E hr => ⟨_, (pss_cons (ps_if (c_neD K rfl hr (e_slT K rfl (e_ixT K rfl (pv 0) (pv 2) (fun _ _ => rfl)) (po_some pe_int) po_none) (e_slT K rfl (e_ixT K rfl (pv 1) (pv 3) (fun _ _ => rfl)) (po_some pe_int) po_none)) (pss_one (ps_ret pe_bl)) pss_nil)
    (pss_cons (ps_set (i := 6) sc_fits.nd rfl (Or.inl rfl) (pe_op op_sub (pe_op op_sub (e_ixT K rfl (e_ixT K rfl (pv 1) (pv 3) (fun _ _ => rfl)) pe_int (fun _ _ => rfl)) (pv 4)) (e_ixT K rfl (e_ixT K rfl (pv 0) (pv 2) (fun _ _ => rfl)) pe_int (fun _ _ => rfl))))
    (pss_cons (ps_if (c_in K rfl (e_ixT K rfl (e_ixT K rfl (pv 0) (pv 2) (fun _ _ => rfl)) pe_int (fun _ _ => rfl)) (pe_tup (pa_cons pe_str (pa_cons pe_str (pa_cons pe_str pa_nil)))) (by first | rfl | decide)) (pss_one (ps_set (i := 6) sc_fits.nd rfl (Or.inl rfl) (pe_op op_sub pe_int (pv 6)))) pss_nil)
    (pss_one (ps_ret (pe_chain op_le op_le pe_int (pv 6) (pv 5))))))), fun M es R h => ?_⟩)
  obtain ⟨_, h⟩ := h
  obtain ⟨br, rm, b, r, gap, late, rfl, hb, hr2, o1, o2, h⟩ := h
  repeat walk_at "d"
  rw [cut1, cut1]
  refine rw_neD asD_d asD_d (sh_lw (rowAt_ok o1 _).2) (sh_lw (rowAt_ok o2 _).2) ?_
  rw [eqv_lw]
  refine isB ?_
  by_cases h1 : (rowAt br b).l = (rowAt rm r).l ∧ (rowAt br b).w = (rowAt rm r).w
  · rw [decide_eq_true h1.1, decide_eq_true h1.2]
    refine if_f rfl ?_
    have hs : Same br rm (b, r) := ⟨hb, hr2, h1⟩
    repeat walk_at "d"
    refine rw_inTS (ss := ["aport", "astar", "up"]) rfl ?_
    refine isB (bool_if (fun _ => ?_) (fun _ => ?_))
    · repeat walk_at "d"
      refine dec_if (fun _ => ?_) (fun _ => ?_)
      · repeat walk_at "d"
        exact h _ fun _ => hs
      · exact h _ fun _ => hs
    · repeat walk_at "d"
      refine dec_if (fun _ => ?_) (fun _ => ?_)
      · repeat walk_at "d"
        exact h _ fun _ => hs
      · exact h _ fun _ => hs
  · have : (decide ((rowAt br b).l = (rowAt rm r).l) && decide ((rowAt br b).w = (rowAt rm r).w)) = false := by
      rw [← Bool.not_eq_true, Bool.and_eq_true, decide_eq_true_eq, decide_eq_true_eq]
      exact h1
    rw [this]
    refine if_t rfl ?_
    repeat walk_at "d"
    exact h _ fun z => by cases z
def mv (k : Int) (r : Row) : Row := ⟨r.m + k, r.l, r.w⟩
def Ln.turn (l : Ln) : Ln := l.beside.getD l
def Wh.neg : Wh → Wh
  | .i n => .i (0 - n)
  | .s x => .s x
def turnR (r : Row) : Row := ⟨r.m, r.l.turn, if r.l.tube then r.w else r.w.neg⟩
abbrev s_moved : Stmt := topS 54
abbrev N_moved : List Str := ["_law_page", "_law_more", "_law_time", "_law_line", "_law_what"]
abbrev p_moved : List Str := ["_law_page", "_law_more"]
theorem sc_moved : FnScope N_moved p_moved (defScope s_moved) := ⟨rfl, rfl, rfl, by decide +kernel, rfl, by decide +kernel, by decide +kernel⟩

def sp_moved : Spec := fun M es R => es.length = 2 ∧ ∃ (log : List Row) (k : Int), es = [.d (encLog log), .d (.int k)] ∧ log.length ≤ 1000 ∧ R (.d (encLog (log.map (mv k)))) M
theorem ok_moved {P : Program} {w : World} {K : PySem.W.Frag} {mg : Str → Option Value} {base : Heap} {aD aS aB aE : Addr}  {f : Addr} {fd : FuncData} (F : FunD K "_law_moved" "_law_moved" s_moved f fd) (T : Gb w K mg aD aS aB aE)  : FnOk P w K mg base CX0 1 f fd p_moved (PSp K sp_moved) := by
  refine okD F sc_moved (fun M es R h => h.1) (fun cdv A outer s H E hr => ⟨_, (pss_one (ps_ret (e_tuple K rfl T.tuple (by rfl) (pa_cons (pe_lc (own := [("_law_time", 2), ("_law_line", 3), ("_law_what", 4)]) (g := (gTup K 3 (gCons (gName 2) (gCons (gName 3) (gCons (gName 4) gNil))))) rfl sc_moved.nd (i_tup K rfl (pv 0)) (blkOk_by (own := [("_law_time", 2), ("_law_line", 3), ("_law_what", 4)]) (N := N_moved) (sc := defScope s_moved) (by decide +kernel)) (fun _ _ _ _ _ => (g_tup K rfl 3 rfl (pgs_cons (pg_name (i := 2) sc_moved.nd rfl (Or.inl rfl)) (pgs_cons (pg_name (i := 3) sc_moved.nd rfl (Or.inl rfl)) (pgs_cons (pg_name (i := 4) sc_moved.nd rfl (Or.inl rfl)) pgs_nil))))) (fun _ _ _ _ _ => pts_nil) (fun _ _ _ _ _ => (pe_tup (pa_cons (pe_op op_add (pv 2) (pv 1)) (pa_cons (pv 3) (pa_cons (pv 4) pa_nil)))))) pa_nil)))), fun M es R h => ?_⟩)
  obtain ⟨_, h⟩ := h
  obtain ⟨log, k, rfl, hl, h⟩ := h
  repeat walk_at "d"
  refine w_lcE (α := Row) (wpg_tup (wpgs_cons (by decide) (wpgs_cons (by decide) (wpgs_cons (by decide) wpgs_nil)))) (wi_tup ?_)
  repeat walk_at "d"
  refine ⟨_, rfl, log, encRow, fun r => encRow (mv k r), rfl, by omega, fun _ _ _ => trivial, fun i x q acc hx hq => ?_, ?_⟩
  · repeat walk_at "d"
    refine ⟨rfl, ?_⟩
    repeat walk_at "d"
    exact ⟨rfl, rfl⟩
  repeat walk_at "d"
  rw [encLog, List.map_map] at h
  exact h
abbrev s_spots : Stmt := topS 56
abbrev N_spots : List Str := ["_law_page", "_law_k"]
abbrev p_spots : List Str := ["_law_page"]
theorem sc_spots : FnScope N_spots p_spots (defScope s_spots) := ⟨rfl, rfl, rfl, by decide +kernel, rfl, by decide +kernel, by decide +kernel⟩

def spotsOf (log : List Row) : List Nat := (List.range log.length).filter fun i => !(rowAt log i).l.tube
def sp_spots : Spec := fun M es R => es.length = 1 ∧ ∃ (log : List Row), es = [.d (encLog log)] ∧ log.length ≤ 1000 ∧ R (.d (.list (nats (spotsOf log)))) M
theorem tube_in (l : Ln) : decide (l.s ∈ [("down" : Str), "up"]) = l.tube := by
  cases l <;> decide +kernel
theorem bell_in2 (l : Ln) : decide (l.s ∈ [("port" : Str), "star"]) = l.bell := by
  cases l <;> decide +kernel
theorem ok_spots {P : Program} {w : World} {K : PySem.W.Frag} {mg : Str → Option Value} {base : Heap} {aD aS aB aE : Addr}  {f : Addr} {fd : FuncData} (F : FunD K "_law_spots" "_law_spots" s_spots f fd) (T : Gb w K mg aD aS aB aE)  : FnOk P w K mg base CX0 1 f fd p_spots (PSp K sp_spots) := by
  refine okD F sc_spots (fun M es R h => h.1) (fun cdv A outer s H E hr => ⟨_, (pss_one (ps_ret (pe_lc (own := [("_law_k", 1)]) (g := (gName 1)) rfl sc_spots.nd (pi_range1 (by rfl) T.range (pa_cons (e_len K rfl T.len (by rfl) (pa_cons (pv 0) pa_nil)) pa_nil)) (blkOk_by (own := [("_law_k", 1)]) (N := N_spots) (sc := defScope s_spots) (by decide +kernel)) (fun _ _ _ _ _ => (pg_name (i := 1) sc_spots.nd rfl (Or.inl rfl))) (fun _ _ _ _ _ => (pts_one (c_notin K rfl (e_ixT K rfl (e_ixT K rfl (pv 0) (pv 1) (fun _ _ => rfl)) pe_int (fun _ _ => rfl)) (pe_tup (pa_cons pe_str (pa_cons pe_str pa_nil))) (by first | rfl | decide)))) (fun _ _ _ _ _ => (pv 1))))), fun M es R h => ?_⟩)
  obtain ⟨_, h⟩ := h
  obtain ⟨log, rfl, hl, h⟩ := h
  repeat walk_at "d"
  refine w_lcQ (wpg_name (by decide)) (wi_rng1 ?_)
  repeat walk_at "d"
  refine ⟨_, rfl, by omega, by omega, fun i => !(rowAt log i).l.tube, natD, by rw [rngE_len]; omega, fun _ _ _ => trivial, fun i e q acc he hq => ?_, ?_⟩
  · obtain ⟨hi, rfl⟩ := rng0_at he
    rw [Int.toNat_natCast] at hi
    repeat walk_at "d"
    refine rw_inTS (ss := ["down", "up"]) rfl ?_
    rw [tube_in]
    refine isB ⟨rfl, rfl, fun _ => ?_⟩
    repeat walk_at "d"
    exact ⟨rfl, rfl⟩
  · rw [rngE_len, Int.toNat_natCast]
    exact h
abbrev besK : List (Key × Ent) := [(Sum.inr Ln.port.s, .d (.str Ln.star.s)), (Sum.inr Ln.star.s, .d (.str Ln.port.s)), (Sum.inr Ln.aport.s, .d (.str Ln.astar.s)), (Sum.inr Ln.astar.s, .d (.str Ln.aport.s))]
theorem besV (l : Ln) : valE (mergeE [] besK) (Sum.inr l.s) = l.beside.map fun x => Ent.d (.str x.s) := by
  rw [valE_mergeE (by simp [Ln.s_inj])]
  cases l <;> simp [List.find?, Ln.s_inj, Ln.beside, valE]
abbrev s_turned : Stmt := topS 55
abbrev N_turned : List Str := ["_law_page", "_law_lines", "_law_found", "_law_time", "_law_line", "_law_what"]
abbrev p_turned : List Str := ["_law_page"]
theorem sc_turned : FnScope N_turned p_turned (defScope s_turned) := ⟨rfl, rfl, rfl, by decide +kernel, rfl, by decide +kernel, by decide +kernel⟩

def sp_turned : Spec := fun M es R => es.length = 1 ∧ ∃ (log : List Row), es = [.d (encLog log)] ∧ log.length ≤ 1000 ∧ LogOk log ∧ R (.d (encLog (log.map turnR))) M
theorem ok_turned {P : Program} {w : World} {K : PySem.W.Frag} {mg : Str → Option Value} {base : Heap} {aD aS aB aE : Addr}  {f : Addr} {fd : FuncData} (F : FunD K "_law_turned" "_law_turned" s_turned f fd) (T : Gb w K mg aD aS aB aE)  : FnOk P w K mg base CX0 1 f fd p_turned (PSp K sp_turned) := by
  refine okD F sc_turned (fun M es R h => h.1) (fun cdv A outer s H E hr => ⟨_, (pss_cons (ps_set (i := 1) sc_turned.nd rfl (Or.inl rfl) (pe_disp (pps_cons pe_str pe_str (pps_cons pe_str pe_str (pps_cons pe_str pe_str (pps_cons pe_str pe_str pps_nil)))) rfl rfl (fun z => nomatch z) (by decide)))
    (pss_cons (ps_set (i := 2) sc_turned.nd rfl (Or.inl rfl) (pe_lst pa_nil))
    (pss_cons (ps_for PassesOwn.never rfl (i_tup K rfl (pv 0)) (g_tup K rfl 3 rfl (pgs_cons (pg_name (i := 3) sc_turned.nd rfl (Or.inl rfl)) (pgs_cons (pg_name (i := 4) sc_turned.nd rfl (Or.inl rfl)) (pgs_cons (pg_name (i := 5) sc_turned.nd rfl (Or.inl rfl)) pgs_nil)))) (pss_one (ps_if (pt_cmp (pc_din (un1 hr) (pv 4) (pv 1)) (by rfl)) (pss_one (ps_expr (e_app K rfl (pv 2) (pa_cons (pe_tup (pa_cons (pv 3) (pa_cons (pe_dget (un1 hr) (pv 1) (pv 4) (fun _ _ => rfl)) (pa_cons (pe_op op_sub pe_int (pv 5)) pa_nil)))) pa_nil)))) (pss_one (ps_expr (e_app K rfl (pv 2) (pa_cons (pe_tup (pa_cons (pv 3) (pa_cons (pv 4) (pa_cons (pv 5) pa_nil)))) pa_nil)))))))
    (pss_one (ps_ret (e_tuple K rfl T.tuple (by rfl) (pa_cons (pv 2) pa_nil))))))), fun M es R h => ?_⟩)
  obtain ⟨_, h⟩ := h
  obtain ⟨log, rfl, hl, hok, h⟩ := h
  repeat walk_at "d"
  refine w_disp fun p hp => ?_
  refine w_str (w_str (w_str (w_str (w_str (w_str (w_str (w_str ?_)))))))
  refine ⟨mupd_same, besK, rfl, Nat.le_of_ble_eq_true rfl, ?_⟩
  rw [mupd_mupd]
  repeat walk_at "d"
  refine w_lstM ?_
  repeat walk_at "d"
  refine fun f hf => ?_
  have hfp : p ≠ f := fun e => by rw [← e, mupd_same] at hf; cases hf
  have hMf : M f = none := by rw [mupd_ne (Ne.symm hfp)] at hf; exact hf
  have sz : sizeLine = 16777216 := rfl
  repeat walk_at "d"
  refine ru_for (wi_tup ?_)
  repeat walk_at "d"
  refine ⟨_, rfl, fun i G' M' => M' = mupd (mupd M p (.dK (mergeE [] besK))) f (.lst ((((log.take i).map turnR).map encRow).map Ent.d)) ∧ ∃ a b c : Option Ent, G' = [some (.d (encLog log)), some (.v (.ref p)), some (.v (.ref f)), a, b, c], ⟨by rw [List.take_zero]; rfl, _, _, _, rfl⟩, fun _ _ _ _ => trivial, ?_, ?_⟩
  · rintro i e G' M' he ⟨rfl, a, b, c, rfl⟩
    obtain ⟨x, hx, rfl⟩ := map_at he
    have hi : i < log.length := (List.getElem?_eq_some_iff.mp hx).1
    have hxo := (hok x (List.mem_of_getElem? hx)).1
    have hfin : ∀ y : Row, turnR x = y → mupd (mupd (mupd M p (.dK (mergeE [] besK))) f (.lst ((((log.take i).map turnR).map encRow).map Ent.d))) f (.lst (((((log.take i).map turnR).map encRow).map Ent.d) ++ [.d (encRow y)])) = mupd (mupd M p (.dK (mergeE [] besK))) f (.lst ((((log.take (i + 1)).map turnR).map encRow).map Ent.d)) := fun y hw => by
      rw [mupd_mupd, List.take_succ, hx, ← hw]
      simp
    have hz : ((((log.take i).map turnR).map encRow).map Ent.d).length < sizeLine := by
      rw [map_len, List.length_map, List.length_take]
      omega
    have hpM : (mupd (mupd M p (.dK (mergeE [] besK))) f (.lst ((((log.take i).map turnR).map encRow).map Ent.d))) p = some (.dK (mergeE [] besK)) := by rw [mupd_ne hfp, mupd_same]
    repeat walk_at "d"
    refine w_din ?_
    repeat walk_at "d"
    refine ⟨_, DG.k (Sum.inr x.l.s) hpM, ?_⟩
    rw [besV]
    refine isB ?_
    cases hb : x.l.beside with
    | none =>
      refine if_f rfl ?_
      repeat walk_at "d"
      refine ⟨ty_l (seqL_m mupd_same), ?_⟩
      repeat walk_at "d"
      refine rm_append mupd_same hz ?_
      refine ⟨hfin x ?_, _, _, _, rfl⟩
      have ht : x.l.tube = true := by revert hb; cases x.l <;> simp [Ln.beside, Ln.tube]
      unfold turnR Ln.turn
      rw [hb, ht]
      rfl
    | some l2 =>
      have ht : x.l.tube = false := by revert hb; cases x.l <;> simp [Ln.beside, Ln.tube]
      unfold RowOk at hxo
      rw [ht] at hxo
      obtain ⟨n, hn⟩ := hxo
      have hW : encW x.w = .int n := by rw [hn]; rfl
      refine if_t rfl ?_
      repeat walk_at "d"
      refine ⟨ty_l (seqL_m mupd_same), ?_⟩
      repeat walk_at "d"
      refine w_dget ?_
      repeat walk_at "d"
      refine ⟨.d (.str l2.s), ?_, ?_⟩
      · have := DG.k (Sum.inr x.l.s) hpM
        rw [besV, hb] at this
        exact this
      repeat walk_at "d"
      rw [hW]
      repeat walk_at "d"
      refine rm_append mupd_same hz ?_
      refine ⟨hfin ⟨x.m, l2, .i (0 - n)⟩ ?_, _, _, _, rfl⟩
      unfold turnR Ln.turn
      rw [hb, ht, hn]
      rfl
  · rintro G' M' ⟨rfl, a, b, c, rfl⟩
    rw [map_len, List.take_length]
    refine ru_ret (w_postsub ?_)
    repeat walk_at "d"
    refine rc_tupL (seqL_m mupd_same) ⟨M, ((Sub.refl M).new hp).new hMf, h⟩
end DL


namespace DL
open PySem PySem.Spec PyProof.Rows L2
local macro_rules
  | `(tactic| walk_at "d") => `(tactic| first
    | with_reducible refine ru_seq ?_
    | with_reducible refine ru_asg ?_
    | with_reducible refine ru_ret ?_
    | with_reducible refine ru_if ?_
    | with_reducible refine ru_next ?_
    | with_reducible refine ru_cont ?_
    | with_reducible refine ru_break ?_
    | with_reducible refine ru_dropE ?_
    | with_reducible refine gw_name ?_
    | with_reducible refine gw_tup rfl ?_
    | with_reducible refine gws_consM ?_
    | with_reducible refine gws_nilM ?_
    | with_reducible refine gws_cons ?_
    | with_reducible refine gws_nil ?_
    | with_reducible refine w_var (by with_unfolding_all rfl) ?_
    | with_reducible refine w_int ?_
    | with_reducible refine w_str ?_
    | with_reducible refine w_bl ?_
    | with_reducible refine w_non ?_
    | with_reducible refine w_ref ?_
    | with_reducible refine w_ty ?_
    | with_reducible refine w_op ?_
    | with_reducible refine w_chain ?_
    | with_reducible refine w_cb ?_
    | with_reducible refine w_call0 ?_
    | with_reducible refine w_bm ?_
    | with_reducible refine w_neg ?_
    | with_reducible refine w_ckw ?_
    | with_reducible refine w_andV ?_
    | with_reducible refine w_orV ?_
    | with_reducible refine w_notV ?_
    | with_reducible refine w_sl ?_
    | with_reducible refine w_tup ?_
    | with_reducible refine wo_none ?_
    | with_reducible refine wt_test ?_
    | with_reducible refine wt_B ?_
    | with_reducible refine wt_and ?_
    | with_reducible refine wt_or ?_
    | with_reducible refine wt_not ?_
    | with_reducible refine wt_yes ?_
    | with_reducible refine wa_cons ?_
    | with_reducible refine wa_nil ?_
    | with_reducible refine isB ?_
    | with_reducible refine isI ?_
    | with_reducible refine wo_someI ?_
    | with_reducible refine rs_T ?_
    | with_reducible refine isDs_cons ?_
    | with_reducible refine isDs_nil ?_
    | with_reducible refine ⟨Nat.le_of_ble_eq_true (by with_unfolding_all rfl), ?_⟩
    | with_reducible refine rw_I0 ?_
    | with_reducible refine rw_B0 ?_
    | with_reducible refine rw_I (cmulL (by decide) (by decide)) ?_
    | with_reducible refine rw_I (cmulR (by decide) (by decide)) ?_
    | with_reducible refine rw_I (cpowI (by decide) (by decide) (by decide)) ?_
    | with_reducible refine rw_I (cdivI (by decide) (by decide)) ?_
    | with_reducible refine rw_I (C := fun _ j => 0 < j) (by show (0 : Int) < _; decide) ?_
    | with_reducible refine rw_eqI ?_
    | with_reducible refine rw_eqL ?_
    | with_reducible refine rw_eqH ?_
    | with_reducible refine rw_eqW ?_
    | with_reducible refine rw_eqS ?_
    | with_reducible refine rw_eqB ?_
    | with_reducible refine rw_eqSN ?_
    | with_reducible refine rw_neI ?_
    | with_reducible refine rw_neW ?_
    | with_reducible refine rw_neS ?_
    | with_reducible refine rw_isN ?_
    | with_reducible refine rw_notN ?_
    | with_reducible refine rw_ixLog (by assumption) ?_
    | with_reducible refine rw_ixTd (by with_unfolding_all rfl) ?_
    | with_reducible refine rw_ixLd (by with_unfolding_all rfl) ?_
    | with_reducible refine rc_lenMT ?_
    | with_reducible refine rc_lenML ?_
    | with_reducible refine rc_lenT seqT_d ?_
    | with_reducible refine rc_lenL seqL_d ?_
    | with_reducible refine rc_abs ?_
    | with_reducible refine rc_max2 ?_
    | with_reducible refine rc_min2 ?_
    | with_reducible refine rc_intB ?_
    | with_reducible refine rc_tupL seqL_d ?_
    | with_reducible refine iteT ?_
    | with_reducible refine iteF ?_
    | with_reducible refine iteNT ?_
    | with_reducible refine iteNF ?_)
theorem bells_lt {br : List Row} {k : Nat} (h : k ∈ bellsOf br) : k < br.length ∧ (rowAt br k).l.bell = true := by
  unfold bellsOf at h
  exact ⟨List.mem_range.mp (List.mem_filter.mp h).1, (List.mem_filter.mp h).2⟩
theorem bells_len (br : List Row) : (bellsOf br).length ≤ br.length := filt_len _
abbrev s_all : Stmt := topS 53
abbrev N_all : List Str := ["_law_above", "_law_below", "_law_pairs_here", "_law_gap", "_law_late", "_law_more", "_law_rings", "_law_spot", "_law_found", "_law_begin", "_law_beyond", "_law_lots", "_law_k"]
abbrev p_all : List Str := ["_law_above", "_law_below", "_law_pairs_here", "_law_gap", "_law_late", "_law_more"]
theorem sc_all : FnScope N_all p_all (defScope s_all) := ⟨rfl, rfl, rfl, by decide +kernel, rfl, by decide +kernel, by decide +kernel⟩

def sp_all : Spec := fun M es R => es.length = 6 ∧ ∃ (br rm : List Row) (ps : List (Nat × Nat)) (d lag more : Int), es = [.d (encLog br), .d (encLog rm), .d (encPs ps), .d (.int d), .d (.int lag), .d (.int more)] ∧ Pairs br rm ps ∧ br.length ≤ 1000 ∧ rm.length ≤ 1000 ∧ ps.length ≤ 1000 ∧ R (.d (allOf br rm ps d lag more)) M
theorem ok_all {P : Program} {w : World} {K : PySem.W.Frag} {mg : Str → Option Value} {base : Heap} {aD aS aB aE : Addr}  {f : Addr} {fd : FuncData} (F : FunD K "_law_all" "_law_all" s_all f fd) (T : Gb w K mg aD aS aB aE) (c_obeyed : Cd P w K mg base 2 "obeyed" sp_obeyed []) (c_ring_of : Cd P w K mg base 3 "ring_of" sp_ring_of []) (c_missed : Cd P w K mg base 3 "missed" sp_missed []) (c_strange : Cd P w K mg base 4 "strange" sp_strange []) (c_lot : Cd P w K mg base 1 "lot" sp_lot []) : FnOk P w K mg base CX0 5 f fd p_all (PSp K sp_all) := by
  refine okD F sc_all (fun M es R h => h.1) (fun cdv A outer s H E hr => ⟨_, (pss_cons (ps_set (i := 6) sc_all.nd rfl (Or.inl rfl) (pe_lst pa_nil))
    (pss_cons (ps_for PassesOwn.never rfl (i_list K rfl (pe_lc (own := [("_law_k", 12)]) (g := (gName 12)) rfl sc_all.nd (pi_range1 (by rfl) T.range (pa_cons (e_len K rfl T.len (by rfl) (pa_cons (pv 0) pa_nil)) pa_nil)) (blkOk_by (own := [("_law_k", 12)]) (N := N_all) (sc := defScope s_all) (by decide +kernel)) (fun _ _ _ _ _ => (pg_name (i := 12) sc_all.nd rfl (Or.inl rfl))) (fun _ _ _ _ _ => (pts_one (c_in K rfl (e_ixT K rfl (e_ixT K rfl (pv 0) (pv 12) (fun _ _ => rfl)) pe_int (fun _ _ => rfl)) (pe_tup (pa_cons pe_str (pa_cons pe_str pa_nil))) (by first | rfl | decide)))) (fun _ _ _ _ _ => (pv 12)))) (pg_name (i := 7) sc_all.nd rfl (Or.inl rfl)) (pss_cons (ps_set (i := 8) sc_all.nd rfl (Or.inl rfl) (e_def P w K mg base rfl rfl rfl rfl rfl c_obeyed hr (by decide) (by rfl) (pa_cons (pv 0) (pa_cons (pv 1) (pa_cons (pv 2) (pa_cons (pv 7) (pa_cons (pv 3) pa_nil)))))))
    (pss_cons (ps_if (pt_cmpR op_notN (pv 8) pe_non (nomark _)) (pss_cons (ps_asg (pv 8) (g_tup K rfl 2 rfl (pgs_cons (pg_name (i := 9) sc_all.nd rfl (Or.inl rfl)) (pgs_cons (pg_name (i := 10) sc_all.nd rfl (Or.inl rfl)) pgs_nil))))
    (pss_cons (ps_if (pt_cmpR op_notN (pv 10) pe_non (nomark _)) (pss_one (ps_set (i := 10) sc_all.nd rfl (Or.inl rfl) (pe_op op_sub (pv 10) (pv 5)))) pss_nil)
    (pss_one (ps_set (i := 8) sc_all.nd rfl (Or.inl rfl) (pe_tup (pa_cons (pe_op op_sub (pv 9) (pv 5)) (pa_cons (pv 10) pa_nil))))))) pss_nil)
    (pss_one (ps_expr (e_app K rfl (pv 6) (pa_cons (pe_tup (pa_cons (pv 7) (pa_cons (e_def P w K mg base rfl rfl rfl rfl rfl c_ring_of hr (by decide) (by rfl) (pa_cons (pv 0) (pa_cons (pv 1) (pa_cons (pv 2) (pa_cons (pv 7) pa_nil))))) (pa_cons (pv 8) pa_nil)))) pa_nil)))))))
    (pss_cons (ps_set (i := 11) sc_all.nd rfl (Or.inl rfl) (pe_lst (pa_cons (e_def P w K mg base rfl rfl rfl rfl rfl c_missed hr (by decide) (by rfl) (pa_cons (pv 0) (pa_cons (pv 1) (pa_cons (pv 2) pa_nil)))) (pa_cons (e_def P w K mg base rfl rfl rfl rfl rfl c_strange hr (by decide) (by rfl) (pa_cons (pv 0) (pa_cons (pv 1) (pa_cons (pv 2) (pa_cons (pv 3) (pa_cons (pv 4) pa_nil)))))) (pa_cons (e_def P w K mg base rfl rfl rfl rfl rfl c_lot hr (by decide) (by rfl) (pa_cons (pv 0) (pa_cons (pv 1) (pa_cons (pv 2) pa_nil)))) pa_nil)))))
    (pss_one (ps_ret (pe_lst (pa_cons (pv 6) (pa_cons (pv 11) pa_nil)))))))), fun M es R h => ?_⟩)
  obtain ⟨_, h⟩ := h
  obtain ⟨br, rm, ps, d, lag, more, rfl, hp, l1, l2, l3, h⟩ := h
  repeat walk_at "d"
  refine w_lstM ?_
  repeat walk_at "d"
  refine fun f hf => ?_
  have sz : sizeLine = 16777216 := rfl
  have hbl := bells_len br
  repeat walk_at "d"
  let en : Nat → PyData := fun i => .tuple [natD i, .tuple (encRing (ringOf br rm ps i)), encOb (lessOb more (obeyOf br rm ps i d))]
  refine ru_for (wi_listD (w_lcQ (wpg_name (by decide)) (wi_rng1 ?_)))
  repeat walk_at "d"
  refine ⟨_, rfl, by omega, by omega, fun i => (rowAt br i).l.bell, natD, by rw [rngE_len]; omega, fun _ _ _ => trivial, fun i e q acc he hq => ?_, ?_⟩
  · obtain ⟨hi, rfl⟩ := rng0_at he
    rw [Int.toNat_natCast] at hi
    repeat walk_at "d"
    refine rw_inTS (ss := ["port", "star"]) rfl ?_
    rw [bell_in2]
    refine isB ⟨rfl, rfl, fun _ => ?_⟩
    repeat walk_at "d"
    exact ⟨rfl, rfl⟩
  rw [rngE_len, Int.toNat_natCast]
  show ∃ ds : List PyData, Ent.d (.list ((bellsOf br).map natD)) = .d (.list ds) ∧ _
  refine ⟨_, rfl, fun i G' M' => M' = mupd M f (.lst ((((bellsOf br).take i).map en).map Ent.d)) ∧ ∃ a b c e g k : Option Ent, G' = [some (.d (encLog br)), some (.d (encLog rm)), some (.d (encPs ps)), some (.d (.int d)), some (.d (.int lag)), some (.d (.int more)), some (.v (.ref f)), a, b, c, e, g, k], ⟨by rw [List.take_zero]; rfl, _, _, _, _, _, _, rfl⟩, fun _ _ _ _ => trivial, ?_, ?_⟩
  · rintro i e G' M' he ⟨rfl, a, b, c, e', g, k, rfl⟩
    obtain ⟨x, hx, rfl⟩ := map_at he
    have hi : i < (bellsOf br).length := (List.getElem?_eq_some_iff.mp hx).1
    obtain ⟨hxl, hxb⟩ := bells_lt (List.mem_of_getElem? hx)
    have hfin : mupd (mupd M f (.lst ((((bellsOf br).take i).map en).map Ent.d))) f (.lst (((((bellsOf br).take i).map en).map Ent.d) ++ [.d (en x)])) = mupd M f (.lst ((((bellsOf br).take (i + 1)).map en).map Ent.d)) := by
      rw [mupd_mupd, List.take_succ, hx]
      simp
    have hz : ((((bellsOf br).take i).map en).map Ent.d).length < sizeLine := by
      rw [map_len, List.length_take]
      omega
    repeat walk_at "d"
    refine ⟨rfl, br, rm, ps, x, d, rfl, hxl, hxb, hp, l2, l3, ?_⟩
    repeat walk_at "d"
    cases ho : obeyOf br rm ps x d with
    | none =>
      have he : en x = .tuple [natD x, .tuple (encRing (ringOf br rm ps x)), .none] := by
        show PyData.tuple [natD x, .tuple (encRing (ringOf br rm ps x)), encOb (lessOb more (obeyOf br rm ps x d))] = _
        rw [ho]; rfl
      rw [he] at hfin
      refine if_f rfl ?_
      repeat walk_at "d"
      refine ⟨ty_l (seqL_m mupd_same), ?_⟩
      repeat walk_at "d"
      refine ⟨rfl, br, rm, ps, x, rfl, hxl, hxb, hp, l2, l3, ?_⟩
      repeat walk_at "d"
      exact rm_append mupd_same hz ⟨hfin, _, _, _, _, _, _, rfl⟩
    | some z =>
      obtain ⟨u, v⟩ := z
      refine if_t rfl ?_
      show Ru K _ (List.set _ 8 (some (.d (.tuple [.int u, optI v])))) _ _
      repeat walk_at "d"
      cases v with
      | none =>
        have he : en x = .tuple [natD x, .tuple (encRing (ringOf br rm ps x)), .tuple [.int (u - more), .none]] := by
          show PyData.tuple [natD x, .tuple (encRing (ringOf br rm ps x)), encOb (lessOb more (obeyOf br rm ps x d))] = _
          rw [ho]; rfl
        rw [he] at hfin
        rw [show optI none = PyData.none from rfl]
        refine if_f rfl ?_
        repeat walk_at "d"
        refine ⟨ty_l (seqL_m mupd_same), ?_⟩
        repeat walk_at "d"
        refine ⟨rfl, br, rm, ps, x, rfl, hxl, hxb, hp, l2, l3, ?_⟩
        repeat walk_at "d"
        exact rm_append mupd_same hz ⟨hfin, _, _, _, _, _, _, rfl⟩
      | some v =>
        have he : en x = .tuple [natD x, .tuple (encRing (ringOf br rm ps x)), .tuple [.int (u - more), .int (v - more)]] := by
          show PyData.tuple [natD x, .tuple (encRing (ringOf br rm ps x)), encOb (lessOb more (obeyOf br rm ps x d))] = _
          rw [ho]; rfl
        rw [he] at hfin
        rw [show optI (some v) = PyData.int v from rfl]
        refine if_t rfl ?_
        repeat walk_at "d"
        refine ⟨ty_l (seqL_m mupd_same), ?_⟩
        repeat walk_at "d"
        refine ⟨rfl, br, rm, ps, x, rfl, hxl, hxb, hp, l2, l3, ?_⟩
        repeat walk_at "d"
        exact rm_append mupd_same hz ⟨hfin, _, _, _, _, _, _, rfl⟩
  · rintro G' M' ⟨rfl, a, b, c, e', g, k, rfl⟩
    rw [map_len, List.take_length]
    repeat walk_at "d"
    refine w_lst ?_
    repeat walk_at "d"
    refine ⟨rfl, br, rm, ps, rfl, l1, l2, l3, ?_⟩
    repeat walk_at "d"
    refine ⟨rfl, br, rm, ps, d, lag, rfl, l1, l2, l3, ?_⟩
    repeat walk_at "d"
    refine ⟨rfl, br, rm, ps, rfl, l3, ?_⟩
    repeat walk_at "d"
    refine w_lst ?_
    refine wa_cons (w_varF (ds := (bellsOf br).map en) rfl mupd_same ?_)
    repeat walk_at "d"
    rw [mdel_mupd hf]
    exact h
end DL


namespace DL
open PySem PySem.Spec PyProof.Rows L2
local macro_rules
  | `(tactic| walk_at "d") => `(tactic| first
    | with_reducible refine ru_seq ?_
    | with_reducible refine ru_asg ?_
    | with_reducible refine ru_ret ?_
    | with_reducible refine ru_if ?_
    | with_reducible refine ru_next ?_
    | with_reducible refine ru_cont ?_
    | with_reducible refine ru_break ?_
    | with_reducible refine ru_dropE ?_
    | with_reducible refine gw_name ?_
    | with_reducible refine gw_tup rfl ?_
    | with_reducible refine gws_consM ?_
    | with_reducible refine gws_nilM ?_
    | with_reducible refine gws_cons ?_
    | with_reducible refine gws_nil ?_
    | with_reducible refine w_var (by with_unfolding_all rfl) ?_
    | with_reducible refine w_int ?_
    | with_reducible refine w_str ?_
    | with_reducible refine w_bl ?_
    | with_reducible refine w_non ?_
    | with_reducible refine w_ref ?_
    | with_reducible refine w_ty ?_
    | with_reducible refine w_op ?_
    | with_reducible refine w_chain ?_
    | with_reducible refine w_cb ?_
    | with_reducible refine w_call0 ?_
    | with_reducible refine w_bm ?_
    | with_reducible refine w_neg ?_
    | with_reducible refine w_ckw ?_
    | with_reducible refine w_andV ?_
    | with_reducible refine w_orV ?_
    | with_reducible refine w_notV ?_
    | with_reducible refine w_sl ?_
    | with_reducible refine w_tup ?_
    | with_reducible refine wo_none ?_
    | with_reducible refine wt_test ?_
    | with_reducible refine wt_B ?_
    | with_reducible refine wt_and ?_
    | with_reducible refine wt_or ?_
    | with_reducible refine wt_not ?_
    | with_reducible refine wt_yes ?_
    | with_reducible refine wa_cons ?_
    | with_reducible refine wa_nil ?_
    | with_reducible refine isB ?_
    | with_reducible refine isI ?_
    | with_reducible refine wo_someI ?_
    | with_reducible refine rs_T ?_
    | with_reducible refine isDs_cons ?_
    | with_reducible refine isDs_nil ?_
    | with_reducible refine ⟨Nat.le_of_ble_eq_true (by with_unfolding_all rfl), ?_⟩
    | with_reducible refine rw_I0 ?_
    | with_reducible refine rw_B0 ?_
    | with_reducible refine rw_I (cmulL (by decide) (by decide)) ?_
    | with_reducible refine rw_I (cmulR (by decide) (by decide)) ?_
    | with_reducible refine rw_I (cpowI (by decide) (by decide) (by decide)) ?_
    | with_reducible refine rw_I (cdivI (by decide) (by decide)) ?_
    | with_reducible refine rw_I (C := fun _ j => 0 < j) (by show (0 : Int) < _; decide) ?_
    | with_reducible refine rw_eqI ?_
    | with_reducible refine rw_eqL ?_
    | with_reducible refine rw_eqH ?_
    | with_reducible refine rw_eqW ?_
    | with_reducible refine rw_eqS ?_
    | with_reducible refine rw_eqB ?_
    | with_reducible refine rw_eqSN ?_
    | with_reducible refine rw_neI ?_
    | with_reducible refine rw_neW ?_
    | with_reducible refine rw_neS ?_
    | with_reducible refine rw_isN ?_
    | with_reducible refine rw_notN ?_
    | with_reducible refine rw_ixLog (by assumption) ?_
    | with_reducible refine rw_ixTd (by with_unfolding_all rfl) ?_
    | with_reducible refine rw_ixLd (by with_unfolding_all rfl) ?_
    | with_reducible refine rc_lenMT ?_
    | with_reducible refine rc_lenML ?_
    | with_reducible refine rc_lenT seqT_d ?_
    | with_reducible refine rc_lenL seqL_d ?_
    | with_reducible refine rc_abs ?_
    | with_reducible refine rc_max2 ?_
    | with_reducible refine rc_min2 ?_
    | with_reducible refine rc_intB ?_
    | with_reducible refine rc_tupL seqL_d ?_
    | with_reducible refine iteT ?_
    | with_reducible refine iteF ?_
    | with_reducible refine iteNT ?_
    | with_reducible refine iteNF ?_)
def PenO (n : Nat) (o : MO) : Prop := ∃ (xs : List Int) (a b : Int), o = .lst [.d (.list (xs.map .int)), .d (.int a), .d (.int b)] ∧ 0 ≤ a ∧ a ≤ n ∧ 0 ≤ b ∧ xs.length < 1000
theorem PenO.mono {n m : Nat} {o : MO} (h : PenO n o) (hm : n ≤ m) : PenO m o := by
  obtain ⟨xs, a, b, e, h1, h2, h3, h4⟩ := h
  exact ⟨xs, a, b, e, h1, by omega, h3, h4⟩
theorem getInt {xs : List Int} {i : Int} (h0 : 0 ≤ i) (h1 : i < xs.length) : ∃ c, atI (xs.map PyData.int) i = some (.int c) := by
  have hi : i.toNat < xs.length := by omega
  refine ⟨xs[i.toNat], ?_⟩
  have : atI (xs.map PyData.int) ((i.toNat : Nat) : Int) = some (.int xs[i.toNat]) := atI_nat (by rw [List.getElem?_map, List.getElem?_eq_getElem hi]; rfl)
  rwa [show ((i.toNat : Nat) : Int) = i from by omega] at this
theorem cut_map {α β : Type} {f : α → β} {xs : List α} {lo hi : Option Int} : cutG (xs.map f) lo hi = (cutG xs lo hi).map f := by
  unfold cutG
  rw [List.length_map, List.map_take, List.map_drop]
theorem cut_len {α : Type} (xs : List α) (lo hi : Option Int) : (cutG xs lo hi).length ≤ xs.length := by
  unfold cutG
  rw [List.length_take, List.length_drop]
  omega
theorem rs_ints {K : PySem.W.Frag} {M : Mh} {R : Ent → Mh → Prop} {ns : List Int} {lo hi : Option Int} (r : R (.d (.list ((cutG ns lo hi).map .int))) M) : RS K (rSlL K) (.s ns) lo hi M R := fun v H m hv Q q => by
  obtain ⟨a, rfl, hs⟩ := hv
  have hall : ∀ (F : Hp) (xs : List Int), DaAll K F (xs.map V.int) (xs.map PyData.int) := fun F xs => by
    induction xs with
    | nil => exact .nil
    | cons x xs ih => exact .cons (.int x) ih
  refine ⟨a, _, rfl, Evl.ex_l less_ex hs, fun p hp => q _ _ _ M r (rt_new m hp (da_newL m hp ?_))⟩
  have e : cutV (ns.map V.int) lo hi = (cutG ns lo hi).map V.int := by
    unfold cutV cutG
    rw [List.length_map, List.map_take, List.map_drop]
  rw [e]
  exact hall _ _
abbrev s_pen : Stmt := topS 46
abbrev N_pen : List Str := ["_law_script"]
abbrev p_pen : List Str := ["_law_script"]
theorem sc_pen : FnScope N_pen p_pen (defScope s_pen) := ⟨rfl, rfl, rfl, by decide +kernel, rfl, by decide +kernel, by decide +kernel⟩

def sp_pen : Spec := fun M es R => es.length = 1 ∧ ∃ xs : List Int, es = [.s xs] ∧ xs.length < 1000 ∧ ∀ pp o, M pp = none → PenO 0 o → R (.v (.ref pp)) (mupd M pp o)
theorem ok_pen {P : Program} {w : World} {K : PySem.W.Frag} {mg : Str → Option Value} {base : Heap} {aD aS aB aE : Addr}  {f : Addr} {fd : FuncData} (F : FunD K "_law_pen" "_law_pen" s_pen f fd) (T : Gb w K mg aD aS aB aE)  : FnOk P w K mg base CX0 1 f fd p_pen (PSp K sp_pen) := by
  refine okD F sc_pen (fun M es R h => h.1) (fun cdv A outer s H E hr => ⟨_, (pss_one (ps_ret (pe_lst (pa_cons (e_slL K rfl (pv 0) po_none (po_some pe_int)) (pa_cons pe_int (pa_cons pe_int pa_nil)))))), fun M es R h => ?_⟩)
  obtain ⟨_, h⟩ := h
  obtain ⟨xs, rfl, hx, h⟩ := h
  repeat walk_at "d"
  refine w_lstM ?_
  repeat walk_at "d"
  refine rs_ints ?_
  repeat walk_at "d"
  refine fun pp hpp => h pp _ hpp ⟨cutG xs none (some 63), 0, 0, ?_, by omega, by omega, by omega, ?_⟩
  · rfl
  · exact Nat.lt_of_le_of_lt (cut_len _ _ _) hx
abbrev s_draw : Stmt := topS 47
abbrev N_draw : List Str := ["_law_pen_here", "_law_many", "_law_found", "_law_at", "_law_cell", "_law_mixed"]
abbrev p_draw : List Str := ["_law_pen_here", "_law_many"]
theorem sc_draw : FnScope N_draw p_draw (defScope s_draw) := ⟨rfl, rfl, rfl, by decide +kernel, rfl, by decide +kernel, by decide +kernel⟩

def sp_draw : Spec := fun M es R => es.length = 2 ∧ ∃ (pp : Addr) (many : Int) (n : Nat) (o : MO), es = [.v (.ref pp), .d (.int many)] ∧ M pp = some o ∧ PenO n o ∧ n ≤ 1000000 ∧ 1 ≤ many ∧ many < 1073741824 ∧ ∀ v o', PenO (n + 1) o' → 0 ≤ v → v < many → R (.d (.int v)) (mupd M pp o')
theorem ok_draw {P : Program} {w : World} {K : PySem.W.Frag} {mg : Str → Option Value} {base : Heap} {aD aS aB aE : Addr}  {f : Addr} {fd : FuncData} (F : FunD K "_law_draw" "_law_draw" s_draw f fd) (T : Gb w K mg aD aS aB aE)  : FnOk P w K mg base CX0 1 f fd p_draw (PSp K sp_draw) := by
  refine okD F sc_draw (fun M es R h => h.1) (fun cdv A outer s H E hr => ⟨_, (pss_cons (ps_if (pt_cmpR op_gt (e_ixL K rfl (pv 0) pe_int (fun _ _ => rfl)) pe_int (nomark _)) (pss_cons (ps_set (i := 2) sc_draw.nd rfl (Or.inl rfl) (pe_op op_mod (e_ixL K rfl (pv 0) pe_int (fun _ _ => rfl)) (pv 1)))
    (pss_cons (ps_asg (pe_op op_fdiv (e_ixL K rfl (pv 0) pe_int (fun _ _ => rfl)) (pv 1)) (pg_sub (pv 0) pe_int set_list))
    (pss_one (ps_ret (pv 2))))) pss_nil)
    (pss_cons (ps_set (i := 3) sc_draw.nd rfl (Or.inl rfl) (e_ixL K rfl (pv 0) pe_int (fun _ _ => rfl)))
    (pss_cons (ps_asg (pe_op op_add (pv 3) pe_int) (pg_sub (pv 0) pe_int set_list))
    (pss_cons (ps_set (i := 4) sc_draw.nd rfl (Or.inl rfl) (pe_op op_add (pe_op op_mul pe_int (pv 3)) pe_int))
    (pss_cons (ps_if (pt_cmpR op_gt (e_len K rfl T.len (by rfl) (pa_cons (e_ixL K rfl (pv 0) pe_int (fun _ _ => rfl)) pa_nil)) pe_int (nomark _)) (pss_one (ps_set (i := 4) sc_draw.nd rfl (Or.inl rfl) (e_ixL K rfl (e_ixL K rfl (pv 0) pe_int (fun _ _ => rfl)) (pe_op op_mod (pv 3) (e_len K rfl T.len (by rfl) (pa_cons (e_ixL K rfl (pv 0) pe_int (fun _ _ => rfl)) pa_nil))) (fun _ _ => rfl)))) pss_nil)
    (pss_cons (ps_if (PW.pt (pw_and (pt_cmpR op_lt (pv 3) (e_len K rfl T.len (by rfl) (pa_cons (e_ixL K rfl (pv 0) pe_int (fun _ _ => rfl)) pa_nil)) (nomark _)) (pw_and1 (pt_cmpR op_ge (e_abs K rfl T.abs (by rfl) (pa_cons (pv 4) pa_nil)) (pe_op op_pow pe_int pe_int) (nomark _))))) (pss_cons (ps_asg (pe_op op_fdiv (e_abs K rfl T.abs (by rfl) (pa_cons (pv 4) pa_nil)) (pv 1)) (pg_sub (pv 0) pe_int set_list))
    (pss_one (ps_ret (pe_op op_mod (e_abs K rfl T.abs (by rfl) (pa_cons (pv 4) pa_nil)) (pv 1))))) pss_nil)
    (pss_cons (ps_set (i := 5) sc_draw.nd rfl (Or.inl rfl) (pe_op op_mod (pe_op op_pow (pe_op op_add (pe_op op_add (pe_op op_add (pe_op op_mod (pv 4) pe_int) (pe_op op_mul (pe_op op_mul pe_int (pv 3)) (pv 3))) (pe_op op_mul pe_int (pv 3))) pe_int) pe_int) pe_int))
    (pss_cons (ps_set (i := 5) sc_draw.nd rfl (Or.inl rfl) (pe_op op_mod (pe_op op_mul (pe_op op_pow (pe_op op_add (pe_op op_add (pv 5) (pe_op op_mul pe_int (pv 3))) pe_int) pe_int) (pe_op op_add (pe_op op_mod (pv 5) pe_int) pe_int)) pe_int))
    (pss_one (ps_ret (pe_op op_mod (pe_op op_fdiv (pv 5) pe_int) (pv 1)))))))))))), fun M es R h => ?_⟩)
  obtain ⟨_, h⟩ := h
  obtain ⟨pp, many, n, o, rfl, hp, ⟨xs, a, b, rfl, ha, han, hb, hx⟩, hn, hm1, hm2, h⟩ := h
  have hc : CDiv many many := ⟨by omega, by omega⟩
  have hm0 : (0 : Int) < many := by omega
  repeat walk_at "d"
  refine rw_ixL (seqL_m hp) rfl ?_
  repeat walk_at "d"
  refine dec_if (fun h1 => ?_) (fun h1 => ?_)
  · repeat walk_at "d"
    refine rw_ixL (seqL_m hp) rfl ?_
    repeat walk_at "d"
    refine rw_I hm0 ?_
    repeat walk_at "d"
    refine rw_ixL (seqL_m hp) rfl ?_
    repeat walk_at "d"
    refine rw_I (C := CDiv) ⟨by omega, by omega⟩ ?_
    refine gw_setL ?_
    repeat walk_at "d"
    refine ⟨pp, _, 2, 2, rfl, rfl, hp, rfl, ?_⟩
    repeat walk_at "d"
    exact h _ _ ⟨xs, a, b / many, rfl, ha, by omega, Int.ediv_nonneg hb (by omega), hx⟩ (Int.emod_nonneg _ (by omega)) (Int.emod_lt_of_pos _ hm0)
  · repeat walk_at "d"
    refine rw_ixL (seqL_m hp) rfl ?_
    repeat walk_at "d"
    refine gw_setL ?_
    repeat walk_at "d"
    refine ⟨pp, _, 1, 1, rfl, rfl, hp, rfl, ?_⟩
    refine ru_seq (ru_asg ?_)
    iterate 8 walk_at "d"
    refine ru_cut (P := fun G' M' => M' = mupd M pp (.lst [.d (.list (xs.map .int)), .d (.int (a + 1)), .d (.int b)]) ∧ ∃ (c : Int) (u v : Option Ent), G' = [some (.v (.ref pp)), some (.d (.int many)), u, some (.d (.int a)), some (.d (.int c)), v]) ?_ ?_
    · repeat walk_at "d"
      refine rw_ixL (seqL_m mupd_same) rfl ?_
      repeat walk_at "d"
      refine dec_if (fun h2 => ?_) (fun h2 => ?_)
      · repeat walk_at "d"
        refine rw_ixL (seqL_m mupd_same) rfl ?_
        repeat walk_at "d"
        refine rw_ixL (seqL_m mupd_same) rfl ?_
        repeat walk_at "d"
        refine rw_I h2 ?_
        obtain ⟨c, hc2⟩ := getInt (xs := xs) (i := a % (xs.length : Int)) (Int.emod_nonneg _ (by omega)) (Int.emod_lt_of_pos _ h2)
        refine rw_ixLd hc2 ?_
        repeat walk_at "d"
        exact ⟨rfl, c, _, _, rfl⟩
      · repeat walk_at "d"
        exact ⟨rfl, _, _, _, rfl⟩
    · rintro G' M' ⟨rfl, c, u, v, rfl⟩
      have hpen : PenO (n + 1) (.lst [.d (.list (xs.map .int)), .d (.int (a + 1)), .d (.int b)]) := ⟨xs, a + 1, b, rfl, by omega, by omega, hb, hx⟩
      have habs : 0 ≤ (if c < 0 then -c else c) := by split <;> omega
      refine ru_cut (P := fun G' M' => M' = mupd M pp (.lst [.d (.list (xs.map .int)), .d (.int (a + 1)), .d (.int b)]) ∧ ∃ (u v : Option Ent), G' = [some (.v (.ref pp)), some (.d (.int many)), u, some (.d (.int a)), some (.d (.int c)), v]) ?_ ?_
      · repeat walk_at "d"
        refine rw_ixL (seqL_m mupd_same) rfl ?_
        repeat walk_at "d"
        refine dec_if (fun h2 => ?_) (fun h2 => ?_)
        · repeat walk_at "d"
          refine dec_if (fun h3 => ?_) (fun h3 => ?_)
          · repeat walk_at "d"
            refine rw_I (C := CDiv) ⟨by omega, by omega⟩ ?_
            refine gw_setL ?_
            repeat walk_at "d"
            refine ⟨pp, _, 2, 2, rfl, rfl, mupd_same, rfl, ?_⟩
            repeat walk_at "d"
            refine rw_I hm0 ?_
            repeat walk_at "d"
            rw [mupd_mupd]
            exact h _ _ ⟨xs, a + 1, _, rfl, by omega, by omega, Int.ediv_nonneg habs (by omega), hx⟩ (Int.emod_nonneg _ (by omega)) (Int.emod_lt_of_pos _ hm0)
          · repeat walk_at "d"
            exact ⟨rfl, _, _, rfl⟩
        · repeat walk_at "d"
          exact ⟨rfl, _, _, rfl⟩
      · rintro G' M' ⟨rfl, u, v, rfl⟩
        repeat walk_at "d"
        have hsq1 : 50023 * a * a ≤ 50023 * 1000000 * 1000000 := Int.mul_le_mul (by omega) (by omega) ha (by omega)
        have hsq0 : 0 ≤ 50023 * a * a := Int.mul_nonneg (by omega) ha
        refine rw_I (cmulR (by omega) (by omega)) ?_
        repeat walk_at "d"
        refine rw_I (cpowI (by decide) (by decide) ?_) ?_
        · have := Int.emod_nonneg c (show (2147483549 : Int) ≠ 0 by decide)
          have := Int.emod_lt_of_pos c (show (0 : Int) < 2147483549 by decide)
          omega
        generalize (c % 2147483549 + 50023 * a * a + 40063 * a + 11) ^ Int.toNat 3 = q1
        have hq0 := Int.emod_nonneg q1 (show (2147483629 : Int) ≠ 0 by decide)
        have hq1 := Int.emod_lt_of_pos q1 (show (0 : Int) < 2147483629 by decide)
        repeat walk_at "d"
        generalize q1 % 2147483629 = q2 at hq0 hq1 ⊢
        repeat walk_at "d"
        refine rw_I (cpowI (by decide) (by decide) (by omega)) ?_
        repeat walk_at "d"
        refine rw_I (cmulR ?_ ?_) ?_
        · have := Int.emod_nonneg q2 (show (60013 : Int) ≠ 0 by decide)
          omega
        · have := Int.emod_lt_of_pos q2 (show (0 : Int) < 60013 by decide)
          omega
        repeat walk_at "d"
        refine rw_I hm0 ?_
        exact h _ _ hpen (Int.emod_nonneg _ (by omega)) (Int.emod_lt_of_pos _ hm0)
abbrev s_pick : Stmt := topS 48
abbrev N_pick : List Str := ["_law_pen_here", "_law_some"]
abbrev p_pick : List Str := ["_law_pen_here", "_law_some"]
theorem sc_pick : FnScope N_pick p_pick (defScope s_pick) := ⟨rfl, rfl, rfl, by decide +kernel, rfl, by decide +kernel, by decide +kernel⟩

def sp_pick : Spec := fun M es R => es.length = 2 ∧ ∃ (pp : Addr) (ds : List PyData) (n : Nat) (o : MO) (x : PyData), es = [.v (.ref pp), .d x] ∧ (x = .list ds ∨ x = .tuple ds) ∧ M pp = some o ∧ PenO n o ∧ n ≤ 1000000 ∧ 1 ≤ ds.length ∧ ds.length < 1000 ∧ ∀ d o', d ∈ ds → PenO (n + 1) o' → R (.d d) (mupd M pp o')
theorem pick_at {ds : List PyData} {i : Int} (h0 : 0 ≤ i) (h1 : i < ds.length) : ∃ d, d ∈ ds ∧ atI ds i = some d := by
  have hi : i.toNat < ds.length := by omega
  refine ⟨ds[i.toNat], List.getElem_mem hi, ?_⟩
  have : atI ds ((i.toNat : Nat) : Int) = some ds[i.toNat] := atI_nat (List.getElem?_eq_getElem hi)
  rwa [show ((i.toNat : Nat) : Int) = i from by omega] at this
theorem ok_pick {P : Program} {w : World} {K : PySem.W.Frag} {mg : Str → Option Value} {base : Heap} {aD aS aB aE : Addr}  {f : Addr} {fd : FuncData} (F : FunD K "_law_pick" "_law_pick" s_pick f fd) (T : Gb w K mg aD aS aB aE) (c_draw : Cd P w K mg base 1 "_law_draw" sp_draw []) : FnOk P w K mg base CX0 2 f fd p_pick (PSp K sp_pick) := by
  refine okD F sc_pick (fun M es R h => h.1) (fun cdv A outer s H E hr => ⟨_, (pss_one (ps_ret (e_ixS K rfl (pv 1) (e_def P w K mg base rfl rfl rfl rfl rfl c_draw hr (by decide) (by rfl) (pa_cons (pv 0) (pa_cons (e_len K rfl T.len (by rfl) (pa_cons (pv 1) pa_nil)) pa_nil))) (fun _ _ => rfl)))), fun M es R h => ?_⟩)
  obtain ⟨_, h⟩ := h
  obtain ⟨pp, ds, n, o, x, rfl, hx, hp, ho, hn, hd1, hd2, h⟩ := h
  rcases hx with rfl | rfl
  · repeat walk_at "d"
    rw [List.length_map]
    refine ⟨rfl, pp, _, n, o, rfl, hp, ho, hn, by omega, by omega, fun v o' ho' h0 h1 => ?_⟩
    obtain ⟨d, hd, hat⟩ := pick_at h0 h1
    exact rw_ixSL (rw_ixLd hat (h d o' hd ho'))
  · repeat walk_at "d"
    rw [List.length_map]
    refine ⟨rfl, pp, _, n, o, rfl, hp, ho, hn, by omega, by omega, fun v o' ho' h0 h1 => ?_⟩
    obtain ⟨d, hd, hat⟩ := pick_at h0 h1
    exact rw_ixST (rw_ixTd hat (h d o' hd ho'))
end DL


namespace DL
open PySem PySem.Spec PyProof.Rows L2
local macro_rules
  | `(tactic| walk_at "d") => `(tactic| first
    | with_reducible refine ru_seq ?_
    | with_reducible refine ru_asg ?_
    | with_reducible refine ru_ret ?_
    | with_reducible refine ru_if ?_
    | with_reducible refine ru_next ?_
    | with_reducible refine ru_cont ?_
    | with_reducible refine ru_break ?_
    | with_reducible refine ru_dropE ?_
    | with_reducible refine gw_name ?_
    | with_reducible refine gw_tup rfl ?_
    | with_reducible refine gws_consM ?_
    | with_reducible refine gws_nilM ?_
    | with_reducible refine gws_cons ?_
    | with_reducible refine gws_nil ?_
    | with_reducible refine w_var (by with_unfolding_all rfl) ?_
    | with_reducible refine w_int ?_
    | with_reducible refine w_str ?_
    | with_reducible refine w_bl ?_
    | with_reducible refine w_non ?_
    | with_reducible refine w_ref ?_
    | with_reducible refine w_ty ?_
    | with_reducible refine w_op ?_
    | with_reducible refine w_chain ?_
    | with_reducible refine w_cb ?_
    | with_reducible refine w_call0 ?_
    | with_reducible refine w_bm ?_
    | with_reducible refine w_neg ?_
    | with_reducible refine w_ckw ?_
    | with_reducible refine w_andV ?_
    | with_reducible refine w_orV ?_
    | with_reducible refine w_notV ?_
    | with_reducible refine w_sl ?_
    | with_reducible refine w_tup ?_
    | with_reducible refine wo_none ?_
    | with_reducible refine wt_test ?_
    | with_reducible refine wt_B ?_
    | with_reducible refine wt_and ?_
    | with_reducible refine wt_or ?_
    | with_reducible refine wt_not ?_
    | with_reducible refine wt_yes ?_
    | with_reducible refine wa_cons ?_
    | with_reducible refine wa_nil ?_
    | with_reducible refine isB ?_
    | with_reducible refine isI ?_
    | with_reducible refine wo_someI ?_
    | with_reducible refine rs_T ?_
    | with_reducible refine isDs_cons ?_
    | with_reducible refine isDs_nil ?_
    | with_reducible refine ⟨Nat.le_of_ble_eq_true (by with_unfolding_all rfl), ?_⟩
    | with_reducible refine rw_I0 ?_
    | with_reducible refine rw_B0 ?_
    | with_reducible refine rw_I (cmulL (by decide) (by decide)) ?_
    | with_reducible refine rw_I (cmulR (by decide) (by decide)) ?_
    | with_reducible refine rw_I (cpowI (by decide) (by decide) (by decide)) ?_
    | with_reducible refine rw_I (cdivI (by decide) (by decide)) ?_
    | with_reducible refine rw_I (C := fun _ j => 0 < j) (by show (0 : Int) < _; decide) ?_
    | with_reducible refine rw_eqI ?_
    | with_reducible refine rw_eqL ?_
    | with_reducible refine rw_eqH ?_
    | with_reducible refine rw_eqW ?_
    | with_reducible refine rw_eqS ?_
    | with_reducible refine rw_eqB ?_
    | with_reducible refine rw_eqSN ?_
    | with_reducible refine rw_neI ?_
    | with_reducible refine rw_neW ?_
    | with_reducible refine rw_neS ?_
    | with_reducible refine rw_isN ?_
    | with_reducible refine rw_notN ?_
    | with_reducible refine rw_ixLog (by assumption) ?_
    | with_reducible refine rw_ixTd (by with_unfolding_all rfl) ?_
    | with_reducible refine rw_ixLd (by with_unfolding_all rfl) ?_
    | with_reducible refine rc_lenMT ?_
    | with_reducible refine rc_lenML ?_
    | with_reducible refine rc_lenT seqT_d ?_
    | with_reducible refine rc_lenL seqL_d ?_
    | with_reducible refine rc_abs ?_
    | with_reducible refine rc_max2 ?_
    | with_reducible refine rc_min2 ?_
    | with_reducible refine rc_intB ?_
    | with_reducible refine rc_tupL seqL_d ?_
    | with_reducible refine iteT ?_
    | with_reducible refine iteF ?_
    | with_reducible refine iteNT ?_
    | with_reducible refine iteNF ?_)
def domP (d : PyData) : Prop := ∃ a b : Int, d = .tuple [.int a, .int b]
def keyP : PyData → PyData
  | .tuple [.int a, .int b] => .tuple [.int a, .int (0 - b)]
  | _ => .none
theorem putE_all {κ : Type} [DecidableEq κ] {Q : κ → Ent → Prop} {kes : List (κ × Ent)} {k : κ} {e : Ent} (h : ∀ kv ∈ kes, Q kv.1 kv.2) (hk : Q k e) : ∀ kv ∈ putE kes k e, Q kv.1 kv.2 := by
  intro kv hkv
  unfold putE at hkv
  split at hkv
  · obtain ⟨kv', hm, rfl⟩ := List.mem_map.mp hkv
    by_cases hq : kv'.1 = k
    · rw [if_pos hq, hq]
      exact hk
    · rw [if_neg hq]
      exact h _ hm
  · rcases List.mem_append.mp hkv with hm | hm
    · exact h _ hm
    · rw [List.mem_singleton.mp hm]
      exact hk
theorem putE_len {κ : Type} [DecidableEq κ] {kes : List (κ × Ent)} {k : κ} {e : Ent} : (putE kes k e).length ≤ kes.length + 1 := by
  unfold putE
  split
  · rw [List.length_map]; omega
  · rw [List.length_append]; exact Nat.le_refl _
theorem dints_of {α : Type} {f : α → PyData} : ∀ {xs : List α}, (∀ x ∈ xs, ∃ i : Int, f x = .int i) → ∃ ns : List Int, xs.map f = ns.map PyData.int
  | [], _ => ⟨[], rfl⟩
  | x :: xs, h => by
    obtain ⟨i, hi⟩ := h x List.mem_cons_self
    obtain ⟨ns, hn⟩ := dints_of (xs := xs) fun y hy => h y (List.mem_cons_of_mem _ hy)
    exact ⟨i :: ns, by rw [List.map_cons, hn, hi]; rfl⟩
theorem sortOk_keyP (qs : List (Nat × Nat)) : SortOk ((qs.map encP).map keyP) := by
  rw [List.map_map]
  refine ⟨fun d hd d' hd' => ?_, .inl fun d hd => ?_, fun d hd => ?_⟩
  · obtain ⟨p, _, rfl⟩ := List.mem_map.mp hd
    obtain ⟨p', _, rfl⟩ := List.mem_map.mp hd'
    rfl
  · obtain ⟨p, _, rfl⟩ := List.mem_map.mp hd
    exact ⟨_, _, rfl⟩
  · obtain ⟨p, _, rfl⟩ := List.mem_map.mp hd
    exact Nat.le_trans (sh_tup (n := 0) (all_cons sh_int (all_cons sh_int all_nil))).2 (by decide)
def IsIntE (e : Ent) : Prop := ∃ n : Int, e = .d (.int n)
def valD (ms : List (Key × Ent)) (k : Key) : PyData := match valE ms k with
  | some (.d d) => d
  | _ => .none
theorem valE_has {κ : Type} [DecidableEq κ] {kes : List (κ × Ent)} {k : κ} {e : Ent} (h : (k, e) ∈ kes) : ∃ e', valE kes k = some e' ∧ (k, e') ∈ kes := by
  cases hv : valE kes k with
  | none => exact absurd rfl (valE_none hv _ h)
  | some e' => exact ⟨e', rfl, valE_mem hv⟩
abbrev s_ranks : Stmt := topS 30
abbrev N_ranks : List Str := ["pairs", "found", "most", "pair", "r"]
abbrev p_ranks : List Str := ["pairs"]
theorem sc_ranks : FnScope N_ranks p_ranks (defScope s_ranks) := ⟨rfl, rfl, rfl, by decide +kernel, rfl, by decide +kernel, by decide +kernel⟩

theorem ok_ranks {P : Program} {w : World} {K : PySem.W.Frag} {mg : Str → Option Value} {base : Heap} {aD aS aB aE : Addr} {tR : Addr} {cc : Addr} {f : Addr} {fd : FuncData} (F : FunC K "ranks" "ranks" s_ranks f fd cc) (T : Gb w K mg aD aS aB aE) (TB : LamX.TabB base mg cc tR)  : FnOk P w K mg base CX0 2 f fd p_ranks (PSp K (sp_ranks tR)) := by
  refine okC F sc_ranks (fun M es R h => h.1) (fun cdv A outer s H E hcode hr => ⟨_, (pss_cons (ps_set (i := 1) sc_ranks.nd rfl (Or.inl rfl) pe_dnewT)
    (pss_cons (ps_set (i := 2) sc_ranks.nd rfl (Or.inr rfl) pe_dnewK)
    (pss_cons (ps_for PassesOwn.never rfl (i_list K rfl (e_sortKey P w K mg base rfl rfl rfl rfl rfl hr rfl T.sorted (q := qR) (dom := domP) (key := keyP) TB hcode (by exact ⟨rfl, rfl, rfl, rfl, by decide +kernel, by decide +kernel, fun _ _ _ _ _ _ => rfl, fun _ => rfl, fun d hd => by obtain ⟨a, b, rfl⟩ := hd; exact gives_two rfl rfl rfl⟩) (by with_unfolding_all rfl) (by rfl) (pa_cons (pv 0) pa_nil))) (pg_name (i := 3) sc_ranks.nd rfl (Or.inr rfl)) (pss_cons (ps_dput (un1 hr) (pv 1) (pv 3) (pe_op op_add pe_int (e_maxDf K rfl rfl hr T.max (by rfl) (pa_cons (pe_lock (pe_lc (own := [("r", 4)]) (g := (gName 4)) rfl sc_ranks.nd (pi_keys (pv 2)) (blkOk_by (own := [("r", 4)]) (N := N_ranks) (sc := defScope s_ranks) (by decide +kernel)) (fun _ _ _ _ _ => (pg_name (i := 4) sc_ranks.nd rfl (Or.inl rfl))) (fun _ _ _ _ _ => (pts_one (pt_cmpR op_lt (pv 4) (e_ixT K rfl (pv 3) pe_int (fun _ _ => rfl)) (nomark _)))) (fun _ _ _ _ _ => (pe_dget (un1 hr) (pv 2) (pv 4) (fun _ _ => rfl))))) pa_nil) (pk_cons pe_int pk_nil))) rfl)
    (pss_one (ps_dput (un1 hr) (pv 2) (e_ixT K rfl (pv 3) pe_int (fun _ _ => rfl)) (e_max2 K rfl rfl T.max (by rfl) (pa_cons (pe_dget (un1 hr) (pv 1) (pv 3) (fun _ _ => rfl)) (pa_cons (pe_dget2 (un1 hr) (pv 2) (e_ixT K rfl (pv 3) pe_int (fun _ _ => rfl)) pe_int ⟨rfl, rfl, rfl, rfl⟩) pa_nil))) rfl))))
    (pss_one (ps_ret (pv 1)))))), fun M es R h => ?_⟩)
  obtain ⟨_, h⟩ := h
  obtain ⟨q, qs, rfl, hq, ht, hz, h⟩ := h
  have sz : sizeLine = 16777216 := rfl
  haveI : Inhabited (Key × Ent) := ⟨(Sum.inl 0, .d .none)⟩
  repeat walk_at "d"
  refine w_dnewT fun p hp => ?_
  repeat walk_at "d"
  refine w_dnewK fun p2 hp2 => ?_
  have hpp : p ≠ p2 := fun e => by rw [← e, mupd_same] at hp2; cases hp2
  have hM2 : M p2 = none := by rw [mupd_ne (Ne.symm hpp)] at hp2; exact hp2
  have hqp : q ≠ p := fun e => by rw [e] at hq; unfold IsP at hq; rw [hp] at hq; cases hq
  have hqp2 : q ≠ p2 := fun e => by rw [e] at hq; unfold IsP at hq; rw [hM2] at hq; cases hq
  have htp : tR ≠ p := fun e => by rw [e, hp] at ht; cases ht
  have htp2 : tR ≠ p2 := fun e => by rw [e, hM2] at ht; cases ht
  repeat walk_at "d"
  refine ru_for (wi_listD (w_sortKey ?_))
  repeat walk_at "d"
  refine ⟨by rw [mupd_ne htp2, mupd_ne htp]; exact ht, _, qs.map encP, rfl, seqL_m (by rw [mupd_ne hqp2, mupd_ne hqp]; exact hq), fun d hd => ?_, sortOk_keyP qs, ?_⟩
  · obtain ⟨x, _, rfl⟩ := List.mem_map.mp hd
    exact ⟨_, _, rfl⟩
  obtain ⟨zs, hzs, he⟩ := perm_enc decP_enc (List.mergeSort_perm (qs.map encP) (PySem.W.dataLe false keyP))
  rw [he]
  have hzl := hzs.length_eq
  refine ⟨_, rfl, fun i G' M' => (∃ (kes : List (List Key × Ent)) (ms : List (Key × Ent)), M' = mupd (mupd M p (.dT kes)) p2 (.dK ms) ∧ (∀ j x, j < i → zs[j]? = some x → ∃ n : Int, valE kes (pk x) = some (.d (.int n))) ∧ (∀ kv ∈ kes, IsIntE kv.2) ∧ (∀ kv ∈ ms, (∃ j : Int, kv.1 = Sum.inl j) ∧ IsIntE kv.2) ∧ kes.length ≤ i ∧ ms.length ≤ i) ∧ ∃ a b : Option Ent, G' = [some (.v (.ref q)), some (.v (.ref p)), some (.v (.ref p2)), a, b],
    ⟨⟨[], [], rfl, (fun j x hj => absurd hj (Nat.not_lt_zero _)), (fun kv h => by cases h), (fun kv h => by cases h), Nat.zero_le _, Nat.zero_le _⟩, _, _, rfl⟩, fun _ _ _ _ => trivial, ?_, ?_⟩
  · rintro i e G' M' hx0 ⟨⟨kes, ms, rfl, hr1, hk, hm, hl1, hl2⟩, a, b, rfl⟩
    obtain ⟨x, hx, rfl⟩ := map_at hx0
    have hi : i < zs.length := (List.getElem?_eq_some_iff.mp hx).1
    repeat walk_at "d"
    refine ru_dput ?_
    repeat walk_at "d"
    refine w_lockE p2 ms mupd_same fun od kvs => ?_
    refine w_lcF (α := Key × Ent) (wpg_name (by decide)) (wi_keys ?_)
    repeat walk_at "d"
    refine ⟨p2, od, kvs, ms, rfl, mupd_same, ms, fun kv => keyD kv.1, fun kv => valD ms kv.1, fun kv => match kv.1 with | .inl j => decide (j < (x.2 : Int)) | .inr _ => false, by rw [List.map_map]; rfl, by omega, fun r acc hr2 => ?_, fun j kv r acc hkv hr2 => ?_, ?_⟩
    · have : p2 ≠ r := fun e => by rw [← e, mupd_same] at hr2; cases hr2
      show mupd _ r acc p2 = _
      rw [mupd_ne this, mupd_same]
    · have hr3 : p2 ≠ r := fun e => by rw [← e, mupd_same] at hr2; cases hr2
      have hmem := List.mem_of_getElem? hkv
      obtain ⟨⟨jj, hjj⟩, _⟩ := hm kv hmem
      obtain ⟨k, ev⟩ := kv
      have hjj : k = Sum.inl jj := hjj
      subst hjj
      obtain ⟨e', hv, hm'⟩ := valE_has hmem
      obtain ⟨n, hn⟩ := (hm _ hm').2
      have hn : e' = .d (.int n) := hn
      subst hn
      show GW K _ (.d (.int jj)) _ _ _
      repeat walk_at "d"
      refine ⟨rfl, rfl, fun _ => ?_⟩
      repeat walk_at "d"
      refine w_dget ?_
      repeat walk_at "d"
      refine ⟨.d (.int n), ?_, rfl, ?_⟩
      · rw [← hv]
        exact DG.f (Sum.inl jj) (by rw [mupd_ne hr3, mupd_same])
      · show Ent.d (.int n) = .d (valD ms (Sum.inl jj))
        unfold valD
        rw [hv]
    · obtain ⟨ns, hns⟩ := dints_of (f := fun kv : Key × Ent => valD ms kv.1) (xs := ms.filter fun kv => match kv.1 with | .inl j => decide (j < (x.2 : Int)) | .inr _ => false) fun kv hkv => by
        have hmem := (List.mem_filter.mp hkv).1
        obtain ⟨k, ev⟩ := kv
        obtain ⟨e', hv, hm'⟩ := valE_has hmem
        obtain ⟨n, hn⟩ := (hm _ hm').2
        have hn : e' = .d (.int n) := hn
        subst hn
        refine ⟨n, ?_⟩
        show valD ms k = _
        unfold valD
        rw [hv]
      rw [hns]
      refine ⟨mupd_same, ?_, _, rfl⟩
      rw [mupd_mupd, mupd_mupd]
      repeat walk_at "d"
      refine rk_maxDf rfl seqL_d fun m _ => ?_
      repeat walk_at "d"
      refine ⟨_, DP.t (pk x) (by rw [mupd_ne hpp, mupd_same]) (by omega), ?_⟩
      generalize hkes2 : putE kes (pk x) (.d (.int (1 + m))) = kes2
      have e1 : mupd (mupd (mupd M p (.dT kes)) p2 (.dK ms)) p (.dT kes2) = mupd (mupd M p (.dT kes2)) p2 (.dK ms) := by
        rw [mupd_comm (Ne.symm hpp), mupd_mupd]
      have hk2 : ∀ kv ∈ kes2, IsIntE kv.2 := by rw [← hkes2]; exact putE_all (Q := fun _ e => IsIntE e) hk ⟨_, rfl⟩
      have hv2 : valE kes2 (pk x) = some (.d (.int (1 + m))) := by rw [← hkes2, valE_put, if_pos rfl]
      have hl2' : kes2.length ≤ i + 1 := by rw [← hkes2]; exact Nat.le_trans putE_len (by omega)
      have hr2 : ∀ j y, j < i + 1 → zs[j]? = some y → ∃ n : Int, valE kes2 (pk y) = some (.d (.int n)) := fun j y hj hy => by
        rw [← hkes2, valE_put]
        by_cases hpk : pk y = pk x
        · exact ⟨1 + m, by rw [if_pos hpk]⟩
        · rw [if_neg hpk]
          rcases Nat.lt_succ_iff_lt_or_eq.mp hj with hj | rfl
          · exact hr1 j y hj hy
          · rw [hx] at hy; cases hy; exact absurd rfl hpk
      rw [e1]
      refine ru_dput ?_
      repeat walk_at "d"
      refine w_dget ?_
      repeat walk_at "d"
      refine ⟨.d (.int (1 + m)), by rw [← hv2]; exact DG.t (pk x) (by rw [mupd_ne hpp, mupd_same]), ?_⟩
      repeat walk_at "d"
      refine w_dget2 ?_
      repeat walk_at "d"
      refine ⟨.inl ⟨ms, mupd_same⟩, ?_⟩
      repeat walk_at "d"
      refine ⟨_, DG.k (Sum.inl (x.2 : Int)) mupd_same, ?_⟩
      obtain ⟨n, hn⟩ : ∃ n : Int, (valE ms (Sum.inl (x.2 : Int))).getD (.d (.int 0)) = .d (.int n) := by
        cases hv : valE ms (Sum.inl (x.2 : Int)) with
        | none => exact ⟨0, rfl⟩
        | some e => exact (hm _ (valE_mem hv)).2
      rw [hn]
      repeat walk_at "d"
      generalize (if n > 1 + m then n else 1 + m) = w2
      refine ⟨_, DP.k (Sum.inl (x.2 : Int)) mupd_same (by omega), ?_⟩
      refine ⟨⟨kes2, _, mupd_mupd, hr2, hk2, putE_all (Q := fun k e => (∃ j : Int, k = Sum.inl j) ∧ IsIntE e) hm ⟨⟨_, rfl⟩, _, rfl⟩, hl2', Nat.le_trans putE_len (by omega)⟩, _, _, rfl⟩
  · rintro G' M' ⟨⟨kes, ms, rfl, hr1, hk, hm, hl1, hl2⟩, a, b, rfl⟩
    repeat walk_at "d"
    refine h p kes _ (((Sub.refl M).new hp).new hM2) (by rw [mupd_ne hpp, mupd_same]) (fun x hx => ?_) hk
    obtain ⟨j, hj⟩ := List.mem_iff_getElem?.mp (hzs.mem_iff.mpr hx)
    exact hr1 j x (by rw [map_len]; exact (List.getElem?_eq_some_iff.mp hj).1) hj
end DL


namespace DL
open PySem PySem.Spec PyProof.Rows L2
local macro_rules
  | `(tactic| walk_at "d") => `(tactic| first
    | with_reducible refine ru_seq ?_
    | with_reducible refine ru_asg ?_
    | with_reducible refine ru_ret ?_
    | with_reducible refine ru_if ?_
    | with_reducible refine ru_next ?_
    | with_reducible refine ru_cont ?_
    | with_reducible refine ru_break ?_
    | with_reducible refine ru_dropE ?_
    | with_reducible refine gw_name ?_
    | with_reducible refine gw_tup rfl ?_
    | with_reducible refine gws_consM ?_
    | with_reducible refine gws_nilM ?_
    | with_reducible refine gws_cons ?_
    | with_reducible refine gws_nil ?_
    | with_reducible refine w_var (by with_unfolding_all rfl) ?_
    | with_reducible refine w_int ?_
    | with_reducible refine w_str ?_
    | with_reducible refine w_bl ?_
    | with_reducible refine w_non ?_
    | with_reducible refine w_ref ?_
    | with_reducible refine w_ty ?_
    | with_reducible refine w_op ?_
    | with_reducible refine w_chain ?_
    | with_reducible refine w_cb ?_
    | with_reducible refine w_call0 ?_
    | with_reducible refine w_bm ?_
    | with_reducible refine w_neg ?_
    | with_reducible refine w_ckw ?_
    | with_reducible refine w_andV ?_
    | with_reducible refine w_orV ?_
    | with_reducible refine w_notV ?_
    | with_reducible refine w_sl ?_
    | with_reducible refine w_tup ?_
    | with_reducible refine wo_none ?_
    | with_reducible refine wt_test ?_
    | with_reducible refine wt_B ?_
    | with_reducible refine wt_and ?_
    | with_reducible refine wt_or ?_
    | with_reducible refine wt_not ?_
    | with_reducible refine wt_yes ?_
    | with_reducible refine wa_cons ?_
    | with_reducible refine wa_nil ?_
    | with_reducible refine isB ?_
    | with_reducible refine isI ?_
    | with_reducible refine wo_someI ?_
    | with_reducible refine rs_T ?_
    | with_reducible refine isDs_cons ?_
    | with_reducible refine isDs_nil ?_
    | with_reducible refine ⟨Nat.le_of_ble_eq_true (by with_unfolding_all rfl), ?_⟩
    | with_reducible refine rw_I0 ?_
    | with_reducible refine rw_B0 ?_
    | with_reducible refine rw_I (cmulL (by decide) (by decide)) ?_
    | with_reducible refine rw_I (cmulR (by decide) (by decide)) ?_
    | with_reducible refine rw_I (cpowI (by decide) (by decide) (by decide)) ?_
    | with_reducible refine rw_I (cdivI (by decide) (by decide)) ?_
    | with_reducible refine rw_I (C := fun _ j => 0 < j) (by show (0 : Int) < _; decide) ?_
    | with_reducible refine rw_eqI ?_
    | with_reducible refine rw_eqL ?_
    | with_reducible refine rw_eqH ?_
    | with_reducible refine rw_eqW ?_
    | with_reducible refine rw_eqS ?_
    | with_reducible refine rw_eqB ?_
    | with_reducible refine rw_eqSN ?_
    | with_reducible refine rw_neI ?_
    | with_reducible refine rw_neW ?_
    | with_reducible refine rw_neS ?_
    | with_reducible refine rw_isN ?_
    | with_reducible refine rw_notN ?_
    | with_reducible refine rw_ixLog (by assumption) ?_
    | with_reducible refine rw_ixTd (by with_unfolding_all rfl) ?_
    | with_reducible refine rw_ixLd (by with_unfolding_all rfl) ?_
    | with_reducible refine rc_lenMT ?_
    | with_reducible refine rc_lenML ?_
    | with_reducible refine rc_lenT seqT_d ?_
    | with_reducible refine rc_lenL seqL_d ?_
    | with_reducible refine rc_abs ?_
    | with_reducible refine rc_max2 ?_
    | with_reducible refine rc_min2 ?_
    | with_reducible refine rc_intB ?_
    | with_reducible refine rc_tupL seqL_d ?_
    | with_reducible refine iteT ?_
    | with_reducible refine iteF ?_
    | with_reducible refine iteNT ?_
    | with_reducible refine iteNF ?_)
/-- the pen stands at pp, the rest as it was at least -/
structure PSt (M M' : Mh) (pp : Addr) (n : Nat) : Prop where
  pen : ∃ o, M' pp = some o ∧ PenO n o
  ext : ∀ a x, a ≠ pp → M a = some x → M' a = some x
theorem PSt.start {M : Mh} {pp : Addr} {n : Nat} {o : MO} (h : M pp = some o) (ho : PenO n o) : PSt M M pp n := ⟨⟨o, h, ho⟩, fun _ _ _ h => h⟩
theorem PSt.mono {M M' : Mh} {pp : Addr} {n m : Nat} (h : PSt M M' pp n) (hm : n ≤ m) : PSt M M' pp m := let ⟨o, a, b⟩ := h.pen; ⟨⟨o, a, b.mono hm⟩, h.ext⟩
theorem PSt.ne {M M' : Mh} {pp p : Addr} {n : Nat} (h : PSt M M' pp n) (hp : M' p = none) : pp ≠ p := fun e => by
  obtain ⟨o, a, _⟩ := h.pen
  rw [e, hp] at a
  cases a
theorem PSt.new {M M' : Mh} {pp p : Addr} {n : Nat} {x : MO} (h : PSt M M' pp n) (hp : M' p = none) : PSt M (mupd M' p x) pp n := by
  have hne := h.ne hp
  obtain ⟨o, a, b⟩ := h.pen
  refine ⟨⟨o, by rw [mupd_ne hne]; exact a, b⟩, fun c y hc hy => ?_⟩
  have h1 := h.ext c y hc hy
  have : c ≠ p := fun e => by rw [e, hp] at h1; cases h1
  rw [mupd_ne this]
  exact h1
theorem PSt.fin {M M' : Mh} {pp : Addr} {n : Nat} (h : PSt M M' pp n) : ∃ o, PenO n o ∧ Sub (mupd M pp o) M' := by
  obtain ⟨o, a, b⟩ := h.pen
  refine ⟨o, b, fun c x hx => ?_⟩
  by_cases e : c = pp
  · subst e
    rw [mupd_same] at hx
    rw [← hx]
    exact a
  · rw [mupd_ne e] at hx
    exact h.ext c x e hx
theorem pst_draw {M M' : Mh} {pp : Addr} {n : Nat} {many : Int} {R : Ent → Mh → Prop} (h : PSt M M' pp n) (hn : n ≤ 1000000) (h1 : 1 ≤ many) (h2 : many < 1073741824) (r : ∀ v M1, PSt M M1 pp (n + 1) → (∀ a, a ≠ pp → M1 a = M' a) → 0 ≤ v → v < many → R (.d (.int v)) M1) : sp_draw M' [.v (.ref pp), .d (.int many)] R := by
  obtain ⟨o, a, b⟩ := h.pen
  refine ⟨rfl, pp, many, n, o, rfl, a, b, hn, h1, h2, fun v o' ho' h0 hv => r v _ ⟨⟨o', mupd_same, ho'⟩, fun c x hc hx => by rw [mupd_ne hc]; exact h.ext c x hc hx⟩ (fun c hc => mupd_ne hc) h0 hv⟩
theorem pst_pick {M M' : Mh} {pp : Addr} {n : Nat} {ds : List PyData} {x : PyData} {R : Ent → Mh → Prop} (h : PSt M M' pp n) (hx : x = .list ds ∨ x = .tuple ds) (hn : n ≤ 1000000) (h1 : 1 ≤ ds.length) (h2 : ds.length < 1000) (r : ∀ d M1, d ∈ ds → PSt M M1 pp (n + 1) → (∀ a, a ≠ pp → M1 a = M' a) → R (.d d) M1) : sp_pick M' [.v (.ref pp), .d x] R := by
  obtain ⟨o, a, b⟩ := h.pen
  refine ⟨rfl, pp, ds, n, o, x, rfl, hx, a, b, hn, h1, h2, fun d o' hd ho' => r d _ hd ⟨⟨o', mupd_same, ho'⟩, fun c y hc hy => by rw [mupd_ne hc]; exact h.ext c y hc hy⟩ (fun c hc => mupd_ne hc)⟩
theorem ru_par {K : PySem.W.Frag} {M : Mh} {G : Gm} {D : DE} {i j : Nat} {ta : TA} (h : WA K ta G M fun es M1 => ∃ e1 e2, es = [e1, e2] ∧ D.nx ((G.set i (some e1)).set j (some e2)) M1) : Ru K (tPar i j ta) G M D := fun B σ H Z k r =>
  h B σ H k _ fun vs H1 es M1 h1 k1 hv => by
    obtain ⟨e1, e2, rfl, p⟩ := h1
    obtain ⟨v, w, rfl, hv1, hv2⟩ := ents2 hv
    exact ⟨v, w, rfl, r.nx _ M1 _ H1 p ((k1.set hv1).set hv2)⟩
/-! rows that are good -/
def GoodR (lo hi : Int) (rs : List Row) : Prop := ∀ r ∈ rs, RowOk r ∧ WOk r.w ∧ lo ≤ r.m ∧ r.m ≤ hi
structure LS (M M' : Mh) (pp l0 l1 L : Addr) (n c : Nat) (lo hi : Int) : Prop where
  st : PSt M M' pp n
  d1 : pp ≠ l0
  d2 : pp ≠ l1
  d3 : pp ≠ L
  d4 : l0 ≠ l1
  d5 : l0 ≠ L
  d6 : l1 ≠ L
  m0 : M l0 = none
  m1 : M l1 = none
  hL : M' L = some (.lst [.v (.ref l0), .v (.ref l1)])
  h0 : ∃ rs, M' l0 = some (.lst ((rs.map encRow).map Ent.d)) ∧ GoodR lo hi rs ∧ rs.length ≤ c
  h1 : ∃ rs, M' l1 = some (.lst ((rs.map encRow).map Ent.d)) ∧ GoodR lo hi rs ∧ rs.length ≤ c
section
variable {M M' : Mh} {pp l0 l1 L : Addr} {n c : Nat} {lo hi : Int}
theorem LS.same (h : LS M M' pp l0 l1 L n c lo hi) {M1 : Mh} {m : Nat} (st : PSt M M1 pp m) (e : ∀ a, a ≠ pp → M1 a = M' a) : LS M M1 pp l0 l1 L m c lo hi := by
  refine ⟨st, h.d1, h.d2, h.d3, h.d4, h.d5, h.d6, h.m0, h.m1, by rw [e _ (Ne.symm h.d3)]; exact h.hL, ?_, ?_⟩
  · rw [e _ (Ne.symm h.d1)]; exact h.h0
  · rw [e _ (Ne.symm h.d2)]; exact h.h1
theorem LS.mono (h : LS M M' pp l0 l1 L n c lo hi) {m c' : Nat} (hm : n ≤ m) (hc : c ≤ c') : LS M M' pp l0 l1 L m c' lo hi := by
  refine ⟨h.st.mono hm, h.d1, h.d2, h.d3, h.d4, h.d5, h.d6, h.m0, h.m1, h.hL, ?_, ?_⟩
  · obtain ⟨rs, a, b, z⟩ := h.h0
    exact ⟨rs, a, b, Nat.le_trans z hc⟩
  · obtain ⟨rs, a, b, z⟩ := h.h1
    exact ⟨rs, a, b, Nat.le_trans z hc⟩
theorem ls_draw {many : Int} {R : Ent → Mh → Prop} (h : LS M M' pp l0 l1 L n c lo hi) (hn : n ≤ 1000000) (h1 : 1 ≤ many) (h2 : many < 1073741824) (r : ∀ v M1, LS M M1 pp l0 l1 L (n + 1) c lo hi → 0 ≤ v → v < many → R (.d (.int v)) M1) : sp_draw M' [.v (.ref pp), .d (.int many)] R :=
  pst_draw h.st hn h1 h2 fun v M1 s e a b => r v M1 (h.same s e) a b
theorem ls_pick {ds : List PyData} {x : PyData} {R : Ent → Mh → Prop} (h : LS M M' pp l0 l1 L n c lo hi) (hx : x = .list ds ∨ x = .tuple ds) (hn : n ≤ 1000000) (h1 : 1 ≤ ds.length) (h2 : ds.length < 1000) (r : ∀ d M1, d ∈ ds → LS M M1 pp l0 l1 L (n + 1) c lo hi → R (.d d) M1) : sp_pick M' [.v (.ref pp), .d x] R :=
  pst_pick h.st hx hn h1 h2 fun d M1 hd s e => r d M1 hd (h.same s e)
def lh (l0 l1 : Addr) (b : Bool) : Addr := if b then l1 else l0
theorem ls_ix {K : PySem.W.Frag} {R : Ent → Mh → Prop} (h : LS M M' pp l0 l1 L n c lo hi) (b : Bool) {i : Int} (hi2 : i = if b then 1 else 0) (r : R (.v (.ref (lh l0 l1 b))) M') : RW K (rIxL K) (.v (.ref L)) (.d (.int i)) M' R := by
  subst hi2
  cases b
  · exact rw_ixL (seqL_m h.hL) rfl r
  · exact rw_ixL (seqL_m h.hL) rfl r
theorem ls_ty {K : PySem.W.Frag} (h : LS M M' pp l0 l1 L n c lo hi) (b : Bool) : TY K M' "list" (.v (.ref (lh l0 l1 b))) := by
  obtain ⟨r0, a0, _⟩ := h.h0
  obtain ⟨r1, a1, _⟩ := h.h1
  cases b
  · exact ty_l (seqL_m a0)
  · exact ty_l (seqL_m a1)
theorem good_app {rs : List Row} {r : Row} (h : GoodR lo hi rs) (hr : RowOk r ∧ WOk r.w ∧ lo ≤ r.m ∧ r.m ≤ hi) : GoodR lo hi (rs ++ [r]) := fun x hx => by
  rcases List.mem_append.mp hx with hx | hx
  · exact h x hx
  · rw [List.mem_singleton.mp hx]
    exact hr
theorem enc_app (rs : List Row) (r : Row) : ((rs.map encRow).map Ent.d) ++ [.d (encRow r)] = ((rs ++ [r]).map encRow).map Ent.d := by simp
theorem ls_rm {K : PySem.W.Frag} {R : Ent → Mh → Prop} (h : LS M M' pp l0 l1 L n c lo hi) (b : Bool) {r : Row} (hr : RowOk r ∧ WOk r.w ∧ lo ≤ r.m ∧ r.m ≤ hi) (hc : c ≤ 100000) (q : ∀ M1, LS M M1 pp l0 l1 L n (c + 1) lo hi → R (.d .none) M1) : RM K rAppend (.v (.ref (lh l0 l1 b))) [.d (encRow r)] M' R := by
  obtain ⟨r0, a0, b0, z0⟩ := h.h0
  obtain ⟨r1, a1, b1, z1⟩ := h.h1
  have sz : sizeLine = 16777216 := rfl
  obtain ⟨o, ho, hpo⟩ := h.st.pen
  cases b
  · show RM K rAppend (.v (.ref l0)) [.d (encRow r)] M' R
    refine rm_append a0 (by rw [map_len]; omega) (q _ ?_)
    rw [enc_app]
    refine ⟨⟨⟨o, by rw [mupd_ne h.d1]; exact ho, hpo⟩, fun a x ha hx => ?_⟩, h.d1, h.d2, h.d3, h.d4, h.d5, h.d6, h.m0, h.m1, by rw [mupd_ne (Ne.symm h.d5)]; exact h.hL, ⟨_, mupd_same, good_app b0 hr, by rw [List.length_append]; exact Nat.add_le_add_right z0 1⟩, ⟨r1, by rw [mupd_ne (Ne.symm h.d4)]; exact a1, b1, by omega⟩⟩
    have : a ≠ l0 := fun e => by rw [e, h.m0] at hx; cases hx
    rw [mupd_ne this]
    exact h.st.ext a x ha hx
  · show RM K rAppend (.v (.ref l1)) [.d (encRow r)] M' R
    refine rm_append a1 (by rw [map_len]; omega) (q _ ?_)
    rw [enc_app]
    refine ⟨⟨⟨o, by rw [mupd_ne h.d2]; exact ho, hpo⟩, fun a x ha hx => ?_⟩, h.d1, h.d2, h.d3, h.d4, h.d5, h.d6, h.m0, h.m1, by rw [mupd_ne (Ne.symm h.d6)]; exact h.hL, ⟨r0, by rw [mupd_ne h.d4]; exact a0, b0, by omega⟩, ⟨_, mupd_same, good_app b1 hr, by rw [List.length_append]; exact Nat.add_le_add_right z1 1⟩⟩
    have : a ≠ l1 := fun e => by rw [e, h.m1] at hx; cases hx
    rw [mupd_ne this]
    exact h.st.ext a x ha hx
end
abbrev qL : Str := "_law_life.<locals>.<lambda>"
def domR (d : PyData) : Prop := ∃ (i : Int) (r : List PyData), d = .tuple (.int i :: r)
def keyR : PyData → PyData
  | .tuple (.int i :: _) => .int i
  | _ => .none
theorem sortOk_keyR (rs : List Row) : SortOk ((rs.map encRow).map keyR) := by
  rw [List.map_map]
  refine ⟨fun d hd d' hd' => ?_, .inr fun d hd => ?_, fun d hd => ?_⟩
  · obtain ⟨p, _, rfl⟩ := List.mem_map.mp hd
    obtain ⟨p', _, rfl⟩ := List.mem_map.mp hd'
    rfl
  · obtain ⟨p, _, rfl⟩ := List.mem_map.mp hd
    refine ⟨?_, fun xs => ?_⟩
    · show PyData.int p.m ≠ .none
      exact fun z => by cases z
    · show PyData.int p.m ≠ .tuple xs
      exact fun z => by cases z
  · obtain ⟨p, _, rfl⟩ := List.mem_map.mp hd
    exact Nat.zero_le _
theorem sorted_rows {rs : List Row} {r : PyData → PyData → Bool} : ∃ zs, List.Perm zs rs ∧ (rs.map encRow).mergeSort r = zs.map encRow := by
  have hd : ∃ g : PyData → Row, ∀ a, g (encRow a) = a := by
    refine ⟨fun d => match d with
      | .tuple [.int m, .str l, x] => ⟨m, if l = Ln.port.s then .port else if l = Ln.star.s then .star else if l = Ln.down.s then .down else if l = Ln.aport.s then .aport else if l = Ln.astar.s then .astar else .up, match x with | .int n => .i n | .str s => .s s | _ => .i 0⟩
      | _ => default, fun a => ?_⟩
    obtain ⟨m, l, x⟩ := a
    cases l <;> cases x <;> simp [encW, Ln.s_inj]
  obtain ⟨g, hg⟩ := hd
  exact perm_enc hg (List.mergeSort_perm _ _)
theorem cut_mem {α : Type} {xs : List α} {lo hi : Option Int} {x : α} (h : x ∈ cutG xs lo hi) : x ∈ xs := List.mem_of_mem_drop (List.mem_of_mem_take h)
theorem cut40 {α : Type} {xs : List α} : (cutG xs none (some 40)).length ≤ 40 := by
  unfold cutG
  rw [List.length_take]
  have e1 : HT.sIx xs.length xs.length (some 40) = min 40 xs.length := HT.sIx_nat _ _ 40
  rw [e1]
  omega
def sp_life (tL : Addr) : Spec := fun M es R => es.length = 2 ∧ ∃ (pp : Addr) (n : Nat) (o : MO), es = [.v (.ref pp), .d (.int 9)] ∧ M pp = some o ∧ PenO n o ∧ n ≤ 100000 ∧ M tL = some (.tab qL) ∧
  ∀ (br rm : List Row) (gap late : Int) (o' : MO), PenO (n + 200) o' → LogOk br → LogOk rm → br.length ≤ 40 → rm.length ≤ 40 → (∀ r ∈ br, 0 ≤ r.m ∧ r.m ≤ 99999) → (∀ r ∈ rm, 0 ≤ r.m ∧ r.m ≤ 99999) → R (.d (.tuple [encLog br, encLog rm, .int gap, .int late])) (mupd M pp o')
abbrev everyL : List Ln := [.port, .star, .down, .aport, .astar, .up]
abbrev lnsD (ls : List Ln) : PyData := .tuple (ls.map fun l => .str l.s)
abbrev acrK : List (Key × Ent) := [(Sum.inr Ln.port.s, .d (.str Ln.star.s)), (Sum.inr Ln.star.s, .d (.str Ln.port.s)), (Sum.inr Ln.aport.s, .d (.str Ln.astar.s)), (Sum.inr Ln.astar.s, .d (.str Ln.aport.s)), (Sum.inr Ln.down.s, .d (.str Ln.down.s)), (Sum.inr Ln.up.s, .d (.str Ln.up.s))]
theorem acrV (l : Ln) : valE (mergeE [] acrK) (Sum.inr l.s) = some (.d (.str l.turn.s)) := by
  rw [valE_mergeE (by simp [Ln.s_inj])]
  cases l <;> simp [List.find?, Ln.s_inj, Ln.beside, Ln.turn]
theorem back_in (l : Ln) : decide (l.s ∈ [("aport" : Str), "astar", "up"]) = !l.br := by
  cases l <;> decide +kernel
abbrev s_life : Stmt := topS 49
abbrev N_life : List Str := ["_law_pen_here", "_law_most", "_law_gap", "_law_late", "_law_low", "_law_high", "_law_now", "_law_every", "_law_lines", "_law_words", "_law_orders", "_law_across", "_law_logs", "_law_k", "_law_line", "_law_what", "_law_house", "_law_way", "_law_came", "_law_above", "_law_below", "_law_time"]
abbrev p_life : List Str := ["_law_pen_here", "_law_most"]
theorem sc_life : FnScope N_life p_life (defScope s_life) := ⟨rfl, rfl, rfl, by decide +kernel, rfl, by decide +kernel, by decide +kernel⟩

theorem ok_life {P : Program} {w : World} {K : PySem.W.Frag} {mg : Str → Option Value} {base : Heap} {aD aS aB aE : Addr} {tL : Addr} {cc : Addr} {f : Addr} {fd : FuncData} (F : FunC K "_law_life" "_law_life" s_life f fd cc) (T : Gb w K mg aD aS aB aE) (TB : LamX.TabB base mg cc tL) (c_pick : Cd P w K mg base 2 "_law_pick" sp_pick []) (c_draw : Cd P w K mg base 1 "_law_draw" sp_draw []) : FnOk P w K mg base CX0 3 f fd p_life (PSp K (sp_life tL)) := by
  refine okC F sc_life (fun M es R h => h.1) (fun cdv A outer s H E hcode hr => ⟨_, (pss_cons (ps_set (i := 2) sc_life.nd rfl (Or.inr rfl) (e_def P w K mg base rfl rfl rfl rfl rfl c_pick hr (by decide) (by rfl) (pa_cons (pv 0) (pa_cons (pe_lst (pa_cons pe_int (pa_cons (pe_op op_sub (e_def P w K mg base rfl rfl rfl rfl rfl c_draw hr (by decide) (by rfl) (pa_cons (pv 0) (pa_cons pe_int pa_nil))) pe_int) (pa_cons (pe_op op_sub (e_def P w K mg base rfl rfl rfl rfl rfl c_draw hr (by decide) (by rfl) (pa_cons (pv 0) (pa_cons pe_int pa_nil))) pe_int) (pa_cons (pe_op op_sub (e_def P w K mg base rfl rfl rfl rfl rfl c_draw hr (by decide) (by rfl) (pa_cons (pv 0) (pa_cons pe_int pa_nil))) pe_int) pa_nil))))) pa_nil))))
    (pss_cons (ps_set (i := 3) sc_life.nd rfl (Or.inl rfl) (e_def P w K mg base rfl rfl rfl rfl rfl c_pick hr (by decide) (by rfl) (pa_cons (pv 0) (pa_cons (pe_lst (pa_cons pe_int (pa_cons (pe_op op_add pe_int (e_def P w K mg base rfl rfl rfl rfl rfl c_draw hr (by decide) (by rfl) (pa_cons (pv 0) (pa_cons pe_int pa_nil)))) (pa_cons (e_def P w K mg base rfl rfl rfl rfl rfl c_draw hr (by decide) (by rfl) (pa_cons (pv 0) (pa_cons pe_int pa_nil))) (pa_cons pe_int pa_nil))))) pa_nil))))
    (pss_cons (ps_par (i := 4) (j := 5) rfl sc_life.nd rfl rfl (by decide) rfl rfl (pa_cons (e_max2 K rfl rfl T.max (by rfl) (pa_cons pe_int (pa_cons (pe_op op_sub pe_int (pv 2)) pa_nil))) (pa_cons (e_min2 K rfl rfl T.min (by rfl) (pa_cons pe_int (pa_cons (pe_op op_sub pe_int (pv 2)) pa_nil))) pa_nil)) (by rfl))
    (pss_cons (ps_set (i := 6) sc_life.nd rfl (Or.inl rfl) (e_def P w K mg base rfl rfl rfl rfl rfl c_pick hr (by decide) (by rfl) (pa_cons (pv 0) (pa_cons (pe_lst (pa_cons (pv 4) (pa_cons (pe_op op_add (pv 4) (e_def P w K mg base rfl rfl rfl rfl rfl c_draw hr (by decide) (by rfl) (pa_cons (pv 0) (pa_cons pe_int pa_nil)))) (pa_cons (pe_op op_sub (pv 5) (e_def P w K mg base rfl rfl rfl rfl rfl c_draw hr (by decide) (by rfl) (pa_cons (pv 0) (pa_cons pe_int pa_nil)))) pa_nil)))) pa_nil))))
    (pss_cons (ps_set (i := 7) sc_life.nd rfl (Or.inl rfl) (pe_tup (pa_cons pe_str (pa_cons pe_str (pa_cons pe_str (pa_cons pe_str (pa_cons pe_str (pa_cons pe_str pa_nil))))))))
    (pss_cons (ps_set (i := 8) sc_life.nd rfl (Or.inl rfl) (e_def P w K mg base rfl rfl rfl rfl rfl c_pick hr (by decide) (by rfl) (pa_cons (pv 0) (pa_cons (pe_lst (pa_cons (pv 7) (pa_cons (pv 7) (pa_cons (pe_tup (pa_cons pe_str (pa_cons pe_str pa_nil))) (pa_cons (pe_tup (pa_cons pe_str (pa_cons pe_str (pa_cons pe_str pa_nil)))) pa_nil))))) pa_nil))))
    (pss_cons (ps_set (i := 9) sc_life.nd rfl (Or.inl rfl) (pe_lst (pa_cons pe_str (pa_cons (pe_slice sl_str pe_str po_none (po_some (pe_op op_add pe_int (e_def P w K mg base rfl rfl rfl rfl rfl c_draw hr (by decide) (by rfl) (pa_cons (pv 0) (pa_cons pe_int pa_nil)))))) pa_nil))))
    (pss_cons (ps_setLc (i := 10) (own := [("_law_k", 13)]) (g := (gName 13)) rfl sc_life.nd rfl rfl (sw_true rfl rfl rfl (by decide +kernel)) (pi_range1 (by rfl) T.range (pa_cons (pe_op op_add pe_int (e_def P w K mg base rfl rfl rfl rfl rfl c_draw hr (by decide) (by rfl) (pa_cons (pv 0) (pa_cons pe_int pa_nil)))) pa_nil)) (blkOk_by (own := [("_law_k", 13)]) (N := N_life) (sc := defScope s_life) (by decide +kernel)) (fun _ _ _ _ _ => (pg_name (i := 13) sc_life.nd rfl (Or.inl rfl))) (fun _ _ _ _ _ => pts_nil) (fun _ _ _ _ _ => (pe_op op_sub (e_def P w K mg base rfl rfl rfl rfl rfl c_draw hr (by decide) (by rfl) (pa_cons (pv 0) (pa_cons pe_int pa_nil))) pe_int)))
    (pss_cons (ps_set (i := 11) sc_life.nd rfl (Or.inl rfl) (pe_disp (pps_cons pe_str pe_str (pps_cons pe_str pe_str (pps_cons pe_str pe_str (pps_cons pe_str pe_str (pps_cons pe_str pe_str (pps_cons pe_str pe_str pps_nil)))))) rfl rfl (fun z => nomatch z) (by decide)))
    (pss_cons (ps_set (i := 12) sc_life.nd rfl (Or.inl rfl) (pe_lst (pa_cons (pe_lst pa_nil) (pa_cons (pe_lst pa_nil) pa_nil))))
    (pss_cons (ps_for PassesOwn.never rfl (pi_range1 (by rfl) T.range (pa_cons (e_ixL K rfl (pe_lst (pa_cons (e_def P w K mg base rfl rfl rfl rfl rfl c_draw hr (by decide) (by rfl) (pa_cons (pv 0) (pa_cons (pe_op op_add (pv 1) pe_int) pa_nil))) (pa_cons (pv 1) pa_nil))) (e_def P w K mg base rfl rfl rfl rfl rfl c_draw hr (by decide) (by rfl) (pa_cons (pv 0) (pa_cons pe_int pa_nil))) (fun _ _ => rfl)) pa_nil)) (pg_name (i := 13) sc_life.nd rfl (Or.inl rfl)) (pss_cons (ps_set (i := 6) sc_life.nd rfl (Or.inl rfl) (e_min2 K rfl rfl T.min (by rfl) (pa_cons (pv 5) (pa_cons (pe_op op_add (pv 6) (e_ixL K rfl (pe_lst (pa_cons pe_int (pa_cons pe_int (pa_cons pe_int (pa_cons (e_def P w K mg base rfl rfl rfl rfl rfl c_draw hr (by decide) (by rfl) (pa_cons (pv 0) (pa_cons pe_int pa_nil))) (pa_cons (e_def P w K mg base rfl rfl rfl rfl rfl c_draw hr (by decide) (by rfl) (pa_cons (pv 0) (pa_cons pe_int pa_nil))) pa_nil)))))) (e_def P w K mg base rfl rfl rfl rfl rfl c_draw hr (by decide) (by rfl) (pa_cons (pv 0) (pa_cons pe_int pa_nil))) (fun _ _ => rfl))) pa_nil))))
    (pss_cons (ps_set (i := 14) sc_life.nd rfl (Or.inl rfl) (e_def P w K mg base rfl rfl rfl rfl rfl c_pick hr (by decide) (by rfl) (pa_cons (pv 0) (pa_cons (pv 8) pa_nil))))
    (pss_cons (ps_set (i := 15) sc_life.nd rfl (Or.inl rfl) (e_def P w K mg base rfl rfl rfl rfl rfl c_pick hr (by decide) (by rfl) (pa_cons (pv 0) (pa_cons (e_ixL K rfl (pe_lst (pa_cons (pv 10) (pa_cons (pv 9) pa_nil))) (e_intB K rfl T.int (by rfl) (pa_cons (e_in K rfl (pv 14) (pe_tup (pa_cons pe_str (pa_cons pe_str pa_nil))) (by first | rfl | decide)) pa_nil)) (fun _ _ => rfl)) pa_nil))))
    (pss_cons (ps_set (i := 16) sc_life.nd rfl (Or.inl rfl) (e_intB K rfl T.int (by rfl) (pa_cons (e_in K rfl (pv 14) (pe_tup (pa_cons pe_str (pa_cons pe_str (pa_cons pe_str pa_nil)))) (by first | rfl | decide)) pa_nil)))
    (pss_cons (ps_set (i := 17) sc_life.nd rfl (Or.inl rfl) (e_def P w K mg base rfl rfl rfl rfl rfl c_draw hr (by decide) (by rfl) (pa_cons (pv 0) (pa_cons pe_int pa_nil))))
    (pss_cons (ps_set (i := 18) sc_life.nd rfl (Or.inl rfl) (e_min2 K rfl rfl T.min (by rfl) (pa_cons (pv 5) (pa_cons (pe_op op_add (pv 6) (e_def P w K mg base rfl rfl rfl rfl rfl c_draw hr (by decide) (by rfl) (pa_cons (pv 0) (pa_cons (pe_op op_add (pv 3) pe_int) pa_nil)))) pa_nil))))
    (pss_cons (ps_if (pt_cmpR op_ne (pv 17) pe_int (nomark _)) (pss_one (ps_expr (e_app K rfl (e_ixL K rfl (pv 12) (pv 16) (fun _ _ => rfl)) (pa_cons (pe_tup (pa_cons (pv 6) (pa_cons (pv 14) (pa_cons (pv 15) pa_nil)))) pa_nil)))) pss_nil)
    (pss_cons (ps_if (pt_cmpR op_eq (pv 17) pe_int (nomark _)) (pss_one (ps_set (i := 14) sc_life.nd rfl (Or.inl rfl) (pe_dget (un1 hr) (pv 11) (pv 14) (fun _ _ => rfl)))) pss_nil)
    (pss_cons (ps_if (pt_cmpR op_ne (pv 17) pe_int (nomark _)) (pss_one (ps_expr (e_app K rfl (e_ixL K rfl (pv 12) (pe_op op_sub pe_int (pv 16)) (fun _ _ => rfl)) (pa_cons (pe_tup (pa_cons (pv 18) (pa_cons (pv 14) (pa_cons (pv 15) pa_nil)))) pa_nil)))) pss_nil)
    (pss_one (ps_if (pt_cmpR op_eq (pv 17) pe_int (nomark _)) (pss_one (ps_expr (e_app K rfl (e_ixL K rfl (pv 12) (pe_op op_sub pe_int (pv 16)) (fun _ _ => rfl)) (pa_cons (pe_tup (pa_cons (e_min2 K rfl rfl T.min (by rfl) (pa_cons (pv 5) (pa_cons (pe_op op_add (pv 18) (e_def P w K mg base rfl rfl rfl rfl rfl c_draw hr (by decide) (by rfl) (pa_cons (pv 0) (pa_cons (pe_op op_add (pv 3) pe_int) pa_nil)))) pa_nil))) (pa_cons (pv 14) (pa_cons (pv 15) pa_nil)))) pa_nil)))) pss_nil))))))))))))
    (pss_cons (ps_set (i := 19) sc_life.nd rfl (Or.inl rfl) (e_sortKey P w K mg base rfl rfl rfl rfl rfl hr rfl T.sorted (q := qL) (dom := domR) (key := keyR) TB hcode (by exact ⟨rfl, rfl, rfl, rfl, by decide +kernel, by decide +kernel, fun _ _ _ _ _ _ => rfl, fun _ => rfl, fun d hd => by obtain ⟨i, r, rfl⟩ := hd; exact gives_first rfl rfl rfl⟩) (by with_unfolding_all rfl) (by rfl) (pa_cons (e_slL K rfl (e_ixL K rfl (pv 12) pe_int (fun _ _ => rfl)) po_none (po_some pe_int)) pa_nil)))
    (pss_cons (ps_set (i := 20) sc_life.nd rfl (Or.inl rfl) (e_sortKey P w K mg base rfl rfl rfl rfl rfl hr rfl T.sorted (q := qL) (dom := domR) (key := keyR) TB hcode (by exact ⟨rfl, rfl, rfl, rfl, by decide +kernel, by decide +kernel, fun _ _ _ _ _ _ => rfl, fun _ => rfl, fun d hd => by obtain ⟨i, r, rfl⟩ := hd; exact gives_first rfl rfl rfl⟩) (by with_unfolding_all rfl) (by rfl) (pa_cons (e_slL K rfl (e_ixL K rfl (pv 12) pe_int (fun _ _ => rfl)) po_none (po_some pe_int)) pa_nil)))
    (pss_one (ps_ret (pe_tup (pa_cons (e_tuple K rfl T.tuple (by rfl) (pa_cons (pv 19) pa_nil)) (pa_cons (e_tuple K rfl T.tuple (by rfl) (pa_cons (pe_lc (own := [("_law_time", 21), ("_law_line", 14), ("_law_what", 15)]) (g := (gTup K 3 (gCons (gName 21) (gCons (gName 14) (gCons (gName 15) gNil))))) rfl sc_life.nd (i_list K rfl (pv 20)) (blkOk_by (own := [("_law_time", 21), ("_law_line", 14), ("_law_what", 15)]) (N := N_life) (sc := defScope s_life) (by decide +kernel)) (fun _ _ _ _ _ => (g_tup K rfl 3 rfl (pgs_cons (pg_name (i := 21) sc_life.nd rfl (Or.inl rfl)) (pgs_cons (pg_name (i := 14) sc_life.nd rfl (Or.inl rfl)) (pgs_cons (pg_name (i := 15) sc_life.nd rfl (Or.inl rfl)) pgs_nil))))) (fun _ _ _ _ _ => pts_nil) (fun _ _ _ _ _ => (pe_tup (pa_cons (pe_op op_add (pv 21) (pv 2)) (pa_cons (pv 14) (pa_cons (pv 15) pa_nil)))))) pa_nil)) (pa_cons (pv 2) (pa_cons (pv 3) pa_nil)))))))))))))))))))), fun M es R h => ?_⟩)
  obtain ⟨_, h⟩ := h
  obtain ⟨pp, n, o, rfl, hp, ho, hn, htL, h⟩ := h
  have sz : sizeLine = 16777216 := rfl
  have P0 := PSt.start hp ho
  have hpt : tL ≠ pp := fun e => by
    obtain ⟨xs, a, b, e2, _⟩ := ho
    rw [e, hp, e2] at htL
    cases htL
  repeat walk_at "d"
  refine w_lst ?_
  repeat walk_at "d"
  refine pst_draw P0 (by omega) (by decide) (by decide) fun v1 M1 P1 E1 hv1 hv1' => ?_
  repeat walk_at "d"
  refine pst_draw P1 (by omega) (by decide) (by decide) fun v2 M2 P2 E2 hv2 hv2' => ?_
  repeat walk_at "d"
  refine pst_draw P2 (by omega) (by decide) (by decide) fun v3 M3 P3 E3 hv3 hv3' => ?_
  repeat walk_at "d"
  refine pst_pick P3 (.inl rfl) (by omega) (Nat.le_of_ble_eq_true rfl) (Nat.lt_of_lt_of_le (Nat.lt_succ_self _) (Nat.le_of_ble_eq_true rfl)) fun d M4 hd P4 E4 => ?_
  obtain ⟨gap, rfl, hg1, hg2⟩ : ∃ g : Int, d = .int g ∧ -1440 ≤ g ∧ g ≤ 1440 := by
    simp only [List.mem_cons, List.not_mem_nil, or_false] at hd
    rcases hd with rfl | rfl | rfl | rfl
    · exact ⟨_, rfl, by omega, by omega⟩
    · exact ⟨_, rfl, by omega, by omega⟩
    · exact ⟨_, rfl, by omega, by omega⟩
    · exact ⟨_, rfl, by omega, by omega⟩
  repeat walk_at "d"
  refine w_lst ?_
  repeat walk_at "d"
  refine pst_draw P4 (by omega) (by decide) (by decide) fun v4 M5 P5 E5 hv4 hv4' => ?_
  repeat walk_at "d"
  refine pst_draw P5 (by omega) (by decide) (by decide) fun v5 M6 P6 E6 hv5 hv5' => ?_
  repeat walk_at "d"
  refine pst_pick P6 (.inl rfl) (by omega) (Nat.le_of_ble_eq_true rfl) (Nat.lt_of_lt_of_le (Nat.lt_succ_self _) (Nat.le_of_ble_eq_true rfl)) fun d M7 hd P7 E7 => ?_
  obtain ⟨late, rfl, hla1, hla2⟩ : ∃ g : Int, d = .int g ∧ 0 ≤ g ∧ g ≤ 100 := by
    simp only [List.mem_cons, List.not_mem_nil, or_false] at hd
    rcases hd with rfl | rfl | rfl | rfl
    · exact ⟨_, rfl, by omega, by omega⟩
    · exact ⟨_, rfl, by omega, by omega⟩
    · exact ⟨_, rfl, by omega, by omega⟩
    · exact ⟨_, rfl, by omega, by omega⟩
  repeat walk_at "d"
  refine ru_par ?_
  repeat walk_at "d"
  refine ⟨_, _, rfl, ?_⟩
  obtain ⟨lo, hlo⟩ : ∃ lo : Int, lo = if 0 - gap > 0 then 0 - gap else 0 := ⟨_, rfl⟩
  obtain ⟨hi, hhi⟩ : ∃ hi : Int, hi = if 99999 - gap < 99999 then 99999 - gap else 99999 := ⟨_, rfl⟩
  have hb1 : 0 ≤ lo ∧ lo ≤ 1440 ∧ 0 ≤ lo + gap ∧ 98559 ≤ hi ∧ hi ≤ 99999 ∧ hi + gap ≤ 99999 := by
    subst hlo hhi
    split <;> split <;> omega
  rw [← hlo, ← hhi]
  repeat walk_at "d"
  refine w_lst ?_
  repeat walk_at "d"
  refine pst_draw P7 (by omega) (by decide) (by decide) fun v6 M8 P8 E8 hv6 hv6' => ?_
  repeat walk_at "d"
  refine pst_draw P8 (by omega) (by decide) (by decide) fun v7 M9 P9 E9 hv7 hv7' => ?_
  repeat walk_at "d"
  refine pst_pick P9 (.inl rfl) (by omega) (Nat.le_of_ble_eq_true rfl) (Nat.lt_of_lt_of_le (Nat.lt_succ_self _) (Nat.le_of_ble_eq_true rfl)) fun d M10 hd P10 E10 => ?_
  obtain ⟨now, rfl, hn1, hn2⟩ : ∃ g : Int, d = .int g ∧ lo ≤ g ∧ g ≤ hi := by
    simp only [List.mem_cons, List.not_mem_nil, or_false] at hd
    rcases hd with rfl | rfl | rfl
    · exact ⟨_, rfl, by omega, by omega⟩
    · exact ⟨_, rfl, by omega, by omega⟩
    · exact ⟨_, rfl, by omega, by omega⟩
  repeat walk_at "d"
  refine w_lst ?_
  repeat walk_at "d"
  refine pst_pick P10 (.inl rfl) (by omega) (Nat.le_of_ble_eq_true rfl) (Nat.lt_of_lt_of_le (Nat.lt_succ_self _) (Nat.le_of_ble_eq_true rfl)) fun d M11 hd P11 E11 => ?_
  obtain ⟨ls, rfl, hls1, hls2⟩ : ∃ ls : List Ln, d = lnsD ls ∧ 1 ≤ ls.length ∧ ls.length < 1000 := by
    simp only [List.mem_cons, List.not_mem_nil, or_false] at hd
    rcases hd with rfl | rfl | rfl | rfl
    · exact ⟨everyL, rfl, by decide, by decide⟩
    · exact ⟨everyL, rfl, by decide, by decide⟩
    · exact ⟨[.port, .aport], rfl, by decide, by decide⟩
    · exact ⟨[.port, .star, .aport], rfl, by decide, by decide⟩
  repeat walk_at "d"
  refine w_lst ?_
  repeat walk_at "d"
  refine pst_draw P11 (by omega) (by decide) (by decide) fun v8 M12 P12 E12 hv8 hv8' => ?_
  repeat walk_at "d"
  refine rs_S (by decide +kernel) ?_
  generalize hws : cutS ("stop" : Str) none (some (1 + v8)) = ws
  have hwso : PyData.strOk ws = true := by
    have : v8 = 0 ∨ v8 = 1 ∨ v8 = 2 ∨ v8 = 3 := by omega
    rw [← hws]
    rcases this with rfl | rfl | rfl | rfl <;> decide +kernel
  repeat walk_at "d"
  refine w_lc (wpg_name (by decide)) (wi_rng1 ?_)
  repeat walk_at "d"
  refine pst_draw P12 (by omega) (by decide) (by decide) fun v9 M13 P13 E13 hv9 hv9' => ?_
  repeat walk_at "d"
  refine ⟨_, rfl, by omega, by omega, ?_⟩
  refine ⟨fun i acc M' => i ≤ 3 ∧ PSt M M' pp (n + 13 + i) ∧ ∃ os : List Int, acc = (os.map PyData.int).map Ent.d ∧ os.length = i, ⟨by decide, P13.mono (by omega), [], rfl, rfl⟩, fun _ _ _ _ _ _ _ => trivial, ?_, ?_⟩
  · rintro i e acc M' q he ⟨hi3, Pi, os, rfl, hos⟩ hq hq'
    obtain ⟨hir, rfl⟩ := rng0_at he
    have hpq := Pi.ne hq'
    obtain ⟨oi, hoi, hpi⟩ := Pi.pen
    repeat walk_at "d"
    refine ⟨rfl, pp, 9, n + 13 + i, oi, rfl, by rw [mupd_ne hpq]; exact hoi, hpi, by omega, by decide, by decide, fun v o' ho' hv hv' => ?_⟩
    repeat walk_at "d"
    refine ⟨mupd M' pp o', by rw [mupd_ne (Ne.symm hpq)]; exact hq', mupd_comm (Ne.symm hpq), by rw [map_len]; omega, by omega, ⟨⟨o', mupd_same, ho'⟩, fun a x ha hx => by rw [mupd_ne ha]; exact Pi.ext a x ha hx⟩, os ++ [v - 4], by simp, by simp; omega⟩
  rintro acc M14 ⟨hi3, P14, os, rfl, hos⟩
  rw [rngE_len] at P14 hos hi3
  refine isDs_map ?_
  have hos1 : 1 ≤ os.length := by omega
  have P14 := P14.mono (show n + 13 + (1 + v9).toNat ≤ n + 16 by omega)
  repeat walk_at "d"
  refine w_disp fun pa hpa => ?_
  refine w_str (w_str (w_str (w_str (w_str (w_str (w_str (w_str (w_str (w_str (w_str (w_str ?_)))))))))))
  refine ⟨mupd_same, acrK, rfl, Nat.le_of_ble_eq_true rfl, ?_⟩
  rw [mupd_mupd]
  have P15' := P14.new (x := .dK (mergeE [] acrK)) hpa
  have hne1 := P14.ne hpa
  generalize hM15 : mupd M14 pa (.dK (mergeE [] acrK)) = M15 at P15'
  have A15 : M15 pa = some (.dK (mergeE [] acrK)) := by rw [← hM15, mupd_same]
  clear hM15
  have P15 : PSt M15 M15 pp (n + 16) := ⟨P15'.pen, fun _ _ _ h => h⟩
  repeat walk_at "d"
  refine w_lstM ?_
  repeat walk_at "d"
  refine w_lstM ?_
  repeat walk_at "d"
  refine fun l0 hl0 => ?_
  have P16 := P15.new (x := .lst []) hl0
  have hne2 := P15.ne hl0
  repeat walk_at "d"
  refine w_lstM ?_
  repeat walk_at "d"
  refine fun l1 hl1 => ?_
  have P17 := P16.new (x := .lst []) hl1
  have hne3 := P16.ne hl1
  have hl01 : l0 ≠ l1 := fun e => by rw [← e, mupd_same] at hl1; cases hl1
  repeat walk_at "d"
  refine fun L hL => ?_
  have P18 := P17.new (x := .lst [.v (.ref l0), .v (.ref l1)]) hL
  have hne4 := P17.ne hL
  have hl0L : l0 ≠ L := fun e => by rw [← e, mupd_ne hl01, mupd_same] at hL; cases hL
  have hl1L : l1 ≠ L := fun e => by rw [← e, mupd_same] at hL; cases hL
  generalize hM18 : mupd (mupd (mupd M15 l0 (.lst [])) l1 (.lst [])) L (.lst [.v (.ref l0), .v (.ref l1)]) = M18 at P18
  have hMl1 : M15 l1 = none := by
    cases z : M15 l1 with
    | none => rfl
    | some x => rw [P16.ext _ x (Ne.symm hne3) z] at hl1; cases hl1
  have S0 : LS M15 M18 pp l0 l1 L (n + 16) 0 lo hi := by
    subst hM18
    exact ⟨P18, hne2, hne3, hne4, hl01, hl0L, hl1L, hl0, hMl1, mupd_same, ⟨[], by rw [mupd_ne hl0L, mupd_ne hl01, mupd_same]; rfl, (fun r h => by cases h), Nat.le_refl _⟩, ⟨[], by rw [mupd_ne hl1L, mupd_same]; rfl, (fun r h => by cases h), Nat.le_refl _⟩⟩
  clear hM18
  repeat walk_at "d"
  refine ru_for (wi_rng1 ?_)
  repeat walk_at "d"
  refine w_lst ?_
  repeat walk_at "d"
  refine ls_draw S0 (by omega) (by decide) (by decide) fun v10 M19 S1 hv10 hv10' => ?_
  repeat walk_at "d"
  refine ls_draw S1 (by omega) (by decide) (by decide) fun v11 M20 S2 hv11 hv11' => ?_
  obtain ⟨d, hd, hat⟩ := pick_at (ds := [PyData.int v10, PyData.int 9]) hv11 hv11'
  refine rw_ixLd hat ?_
  obtain ⟨turns, rfl, ht1, ht2⟩ : ∃ g : Int, d = .int g ∧ 0 ≤ g ∧ g ≤ 9 := by
    simp only [List.mem_cons, List.not_mem_nil, or_false] at hd
    rcases hd with rfl | rfl
    · exact ⟨_, rfl, by omega, by omega⟩
    · exact ⟨_, rfl, by omega, by omega⟩
  repeat walk_at "d"
  refine ⟨_, rfl, by omega, by omega, ?_⟩
  refine ⟨fun i G' M' => i ≤ 9 ∧ (∃ (now : Int) (a b c d e f g h k : Option Ent), lo ≤ now ∧ now ≤ hi ∧ G' = [some (.v (.ref pp)), some (.d (.int 9)), some (.d (.int gap)), some (.d (.int late)), some (.d (.int lo)), some (.d (.int hi)), some (.d (.int now)), some (.d (lnsD everyL)), some (.d (lnsD ls)), some (.d (.list [.str "up", .str ws])), some (.d (.list (os.map .int))), some (.v (.ref pa)), some (.v (.ref L)), a, b, c, d, e, f, g, h, k]) ∧ LS M15 M' pp l0 l1 L (n + 18 + 10 * i) (3 * i) lo hi,
    ⟨by decide, ⟨now, _, _, _, _, _, _, _, _, _, hn1, hn2, rfl⟩, S2⟩, fun _ _ _ _ => trivial, ?_, ?_⟩
  · rintro i e G' M' he ⟨hi9, ⟨nw, a, b, c, d, e', f', g, h', k, hw1, hw2, rfl⟩, S⟩
    obtain ⟨hir, rfl⟩ := rng0_at he
    have hi8 : i ≤ 8 := by omega
    refine gw_name ?_
    refine ru_cut (P := fun G' M' => (∃ (now : Int) (a b c d e f g h k : Option Ent), lo ≤ now ∧ now ≤ hi ∧ G' = [some (.v (.ref pp)), some (.d (.int 9)), some (.d (.int gap)), some (.d (.int late)), some (.d (.int lo)), some (.d (.int hi)), some (.d (.int now)), some (.d (lnsD everyL)), some (.d (lnsD ls)), some (.d (.list [.str "up", .str ws])), some (.d (.list (os.map .int))), some (.v (.ref pa)), some (.v (.ref L)), a, b, c, d, e, f, g, h, k]) ∧ LS M15 M' pp l0 l1 L (n + 18 + 10 * i + 3) (3 * i) lo hi) ?_ ?_
    · refine ru_asg ?_
      repeat walk_at "d"
      refine w_lst ?_
      repeat walk_at "d"
      refine ls_draw S (by omega) (by decide) (by decide) fun w1 N1 S1 hw1 hw1' => ?_
      repeat walk_at "d"
      refine ls_draw S1 (by omega) (by decide) (by decide) fun w2 N2 S2 hw2 hw2' => ?_
      repeat walk_at "d"
      refine ls_draw S2 (by omega) (by decide) (by decide) fun w3 N3 S3 hw3 hw3' => ?_
      obtain ⟨d, hd, hat⟩ := pick_at (ds := [PyData.int 0, PyData.int 0, PyData.int 1, PyData.int w1, PyData.int w2]) hw3 hw3'
      refine rw_ixLd hat ?_
      obtain ⟨stp, rfl, hst⟩ : ∃ g : Int, d = .int g ∧ 0 ≤ g := by
        simp only [List.mem_cons, List.not_mem_nil, or_false] at hd
        rcases hd with rfl | rfl | rfl | rfl | rfl
        · exact ⟨_, rfl, by omega⟩
        · exact ⟨_, rfl, by omega⟩
        · exact ⟨_, rfl, by omega⟩
        · exact ⟨_, rfl, by omega⟩
        · exact ⟨_, rfl, by omega⟩
      repeat walk_at "d"
      refine ⟨⟨_, _, _, _, _, _, _, _, _, _, ?_, ?_, rfl⟩, S3⟩
      · split <;> omega
      · split <;> omega
    · rintro G' M' ⟨⟨nw, a, b, c, d, e', f', g, h', k, hw1, hw2, rfl⟩, S⟩
      refine ru_seq (ru_asg ?_)
      repeat walk_at "d"
      refine ls_pick S (.inr rfl) (by omega) (by rw [List.length_map]; exact hls1) (by rw [List.length_map]; exact hls2) fun d N1 hd S1 => ?_
      obtain ⟨l, _, rfl⟩ := List.mem_map.mp hd
      refine gw_name ?_
      refine ru_cut (P := fun G' M' => (∃ (x : Wh) (a c d e f g h : Option Ent), (if l.tube then ∃ y, x = .s y else ∃ m, x = .i m) ∧ WOk x ∧ G' = [some (.v (.ref pp)), some (.d (.int 9)), some (.d (.int gap)), some (.d (.int late)), some (.d (.int lo)), some (.d (.int hi)), some (.d (.int nw)), some (.d (lnsD everyL)), some (.d (lnsD ls)), some (.d (.list [.str "up", .str ws])), some (.d (.list (os.map .int))), some (.v (.ref pa)), some (.v (.ref L)), a, some (.d (.str l.s)), some (.d (encW x)), c, d, e, f, g, h]) ∧ LS M15 M' pp l0 l1 L (n + 18 + 10 * i + 5) (3 * i) lo hi) ?_ ?_
      · refine ru_asg ?_
        repeat walk_at "d"
        refine w_lst ?_
        repeat walk_at "d"
        refine rw_inTS (ss := ["down", "up"]) rfl ?_
        rw [tube_in]
        repeat walk_at "d"
        cases ht : l.tube with
        | true =>
          refine rw_ixLd (d := .list [.str "up", .str ws]) rfl ?_
          repeat walk_at "d"
          refine ls_pick S1 (.inl rfl) (by omega) (Nat.le_of_ble_eq_true rfl) (Nat.lt_of_lt_of_le (Nat.lt_succ_self _) (Nat.le_of_ble_eq_true rfl)) fun d N2 hd S2 => ?_
          obtain ⟨y, rfl, hy⟩ : ∃ y : Str, d = .str y ∧ PyData.strOk y = true := by
            simp only [List.mem_cons, List.not_mem_nil, or_false] at hd
            rcases hd with rfl | rfl
            · exact ⟨_, rfl, by decide +kernel⟩
            · exact ⟨_, rfl, hwso⟩
          refine gw_name ?_
          exact ⟨⟨.s y, _, _, _, _, _, _, _, ⟨y, rfl⟩, hy, rfl⟩, S2⟩
        | false =>
          refine rw_ixLd (d := .list (os.map .int)) rfl ?_
          repeat walk_at "d"
          refine ls_pick S1 (.inl rfl) (by omega) (by rw [List.length_map]; exact hos1) (by rw [List.length_map]; omega) fun d N2 hd S2 => ?_
          obtain ⟨m, _, rfl⟩ := List.mem_map.mp hd
          refine gw_name ?_
          exact ⟨⟨.i m, _, _, _, _, _, _, _, ⟨m, rfl⟩, trivial, rfl⟩, S2⟩
      · rintro G' M' ⟨⟨x, a, c, d, e', f', g, h', hx1, hx2, rfl⟩, S⟩
        have hrow : ∀ (m : Int) (l2 : Ln), l2.tube = l.tube → lo ≤ m → m ≤ hi → RowOk ⟨m, l2, x⟩ ∧ WOk x ∧ lo ≤ m ∧ m ≤ hi := fun m l2 hl2 h1 h2 => ⟨by unfold RowOk; show if l2.tube = true then _ else _; rw [hl2]; exact hx1, hx2, h1, h2⟩
        refine ru_seq (ru_asg ?_)
        repeat walk_at "d"
        refine rw_inTS (ss := ["aport", "astar", "up"]) rfl ?_
        rw [back_in]
        generalize (!l.br) = hb
        refine wa_nil (rc_intB ?_)
        refine gw_name ?_
        refine ru_seq (ru_asg ?_)
        repeat walk_at "d"
        refine ls_draw S (by omega) (by decide) (by decide) fun wy N1 S1 hwy hwy' => ?_
        refine gw_name ?_
        refine ru_seq (ru_asg ?_)
        repeat walk_at "d"
        refine ls_draw S1 (by omega) (by omega) (by omega) fun w4 N2 S2 hw4 hw4' => ?_
        iterate 4 walk_at "d"
        obtain ⟨cm, hcm⟩ : ∃ cm : Int, cm = if nw + w4 < hi then nw + w4 else hi := ⟨_, rfl⟩
        have hcm2 : lo ≤ cm ∧ cm ≤ hi := by subst hcm; split <;> omega
        rw [← hcm]
        refine ru_cut (P := fun G' M' => (G' = [some (.v (.ref pp)), some (.d (.int 9)), some (.d (.int gap)), some (.d (.int late)), some (.d (.int lo)), some (.d (.int hi)), some (.d (.int nw)), some (.d (lnsD everyL)), some (.d (lnsD ls)), some (.d (.list [.str "up", .str ws])), some (.d (.list (os.map .int))), some (.v (.ref pa)), some (.v (.ref L)), a, some (.d (.str l.s)), some (.d (encW x)), some (.d (.int (if hb then 1 else 0))), some (.d (.int wy)), some (.d (.int cm)), f', g, h']) ∧ LS M15 M' pp l0 l1 L (n + 18 + 10 * i + 7) (3 * i + 1) lo hi) ?_ ?_
        · repeat walk_at "d"
          refine dec_ifn (fun h1 => ?_) (fun h1 => ?_)
          · repeat walk_at "d"
            refine ls_ix S2 hb rfl ⟨ls_ty S2 hb, ?_⟩
            repeat walk_at "d"
            refine ls_rm S2 hb (hrow nw l rfl hw1 hw2) (by omega) fun N3 S3 => ?_
            exact ⟨rfl, S3⟩
          · repeat walk_at "d"
            exact ⟨rfl, S2.mono (Nat.le_refl _) (by omega)⟩
        rintro G' M' ⟨rfl, S⟩
        refine ru_cut (P := fun G' M' => (∃ l2 : Ln, l2.tube = l.tube ∧ G' = [some (.v (.ref pp)), some (.d (.int 9)), some (.d (.int gap)), some (.d (.int late)), some (.d (.int lo)), some (.d (.int hi)), some (.d (.int nw)), some (.d (lnsD everyL)), some (.d (lnsD ls)), some (.d (.list [.str "up", .str ws])), some (.d (.list (os.map .int))), some (.v (.ref pa)), some (.v (.ref L)), a, some (.d (.str l2.s)), some (.d (encW x)), some (.d (.int (if hb then 1 else 0))), some (.d (.int wy)), some (.d (.int cm)), f', g, h']) ∧ LS M15 M' pp l0 l1 L (n + 18 + 10 * i + 7) (3 * i + 1) lo hi) ?_ ?_
        · repeat walk_at "d"
          refine dec_if (fun h1 => ?_) (fun h1 => ?_)
          · repeat walk_at "d"
            refine w_dget ?_
            repeat walk_at "d"
            refine ⟨.d (.str l.turn.s), ?_, ?_⟩
            · rw [← acrV]
              exact DG.k (Sum.inr l.s) (S.st.ext pa _ (Ne.symm hne1) A15)
            refine gw_name ?_
            exact ⟨⟨l.turn, by cases l <;> rfl, rfl⟩, S⟩
          · repeat walk_at "d"
            exact ⟨⟨l, rfl, rfl⟩, S⟩
        rintro G' M' ⟨⟨l2, hl2, rfl⟩, S⟩
        have hnot : (1 : Int) - (if hb = true then 1 else 0) = if (!hb) = true then 1 else 0 := by cases hb <;> rfl
        refine ru_cut (P := fun G' M' => (G' = [some (.v (.ref pp)), some (.d (.int 9)), some (.d (.int gap)), some (.d (.int late)), some (.d (.int lo)), some (.d (.int hi)), some (.d (.int nw)), some (.d (lnsD everyL)), some (.d (lnsD ls)), some (.d (.list [.str "up", .str ws])), some (.d (.list (os.map .int))), some (.v (.ref pa)), some (.v (.ref L)), a, some (.d (.str l2.s)), some (.d (encW x)), some (.d (.int (if hb then 1 else 0))), some (.d (.int wy)), some (.d (.int cm)), f', g, h']) ∧ LS M15 M' pp l0 l1 L (n + 18 + 10 * i + 7) (3 * i + 2) lo hi) ?_ ?_
        · repeat walk_at "d"
          refine dec_ifn (fun h1 => ?_) (fun h1 => ?_)
          · repeat walk_at "d"
            refine ls_ix S (!hb) hnot ⟨ls_ty S (!hb), ?_⟩
            repeat walk_at "d"
            refine ls_rm S (!hb) (hrow cm l2 hl2 hcm2.1 hcm2.2) (by omega) fun N3 S3 => ?_
            exact ⟨rfl, S3⟩
          · repeat walk_at "d"
            exact ⟨rfl, S.mono (Nat.le_refl _) (by omega)⟩
        rintro G' M' ⟨rfl, S⟩
        repeat walk_at "d"
        refine dec_if (fun h1 => ?_) (fun h1 => ?_)
        · repeat walk_at "d"
          refine ls_ix S (!hb) hnot ⟨ls_ty S (!hb), ?_⟩
          repeat walk_at "d"
          refine ls_draw S (by omega) (by omega) (by omega) fun w5 N3 S3 hw5 hw5' => ?_
          repeat walk_at "d"
          obtain ⟨c2, hc2⟩ : ∃ c2 : Int, c2 = if cm + w5 < hi then cm + w5 else hi := ⟨_, rfl⟩
          have hc22 : lo ≤ c2 ∧ c2 ≤ hi := by subst hc2; split <;> omega
          rw [← hc2]
          refine ls_rm S3 (!hb) (hrow c2 l2 hl2 hc22.1 hc22.2) (by omega) fun N4 S4 => ?_
          exact ⟨by omega, ⟨nw, _, _, _, _, _, _, _, _, _, hw1, hw2, rfl⟩, S4.mono (by omega) (by omega)⟩
        · repeat walk_at "d"
          exact ⟨by omega, ⟨nw, _, _, _, _, _, _, _, _, _, hw1, hw2, rfl⟩, S.mono (by omega) (by omega)⟩
  · rintro G' M' ⟨hi9, ⟨nw, a, b, c, d, e', f', g, h', k, hw1, hw2, rfl⟩, S⟩
    rw [rngE_len] at S hi9
    have tab : M' tL = some (.tab qL) := S.st.ext tL _ hpt (P15'.ext tL _ hpt htL)
    obtain ⟨r0, e0, g0, z0⟩ := S.h0
    obtain ⟨r1, e1, g1, z1⟩ := S.h1
    have good : ∀ (rs zs : List Row), GoodR lo hi rs → List.Perm zs (cutG rs none (some 40)) → GoodR lo hi zs ∧ zs.length ≤ 40 := fun rs zs g hp => ⟨fun r hr => g r (cut_mem (hp.mem_iff.mp hr)), by rw [hp.length_eq]; exact cut40⟩
    repeat walk_at "d"
    refine w_sortKey ?_
    repeat walk_at "d"
    refine ls_ix S false rfl ?_
    repeat walk_at "d"
    refine rs_L (ds := r0.map encRow) (seqL_m e0) ?_
    rw [cut_map]
    repeat walk_at "d"
    refine ⟨tab, _, _, rfl, seqL_d, fun d hd => ?_, sortOk_keyR _, ?_⟩
    · obtain ⟨x, _, rfl⟩ := List.mem_map.mp hd
      exact ⟨_, _, rfl⟩
    obtain ⟨za, hza, hea⟩ := sorted_rows (rs := cutG r0 none (some 40)) (r := PySem.W.dataLe false keyR)
    rw [hea]
    obtain ⟨ga, la⟩ := good _ _ g0 hza
    repeat walk_at "d"
    refine w_sortKey ?_
    repeat walk_at "d"
    refine ls_ix S true rfl ?_
    repeat walk_at "d"
    refine rs_L (ds := r1.map encRow) (seqL_m e1) ?_
    rw [cut_map]
    repeat walk_at "d"
    refine ⟨tab, _, _, rfl, seqL_d, fun d hd => ?_, sortOk_keyR _, ?_⟩
    · obtain ⟨x, _, rfl⟩ := List.mem_map.mp hd
      exact ⟨_, _, rfl⟩
    obtain ⟨zb, hzb, heb⟩ := sorted_rows (rs := cutG r1 none (some 40)) (r := PySem.W.dataLe false keyR)
    rw [heb]
    obtain ⟨gb, lb⟩ := good _ _ g1 hzb
    refine gw_name ?_
    refine ru_ret (w_postsub ?_)
    repeat walk_at "d"
    refine w_lcE (α := Row) (wpg_tup (wpgs_cons (by decide) (wpgs_cons (by decide) (wpgs_cons (by decide) wpgs_nil)))) (wi_listD ?_)
    repeat walk_at "d"
    refine ⟨_, rfl, zb, encRow, fun r => encRow (mv gap r), rfl, by omega, fun _ _ _ => trivial, fun i x q acc hx hq => ?_, ?_⟩
    · repeat walk_at "d"
      refine ⟨rfl, ?_⟩
      repeat walk_at "d"
      exact ⟨rfl, rfl⟩
    repeat walk_at "d"
    have fin : PSt M M' pp (n + 200) := ⟨(S.st.mono (by omega)).pen, fun a x ha hx => S.st.ext a x ha (P15'.ext a x ha hx)⟩
    obtain ⟨o', ho', hsub⟩ := fin.fin
    refine ⟨_, hsub, ?_⟩
    have hmv : (zb.map fun r => encRow (mv gap r)) = (zb.map (mv gap)).map encRow := by rw [List.map_map]; rfl
    rw [hmv]
    refine h za (zb.map (mv gap)) gap late o' ho' (fun r hr => ⟨(ga r hr).1, (ga r hr).2.1⟩) (fun r hr => ?_) la (by rw [List.length_map]; exact lb) (fun r hr => ?_) (fun r hr => ?_)
    · obtain ⟨x, hx, rfl⟩ := List.mem_map.mp hr
      exact ⟨(gb x hx).1, (gb x hx).2.1⟩
    · have := ga r hr
      exact ⟨by omega, by omega⟩
    · obtain ⟨x, hx, rfl⟩ := List.mem_map.mp hr
      have := gb x hx
      exact ⟨by show 0 ≤ x.m + gap; omega, by show x.m + gap ≤ 99999; omega⟩
end DL


namespace DL
open PySem PySem.Spec PyProof.Rows L2
local macro_rules
  | `(tactic| walk_at "d") => `(tactic| first
    | with_reducible refine ru_seq ?_
    | with_reducible refine ru_asg ?_
    | with_reducible refine ru_ret ?_
    | with_reducible refine ru_if ?_
    | with_reducible refine ru_next ?_
    | with_reducible refine ru_cont ?_
    | with_reducible refine ru_break ?_
    | with_reducible refine ru_dropE ?_
    | with_reducible refine gw_name ?_
    | with_reducible refine gw_tup rfl ?_
    | with_reducible refine gws_consM ?_
    | with_reducible refine gws_nilM ?_
    | with_reducible refine gws_cons ?_
    | with_reducible refine gws_nil ?_
    | with_reducible refine w_var (by with_unfolding_all rfl) ?_
    | with_reducible refine w_int ?_
    | with_reducible refine w_str ?_
    | with_reducible refine w_bl ?_
    | with_reducible refine w_non ?_
    | with_reducible refine w_ref ?_
    | with_reducible refine w_ty ?_
    | with_reducible refine w_op ?_
    | with_reducible refine w_chain ?_
    | with_reducible refine w_cb ?_
    | with_reducible refine w_call0 ?_
    | with_reducible refine w_bm ?_
    | with_reducible refine w_neg ?_
    | with_reducible refine w_ckw ?_
    | with_reducible refine w_andV ?_
    | with_reducible refine w_orV ?_
    | with_reducible refine w_notV ?_
    | with_reducible refine w_sl ?_
    | with_reducible refine w_tup ?_
    | with_reducible refine wo_none ?_
    | with_reducible refine wt_test ?_
    | with_reducible refine wt_B ?_
    | with_reducible refine wt_and ?_
    | with_reducible refine wt_or ?_
    | with_reducible refine wt_not ?_
    | with_reducible refine wt_yes ?_
    | with_reducible refine wa_cons ?_
    | with_reducible refine wa_nil ?_
    | with_reducible refine isB ?_
    | with_reducible refine isI ?_
    | with_reducible refine wo_someI ?_
    | with_reducible refine rs_T ?_
    | with_reducible refine isDs_cons ?_
    | with_reducible refine isDs_nil ?_
    | with_reducible refine ⟨Nat.le_of_ble_eq_true (by with_unfolding_all rfl), ?_⟩
    | with_reducible refine rw_I0 ?_
    | with_reducible refine rw_B0 ?_
    | with_reducible refine rw_I (cmulL (by decide) (by decide)) ?_
    | with_reducible refine rw_I (cmulR (by decide) (by decide)) ?_
    | with_reducible refine rw_I (cpowI (by decide) (by decide) (by decide)) ?_
    | with_reducible refine rw_I (cdivI (by decide) (by decide)) ?_
    | with_reducible refine rw_I (C := fun _ j => 0 < j) (by show (0 : Int) < _; decide) ?_
    | with_reducible refine rw_eqI ?_
    | with_reducible refine rw_eqL ?_
    | with_reducible refine rw_eqH ?_
    | with_reducible refine rw_eqW ?_
    | with_reducible refine rw_eqS ?_
    | with_reducible refine rw_eqB ?_
    | with_reducible refine rw_eqSN ?_
    | with_reducible refine rw_neI ?_
    | with_reducible refine rw_neW ?_
    | with_reducible refine rw_neS ?_
    | with_reducible refine rw_isN ?_
    | with_reducible refine rw_notN ?_
    | with_reducible refine rw_ixLog (by assumption) ?_
    | with_reducible refine rw_ixTd (by with_unfolding_all rfl) ?_
    | with_reducible refine rw_ixLd (by with_unfolding_all rfl) ?_
    | with_reducible refine rc_lenMT ?_
    | with_reducible refine rc_lenML ?_
    | with_reducible refine rc_lenT seqT_d ?_
    | with_reducible refine rc_lenL seqL_d ?_
    | with_reducible refine rc_abs ?_
    | with_reducible refine rc_max2 ?_
    | with_reducible refine rc_min2 ?_
    | with_reducible refine rc_intB ?_
    | with_reducible refine rc_tupL seqL_d ?_
    | with_reducible refine iteT ?_
    | with_reducible refine iteF ?_
    | with_reducible refine iteNT ?_
    | with_reducible refine iteNF ?_)
structure GS (br rm : List Row) (M M' : Mh) (pp f : Addr) (n : Nat) : Prop where
  st : PSt M M' pp n
  d : pp ≠ f
  mf : M f = none
  h : ∃ qs : List (Nat × Nat), M' f = some (.lst ((qs.map encP).map Ent.d)) ∧ Pairs br rm qs
theorem GS.mono {br rm : List Row} {M M' : Mh} {pp f : Addr} {n m : Nat} (h : GS br rm M M' pp f n) (hm : n ≤ m) : GS br rm M M' pp f m := ⟨h.st.mono hm, h.d, h.mf, h.h⟩
theorem nodup_lt : ∀ {n : Nat} {xs : List Nat}, xs.Nodup → (∀ x ∈ xs, x < n) → xs.length ≤ n
  | 0, xs, _, h => by
    cases xs with
    | nil => exact Nat.le_refl _
    | cons x xs => exact absurd (h x List.mem_cons_self) (Nat.not_lt_zero _)
  | n + 1, xs, hn, h => by
    have h2 := nodup_lt (n := n) (xs := xs.erase n) (hn.erase n) fun x hx => by
      have h3 := h x (List.mem_of_mem_erase hx)
      have h4 : x ≠ n := fun e => by
        rw [e] at hx
        exact (List.Nodup.not_mem_erase hn) hx
      omega
    rw [List.length_erase] at h2
    split at h2 <;> omega
theorem Pairs.len {br rm : List Row} {ps : List (Nat × Nat)} (h : Pairs br rm ps) : ps.length ≤ br.length := by
  have := nodup_lt (n := br.length) h.nd1 fun x hx => by
    obtain ⟨p, hp, rfl⟩ := List.mem_map.mp hx
    exact (h.lt p hp).1
  rwa [List.length_map] at this
theorem Pairs.add {br rm : List Row} {qs : List (Nat × Nat)} {b r : Nat} (h : Pairs br rm qs) (hs : Same br rm (b, r)) (h1 : ∀ x ∈ qs, x.1 ≠ b) (h2 : ∀ x ∈ qs, x.2 ≠ r) : Pairs br rm (qs ++ [(b, r)]) := by
  refine ⟨fun p hp => ?_, fun p hp => ?_, ?_, ?_⟩
  · rcases List.mem_append.mp hp with hp | hp
    · exact h.lt p hp
    · rw [List.mem_singleton.mp hp]; exact ⟨hs.1, hs.2.1⟩
  · rcases List.mem_append.mp hp with hp | hp
    · exact h.same p hp
    · rw [List.mem_singleton.mp hp]; exact hs.2.2
  · rw [List.map_append, List.nodup_append]
    refine ⟨h.nd1, by simp, fun a ha c hc => ?_⟩
    obtain ⟨p, hp, rfl⟩ := List.mem_map.mp ha
    have : c = b := by simpa using hc
    rw [this]
    exact h1 p hp
  · rw [List.map_append, List.nodup_append]
    refine ⟨h.nd2, by simp, fun a ha c hc => ?_⟩
    obtain ⟨p, hp, rfl⟩ := List.mem_map.mp ha
    have : c = r := by simpa using hc
    rw [this]
    exact h2 p hp
theorem Pairs.nil {br rm : List Row} : Pairs br rm [] := ⟨fun p h => (by cases h), fun p h => (by cases h), List.nodup_nil, List.nodup_nil⟩
abbrev s_greedy : Stmt := topS 51
abbrev N_greedy : List Str := ["_law_pen_here", "_law_above", "_law_below", "_law_gap", "_law_late", "_law_share", "_law_found", "_law_b", "_law_r", "_law_bad", "_law_c", "_law_s"]
abbrev p_greedy : List Str := ["_law_pen_here", "_law_above", "_law_below", "_law_gap", "_law_late"]
theorem sc_greedy : FnScope N_greedy p_greedy (defScope s_greedy) := ⟨rfl, rfl, rfl, by decide +kernel, rfl, by decide +kernel, by decide +kernel⟩

def sp_greedy : Spec := fun M es R => es.length = 5 ∧ ∃ (pp : Addr) (n : Nat) (o : MO) (br rm : List Row) (gap late : Int), es = [.v (.ref pp), .d (encLog br), .d (encLog rm), .d (.int gap), .d (.int late)] ∧ M pp = some o ∧ PenO n o ∧ n ≤ 100000 ∧ LogOk br ∧ LogOk rm ∧ br.length ≤ 40 ∧ rm.length ≤ 40 ∧
  ∀ (ps : List (Nat × Nat)) (o' : MO), PenO (n + 1700) o' → Pairs br rm ps → R (.d (encPs ps)) (mupd M pp o')
theorem ok_greedy {P : Program} {w : World} {K : PySem.W.Frag} {mg : Str → Option Value} {base : Heap} {aD aS aB aE : Addr}  {f : Addr} {fd : FuncData} (F : FunD K "_law_greedy" "_law_greedy" s_greedy f fd) (T : Gb w K mg aD aS aB aE) (c_pick : Cd P w K mg base 2 "_law_pick" sp_pick []) (c_fits : Cd P w K mg base 1 "_law_fits" sp_fits []) (c_draw : Cd P w K mg base 1 "_law_draw" sp_draw []) : FnOk P w K mg base CX0 3 f fd p_greedy (PSp K sp_greedy) := by
  refine okD F sc_greedy (fun M es R h => h.1) (fun cdv A outer s H E hr => ⟨_, (pss_cons (ps_set (i := 5) sc_greedy.nd rfl (Or.inl rfl) (e_def P w K mg base rfl rfl rfl rfl rfl c_pick hr (by decide) (by rfl) (pa_cons (pv 0) (pa_cons (pe_lst (pa_cons pe_int (pa_cons pe_int (pa_cons pe_int pa_nil)))) pa_nil))))
    (pss_cons (ps_set (i := 6) sc_greedy.nd rfl (Or.inl rfl) (pe_lst pa_nil))
    (pss_cons (ps_for PassesOwn.never rfl (pi_range1 (by rfl) T.range (pa_cons (e_len K rfl T.len (by rfl) (pa_cons (pv 1) pa_nil)) pa_nil)) (pg_name (i := 7) sc_greedy.nd rfl (Or.inr rfl)) (pss_one (ps_for PassesOwn.never rfl (pi_range1 (by rfl) T.range (pa_cons (e_len K rfl T.len (by rfl) (pa_cons (pv 2) pa_nil)) pa_nil)) (pg_name (i := 8) sc_greedy.nd rfl (Or.inr rfl)) (pss_one (ps_if (pt_val (e_def P w K mg base rfl rfl rfl rfl rfl c_fits hr (by decide) (by rfl) (pa_cons (pv 1) (pa_cons (pv 2) (pa_cons (pv 7) (pa_cons (pv 8) (pa_cons (pv 3) (pa_cons (pv 4) pa_nil)))))))) (pss_cons (ps_setLc (i := 9) (own := [("_law_c", 10), ("_law_s", 11)]) (g := (gTup K 2 (gCons (gName 10) (gCons (gName 11) gNil)))) rfl sc_greedy.nd rfl rfl (sw_true rfl rfl rfl (by decide +kernel)) (i_list K rfl (pv 6)) (blkOk_by (own := [("_law_c", 10), ("_law_s", 11)]) (N := N_greedy) (sc := defScope s_greedy) (by decide +kernel)) (fun _ _ _ _ _ => (g_tup K rfl 2 rfl (pgs_cons (pg_name (i := 10) sc_greedy.nd rfl (Or.inl rfl)) (pgs_cons (pg_name (i := 11) sc_greedy.nd rfl (Or.inl rfl)) pgs_nil)))) (fun _ _ _ _ _ => (pts_one (PW.pt (pw_or (pt_cmpR op_eq (pv 10) (pv 7) (nomark _)) (pw_or (pt_cmpR op_eq (pv 11) (pv 8) (nomark _)) (pw_or1 (PW.pt (pw_and (pt_cmpR op_eq (e_ixT K rfl (e_ixT K rfl (pv 1) (pv 10) (fun _ _ => rfl)) pe_int (fun _ _ => rfl)) (e_ixT K rfl (e_ixT K rfl (pv 1) (pv 7) (fun _ _ => rfl)) pe_int (fun _ _ => rfl)) (nomark _)) (pw_and1 (pt_cmpR op_gt (pv 11) (pv 8) (nomark _))))))))))) (fun _ _ _ _ _ => pe_int))
    (pss_one (ps_if (PW.pt (pw_and (c_eqD K rfl hr (pv 9) (pe_lst pa_nil)) (pw_and1 (pt_cmpR op_gt (e_def P w K mg base rfl rfl rfl rfl rfl c_draw hr (by decide) (by rfl) (pa_cons (pv 0) (pa_cons (pv 5) pa_nil))) pe_int (nomark _))))) (pss_one (ps_expr (e_app K rfl (pv 6) (pa_cons (pe_tup (pa_cons (pv 7) (pa_cons (pv 8) pa_nil))) pa_nil)))) pss_nil))) pss_nil)))))
    (pss_one (ps_ret (pv 6)))))), fun M es R h => ?_⟩)
  obtain ⟨_, h⟩ := h
  obtain ⟨pp, n, o, br, rm, gap, late, rfl, hp, ho, hn, o1, o2, l1, l2, h⟩ := h
  have sz : sizeLine = 16777216 := rfl
  have P0 := PSt.start hp ho
  repeat walk_at "d"
  refine w_lst ?_
  repeat walk_at "d"
  refine pst_pick P0 (.inl rfl) (by omega) (Nat.le_of_ble_eq_true rfl) (Nat.lt_of_lt_of_le (Nat.lt_succ_self _) (Nat.le_of_ble_eq_true rfl)) fun d M1 hd P1 E1 => ?_
  obtain ⟨share, rfl, hs1, hs2⟩ : ∃ g : Int, d = .int g ∧ 2 ≤ g ∧ g ≤ 99 := by
    simp only [List.mem_cons, List.not_mem_nil, or_false] at hd
    rcases hd with rfl | rfl | rfl
    · exact ⟨_, rfl, by omega, by omega⟩
    · exact ⟨_, rfl, by omega, by omega⟩
    · exact ⟨_, rfl, by omega, by omega⟩
  repeat walk_at "d"
  refine w_lstM ?_
  repeat walk_at "d"
  refine fun f hf => ?_
  have hne := P1.ne hf
  have hMf : M f = none := by rw [← E1 f (Ne.symm hne)]; exact hf
  have G0 : GS br rm M (mupd M1 f (.lst [])) pp f (n + 1) := ⟨P1.new hf, hne, hMf, [], mupd_same, Pairs.nil⟩
  repeat walk_at "d"
  refine ru_for (wi_rng1 ?_)
  repeat walk_at "d"
  refine ⟨_, rfl, by omega, by omega, ?_⟩
  rw [Int.toNat_natCast]
  refine ⟨fun i G' M' => i ≤ 40 ∧ (∃ a b c d e : Option Ent, G' = [some (.v (.ref pp)), some (.d (encLog br)), some (.d (encLog rm)), some (.d (.int gap)), some (.d (.int late)), some (.d (.int share)), some (.v (.ref f)), a, b, c, d, e]) ∧ GS br rm M M' pp f (n + 1 + i * 40), ⟨by decide, ⟨_, _, _, _, _, rfl⟩, G0.mono (by omega)⟩, fun _ _ _ _ => trivial, ?_, ?_⟩
  · rintro i e G' M' he ⟨hi0, ⟨a, b, c, d, e', rfl⟩, g⟩
    obtain ⟨hi, rfl⟩ := rng0_at he
    repeat walk_at "d"
    refine ru_for (wi_rng1 ?_)
    repeat walk_at "d"
    refine ⟨_, rfl, by omega, by omega, ?_⟩
    rw [Int.toNat_natCast]
    refine ⟨fun j G' M' => j ≤ 40 ∧ (∃ b c d e : Option Ent, G' = [some (.v (.ref pp)), some (.d (encLog br)), some (.d (encLog rm)), some (.d (.int gap)), some (.d (.int late)), some (.d (.int share)), some (.v (.ref f)), some (.d (natD i)), b, c, d, e]) ∧ GS br rm M M' pp f (n + 1 + i * 40 + j), ⟨by omega, ⟨_, _, _, _, rfl⟩, g⟩, fun _ _ _ _ => trivial, ?_, ?_⟩
    · rintro j e G' M' he ⟨hj0, ⟨b, c, d, e', rfl⟩, g⟩
      obtain ⟨hj, rfl⟩ := rng0_at he
      repeat walk_at "d"
      refine ⟨rfl, br, rm, i, j, gap, late, rfl, hi, hj, o1, o2, fun v hv => ?_⟩
      refine isB (bool_if (fun h1 => ?_) (fun h1 => ?_))
      · have hsame := hv h1
        obtain ⟨qs, hqs, hP⟩ := g.h
        have hql := hP.len
        repeat walk_at "d"
        refine w_lcF (α := Nat × Nat) (wpg_tup (wpgs_cons (by decide) (wpgs_cons (by decide) wpgs_nil))) (wi_listM ?_)
        repeat walk_at "d"
        refine ⟨f, _, rfl, hqs, qs, encP, fun _ => .int 1, fun x => decide ((x.1 : Int) = (i : Int)) || (decide ((x.2 : Int) = (j : Int)) || (decide ((rowAt br x.1).l = (rowAt br i).l) && decide ((j : Int) < (x.2 : Int)))), rfl, by omega, fun q acc hq => ?_, fun k x q acc hx hq => ?_, ?_⟩
        · have : f ≠ q := fun e => by rw [← e, hqs] at hq; cases hq
          show mupd M' q acc f = _
          rw [mupd_ne this]
          exact hqs
        · have hxl := (hP.lt x (List.mem_of_getElem? hx)).1
          repeat walk_at "d"
          refine dec_if (fun z1 => ?_) (fun z1 => ?_)
          · refine ⟨rfl, by dsimp only; rw [decide_eq_true z1]; rfl, fun _ => ?_⟩
            repeat walk_at "d"
            exact ⟨rfl, rfl⟩
          · repeat walk_at "d"
            refine dec_if (fun z2 => ?_) (fun z2 => ?_)
            · refine ⟨rfl, by dsimp only; rw [decide_eq_true z2, Bool.true_or, Bool.or_true], fun _ => ?_⟩
              repeat walk_at "d"
              exact ⟨rfl, rfl⟩
            · repeat walk_at "d"
              refine dec_if (fun z3 => ?_) (fun z3 => ?_)
              · repeat walk_at "d"
                refine ⟨rfl, by dsimp only; rw [decide_eq_false z1, decide_eq_false z2, decide_eq_true z3, Bool.false_or, Bool.false_or, Bool.true_and], fun _ => ?_⟩
                repeat walk_at "d"
                exact ⟨rfl, rfl⟩
              · refine ⟨rfl, by dsimp only; rw [decide_eq_false z1, decide_eq_false z2, decide_eq_false z3]; rfl, fun _ => ?_⟩
                repeat walk_at "d"
                exact ⟨rfl, rfl⟩
        · repeat walk_at "d"
          refine w_lst ?_
          repeat walk_at "d"
          refine rw_eqD asD_d asD_d (Sh.shaped (n := 1) (sh_list (sh_map fun _ _ => sh_int)) (by decide)) (Sh.shaped (n := 1) (sh_list all_nil) (by decide)) ?_
          rw [eqv_nil]
          refine isB (bool_if (fun hb => ?_) (fun hb => ?_))
          · have hno : ∀ x ∈ qs, x.1 ≠ i ∧ x.2 ≠ j := fun x hx => by
              rw [List.isEmpty_iff, List.map_eq_nil_iff, List.filter_eq_nil_iff] at hb
              have := hb x hx
              rw [Bool.not_eq_true, Bool.or_eq_false_iff, Bool.or_eq_false_iff, decide_eq_false_iff_not, decide_eq_false_iff_not] at this
              omega
            repeat walk_at "d"
            refine pst_draw g.st (by omega) (by omega) (by omega) fun v2 M2 P2 E2 _ _ => ?_
            have hM2f : M2 f = some (.lst ((qs.map encP).map Ent.d)) := by rw [E2 f (Ne.symm g.d)]; exact hqs
            repeat walk_at "d"
            refine dec_if (fun _ => ?_) (fun _ => ?_)
            · repeat walk_at "d"
              refine ⟨ty_l (seqL_m hM2f), ?_⟩
              repeat walk_at "d"
              refine rm_append hM2f (by rw [map_len]; omega) ?_
              refine ⟨by omega, ⟨_, _, _, _, rfl⟩, ?_⟩
              obtain ⟨oo, hoo, hpo⟩ := P2.pen
              refine ⟨⟨⟨oo, by rw [mupd_ne g.d]; exact hoo, hpo⟩, fun a x ha hx => ?_⟩, g.d, g.mf, qs ++ [(i, j)], by rw [mupd_same]; simp, hP.add hsame (fun x hx => (hno x hx).1) (fun x hx => (hno x hx).2)⟩
              have : a ≠ f := fun e => by rw [e, g.mf] at hx; cases hx
              rw [mupd_ne this]
              exact P2.ext a x ha hx
            · repeat walk_at "d"
              exact ⟨by omega, ⟨_, _, _, _, rfl⟩, P2, g.d, g.mf, qs, hM2f, hP⟩
          · repeat walk_at "d"
            exact ⟨by omega, ⟨_, _, _, _, rfl⟩, g.mono (by omega)⟩
      · repeat walk_at "d"
        exact ⟨by omega, ⟨_, _, _, _, rfl⟩, g.mono (by omega)⟩
    · rintro G' M' ⟨hj0, ⟨b, c, d, e', rfl⟩, g⟩
      rw [rngE_len] at g
      exact ⟨by omega, ⟨_, _, _, _, _, rfl⟩, g.mono (by omega)⟩
  · rintro G' M' ⟨hi0, ⟨a, b, c, d, e', rfl⟩, g⟩
    rw [rngE_len] at g
    obtain ⟨qs, hqs, hP⟩ := g.h
    have g2 := g.st.mono (show n + 1 + br.length * 40 ≤ n + 1700 by omega)
    obtain ⟨o', ho', hsub⟩ := g2.fin
    refine ru_ret (w_postsub (w_varF (ds := qs.map encP) rfl hqs ⟨mupd M pp o', ?_, h qs o' ho' hP⟩))
    exact hsub.del (by rw [mupd_ne (Ne.symm g.d)]; exact g.mf)
abbrev s_pairs : Stmt := topS 52
abbrev N_pairs : List Str := ["_law_pen_here", "_law_above", "_law_below", "_law_gap", "_law_late", "_law_drawn", "_law_told"]
abbrev p_pairs : List Str := ["_law_pen_here", "_law_above", "_law_below", "_law_gap", "_law_late"]
theorem sc_pairs : FnScope N_pairs p_pairs (defScope s_pairs) := ⟨rfl, rfl, rfl, by decide +kernel, rfl, by decide +kernel, by decide +kernel⟩

def sp_pairs (tR : Addr) : Spec := fun M es R => es.length = 5 ∧ ∃ (pp : Addr) (n : Nat) (o : MO) (br rm : List Row) (gap late : Int), es = [.v (.ref pp), .d (encLog br), .d (encLog rm), .d (.int gap), .d (.int late)] ∧ M pp = some o ∧ PenO n o ∧ n ≤ 100000 ∧ LogOk br ∧ LogOk rm ∧ br.length ≤ 40 ∧ rm.length ≤ 40 ∧ M tR = some (.tab qR) ∧
  ∀ (ps : List (Nat × Nat)) (o' : MO), PenO (n + 1701) o' → Pairs br rm ps → R (.d (encPs ps)) (mupd M pp o')
theorem ok_pairs {P : Program} {w : World} {K : PySem.W.Frag} {mg : Str → Option Value} {base : Heap} {aD aS aB aE : Addr} {tR : Addr} {f : Addr} {fd : FuncData} (F : FunD K "_law_pairs" "_law_pairs" s_pairs f fd) (T : Gb w K mg aD aS aB aE) (c_greedy : Cd P w K mg base 3 "_law_greedy" sp_greedy []) (c_joining : Cd P w K mg base 8 "joining" (sp_joining tR) []) (c_pick : Cd P w K mg base 2 "_law_pick" sp_pick []) : FnOk P w K mg base CX0 9 f fd p_pairs (PSp K (sp_pairs tR)) := by
  refine okD F sc_pairs (fun M es R h => h.1) (fun cdv A outer s H E hr => ⟨_, (pss_cons (ps_set (i := 5) sc_pairs.nd rfl (Or.inl rfl) (e_def P w K mg base rfl rfl rfl rfl rfl c_greedy hr (by decide) (by rfl) (pa_cons (pv 0) (pa_cons (pv 1) (pa_cons (pv 2) (pa_cons (pv 3) (pa_cons (pv 4) pa_nil)))))))
    (pss_cons (ps_set (i := 6) sc_pairs.nd rfl (Or.inl rfl) (pv 5))
    (pss_cons (ps_if (pt_cmpR op_le (pe_op op_mul (e_len K rfl T.len (by rfl) (pa_cons (pv 1) pa_nil)) (e_len K rfl T.len (by rfl) (pa_cons (pv 2) pa_nil))) pe_int (nomark _)) (pss_one (ps_set (i := 6) sc_pairs.nd rfl (Or.inl rfl) (e_def P w K mg base rfl rfl rfl rfl rfl c_joining hr (by decide) (by rfl) (pa_cons (pv 1) (pa_cons (pv 2) (pa_cons (pv 3) (pa_cons (pv 4) pa_nil))))))) pss_nil)
    (pss_one (ps_ret (e_def P w K mg base rfl rfl rfl rfl rfl c_pick hr (by decide) (by rfl) (pa_cons (pv 0) (pa_cons (pe_lst (pa_cons (pv 5) (pa_cons (pv 5) (pa_cons (pv 6) (pa_cons (pe_lst pa_nil) pa_nil))))) pa_nil)))))))), fun M es R h => ?_⟩)
  obtain ⟨_, h⟩ := h
  obtain ⟨pp, n, o, br, rm, gap, late, rfl, hp, ho, hn, o1, o2, l1, l2, htR, h⟩ := h
  have htp : tR ≠ pp := fun e => by
    obtain ⟨xs, a, b, e2, _⟩ := ho
    rw [e, hp, e2] at htR
    cases htR
  repeat walk_at "d"
  refine ⟨rfl, pp, n, o, br, rm, gap, late, rfl, hp, ho, hn, o1, o2, l1, l2, fun qs o1' ho1 hP => ?_⟩
  iterate 5 walk_at "d"
  refine ru_cut (P := fun G' M' => M' = mupd M pp o1' ∧ ∃ ps : List (Nat × Nat), Pairs br rm ps ∧ G' = [some (.v (.ref pp)), some (.d (encLog br)), some (.d (encLog rm)), some (.d (.int gap)), some (.d (.int late)), some (.d (encPs qs)), some (.d (encPs ps))]) ?_ ?_
  · repeat walk_at "d"
    refine rw_I (cmulL (by omega) (by omega)) ?_
    repeat walk_at "d"
    refine dec_if (fun h1 => ?_) (fun h1 => ?_)
    · repeat walk_at "d"
      have hmul : br.length * rm.length ≤ 1000 := by
        have : ((br.length * rm.length : Nat) : Int) ≤ 400 := by rw [Int.natCast_mul]; exact h1
        omega
      refine ⟨rfl, br, rm, gap, late, rfl, by omega, by omega, hmul, o1, o2, by rw [mupd_ne htp]; exact htR, fun ps hps => ?_⟩
      repeat walk_at "d"
      exact ⟨rfl, ps, hps, rfl⟩
    · repeat walk_at "d"
      exact ⟨rfl, qs, hP, rfl⟩
  · rintro G' M' ⟨rfl, ps, hps, rfl⟩
    repeat walk_at "d"
    refine w_lst ?_
    repeat walk_at "d"
    refine w_lst ?_
    repeat walk_at "d"
    refine ⟨rfl, pp, _, n + 1700, o1', _, rfl, .inl rfl, mupd_same, ho1, by omega, Nat.le_of_ble_eq_true rfl, Nat.lt_of_lt_of_le (Nat.lt_succ_self _) (Nat.le_of_ble_eq_true rfl), fun d o' hd ho' => ?_⟩
    rw [mupd_mupd]
    simp only [List.mem_cons, List.not_mem_nil, or_false] at hd
    rcases hd with rfl | rfl | rfl | rfl
    · exact h qs o' ho' hP
    · exact h qs o' ho' hP
    · exact h ps o' ho' hps
    · exact h [] o' ho' Pairs.nil
end DL


namespace DL
open PySem PySem.Spec PyProof.Rows L2
def dropAt (ps : List (Nat × Nat)) (i : Nat) : List (Nat × Nat) := ps.take i ++ ps.drop (i + 1)
def dueR (r : Nat) : Ring → Ring
  | .answered h o s => .answered h o (if o = r then none else s)
  | x => x
def idx (xs : List Nat) (k : Nat) : Nat := xs.findIdx fun x => decide (x = k)
def bareL (log : List Row) : List Row := (spotsOf log).map (rowAt log)
def lessP (br rm : List Row) (ps : List (Nat × Nat)) : List (Nat × Nat) := (ps.filter fun p => decide (p.1 ∈ spotsOf br) && decide (p.2 ∈ spotsOf rm)).map fun p => (idx (spotsOf br) p.1, idx (spotsOf rm) p.2)
def mapRing (f g : Nat → Nat) : Ring → Ring
  | .never => .never
  | .answered h o s => .answered (f h) (f o) (s.map g)
  | .taken h o => .taken (f h) (f o)
  | .opn h => .opn (f h)
def RingIn (br rm : List Row) : Ring → Prop
  | .never => True
  | .answered h o s => h ∈ spotsOf rm ∧ o ∈ spotsOf rm ∧ ∀ x, s = some x → x ∈ spotsOf br
  | .taken h o => h ∈ spotsOf rm ∧ o ∈ spotsOf rm
  | .opn h => h ∈ spotsOf rm
end DL

namespace DL
open PySem PySem.Spec PyProof.Rows
theorem findSome_congr {α β : Type} {f g : α → Option β} : ∀ {xs : List α}, (∀ x ∈ xs, f x = g x) → xs.findSome? f = xs.findSome? g
  | [], _ => rfl
  | x :: xs, h => by
    rw [List.findSome?_cons, List.findSome?_cons, h x List.mem_cons_self, findSome_congr fun y hy => h y (List.mem_cons_of_mem _ hy)]
theorem rowAt_map {f : Row → Row} {log : List Row} {i : Nat} (h : i < log.length) : rowAt (log.map f) i = f (rowAt log i) := by
  have h1 := row_get (log := log.map f) (i := i) (by rw [List.length_map]; exact h)
  rw [List.getElem?_map, row_get h] at h1
  exact (Option.some.inj h1).symm
theorem look_mem2 {ps : List (Nat × Nat)} {n h : Nat} (e : look ps n = some h) : (n, h) ∈ ps := by
  unfold look at e
  cases q : ps.find? (fun p => decide (p.1 = n)) with
  | none => rw [q] at e; cases e
  | some p =>
    rw [q] at e
    have h1 := List.find?_some (p := fun p : Nat × Nat => decide (p.1 = n)) q
    have h2 := List.mem_of_find?_eq_some q
    have e2 : p.2 = h := Option.some.inj e
    have e1 : p.1 = n := of_decide_eq_true h1
    rw [← e1, ← e2]
    exact h2
theorem dec_iff {p q : Prop} [Decidable p] [Decidable q] (h : p ↔ q) : decide p = decide q := decide_eq_decide.mpr h
section
variable {φ : Ln → Ln} {ν : Wh → Wh} {k : Int}
structure Turns (φ : Ln → Ln) (ν : Wh → Wh) : Prop where
  li : ∀ a b, φ a = φ b ↔ a = b
  wi : ∀ a b, ν a = ν b ↔ a = b
  dial : ∀ l, (φ l).dial = φ l.dial
  beside : ∀ l, (φ l).beside = l.beside.map φ
  br : ∀ l, (φ l).br = l.br
  bell : ∀ l, (φ l).bell = l.bell
abbrev tf (φ : Ln → Ln) (ν : Wh → Wh) (k : Int) (r : Row) : Row := ⟨r.m + k, φ r.l, ν r.w⟩
variable (T : Turns φ ν)
include T
theorem g_bells (br : List Row) : bellsOf (br.map (tf φ ν k)) = bellsOf br := by
  unfold bellsOf
  rw [List.length_map]
  refine List.filter_congr fun i hi => ?_
  rw [rowAt_map (List.mem_range.mp hi)]
  exact T.bell _
theorem g_rows (log : List Row) (l : Ln) : rowsOn (log.map (tf φ ν k)) (φ l) = rowsOn log l := by
  unfold rowsOn
  rw [List.length_map]
  refine List.filter_congr fun i hi => ?_
  unfold onLine
  rw [rowAt_map (List.mem_range.mp hi)]
  exact dec_iff (T.li _ _)
theorem g_fate {log : List Row} {e : Ln} {n : Nat} (hn : n < log.length) : fateOf (log.map (tf φ ν k)) (φ e) n = fateOf log e n := by
  unfold fateOf
  rw [List.length_map, rowAt_map hn]
  congr 1
  refine findSome_congr fun o ho => ?_
  have ho2 : o < log.length := by
    rw [List.mem_range'_1] at ho
    omega
  unfold fateAt
  rw [rowAt_map ho2]
  show (if φ (rowAt log o).l = φ e then _ else if φ (rowAt log o).l = (φ e).dial ∧ ν (rowAt log o).w = ν (rowAt log n).w then _ else _) = _
  rw [T.dial]
  simp only [T.li, T.wi]
theorem g_ring {br rm : List Row} {ps : List (Nat × Nat)} {n : Nat} (hP : Pairs br rm ps) (hn : n < br.length) : ringOf (br.map (tf φ ν k)) (rm.map (tf φ ν k)) ps n = ringOf br rm ps n := by
  unfold ringOf
  rw [rowAt_map hn]
  cases h : look ps n with
  | none => rfl
  | some r =>
    have hr := (hP.lt _ (look_mem2 h)).2
    show (match fateOf (rm.map (tf φ ν k)) (φ (rowAt br n).l) r with | .answered o => _ | .taken o => _ | .opn => _) = _
    rw [g_fate T hr]
    rfl
theorem g_ob {br rm : List Row} {ps : List (Nat × Nat)} {n : Nat} {d : Int} (hP : Pairs br rm ps) (hn : n < br.length) : lessOb k (obeyOf (br.map (tf φ ν k)) (rm.map (tf φ ν k)) ps n d) = lessOb 0 (obeyOf br rm ps n d) := by
  unfold obeyOf
  rw [rowAt_map hn]
  cases h : look ps n with
  | none => rfl
  | some r =>
    have hr := (hP.lt _ (look_mem2 h)).2
    show some ((rowAt (rm.map (tf φ ν k)) r).m - d - k, ((((rowsOn (rm.map (tf φ ν k)) (φ (rowAt br n).l)).filter fun k => decide (r < k)).head?.map fun j => (rowAt (rm.map (tf φ ν k)) j).m - d).map (· - k))) =
      some ((rowAt rm r).m - d - 0, ((((rowsOn rm (rowAt br n).l).filter fun k => decide (r < k)).head?.map fun j => (rowAt rm j).m - d).map (· - 0)))
    rw [g_rows T, rowAt_map hr]
    have e1 : (tf φ ν k (rowAt rm r)).m - d - k = (rowAt rm r).m - d - 0 := by show (rowAt rm r).m + k - d - k = _; omega
    rw [e1]
    cases hx : ((rowsOn rm (rowAt br n).l).filter fun k => decide (r < k)) with
    | nil => rfl
    | cons j js =>
      have hj : j < rm.length := by
        have : j ∈ (rowsOn rm (rowAt br n).l).filter fun k => decide (r < k) := by rw [hx]; exact List.mem_cons_self
        have := (List.mem_filter.mp this).1
        unfold rowsOn at this
        exact List.mem_range.mp (List.mem_filter.mp this).1
      show some (_, some ((rowAt (rm.map (tf φ ν k)) j).m - d - k)) = some (_, some ((rowAt rm j).m - d - 0))
      rw [rowAt_map hj]
      have e2 : (tf φ ν k (rowAt rm j)).m - d - k = (rowAt rm j).m - d - 0 := by show (rowAt rm j).m + k - d - k = _; omega
      rw [e2]
theorem g_left {br rm : List Row} {ps : List (Nat × Nat)} {s : Bool} : leftOf (br.map (tf φ ν k)) (rm.map (tf φ ν k)) ps s = leftOf br rm ps s := by
  unfold leftOf leftB leftR
  rw [List.length_map, List.length_map]
  congr 1
  · congr 1
    refine List.filter_congr fun i hi => ?_
    rw [rowAt_map (List.mem_range.mp hi)]
    show (decide ((φ (rowAt br i).l).br = s) && _) = _
    rw [T.br]
  · congr 1
    refine List.filter_congr fun i hi => ?_
    rw [rowAt_map (List.mem_range.mp hi)]
    show (decide ((!(φ (rowAt rm i).l).br) = s) && _) = _
    rw [T.br]
theorem g_dbl {log : List Row} {n : Nat} {lag : Int} (hn : n < log.length) : dbl (log.map (tf φ ν k)) n lag = dbl log n lag := by
  unfold dbl
  rw [rowAt_map hn]
  show (match ((rowsOn (log.map (tf φ ν k)) (φ (rowAt log n).l)).filter fun k => decide (k < n)).getLast? with | none => false | some j => _) = _
  rw [g_rows T]
  cases h : ((rowsOn log (rowAt log n).l).filter fun k => decide (k < n)).getLast? with
  | none => rfl
  | some j =>
    have hj : j < log.length := by
      have := List.mem_of_getLast? h
      have := (List.mem_filter.mp this).2
      have := of_decide_eq_true this
      omega
    show (decide ((rowAt (log.map (tf φ ν k)) j).w = ν (rowAt log n).w) && decide ((rowAt log n).m + k - (rowAt (log.map (tf φ ν k)) j).m ≤ lag)) = (decide ((rowAt log j).w = (rowAt log n).w) && decide ((rowAt log n).m - (rowAt log j).m ≤ lag))
    rw [rowAt_map hj]
    congr 1
    · exact dec_iff (T.wi _ _)
    · refine dec_iff ?_
      show (rowAt log n).m + k - ((rowAt log j).m + k) ≤ lag ↔ _
      omega
theorem logOf_map {br rm : List Row} {f : Row → Row} {h : Bool} : logOf (br.map f) (rm.map f) h = (logOf br rm h).map f := by
  cases h <;> rfl
theorem g_crs {br rm : List Row} {h : Bool} {n : Nat} {d lag : Int} {x : Bool × Nat} (hn : n < (logOf br rm h).length) (hx : x.2 < (logOf br rm x.1).length) : crsAt (br.map (tf φ ν k)) (rm.map (tf φ ν k)) h n d lag x = crsAt br rm h n d lag x := by
  unfold crsAt
  rw [logOf_map T, logOf_map T, rowAt_map hn, rowAt_map hx]
  dsimp only
  generalize rowAt (logOf br rm h) n = r
  generalize rowAt (logOf br rm x.1) x.2 = q
  have e1 : decide ((φ r.l).beside = some (φ q.l)) = decide (r.l.beside = some q.l) := by
    refine dec_iff ?_
    rw [T.beside]
    cases r.l.beside with
    | none => simp
    | some y => simp [T.li]
  have e2 : decide (ν q.w = ν r.w) = decide (q.w = r.w) := dec_iff (T.wi _ _)
  have e3 : byBr h (r.m + k) d - byBr x.1 (q.m + k) d = byBr h r.m d - byBr x.1 q.m d := by
    unfold byBr
    split <;> split <;> omega
  rw [e1, e2, e3]
theorem left_lt2 {br rm : List Row} {ps : List (Nat × Nat)} {s : Bool} {x : Bool × Nat} (h : x ∈ leftOf br rm ps s) : x.2 < (logOf br rm x.1).length := by
  rcases List.mem_append.mp h with h | h
  · obtain ⟨k, hk, rfl⟩ := List.mem_map.mp h
    exact List.mem_range.mp (List.mem_filter.mp hk).1
  · obtain ⟨k, hk, rfl⟩ := List.mem_map.mp h
    exact List.mem_range.mp (List.mem_filter.mp hk).1
theorem any_congr {α : Type} {f g : α → Bool} : ∀ {xs : List α}, (∀ x ∈ xs, f x = g x) → xs.any f = xs.any g
  | [], _ => rfl
  | x :: xs, h => by
    rw [List.any_cons, List.any_cons, h x List.mem_cons_self, any_congr fun y hy => h y (List.mem_cons_of_mem _ hy)]
theorem g_str {br rm : List Row} {ps : List (Nat × Nat)} {d lag : Int} : strOf (br.map (tf φ ν k)) (rm.map (tf φ ν k)) ps d lag = strOf br rm ps d lag := by
  unfold strOf
  rw [g_left T]
  refine List.map_congr_left fun x hx => ?_
  have hxl := left_lt2 T hx
  have e : whyOf (br.map (tf φ ν k)) (rm.map (tf φ ν k)) ps d lag x = whyOf br rm ps d lag x := by
    unfold whyOf
    rw [logOf_map T, g_dbl T hxl, g_left T]
    have : crs (br.map (tf φ ν k)) (rm.map (tf φ ν k)) x.1 x.2 (leftOf br rm ps true) d lag = crs br rm x.1 x.2 (leftOf br rm ps true) d lag := by
      unfold crs
      exact any_congr T fun y hy => g_crs T hxl (left_lt2 T hy)
    rw [this]
  rw [e]
theorem g_all {br rm : List Row} {ps : List (Nat × Nat)} {d lag : Int} (hP : Pairs br rm ps) : allOf (br.map (tf φ ν k)) (rm.map (tf φ ν k)) ps d lag k = allOf br rm ps d lag 0 := by
  unfold allOf
  rw [g_bells T, g_left T, g_str T]
  have e1 : lotOf (br.map (tf φ ν k)) (rm.map (tf φ ν k)) ps = lotOf br rm ps := by
    unfold lotOf
    rw [List.length_map, List.length_map]
  rw [e1]
  congr 3
  refine List.map_congr_left fun i hi => ?_
  have hil : i < br.length := by
    unfold bellsOf at hi
    exact List.mem_range.mp (List.mem_filter.mp hi).1
  rw [g_ring T hP hil, g_ob T hP hil]
theorem g_pairs {br rm : List Row} {ps : List (Nat × Nat)} (hP : Pairs br rm ps) : Pairs (br.map (tf φ ν k)) (rm.map (tf φ ν k)) ps := by
  refine ⟨fun p hp => ?_, fun p hp => ?_, hP.nd1, hP.nd2⟩
  · rw [List.length_map, List.length_map]
    exact hP.lt p hp
  · have h1 := hP.lt p hp
    rw [rowAt_map h1.1, rowAt_map h1.2]
    have h2 := hP.same p hp
    exact ⟨by show φ _ = φ _; rw [h2.1], by show ν _ = ν _; rw [h2.2]⟩
end
theorem mv_tf (k : Int) : mv k = tf id id k := rfl
theorem turns_id : Turns id id := ⟨fun _ _ => Iff.rfl, fun _ _ => Iff.rfl, fun _ => rfl, fun l => by cases l <;> rfl, fun _ => rfl, fun _ => rfl⟩
theorem all_moved {br rm : List Row} {ps : List (Nat × Nat)} {d lag k : Int} (hP : Pairs br rm ps) : allOf (br.map (mv k)) (rm.map (mv k)) ps d lag k = allOf br rm ps d lag 0 := by
  rw [mv_tf]
  exact g_all turns_id hP
theorem pairs_moved {br rm : List Row} {ps : List (Nat × Nat)} {k : Int} (hP : Pairs br rm ps) : Pairs (br.map (mv k)) (rm.map (mv k)) ps := by
  rw [mv_tf]
  exact g_pairs turns_id hP
theorem turns_turn : Turns Ln.turn Wh.neg := by
  refine ⟨fun a b => ?_, fun a b => ?_, fun l => ?_, fun l => ?_, fun l => ?_, fun l => ?_⟩
  · cases a <;> cases b <;> simp [Ln.turn, Ln.beside]
  · cases a <;> cases b <;> simp [Wh.neg]
  · cases l <;> rfl
  · cases l <;> rfl
  · cases l <;> rfl
  · cases l <;> rfl
theorem turn_tf {log : List Row} (h : ∀ r ∈ log, RowOk r) : log.map turnR = log.map (tf Ln.turn Wh.neg 0) := by
  refine List.map_congr_left fun r hr => ?_
  have h1 := h r hr
  unfold turnR
  unfold RowOk at h1
  show (⟨r.m, r.l.turn, if r.l.tube = true then r.w else r.w.neg⟩ : Row) = ⟨r.m + 0, r.l.turn, r.w.neg⟩
  rw [Int.add_zero]
  congr 1
  by_cases ht : r.l.tube = true
  · rw [if_pos ht] at h1 ⊢
    obtain ⟨x, hx⟩ := h1
    rw [hx]
    rfl
  · rw [if_neg ht]
theorem all_turned {br rm : List Row} {ps : List (Nat × Nat)} {d lag : Int} (o1 : LogOk br) (o2 : LogOk rm) (hP : Pairs br rm ps) : allOf (br.map turnR) (rm.map turnR) ps d lag 0 = allOf br rm ps d lag 0 := by
  rw [turn_tf fun r hr => (o1 r hr).1, turn_tf fun r hr => (o2 r hr).1]
  exact g_all turns_turn hP
theorem pairs_turned {br rm : List Row} {ps : List (Nat × Nat)} (o1 : LogOk br) (o2 : LogOk rm) (hP : Pairs br rm ps) : Pairs (br.map turnR) (rm.map turnR) ps := by
  rw [turn_tf fun r hr => (o1 r hr).1, turn_tf fun r hr => (o2 r hr).1]
  exact g_pairs turns_turn hP
end DL

namespace DL
open PySem PySem.Spec PyProof.Rows
theorem drop_sub (ps : List (Nat × Nat)) (i : Nat) : List.Sublist (dropAt ps i) ps := by
  unfold dropAt
  rw [← List.eraseIdx_eq_take_drop_succ]
  exact List.eraseIdx_sublist ps i
theorem fewer_pairs {br rm : List Row} {ps : List (Nat × Nat)} {i : Nat} (hP : Pairs br rm ps) : Pairs br rm (dropAt ps i) := by
  have hs := drop_sub ps i
  exact ⟨fun p hp => hP.lt p (hs.subset hp), fun p hp => hP.same p (hs.subset hp), hP.nd1.sublist (hs.map _), hP.nd2.sublist (hs.map _)⟩
theorem nd_of {ps : List (Nat × Nat)} (h : (ps.map (·.1)).Nodup) : ps.Nodup := List.Pairwise.of_map (fun p : Nat × Nat => p.1) (fun a b hab e => hab (by rw [e])) h
theorem drop_mem {ps : List (Nat × Nat)} {i : Nat} {p q : Nat × Nat} (hn : ps.Nodup) (hat : ps[i]? = some q) : p ∈ dropAt ps i ↔ p ∈ ps ∧ p ≠ q := by
  have hi : i < ps.length := (List.getElem?_eq_some_iff.mp hat).1
  have e : ps = ps.take i ++ q :: ps.drop (i + 1) := by
    have h1 : ps.drop i = ps[i] :: ps.drop (i + 1) := List.drop_eq_getElem_cons hi
    have h2 : ps[i] = q := (List.getElem?_eq_some_iff.mp hat).2
    rw [h2] at h1
    rw [← h1, List.take_append_drop]
  unfold dropAt
  constructor
  · intro h
    refine ⟨(drop_sub ps i).subset h, fun e2 => ?_⟩
    subst e2
    rw [e, List.nodup_append] at hn
    obtain ⟨_, h2, h3⟩ := hn
    rcases List.mem_append.mp h with h | h
    · exact h3 p h p List.mem_cons_self rfl
    · exact (List.nodup_cons.mp h2).1 h
  · rintro ⟨h, hne⟩
    rw [e] at h
    rcases List.mem_append.mp h with h | h
    · exact List.mem_append_left _ h
    · rcases List.mem_cons.mp h with h | h
      · exact absurd h hne
      · exact List.mem_append_right _ h
theorem fst_inj {ps : List (Nat × Nat)} : (ps.map (·.1)).Nodup → ∀ {p q : Nat × Nat}, p ∈ ps → q ∈ ps → p.1 = q.1 → p = q := by
  induction ps with
  | nil => intro _ p q hp; cases hp
  | cons x xs ih =>
    intro h p q hp hq e
    rw [List.map_cons, List.nodup_cons] at h
    rcases List.mem_cons.mp hp with rfl | hp
    · rcases List.mem_cons.mp hq with rfl | hq
      · rfl
      · exact absurd (by rw [e]; exact List.mem_map_of_mem hq) h.1
    ·
      rcases List.mem_cons.mp hq with e3 | hq2
      · exact absurd (by rw [← e3, ← e]; exact List.mem_map_of_mem hp) h.1
      · exact ih h.2 hp hq2 e
theorem snd_inj {ps : List (Nat × Nat)} : (ps.map (·.2)).Nodup → ∀ {p q : Nat × Nat}, p ∈ ps → q ∈ ps → p.2 = q.2 → p = q := by
  induction ps with
  | nil => intro _ p q hp; cases hp
  | cons x xs ih =>
    intro h p q hp hq e
    rw [List.map_cons, List.nodup_cons] at h
    rcases List.mem_cons.mp hp with rfl | hp
    · rcases List.mem_cons.mp hq with rfl | hq
      · rfl
      · exact absurd (by rw [e]; exact List.mem_map_of_mem hq) h.1
    ·
      rcases List.mem_cons.mp hq with e3 | hq2
      · exact absurd (by rw [← e3, ← e]; exact List.mem_map_of_mem hp) h.1
      · exact ih h.2 hp hq2 e
theorem look_iff {ps : List (Nat × Nat)} (hn : (ps.map (·.1)).Nodup) {n h : Nat} : look ps n = some h ↔ (n, h) ∈ ps := by
  refine ⟨look_mem2, fun hm => ?_⟩
  unfold look
  cases q : ps.find? (fun p => decide (p.1 = n)) with
  | none =>
    rw [List.find?_eq_none] at q
    exact absurd (decide_eq_true rfl) (q _ hm)
  | some p =>
    have h1 : p.1 = n := of_decide_eq_true (List.find?_some (p := fun p : Nat × Nat => decide (p.1 = n)) q)
    have h2 := List.mem_of_find?_eq_some q
    have h3 := fst_inj hn h2 hm h1
    rw [h3]
    rfl
theorem lookR_iff {ps : List (Nat × Nat)} (hn : (ps.map (·.2)).Nodup) {n h : Nat} : lookR ps n = some h ↔ (h, n) ∈ ps := by
  unfold lookR
  constructor
  · intro e
    cases q : ps.find? (fun p => decide (p.2 = n)) with
    | none => rw [q] at e; cases e
    | some p =>
      rw [q] at e
      have h1 : p.2 = n := of_decide_eq_true (List.find?_some (p := fun p : Nat × Nat => decide (p.2 = n)) q)
      have h2 := List.mem_of_find?_eq_some q
      have e2 : p.1 = h := Option.some.inj e
      rw [← e2, ← h1]
      exact h2
  · intro hm
    cases q : ps.find? (fun p => decide (p.2 = n)) with
    | none =>
      rw [List.find?_eq_none] at q
      exact absurd (decide_eq_true rfl) (q _ hm)
    | some p =>
      have h1 : p.2 = n := of_decide_eq_true (List.find?_some (p := fun p : Nat × Nat => decide (p.2 = n)) q)
      have h2 := List.mem_of_find?_eq_some q
      have h3 := snd_inj hn h2 hm h1
      rw [h3]
      rfl
theorem opt_ext {α : Type} {a b : Option α} (h : ∀ x, a = some x ↔ b = some x) : a = b := by
  cases a with
  | none =>
    cases b with
    | none => rfl
    | some y => exact absurd ((h y).mpr rfl) (fun z => nomatch z)
  | some x => exact ((h x).mp rfl).symm
section
variable {br rm : List Row} {ps : List (Nat × Nat)} {i b r : Nat} (hP : Pairs br rm ps) (hat : ps[i]? = some (b, r))
include hP hat
theorem fewer_look (k : Nat) : look (dropAt ps i) k = if k = b then none else look ps k := by
  refine opt_ext fun h => ?_
  rw [look_iff (fewer_pairs hP).nd1, drop_mem (nd_of hP.nd1) hat]
  by_cases hk : k = b
  · rw [if_pos hk]
    refine ⟨fun ⟨h1, h2⟩ => absurd (fst_inj hP.nd1 h1 (List.mem_of_getElem? hat) hk) h2, fun z => nomatch z⟩
  · rw [if_neg hk, look_iff hP.nd1]
    exact ⟨fun h => h.1, fun h => ⟨h, fun e => hk (Prod.mk.inj e).1⟩⟩
theorem fewer_lookR (o : Nat) : lookR (dropAt ps i) o = if o = r then none else lookR ps o := by
  refine opt_ext fun h => ?_
  rw [lookR_iff (fewer_pairs hP).nd2, drop_mem (nd_of hP.nd1) hat]
  by_cases hk : o = r
  · rw [if_pos hk]
    refine ⟨fun ⟨h1, h2⟩ => absurd (snd_inj hP.nd2 h1 (List.mem_of_getElem? hat) hk) h2, fun z => nomatch z⟩
  · rw [if_neg hk, lookR_iff hP.nd2]
    exact ⟨fun h => h.1, fun h => ⟨h, fun e => hk (Prod.mk.inj e).2⟩⟩
theorem fewer_ring (k : Nat) : ringOf br rm (dropAt ps i) k = dueR r (if k = b then .never else ringOf br rm ps k) := by
  unfold ringOf
  rw [fewer_look hP hat]
  by_cases hk : k = b
  · rw [if_pos hk, if_pos hk]
    rfl
  · rw [if_neg hk, if_neg hk]
    cases look ps k with
    | none => rfl
    | some h =>
      unfold ringAt
      dsimp only
      cases fateOf rm (rowAt br k).l h with
      | answered o =>
        show Ring.answered h o (lookR (dropAt ps i) o) = .answered h o (if o = r then none else lookR ps o)
        rw [fewer_lookR hP hat]
      | taken o => rfl
      | opn => rfl
theorem fewer_fst (n : Nat) : n ∈ (dropAt ps i).map (·.1) ↔ n ∈ ps.map (·.1) ∧ n ≠ b := by
  constructor
  · intro h
    obtain ⟨p, hp, rfl⟩ := List.mem_map.mp h
    obtain ⟨h1, h2⟩ := (drop_mem (nd_of hP.nd1) hat).mp hp
    exact ⟨List.mem_map_of_mem h1, fun e => h2 (fst_inj hP.nd1 h1 (List.mem_of_getElem? hat) e)⟩
  · rintro ⟨h1, h2⟩
    obtain ⟨p, hp, rfl⟩ := List.mem_map.mp h1
    exact List.mem_map_of_mem ((drop_mem (nd_of hP.nd1) hat).mpr ⟨hp, fun e => h2 (by rw [e])⟩)
theorem fewer_snd (n : Nat) : n ∈ (dropAt ps i).map (·.2) ↔ n ∈ ps.map (·.2) ∧ n ≠ r := by
  constructor
  · intro h
    obtain ⟨p, hp, rfl⟩ := List.mem_map.mp h
    obtain ⟨h1, h2⟩ := (drop_mem (nd_of hP.nd1) hat).mp hp
    exact ⟨List.mem_map_of_mem h1, fun e => h2 (snd_inj hP.nd2 h1 (List.mem_of_getElem? hat) e)⟩
  · rintro ⟨h1, h2⟩
    obtain ⟨p, hp, rfl⟩ := List.mem_map.mp h1
    exact List.mem_map_of_mem ((drop_mem (nd_of hP.nd1) hat).mpr ⟨hp, fun e => h2 (by rw [e])⟩)
end
theorem left_T {br rm : List Row} {ps : List (Nat × Nat)} {s : Bool} {n : Nat} : (true, n) ∈ leftOf br rm ps s ↔ n < br.length ∧ (rowAt br n).l.br = s ∧ n ∉ ps.map (·.1) := by
  unfold leftOf leftB leftR
  rw [List.mem_append]
  constructor
  · rintro (h | h)
    · obtain ⟨k, hk, e⟩ := List.mem_map.mp h
      obtain ⟨_, rfl⟩ := Prod.mk.inj e
      have := List.mem_filter.mp hk
      rw [Bool.and_eq_true, decide_eq_true_eq, Bool.not_eq_true', decide_eq_false_iff_not] at this
      exact ⟨List.mem_range.mp this.1, this.2.1, this.2.2⟩
    · obtain ⟨k, hk, e⟩ := List.mem_map.mp h
      cases (Prod.mk.inj e).1
  · rintro ⟨h1, h2, h3⟩
    refine .inl (List.mem_map_of_mem (List.mem_filter.mpr ⟨List.mem_range.mpr h1, ?_⟩))
    rw [Bool.and_eq_true, decide_eq_true_eq, Bool.not_eq_true', decide_eq_false_iff_not]
    exact ⟨h2, h3⟩
theorem left_F {br rm : List Row} {ps : List (Nat × Nat)} {s : Bool} {n : Nat} : (false, n) ∈ leftOf br rm ps s ↔ n < rm.length ∧ (!(rowAt rm n).l.br) = s ∧ n ∉ ps.map (·.2) := by
  unfold leftOf leftB leftR
  rw [List.mem_append]
  constructor
  · rintro (h | h)
    · obtain ⟨k, hk, e⟩ := List.mem_map.mp h
      cases (Prod.mk.inj e).1
    · obtain ⟨k, hk, e⟩ := List.mem_map.mp h
      obtain ⟨_, rfl⟩ := Prod.mk.inj e
      have := List.mem_filter.mp hk
      rw [Bool.and_eq_true, decide_eq_true_eq, Bool.not_eq_true', decide_eq_false_iff_not] at this
      exact ⟨List.mem_range.mp this.1, this.2.1, this.2.2⟩
  · rintro ⟨h1, h2, h3⟩
    refine .inr (List.mem_map_of_mem (List.mem_filter.mpr ⟨List.mem_range.mpr h1, ?_⟩))
    rw [Bool.and_eq_true, decide_eq_true_eq, Bool.not_eq_true', decide_eq_false_iff_not]
    exact ⟨h2, h3⟩
/-- the order of what is missed -/
def ltHN (y x : Bool × Nat) : Prop := (y.1 = true ∧ x.1 = false) ∨ (y.1 = x.1 ∧ y.2 < x.2)
theorem left_sorted (br rm : List Row) (ps : List (Nat × Nat)) (s : Bool) : (leftOf br rm ps s).Pairwise ltHN := by
  have hr : ∀ (n : Nat) (P : Nat → Bool), ((List.range n).filter P).Pairwise (· < ·) := fun n P => List.Pairwise.filter P List.pairwise_lt_range
  unfold leftOf
  refine List.pairwise_append.mpr ⟨?_, ?_, fun a ha b hb => ?_⟩
  · exact List.Pairwise.map _ (fun a b hab => .inr ⟨rfl, hab⟩) (hr _ _)
  · exact List.Pairwise.map _ (fun a b hab => .inr ⟨rfl, hab⟩) (hr _ _)
  · obtain ⟨x, _, rfl⟩ := List.mem_map.mp ha
    obtain ⟨y, _, rfl⟩ := List.mem_map.mp hb
    exact .inl ⟨rfl, rfl⟩
theorem left_nodup (br rm : List Row) (ps : List (Nat × Nat)) (s : Bool) : (leftOf br rm ps s).Nodup := by
  refine (left_sorted br rm ps s).imp fun {a b} h e => ?_
  subst e
  rcases h with ⟨h1, h2⟩ | ⟨_, h⟩
  · rw [h1] at h2; cases h2
  · exact Nat.lt_irrefl _ h
abbrev leD (a b : PyData) : Prop := PySem.W.dataLe false id a b = true
theorem item_irr (a : Int ⊕ List Nat) : itemLt a a = false := itemOrd.irrefl a
theorem lex_same (x : Int ⊕ List Nat) (r t : List (Int ⊕ List Nat)) : PyProof.Rows.lexLt itemOrd (x :: r) (x :: t) = PyProof.Rows.lexLt itemOrd r t := by
  rw [lex_cons]
  show (itemLt x x || (!itemLt x x && _)) = _
  rw [item_irr]
  rfl
theorem lt_tok (y x : Bool × Nat) : PyProof.Rows.lexLt itemOrd (PySem.W.keyToks (encHN y)) (PySem.W.keyToks (encHN x)) = true ↔ ltHN y x := by
  obtain ⟨a, n⟩ := y
  obtain ⟨b, m⟩ := x
  have e : ∀ (h : Bool) (k : Nat), PySem.W.keyToks (encHN (h, k)) = [.inl 1, .inr (hs h).cps.toList, .inl 1, .inl (k : Int), .inl 0] := fun h k => by
    simp [encHN, PySem.W.keyToks, PySem.W.keyToksAll]
  rw [e, e, lex_same]
  have same : ∀ h : Bool, PyProof.Rows.lexLt itemOrd [.inr (hs h).cps.toList, .inl 1, .inl (n : Int), .inl 0] [.inr (hs h).cps.toList, .inl 1, .inl (m : Int), .inl 0] = decide (n < m) := fun h => by
    rw [lex_same, lex_same, lex_cons]
    show (decide ((n : Int) < m) || (!decide ((m : Int) < n) && PyProof.Rows.lexLt itemOrd [.inl 0] [.inl 0])) = _
    rw [lex_same]
    show (decide ((n : Int) < m) || (!decide ((m : Int) < n) && false)) = _
    rw [Bool.and_false, Bool.or_false]
    exact dec_iff (by omega)
  have tf' : PyProof.Rows.lexLt itemOrd (.inr (hs true).cps.toList :: [.inl 1, .inl (n : Int), .inl 0]) (.inr (hs false).cps.toList :: [.inl 1, .inl (m : Int), .inl 0]) = true := by
    rw [lex_cons]
    have : itemOrd.blt (.inr (hs true).cps.toList) (.inr (hs false).cps.toList) = true := by decide +kernel
    rw [this]
    rfl
  have ft' : PyProof.Rows.lexLt itemOrd (.inr (hs false).cps.toList :: [.inl 1, .inl (n : Int), .inl 0]) (.inr (hs true).cps.toList :: [.inl 1, .inl (m : Int), .inl 0]) = false := by
    rw [lex_cons]
    have h1 : itemOrd.blt (.inr (hs false).cps.toList) (.inr (hs true).cps.toList) = false := by decide +kernel
    have h2 : itemOrd.blt (.inr (hs true).cps.toList) (.inr (hs false).cps.toList) = true := by decide +kernel
    rw [h1, h2]
    rfl
  unfold ltHN
  cases a <;> cases b
  · rw [same]; simp
  · rw [ft']; simp
  · rw [tf']; simp
  · rw [same]; simp
theorem le_tok (x y : Bool × Nat) : leD (encHN x) (encHN y) ↔ ¬ ltHN y x := by
  show (!PyProof.Rows.lexLt itemOrd (PySem.W.keyToks (encHN y)) (PySem.W.keyToks (encHN x))) = true ↔ _
  rw [Bool.not_eq_true', ← Bool.not_eq_true, lt_tok]
theorem lt_asym {x y : Bool × Nat} (h : ltHN x y) : ¬ ltHN y x := by
  intro g
  rcases h with ⟨h1, h2⟩ | ⟨h1, h2⟩ <;> rcases g with ⟨g1, g2⟩ | ⟨g1, g2⟩
  · rw [h1] at g2; cases g2
  · rw [h1, h2] at g1; cases g1
  · rw [g1, g2] at h1; cases h1
  · omega
theorem lt_conn {x y : Bool × Nat} (h : ¬ ltHN x y) (g : ¬ ltHN y x) : x = y := by
  obtain ⟨a, n⟩ := x
  obtain ⟨b, m⟩ := y
  unfold ltHN at h g
  cases a <;> cases b <;> simp at h g ⊢ <;> omega
theorem fewer_missed {br rm : List Row} {ps : List (Nat × Nat)} {i b r : Nat} (hP : Pairs br rm ps) (hat : ps[i]? = some (b, r)) :
    (((leftOf br rm ps true).map encHN) ++ [encHN (if (rowAt br b).l.br then (true, b) else (false, r))]).mergeSort (PySem.W.dataLe false id) = (leftOf br rm (dropAt ps i) true).map encHN := by
  have hmem := List.mem_of_getElem? hat
  have hlt := hP.lt _ hmem
  have hsame := (hP.same _ hmem).1
  have tot := PySem.W.sortLe_total (listOrd itemOrd) false (fun d : PyData => PySem.W.keyToks (id d))
  have hperm : List.Perm (leftOf br rm ps true ++ [if (rowAt br b).l.br then (true, b) else (false, r)]) (leftOf br rm (dropAt ps i) true) := by
    refine (List.perm_ext_iff_of_nodup ?_ (left_nodup _ _ _ _)).mpr fun x => ?_
    · rw [List.nodup_append]
      refine ⟨left_nodup _ _ _ _, by simp, fun x hx y hy e => ?_⟩
      subst e
      have hy := List.mem_singleton.mp hy
      by_cases hb : (rowAt br b).l.br = true
      · rw [if_pos hb] at hy
        rw [hy] at hx
        exact (left_T.mp hx).2.2 (List.mem_map_of_mem (f := fun p : Nat × Nat => p.1) hmem)
      · rw [if_neg hb] at hy
        rw [hy] at hx
        exact (left_F.mp hx).2.2 (List.mem_map_of_mem (f := fun p : Nat × Nat => p.2) hmem)
    · rw [List.mem_append, List.mem_singleton]
      obtain ⟨h, n⟩ := x
      cases h with
      | true =>
        rw [left_T, left_T, fewer_fst hP hat]
        by_cases hb : (rowAt br b).l.br = true
        · rw [if_pos hb]
          constructor
          · rintro (⟨h1, h2, h3⟩ | h)
            · exact ⟨h1, h2, fun z => h3 z.1⟩
            · obtain rfl := (Prod.mk.inj h).2
              exact ⟨hlt.1, hb, fun z => z.2 rfl⟩
          · rintro ⟨h1, h2, h3⟩
            by_cases hn : n = b
            · exact .inr (by rw [hn])
            · exact .inl ⟨h1, h2, fun z => h3 ⟨z, hn⟩⟩
        · rw [if_neg hb]
          constructor
          · rintro (⟨h1, h2, h3⟩ | h)
            · exact ⟨h1, h2, fun z => h3 z.1⟩
            · cases (Prod.mk.inj h).1
          · rintro ⟨h1, h2, h3⟩
            have hn : n ≠ b := fun e => hb (by rw [← e]; exact h2)
            exact .inl ⟨h1, h2, fun z => h3 ⟨z, hn⟩⟩
      | false =>
        rw [left_F, left_F, fewer_snd hP hat]
        by_cases hb : (rowAt br b).l.br = true
        · rw [if_pos hb]
          constructor
          · rintro (⟨h1, h2, h3⟩ | h)
            · exact ⟨h1, h2, fun z => h3 z.1⟩
            · cases (Prod.mk.inj h).1
          · rintro ⟨h1, h2, h3⟩
            have hn : n ≠ r := fun e => by
              rw [e, ← hsame, hb] at h2
              cases h2
            exact .inl ⟨h1, h2, fun z => h3 ⟨z, hn⟩⟩
        · rw [if_neg hb]
          constructor
          · rintro (⟨h1, h2, h3⟩ | h)
            · exact ⟨h1, h2, fun z => h3 z.1⟩
            · obtain rfl := (Prod.mk.inj h).2
              refine ⟨hlt.2, ?_, fun z => z.2 rfl⟩
              rw [← hsame, Bool.not_eq_true', ← Bool.not_eq_true]
              exact hb
          · rintro ⟨h1, h2, h3⟩
            by_cases hn : n = r
            · exact .inr (by rw [hn])
            · exact .inl ⟨h1, h2, fun z => h3 ⟨z, hn⟩⟩
  have hp2 : List.Perm ((((leftOf br rm ps true).map encHN) ++ [encHN (if (rowAt br b).l.br then (true, b) else (false, r))]).mergeSort (PySem.W.dataLe false id)) ((leftOf br rm (dropAt ps i) true).map encHN) := by
    refine (List.mergeSort_perm _ _).trans ?_
    have := hperm.map encHN
    rwa [List.map_append] at this
  refine List.Perm.eq_of_pairwise (le := leD) (fun a c ha hc h1 h2 => ?_) (List.pairwise_mergeSort tot.trans (fun a b => by rw [Bool.or_eq_true]; exact tot.total a b) _) ?_ hp2
  · obtain ⟨x, _, rfl⟩ := List.mem_map.mp (hp2.mem_iff.mp ha)
    obtain ⟨y, _, rfl⟩ := List.mem_map.mp hc
    rw [lt_conn ((le_tok _ _).mp h2) ((le_tok _ _).mp h1)]
  · exact List.Pairwise.map _ (fun a b hab => (le_tok a b).mpr (lt_asym hab)) (left_sorted _ _ _ _)
end DL

namespace DL
open PySem PySem.Spec PyProof.Rows
/-! the rows off the tubes -/
theorem sp_mem {log : List Row} {k : Nat} : k ∈ spotsOf log ↔ k < log.length ∧ (rowAt log k).l.tube = false := by
  unfold spotsOf
  rw [List.mem_filter, List.mem_range, Bool.not_eq_true']
theorem sp_sorted (log : List Row) : (spotsOf log).Pairwise (· < ·) := List.Pairwise.filter _ List.pairwise_lt_range
theorem idx_lt {xs : List Nat} {k : Nat} (h : k ∈ xs) : idx xs k < xs.length := List.findIdx_lt_length_of_exists ⟨k, h, by simp⟩
theorem idx_at {xs : List Nat} {k : Nat} (h : k ∈ xs) : xs[idx xs k]? = some k := by
  have hlt := idx_lt h
  have := List.findIdx_getElem (w := hlt)
  rw [List.getElem?_eq_getElem hlt]
  have h2 : xs[idx xs k] = k := of_decide_eq_true this
  rw [h2]
theorem at_inj {xs : List Nat} (hs : xs.Pairwise (· < ·)) {i j k l : Nat} (hi : xs[i]? = some k) (hj : xs[j]? = some l) : i < j ↔ k < l := by
  obtain ⟨h1, e1⟩ := List.getElem?_eq_some_iff.mp hi
  obtain ⟨h2, e2⟩ := List.getElem?_eq_some_iff.mp hj
  have key := List.pairwise_iff_getElem.mp hs
  constructor
  · intro h
    have := key i j h1 h2 h
    omega
  · intro h
    rcases Nat.lt_trichotomy i j with h3 | h3 | h3
    · exact h3
    · subst h3
      rw [e1] at e2
      omega
    · have := key j i h2 h1 h3
      omega
theorem at_eq {xs : List Nat} (hs : xs.Pairwise (· < ·)) {i j k : Nat} (hi : xs[i]? = some k) (hj : xs[j]? = some k) : i = j := by
  rcases Nat.lt_trichotomy i j with h | h | h
  · have := (at_inj hs hi hj).mp h; omega
  · exact h
  · have := (at_inj hs hj hi).mp h; omega
theorem bare_at {log : List Row} {i k : Nat} (h : (spotsOf log)[i]? = some k) : rowAt (bareL log) i = rowAt log k := by
  unfold rowAt bareL
  rw [List.getD_eq_getElem?_getD, List.getElem?_map, h]
  rfl
theorem bare_len (log : List Row) : (bareL log).length = (spotsOf log).length := by
  unfold bareL
  rw [List.length_map]
theorem idx_inj {xs : List Nat} {k l : Nat} (hk : k ∈ xs) (hl : l ∈ xs) (h : idx xs k = idx xs l) : k = l := by
  have h1 := idx_at hk
  rw [h, idx_at hl] at h1
  exact (Option.some.inj h1).symm
theorem less_mem {br rm : List Row} {ps : List (Nat × Nat)} {p : Nat × Nat} : p ∈ lessP br rm ps ↔ ∃ q ∈ ps, q.1 ∈ spotsOf br ∧ q.2 ∈ spotsOf rm ∧ p = (idx (spotsOf br) q.1, idx (spotsOf rm) q.2) := by
  unfold lessP
  rw [List.mem_map]
  constructor
  · rintro ⟨q, hq, rfl⟩
    rw [List.mem_filter, Bool.and_eq_true, decide_eq_true_eq, decide_eq_true_eq] at hq
    exact ⟨q, hq.1, hq.2.1, hq.2.2, rfl⟩
  · rintro ⟨q, h1, h2, h3, rfl⟩
    exact ⟨q, by rw [List.mem_filter, Bool.and_eq_true, decide_eq_true_eq, decide_eq_true_eq]; exact ⟨h1, h2, h3⟩, rfl⟩
theorem nodup_mapOn {α β : Type} {f : α → β} : ∀ {xs : List α}, xs.Nodup → (∀ a ∈ xs, ∀ b ∈ xs, f a = f b → a = b) → (xs.map f).Nodup
  | [], _, _ => List.nodup_nil
  | x :: xs, h, hf => by
    rw [List.nodup_cons] at h
    rw [List.map_cons, List.nodup_cons]
    refine ⟨fun hm => ?_, nodup_mapOn h.2 fun a ha b hb => hf a (List.mem_cons_of_mem _ ha) b (List.mem_cons_of_mem _ hb)⟩
    obtain ⟨y, hy, e⟩ := List.mem_map.mp hm
    have := hf y (List.mem_cons_of_mem _ hy) x List.mem_cons_self e
    rw [this] at hy
    exact h.1 hy
theorem bare_pairs {br rm : List Row} {ps : List (Nat × Nat)} (hP : Pairs br rm ps) : Pairs (bareL br) (bareL rm) (lessP br rm ps) := by
  have hnd := nd_of hP.nd1
  have hf : (ps.filter fun p => decide (p.1 ∈ spotsOf br) && decide (p.2 ∈ spotsOf rm)).Nodup := hnd.sublist List.filter_sublist
  have mem : ∀ q ∈ ps.filter (fun p => decide (p.1 ∈ spotsOf br) && decide (p.2 ∈ spotsOf rm)), q ∈ ps ∧ q.1 ∈ spotsOf br ∧ q.2 ∈ spotsOf rm := fun q hq => by
    rw [List.mem_filter, Bool.and_eq_true, decide_eq_true_eq, decide_eq_true_eq] at hq
    exact hq
  refine ⟨fun p hp => ?_, fun p hp => ?_, ?_, ?_⟩
  · obtain ⟨q, h1, h2, h3, rfl⟩ := less_mem.mp hp
    rw [bare_len, bare_len]
    exact ⟨idx_lt h2, idx_lt h3⟩
  · obtain ⟨q, h1, h2, h3, rfl⟩ := less_mem.mp hp
    rw [bare_at (idx_at h2), bare_at (idx_at h3)]
    exact hP.same q h1
  · unfold lessP
    rw [List.map_map]
    refine nodup_mapOn hf fun a ha b hb e => ?_
    have h1 := mem a ha
    have h2 := mem b hb
    exact fst_inj hP.nd1 h1.1 h2.1 (idx_inj h1.2.1 h2.2.1 e)
  · unfold lessP
    rw [List.map_map]
    refine nodup_mapOn hf fun a ha b hb e => ?_
    have h1 := mem a ha
    have h2 := mem b hb
    exact snd_inj hP.nd2 h1.1 h2.1 (idx_inj h1.2.2 h2.2.2 e)
theorem bell_tube {l : Ln} (h : l.bell = true) : l.tube = false := by cases l <;> first | rfl | cases h
theorem fate_cases {log : List Row} {e : Ln} {n : Nat} (o : Nat) : fateOf log e n = .taken o ∨ fateOf log e n = .answered o → n < o ∧ o < log.length ∧ fateAt log e (rowAt log n).w o = some (fateOf log e n) := by
  intro h
  cases hs : (List.range' (n + 1) (log.length - (n + 1))).findSome? (fateAt log e (rowAt log n).w) with
  | none =>
    unfold fateOf at h
    rw [hs] at h
    rcases h with h | h <;> cases h
  | some F =>
    have hF : fateOf log e n = F := by unfold fateOf; rw [hs]; rfl
    obtain ⟨o2, ho2, hf⟩ := List.exists_of_findSome?_eq_some hs
    rw [hF] at h ⊢
    rw [List.mem_range'_1] at ho2
    have : o2 = o := by
      unfold fateAt at hf
      split at hf
      · rcases h with h | h <;> (rw [h] at hf; cases hf <;> rfl)
      · split at hf
        · rcases h with h | h <;> (rw [h] at hf; cases hf <;> rfl)
        · cases hf
    subst this
    exact ⟨by omega, by omega, hf⟩
theorem fate_line {log : List Row} {e : Ln} {x : Wh} {o : Nat} {F : Fate} (hb : e.bell = true) (h : fateAt log e x o = some F) : (rowAt log o).l.tube = false := by
  unfold fateAt at h
  split at h
  · rename_i e1
    rw [e1]
    exact bell_tube hb
  · split at h
    · rename_i e1
      rw [e1.1]
      cases e <;> first | rfl | cases hb
    · cases h
theorem ring_in {br rm : List Row} {ps : List (Nat × Nat)} {k : Nat} (hP : Pairs br rm ps) (hb : (rowAt br k).l.bell = true) : RingIn br rm (ringOf br rm ps k) := by
  unfold ringOf
  cases hl : look ps k with
  | none => exact trivial
  | some h =>
    have hm := look_mem2 hl
    have hlt := hP.lt _ hm
    have hs := (hP.same _ hm).1
    have hh : h ∈ spotsOf rm := sp_mem.mpr ⟨hlt.2, by rw [← hs]; exact bell_tube hb⟩
    unfold ringAt
    dsimp only
    cases hf : fateOf rm (rowAt br k).l h with
    | opn => exact hh
    | taken o =>
      obtain ⟨_, h2, h3⟩ := fate_cases o (.inl hf)
      exact ⟨hh, sp_mem.mpr ⟨h2, fate_line hb h3⟩⟩
    | answered o =>
      obtain ⟨_, h2, h3⟩ := fate_cases o (.inr hf)
      refine ⟨hh, sp_mem.mpr ⟨h2, fate_line hb h3⟩, fun x hx => ?_⟩
      have hm2 := (lookR_iff hP.nd2).mp hx
      have hs2 := (hP.same _ hm2).1
      exact sp_mem.mpr ⟨(hP.lt _ hm2).1, by rw [hs2]; exact fate_line hb h3⟩
theorem less_look {br rm : List Row} {ps : List (Nat × Nat)} {k : Nat} (hP : Pairs br rm ps) (hk : k ∈ spotsOf br) : look (lessP br rm ps) (idx (spotsOf br) k) = (look ps k).map (idx (spotsOf rm)) := by
  refine opt_ext fun h => ?_
  rw [look_iff (bare_pairs hP).nd1, less_mem]
  constructor
  · rintro ⟨q, h1, h2, h3, e⟩
    have e1 := (Prod.mk.inj e).1
    have e2 := (Prod.mk.inj e).2
    have : k = q.1 := idx_inj hk h2 e1
    have hq : look ps k = some q.2 := (look_iff hP.nd1).mpr (by rw [this]; exact h1)
    rw [hq, e2]
    rfl
  · intro e
    cases hl : look ps k with
    | none => rw [hl] at e; cases e
    | some h0 =>
      rw [hl] at e
      have e := Option.some.inj e
      have hm := (look_iff hP.nd1).mp hl
      have hs := (hP.same _ hm).1
      exact ⟨(k, h0), hm, hk, sp_mem.mpr ⟨(hP.lt _ hm).2, by rw [← hs]; exact (sp_mem.mp hk).2⟩, by rw [← e]⟩
theorem less_lookR {br rm : List Row} {ps : List (Nat × Nat)} {k : Nat} (hP : Pairs br rm ps) (hk : k ∈ spotsOf rm) : lookR (lessP br rm ps) (idx (spotsOf rm) k) = (lookR ps k).map (idx (spotsOf br)) := by
  refine opt_ext fun h => ?_
  rw [lookR_iff (bare_pairs hP).nd2, less_mem]
  constructor
  · rintro ⟨q, h1, h2, h3, e⟩
    have e1 := (Prod.mk.inj e).1
    have e2 := (Prod.mk.inj e).2
    have : k = q.2 := idx_inj hk h3 e2
    have hq : lookR ps k = some q.1 := (lookR_iff hP.nd2).mpr (by rw [this]; exact h1)
    rw [hq, e1]
    rfl
  · intro e
    cases hl : lookR ps k with
    | none => rw [hl] at e; cases e
    | some h0 =>
      rw [hl] at e
      have e := Option.some.inj e
      have hm := (lookR_iff hP.nd2).mp hl
      have hs := (hP.same _ hm).1
      exact ⟨(h0, k), hm, sp_mem.mpr ⟨(hP.lt _ hm).1, by rw [hs]; exact (sp_mem.mp hk).2⟩, hk, by rw [← e]⟩
end DL

namespace DL
open PySem PySem.Spec PyProof.Rows
def mapFate (f : Nat → Nat) : Fate → Fate
  | .taken o => .taken (f o)
  | .answered o => .answered (f o)
  | .opn => .opn
theorem fate_first (log : List Row) (e : Ln) (n : Nat) : (fateOf log e n = .opn ∧ ∀ o, n < o → o < log.length → fateAt log e (rowAt log n).w o = none) ∨
    ∃ o F, n < o ∧ o < log.length ∧ fateAt log e (rowAt log n).w o = some F ∧ fateOf log e n = F ∧ ∀ o', n < o' → o' < o → fateAt log e (rowAt log n).w o' = none := by
  cases hs : (List.range' (n + 1) (log.length - (n + 1))).findSome? (fateAt log e (rowAt log n).w) with
  | none =>
    refine .inl ⟨by unfold fateOf; rw [hs]; rfl, fun o h1 h2 => ?_⟩
    rw [List.findSome?_eq_none_iff] at hs
    exact hs o (by rw [List.mem_range'_1]; omega)
  | some F =>
    obtain ⟨l1, a, l2, h1, h2, h3⟩ := List.findSome?_eq_some_iff.mp hs
    have ha : a ∈ List.range' (n + 1) (log.length - (n + 1)) := by rw [h1]; simp
    rw [List.mem_range'_1] at ha
    refine .inr ⟨a, F, by omega, by omega, h2, by unfold fateOf; rw [hs]; rfl, fun o' g1 g2 => h3 o' ?_⟩
    have ho : o' ∈ List.range' (n + 1) (log.length - (n + 1)) := by rw [List.mem_range'_1]; omega
    have hp : (List.range' (n + 1) (log.length - (n + 1))).Pairwise (· < ·) := List.pairwise_lt_range'
    rw [h1] at ho hp
    rcases List.mem_append.mp ho with ho | ho
    · exact ho
    · rcases List.mem_cons.mp ho with rfl | ho
      · exact absurd g2 (Nat.lt_irrefl _)
      · have := (List.pairwise_cons.mp (List.pairwise_append.mp hp).2.1).1 o' ho
        omega
theorem fate_is {log : List Row} {e : Ln} {n o : Nat} {F : Fate} (h1 : n < o) (h2 : o < log.length) (h3 : fateAt log e (rowAt log n).w o = some F) (h4 : ∀ o', n < o' → o' < o → fateAt log e (rowAt log n).w o' = none) : fateOf log e n = F := by
  rcases fate_first log e n with ⟨_, h⟩ | ⟨o2, F2, g1, g2, g3, g4, g5⟩
  · rw [h o h1 h2] at h3; cases h3
  · rcases Nat.lt_trichotomy o o2 with h | h | h
    · rw [g5 o h1 h] at h3; cases h3
    · subst h
      rw [g3] at h3
      rw [g4]
      exact Option.some.inj h3
    · rw [h4 o2 g1 h] at g3; cases g3
theorem fate_no {log : List Row} {e : Ln} {n : Nat} (h : ∀ o, n < o → o < log.length → fateAt log e (rowAt log n).w o = none) : fateOf log e n = .opn := by
  rcases fate_first log e n with ⟨h, _⟩ | ⟨o2, F2, g1, g2, g3, g4, g5⟩
  · exact h
  · rw [h o2 g1 g2] at g3; cases g3
theorem fateAt_bare {rm : List Row} {e : Ln} {x : Wh} {i k : Nat} (h : (spotsOf rm)[i]? = some k) : fateAt (bareL rm) e x i = (fateAt rm e x k).map (mapFate (idx (spotsOf rm))) := by
  have hi : idx (spotsOf rm) k = i := at_eq (sp_sorted rm) (idx_at (List.mem_of_getElem? h)) h
  unfold fateAt
  rw [bare_at h]
  split
  · show some (Fate.taken i) = some (.taken (idx (spotsOf rm) k))
    rw [hi]
  · split
    · show some (Fate.answered i) = some (.answered (idx (spotsOf rm) k))
      rw [hi]
    · rfl
theorem bare_fate {rm : List Row} {e : Ln} {h : Nat} (hb : e.bell = true) (hh : h ∈ spotsOf rm) : fateOf (bareL rm) e (idx (spotsOf rm) h) = mapFate (idx (spotsOf rm)) (fateOf rm e h) := by
  have hw : (rowAt (bareL rm) (idx (spotsOf rm) h)).w = (rowAt rm h).w := by rw [bare_at (idx_at hh)]
  have srt := sp_sorted rm
  have get : ∀ i, i < (bareL rm).length → ∃ k, (spotsOf rm)[i]? = some k := fun i hi => by
    rw [bare_len] at hi
    exact ⟨_, List.getElem?_eq_getElem hi⟩
  rcases fate_first rm e h with ⟨h1, h2⟩ | ⟨o, F, g1, g2, g3, g4, g5⟩
  · rw [h1]
    refine fate_no fun i hi1 hi2 => ?_
    obtain ⟨k, hk⟩ := get i hi2
    rw [hw, fateAt_bare hk, h2 k ((at_inj srt (idx_at hh) hk).mp hi1) (sp_mem.mp (List.mem_of_getElem? hk)).1]
    rfl
  · rw [g4]
    have ho : o ∈ spotsOf rm := sp_mem.mpr ⟨g2, fate_line hb g3⟩
    refine fate_is (o := idx (spotsOf rm) o) ((at_inj srt (idx_at hh) (idx_at ho)).mpr g1) (by rw [bare_len]; exact idx_lt ho) (by rw [hw, fateAt_bare (idx_at ho), g3]; rfl) fun i hi1 hi2 => ?_
    obtain ⟨k, hk⟩ := get i (by rw [bare_len]; have := idx_lt ho; omega)
    rw [hw, fateAt_bare hk, g5 k ((at_inj srt (idx_at hh) hk).mp hi1) ((at_inj srt hk (idx_at ho)).mp hi2)]
    rfl
theorem bare_ring {br rm : List Row} {ps : List (Nat × Nat)} {k : Nat} (hP : Pairs br rm ps) (hk : k ∈ spotsOf br) (hb : (rowAt br k).l.bell = true) :
    ringOf (bareL br) (bareL rm) (lessP br rm ps) (idx (spotsOf br) k) = mapRing (idx (spotsOf rm)) (idx (spotsOf br)) (ringOf br rm ps k) := by
  have hin := ring_in (k := k) hP hb
  unfold ringOf at hin ⊢
  rw [bare_at (idx_at hk), less_look hP hk]
  cases hl : look ps k with
  | none => rfl
  | some h =>
    have hm := look_mem2 hl
    have hh : h ∈ spotsOf rm := sp_mem.mpr ⟨(hP.lt _ hm).2, by rw [← (hP.same _ hm).1]; exact bell_tube hb⟩
    rw [hl] at hin
    unfold ringAt at hin ⊢
    dsimp only [Option.map_some] at hin ⊢
    rw [bare_fate hb hh]
    cases hf : fateOf rm (rowAt br k).l h with
    | opn => rfl
    | taken o => rfl
    | answered o =>
      rw [hf] at hin
      have ho : o ∈ spotsOf rm := hin.2.1
      show Ring.answered (idx (spotsOf rm) h) (idx (spotsOf rm) o) (lookR (lessP br rm ps) (idx (spotsOf rm) o)) = .answered (idx (spotsOf rm) h) (idx (spotsOf rm) o) ((lookR ps o).map (idx (spotsOf br)))
      rw [less_lookR hP ho]
theorem head_least {xs : List Nat} (hs : xs.Pairwise (· < ·)) {k : Nat} (hk : k ∈ xs) (hl : ∀ x ∈ xs, k ≤ x) : xs.head? = some k := by
  cases xs with
  | nil => cases hk
  | cons x xs =>
    rcases List.mem_cons.mp hk with rfl | hk
    · rfl
    · have h1 := (List.pairwise_cons.mp hs).1 k hk
      have h2 := hl x List.mem_cons_self
      omega
theorem rows_mem {log : List Row} {l : Ln} {h k : Nat} : k ∈ (rowsOn log l).filter (fun k => decide (h < k)) ↔ k < log.length ∧ (rowAt log k).l = l ∧ h < k := by
  unfold rowsOn onLine
  rw [List.mem_filter, List.mem_filter, List.mem_range, decide_eq_true_eq, decide_eq_true_eq, and_assoc]
theorem rows_sorted {log : List Row} {l : Ln} {h : Nat} : ((rowsOn log l).filter fun k => decide (h < k)).Pairwise (· < ·) := by
  unfold rowsOn
  exact List.Pairwise.filter _ (List.Pairwise.filter _ List.pairwise_lt_range)
theorem bare_obey {br rm : List Row} {ps : List (Nat × Nat)} {k : Nat} (hP : Pairs br rm ps) (hk : k ∈ spotsOf br) (hb : (rowAt br k).l.bell = true) :
    obeyOf (bareL br) (bareL rm) (lessP br rm ps) (idx (spotsOf br) k) 0 = obeyOf br rm ps k 0 := by
  unfold obeyOf
  rw [bare_at (idx_at hk), less_look hP hk]
  generalize hll : (rowAt br k).l = l at hb
  cases hl : look ps k with
  | none => rfl
  | some h =>
    have hm := look_mem2 hl
    have hh : h ∈ spotsOf rm := sp_mem.mpr ⟨(hP.lt _ hm).2, by rw [← (hP.same _ hm).1, hll]; exact bell_tube hb⟩
    have srt := sp_sorted rm
    show some ((rowAt (bareL rm) (idx (spotsOf rm) h)).m - 0, ((rowsOn (bareL rm) l).filter fun k => decide (idx (spotsOf rm) h < k)).head?.map fun k => (rowAt (bareL rm) k).m - 0) = some ((rowAt rm h).m - 0, ((rowsOn rm l).filter fun k => decide (h < k)).head?.map fun k => (rowAt rm k).m - 0)
    rw [bare_at (idx_at hh)]
    have e : (((rowsOn (bareL rm) l).filter fun k => decide (idx (spotsOf rm) h < k)).head?.map fun k => (rowAt (bareL rm) k).m - 0) = (((rowsOn rm l).filter fun k => decide (h < k)).head?.map fun k => (rowAt rm k).m - 0) := by
      have back : ∀ i, i ∈ (rowsOn (bareL rm) l).filter (fun k => decide (idx (spotsOf rm) h < k)) → ∃ j, (spotsOf rm)[i]? = some j ∧ j ∈ (rowsOn rm l).filter (fun k => decide (h < k)) := fun i hi => by
        obtain ⟨h1, h2, h3⟩ := rows_mem.mp hi
        rw [bare_len] at h1
        have hj : (spotsOf rm)[i]? = some (spotsOf rm)[i] := List.getElem?_eq_getElem h1
        refine ⟨_, hj, rows_mem.mpr ⟨(sp_mem.mp (List.mem_of_getElem? hj)).1, ?_, (at_inj srt (idx_at hh) hj).mp h3⟩⟩
        rw [bare_at hj] at h2
        exact h2
      have forth : ∀ j, j ∈ (rowsOn rm l).filter (fun k => decide (h < k)) → j ∈ spotsOf rm ∧ idx (spotsOf rm) j ∈ (rowsOn (bareL rm) l).filter (fun k => decide (idx (spotsOf rm) h < k)) := fun j hj => by
        obtain ⟨h1, h2, h3⟩ := rows_mem.mp hj
        have hjs : j ∈ spotsOf rm := sp_mem.mpr ⟨h1, by rw [h2]; exact bell_tube hb⟩
        refine ⟨hjs, rows_mem.mpr ⟨by rw [bare_len]; exact idx_lt hjs, by rw [bare_at (idx_at hjs)]; exact h2, (at_inj srt (idx_at hh) (idx_at hjs)).mpr h3⟩⟩
      cases hA : (rowsOn rm l).filter (fun k => decide (h < k)) with
      | nil =>
        have hB : (rowsOn (bareL rm) l).filter (fun k => decide (idx (spotsOf rm) h < k)) = [] := by
          rw [List.eq_nil_iff_forall_not_mem]
          intro i hi
          obtain ⟨j, _, hj⟩ := back i hi
          rw [hA] at hj
          cases hj
        rw [hB]
        rfl
      | cons j js =>
        have hjA : j ∈ (rowsOn rm l).filter (fun k => decide (h < k)) := by rw [hA]; exact List.mem_cons_self
        obtain ⟨hjs, hjB⟩ := forth j hjA
        have hB : ((rowsOn (bareL rm) l).filter fun k => decide (idx (spotsOf rm) h < k)).head? = some (idx (spotsOf rm) j) := by
          refine head_least rows_sorted hjB fun i hi => ?_
          obtain ⟨j2, hj2, hj3⟩ := back i hi
          have hle : j ≤ j2 := by
            have hs := rows_sorted (log := rm) (l := l) (h := h)
            rw [hA] at hj3 hs
            rcases List.mem_cons.mp hj3 with rfl | hj3
            · exact Nat.le_refl _
            · exact Nat.le_of_lt ((List.pairwise_cons.mp hs).1 j2 hj3)
          rcases Nat.lt_or_ge i (idx (spotsOf rm) j) with hlt | hge
          · have := (at_inj srt hj2 (idx_at hjs)).mp hlt
            omega
          · exact hge
        rw [hB]
        show some ((rowAt (bareL rm) (idx (spotsOf rm) j)).m - 0) = some ((rowAt rm j).m - 0)
        rw [bare_at (idx_at hjs)]
    rw [e]
end DL

namespace DL
open PySem PySem.Spec PyProof.Rows L2
/-! shapes -/
theorem sh_ring {n : Nat} (r : Ring) : Sh (n + 1) (.tuple (encRing r)) := by
  have hopt : ∀ s : Option Nat, Sh n (optD s) := fun s => by cases s; exact sh_non; exact sh_int
  cases r with
  | never => exact sh_tup (all_cons (sh_str (by decide +kernel)) all_nil)
  | answered h o s => exact sh_tup (all_cons (sh_str (by decide +kernel)) (all_cons sh_int (all_cons sh_int (all_cons (hopt s) all_nil))))
  | taken h o => exact sh_tup (all_cons (sh_str (by decide +kernel)) (all_cons sh_int (all_cons sh_int all_nil)))
  | opn h => exact sh_tup (all_cons (sh_str (by decide +kernel)) (all_cons sh_int all_nil))
theorem sh_ob {n : Nat} (x : Option (Int × Option Int)) : Sh (n + 1) (encOb x) := by
  have hopt : ∀ s : Option Int, Sh n (optI s) := fun s => by cases s; exact sh_non; exact sh_int
  cases x with
  | none => exact sh_non
  | some z => exact sh_tup (all_cons sh_int (all_cons (hopt _) all_nil))
theorem sh_HN {n : Nat} (x : Bool × Nat) : Sh (n + 1) (encHN x) := sh_tup (all_cons sh_H (all_cons sh_int all_nil))
theorem sh_why {n : Nat} (br rm : List Row) (ps : List (Nat × Nat)) (d lag : Int) (x : Bool × Nat) : Sh n (.str (whyOf br rm ps d lag x)) := by
  unfold whyOf
  split
  · exact sh_str (by decide +kernel)
  · split
    · exact sh_str (by decide +kernel)
    · exact sh_str (by decide +kernel)
theorem sh_allOf {br rm : List Row} {ps : List (Nat × Nat)} {d lag k : Int} : Sh 10 (allOf br rm ps d lag k) := by
  refine sh_list (all_cons (sh_list (sh_map fun i _ => sh_tup (all_cons sh_int (all_cons (sh_ring _) (all_cons (sh_ob _) all_nil))))) (all_cons (sh_list (all_cons (sh_list (sh_map fun x _ => sh_HN x)) (all_cons (sh_list ?_) (all_cons sh_int all_nil)))) all_nil))
  unfold strOf
  exact sh_map fun x _ => sh_tup (all_cons sh_H (all_cons sh_int (all_cons (sh_why _ _ _ _ _ _) all_nil)))
end DL

namespace DL
open PySem PySem.Spec PyProof.Rows L2
local macro_rules
  | `(tactic| walk_at "d") => `(tactic| first
    | with_reducible refine ru_seq ?_
    | with_reducible refine ru_asg ?_
    | with_reducible refine ru_ret ?_
    | with_reducible refine ru_if ?_
    | with_reducible refine ru_next ?_
    | with_reducible refine ru_cont ?_
    | with_reducible refine ru_break ?_
    | with_reducible refine ru_dropE ?_
    | with_reducible refine gw_name ?_
    | with_reducible refine gw_tup rfl ?_
    | with_reducible refine gws_consM ?_
    | with_reducible refine gws_nilM ?_
    | with_reducible refine gws_cons ?_
    | with_reducible refine gws_nil ?_
    | with_reducible refine w_var (by with_unfolding_all rfl) ?_
    | with_reducible refine w_int ?_
    | with_reducible refine w_str ?_
    | with_reducible refine w_bl ?_
    | with_reducible refine w_non ?_
    | with_reducible refine w_ref ?_
    | with_reducible refine w_ty ?_
    | with_reducible refine w_op ?_
    | with_reducible refine w_chain ?_
    | with_reducible refine w_cb ?_
    | with_reducible refine w_call0 ?_
    | with_reducible refine w_bm ?_
    | with_reducible refine w_neg ?_
    | with_reducible refine w_ckw ?_
    | with_reducible refine w_andV ?_
    | with_reducible refine w_orV ?_
    | with_reducible refine w_notV ?_
    | with_reducible refine w_sl ?_
    | with_reducible refine w_tup ?_
    | with_reducible refine wo_none ?_
    | with_reducible refine wt_test ?_
    | with_reducible refine wt_B ?_
    | with_reducible refine wt_and ?_
    | with_reducible refine wt_or ?_
    | with_reducible refine wt_not ?_
    | with_reducible refine wt_yes ?_
    | with_reducible refine wa_cons ?_
    | with_reducible refine wa_nil ?_
    | with_reducible refine isB ?_
    | with_reducible refine isI ?_
    | with_reducible refine wo_someI ?_
    | with_reducible refine rs_T ?_
    | with_reducible refine isDs_cons ?_
    | with_reducible refine isDs_nil ?_
    | with_reducible refine ⟨Nat.le_of_ble_eq_true (by with_unfolding_all rfl), ?_⟩
    | with_reducible refine rw_I0 ?_
    | with_reducible refine rw_B0 ?_
    | with_reducible refine rw_I (cmulL (by decide) (by decide)) ?_
    | with_reducible refine rw_I (cmulR (by decide) (by decide)) ?_
    | with_reducible refine rw_I (cpowI (by decide) (by decide) (by decide)) ?_
    | with_reducible refine rw_I (cdivI (by decide) (by decide)) ?_
    | with_reducible refine rw_I (C := fun _ j => 0 < j) (by show (0 : Int) < _; decide) ?_
    | with_reducible refine rw_eqI ?_
    | with_reducible refine rw_eqL ?_
    | with_reducible refine rw_eqH ?_
    | with_reducible refine rw_eqW ?_
    | with_reducible refine rw_eqS ?_
    | with_reducible refine rw_eqB ?_
    | with_reducible refine rw_eqSN ?_
    | with_reducible refine rw_neI ?_
    | with_reducible refine rw_neW ?_
    | with_reducible refine rw_neS ?_
    | with_reducible refine rw_isN ?_
    | with_reducible refine rw_notN ?_
    | with_reducible refine rw_ixLog (by assumption) ?_
    | with_reducible refine rw_ixTd (by with_unfolding_all rfl) ?_
    | with_reducible refine rw_ixLd (by with_unfolding_all rfl) ?_
    | with_reducible refine rc_lenMT ?_
    | with_reducible refine rc_lenML ?_
    | with_reducible refine rc_lenT seqT_d ?_
    | with_reducible refine rc_lenL seqL_d ?_
    | with_reducible refine rc_abs ?_
    | with_reducible refine rc_max2 ?_
    | with_reducible refine rc_min2 ?_
    | with_reducible refine rc_intB ?_
    | with_reducible refine rc_tupL seqL_d ?_
    | with_reducible refine iteT ?_
    | with_reducible refine iteF ?_
    | with_reducible refine iteNT ?_
    | with_reducible refine iteNF ?_)
theorem cut_take {α : Type} {xs : List α} {k : Nat} : cutG xs none (some (k : Int)) = xs.take k := by
  unfold cutG
  rw [HT.sIx_nat]
  show (xs.drop 0).take (min k xs.length - 0) = _
  rw [List.drop_zero, Nat.sub_zero, List.take_eq_take_iff]
  omega
theorem cut_drop {α : Type} {xs : List α} {k : Nat} : cutG xs (some (k : Int)) none = xs.drop k := by
  unfold cutG
  rw [HT.sIx_nat]
  show (xs.drop (min k xs.length)).take (xs.length - min k xs.length) = _
  rw [List.take_of_length_le (by rw [List.length_drop]; exact Nat.le_refl _)]
  by_cases h : k ≤ xs.length
  · rw [Nat.min_eq_left h]
  · rw [Nat.min_eq_right (by omega), List.drop_eq_nil_of_le (Nat.le_refl _), List.drop_eq_nil_of_le (by omega)]
theorem sortOk_HN (qs : List (Bool × Nat)) : SortOk (qs.map encHN) := by
  refine ⟨fun d hd d' hd' => ?_, .inl fun d hd => ?_, fun d hd => ?_⟩
  · obtain ⟨p, _, rfl⟩ := List.mem_map.mp hd
    obtain ⟨p', _, rfl⟩ := List.mem_map.mp hd'
    rfl
  · obtain ⟨p, _, rfl⟩ := List.mem_map.mp hd
    exact ⟨_, _, rfl⟩
  · obtain ⟨p, _, rfl⟩ := List.mem_map.mp hd
    exact Nat.le_trans (sh_HN (n := 0) p).2 (by decide)
theorem eqv_str {a b : Str} : PyData.eqv (.str a) (.str b) = decide (a = b) := by
  rw [PyData.eqv, Bool.beq_eq_decide_eq]
theorem eqv_int {a b : Int} : PyData.eqv (.int a) (.int b) = decide (a = b) := by
  rw [PyData.eqv, Bool.beq_eq_decide_eq]
theorem sh_sh {n : Nat} {d : PyData} (h : Sh n d) (hn : n ≤ 64 := by decide) : SeqAt.shaped d = true := h.shaped hn
abbrev s_fewer_right : Stmt := topS 58
abbrev N_fewer_right : List Str := ["_law_pen_here", "_law_above", "_law_below", "_law_pairs_here", "_law_at", "_law_b", "_law_r", "_law_fewer", "_law_spot", "_law_due", "_law_sent", "_law_k"]
abbrev p_fewer_right : List Str := ["_law_pen_here", "_law_above", "_law_below", "_law_pairs_here"]
theorem sc_fewer_right : FnScope N_fewer_right p_fewer_right (defScope s_fewer_right) := ⟨rfl, rfl, rfl, by decide +kernel, rfl, by decide +kernel, by decide +kernel⟩

def sp_fewer_right : Spec := fun M es R => es.length = 4 ∧ ∃ (pp : Addr) (n : Nat) (o : MO) (br rm : List Row) (ps : List (Nat × Nat)), es = [.v (.ref pp), .d (encLog br), .d (encLog rm), .d (encPs ps)] ∧ M pp = some o ∧ PenO n o ∧ n ≤ 100000 ∧ br.length ≤ 40 ∧ rm.length ≤ 40 ∧ Pairs br rm ps ∧
  ∀ o', PenO (n + 1) o' → R (.d (.bool true)) (mupd M pp o')
theorem ok_fewer_right {P : Program} {w : World} {K : PySem.W.Frag} {mg : Str → Option Value} {base : Heap} {aD aS aB aE : Addr}  {f : Addr} {fd : FuncData} (F : FunD K "_law_fewer_right" "_law_fewer_right" s_fewer_right f fd) (T : Gb w K mg aD aS aB aE) (c_draw : Cd P w K mg base 1 "_law_draw" sp_draw []) (c_ring_of : Cd P w K mg base 3 "ring_of" sp_ring_of []) (c_missed : Cd P w K mg base 3 "missed" sp_missed []) : FnOk P w K mg base CX0 4 f fd p_fewer_right (PSp K sp_fewer_right) := by
  refine okD F sc_fewer_right (fun M es R h => h.1) (fun cdv A outer s H E hr => ⟨_, (pss_cons (ps_if (c_eqD K rfl hr (pv 3) (pe_lst pa_nil)) (pss_one (ps_ret pe_bl)) pss_nil)
    (pss_cons (ps_set (i := 4) sc_fewer_right.nd rfl (Or.inl rfl) (e_def P w K mg base rfl rfl rfl rfl rfl c_draw hr (by decide) (by rfl) (pa_cons (pv 0) (pa_cons (e_len K rfl T.len (by rfl) (pa_cons (pv 3) pa_nil)) pa_nil))))
    (pss_cons (ps_asg (e_ixL K rfl (pv 3) (pv 4) (fun _ _ => rfl)) (g_tup K rfl 2 rfl (pgs_cons (pg_name (i := 5) sc_fewer_right.nd rfl (Or.inl rfl)) (pgs_cons (pg_name (i := 6) sc_fewer_right.nd rfl (Or.inl rfl)) pgs_nil))))
    (pss_cons (ps_set (i := 7) sc_fewer_right.nd rfl (Or.inl rfl) (pe_op op_cat (e_slL K rfl (pv 3) po_none (po_some (pv 4))) (e_slL K rfl (pv 3) (po_some (pe_op op_add (pv 4) pe_int)) po_none)))
    (pss_cons (ps_for PassesOwn.never rfl (i_list K rfl (pe_lc (own := [("_law_k", 11)]) (g := (gName 11)) rfl sc_fewer_right.nd (pi_range1 (by rfl) T.range (pa_cons (e_len K rfl T.len (by rfl) (pa_cons (pv 1) pa_nil)) pa_nil)) (blkOk_by (own := [("_law_k", 11)]) (N := N_fewer_right) (sc := defScope s_fewer_right) (by decide +kernel)) (fun _ _ _ _ _ => (pg_name (i := 11) sc_fewer_right.nd rfl (Or.inl rfl))) (fun _ _ _ _ _ => (pts_one (c_in K rfl (e_ixT K rfl (e_ixT K rfl (pv 1) (pv 11) (fun _ _ => rfl)) pe_int (fun _ _ => rfl)) (pe_tup (pa_cons pe_str (pa_cons pe_str pa_nil))) (by first | rfl | decide)))) (fun _ _ _ _ _ => (pv 11)))) (pg_name (i := 8) sc_fewer_right.nd rfl (Or.inl rfl)) (pss_cons (ps_set (i := 9) sc_fewer_right.nd rfl (Or.inl rfl) (e_def P w K mg base rfl rfl rfl rfl rfl c_ring_of hr (by decide) (by rfl) (pa_cons (pv 1) (pa_cons (pv 2) (pa_cons (pv 3) (pa_cons (pv 8) pa_nil))))))
    (pss_cons (ps_if (pt_cmpR op_eq (pv 8) (pv 5) (nomark _)) (pss_one (ps_set (i := 9) sc_fewer_right.nd rfl (Or.inl rfl) (pe_tup (pa_cons pe_str pa_nil)))) pss_nil)
    (pss_cons (ps_if (PW.pt (pw_and (c_eqD K rfl hr (e_ixT K rfl (pv 9) pe_int (fun _ _ => rfl)) pe_str) (pw_and1 (c_eqD K rfl hr (e_ixT K rfl (pv 9) pe_int (fun _ _ => rfl)) (pv 6))))) (pss_one (ps_set (i := 9) sc_fewer_right.nd rfl (Or.inl rfl) (e_catT K rfl (e_slT K rfl (pv 9) po_none (po_some pe_int)) (pe_tup (pa_cons pe_non pa_nil))))) pss_nil)
    (pss_one (ps_if (c_neD K rfl hr (e_def P w K mg base rfl rfl rfl rfl rfl c_ring_of hr (by decide) (by rfl) (pa_cons (pv 1) (pa_cons (pv 2) (pa_cons (pv 7) (pa_cons (pv 8) pa_nil))))) (pv 9)) (pss_one (ps_ret pe_bl)) pss_nil))))))
    (pss_cons (ps_set (i := 10) sc_fewer_right.nd rfl (Or.inl rfl) (e_ixL K rfl (pe_lst (pa_cons (pe_tup (pa_cons pe_str (pa_cons (pv 5) pa_nil))) (pa_cons (pe_tup (pa_cons pe_str (pa_cons (pv 6) pa_nil))) pa_nil))) (e_intB K rfl T.int (by rfl) (pa_cons (e_in K rfl (e_ixT K rfl (e_ixT K rfl (pv 1) (pv 5) (fun _ _ => rfl)) pe_int (fun _ _ => rfl)) (pe_tup (pa_cons pe_str (pa_cons pe_str (pa_cons pe_str pa_nil)))) (by first | rfl | decide)) pa_nil)) (fun _ _ => rfl)))
    (pss_one (ps_ret (e_eqD K rfl hr (e_def P w K mg base rfl rfl rfl rfl rfl c_missed hr (by decide) (by rfl) (pa_cons (pv 1) (pa_cons (pv 2) (pa_cons (pv 7) pa_nil)))) (e_sortD K rfl hr T.sorted (by rfl) (pa_cons (pe_op op_cat (e_def P w K mg base rfl rfl rfl rfl rfl c_missed hr (by decide) (by rfl) (pa_cons (pv 1) (pa_cons (pv 2) (pa_cons (pv 3) pa_nil)))) (pe_lst (pa_cons (pv 10) pa_nil))) pa_nil))))))))))), fun M es R h => ?_⟩)
  obtain ⟨_, h⟩ := h
  obtain ⟨pp, n, o, br, rm, ps, rfl, hp, ho, hn, l1, l2, hP, h⟩ := h
  have hpl := hP.len
  have sz : sizeLine = 16777216 := rfl
  have hbl := bells_len br
  repeat walk_at "d"
  refine w_lst ?_
  repeat walk_at "d"
  refine rw_eqD asD_d asD_d (sh_sh (n := 2) (sh_list (sh_map fun _ _ => sh_tup (all_cons sh_int (all_cons sh_int all_nil))))) (sh_sh (n := 1) (sh_list all_nil)) ?_
  rw [eqv_nil]
  refine isB (bool_if (fun he => ?_) (fun he => ?_))
  · repeat walk_at "d"
    have := h o (ho.mono (by omega))
    rw [mupd_self hp] at this
    exact this
  have hps : 1 ≤ ps.length := by
    cases ps with
    | nil => cases he
    | cons _ _ => exact Nat.succ_pos _
  repeat walk_at "d"
  refine ⟨rfl, pp, _, n, o, rfl, hp, ho, by omega, by omega, by omega, fun v o' ho' hv0 hv1 => ?_⟩
  obtain ⟨i, rfl⟩ : ∃ i : Nat, v = (i : Int) := ⟨v.toNat, by omega⟩
  have hi : i < ps.length := by omega
  obtain ⟨⟨b, r⟩, hat⟩ : ∃ p, ps[i]? = some p := ⟨ps[i], List.getElem?_eq_getElem hi⟩
  have hbr := hP.lt _ (List.mem_of_getElem? hat)
  have hF := fewer_pairs (i := i) hP
  have hFl : (dropAt ps i).length ≤ 1000 := by have := hF.len; omega
  repeat walk_at "d"
  refine rw_ixLd (at_ps hat) ?_
  repeat walk_at "d"
  refine rs_L (ds := ps.map encP) seqL_d ?_
  rw [cut_take, ← List.map_take]
  repeat walk_at "d"
  refine rs_L (ds := ps.map encP) seqL_d ?_
  rw [show ((i : Int) + 1) = ((i + 1 : Nat) : Int) from rfl, cut_drop, ← List.map_drop]
  refine rw_catL seqL_d seqL_d (by rw [List.length_map, List.length_map, List.length_take, List.length_drop]; omega) ?_
  rw [← List.map_append]
  show GW K _ (.d (.list ((dropAt ps i).map encP))) _ _ _
  repeat walk_at "d"
  refine ru_for (wi_listD (w_lcQ (wpg_name (by decide)) (wi_rng1 ?_)))
  repeat walk_at "d"
  refine ⟨_, rfl, by omega, by omega, fun i => (rowAt br i).l.bell, natD, by rw [rngE_len]; omega, fun _ _ _ => trivial, fun i e q acc he hq => ?_, ?_⟩
  · obtain ⟨hi, rfl⟩ := rng0_at he
    rw [Int.toNat_natCast] at hi
    repeat walk_at "d"
    refine rw_inTS (ss := ["port", "star"]) rfl ?_
    rw [bell_in2]
    refine isB ⟨rfl, rfl, fun _ => ?_⟩
    repeat walk_at "d"
    exact ⟨rfl, rfl⟩
  rw [rngE_len, Int.toNat_natCast]
  show ∃ ds : List PyData, Ent.d (.list ((bellsOf br).map natD)) = .d (.list ds) ∧ _
  refine ⟨_, rfl, fun j G' M' => M' = mupd M pp o' ∧ ∃ a c d e : Option Ent, G' = [some (.v (.ref pp)), some (.d (encLog br)), some (.d (encLog rm)), some (.d (encPs ps)), some (.d (natD i)), some (.d (natD b)), some (.d (natD r)), some (.d (encPs (dropAt ps i))), a, c, d, e], ⟨rfl, _, _, _, _, rfl⟩, fun _ _ _ _ => trivial, ?_, ?_⟩
  · rintro j e G' M' hx0 ⟨rfl, a, c, d, e', rfl⟩
    obtain ⟨x, hx, rfl⟩ := map_at hx0
    obtain ⟨hxl, hxb⟩ := bells_lt (List.mem_of_getElem? hx)
    have hring := fewer_ring hP hat x
    repeat walk_at "d"
    refine ⟨rfl, br, rm, ps, x, rfl, hxl, hxb, hP, by omega, by omega, ?_⟩
    iterate 1 walk_at "d"
    generalize ringOf br rm ps x = q at hring ⊢
    refine ru_cut (P := fun G' M' => M' = mupd M pp o' ∧ ∃ a c : Option Ent, G' = [some (.v (.ref pp)), some (.d (encLog br)), some (.d (encLog rm)), some (.d (encPs ps)), some (.d (natD i)), some (.d (natD b)), some (.d (natD r)), some (.d (encPs (dropAt ps i))), some (.d (natD x)), some (.d (.tuple (encRing (if x = b then .never else q)))), a, c]) ?_ ?_
    · repeat walk_at "d"
      refine dec_if (fun h1 => ?_) (fun h1 => ?_)
      · repeat walk_at "d"
        refine ⟨rfl, d, e', ?_⟩
        rw [if_pos (by omega)]
        rfl
      · repeat walk_at "d"
        refine ⟨rfl, d, e', ?_⟩
        rw [if_neg (by omega)]
        rfl
    rintro G' M' ⟨rfl, a, c, rfl⟩
    generalize (if x = b then Ring.never else q) = q2 at hring ⊢
    refine ru_cut (P := fun G' M' => M' = mupd M pp o' ∧ ∃ a c : Option Ent, G' = [some (.v (.ref pp)), some (.d (encLog br)), some (.d (encLog rm)), some (.d (encPs ps)), some (.d (natD i)), some (.d (natD b)), some (.d (natD r)), some (.d (encPs (dropAt ps i))), some (.d (natD x)), some (.d (.tuple (encRing (dueR r q2)))), a, c]) ?_ ?_
    · cases q2 with
      | never =>
        show Ru K _ [_, _, _, _, _, _, _, _, _, some (.d (.tuple [.str "never"])), a, c] _ _
        repeat walk_at "d"
        refine rw_eqD asD_d asD_d (sh_sh (n := 0) (sh_str (by decide +kernel))) (sh_sh (n := 0) (sh_str (by decide +kernel))) ?_
        rw [eqv_str]
        refine isB (if_f (by decide +kernel) ?_)
        repeat walk_at "d"
        exact ⟨rfl, _, _, rfl⟩
      | taken h o =>
        show Ru K _ [_, _, _, _, _, _, _, _, _, some (.d (.tuple [.str "taken", natD h, natD o])), a, c] _ _
        repeat walk_at "d"
        refine rw_eqD asD_d asD_d (sh_sh (n := 0) (sh_str (by decide +kernel))) (sh_sh (n := 0) (sh_str (by decide +kernel))) ?_
        rw [eqv_str]
        refine isB (if_f (by decide +kernel) ?_)
        repeat walk_at "d"
        exact ⟨rfl, _, _, rfl⟩
      | opn h =>
        show Ru K _ [_, _, _, _, _, _, _, _, _, some (.d (.tuple [.str "open", natD h])), a, c] _ _
        repeat walk_at "d"
        refine rw_eqD asD_d asD_d (sh_sh (n := 0) (sh_str (by decide +kernel))) (sh_sh (n := 0) (sh_str (by decide +kernel))) ?_
        rw [eqv_str]
        refine isB (if_f (by decide +kernel) ?_)
        repeat walk_at "d"
        exact ⟨rfl, _, _, rfl⟩
      | answered h o s =>
        show Ru K _ [_, _, _, _, _, _, _, _, _, some (.d (.tuple [.str "answered", natD h, natD o, optD s])), a, c] _ _
        repeat walk_at "d"
        refine rw_eqD asD_d asD_d (sh_sh (n := 0) (sh_str (by decide +kernel))) (sh_sh (n := 0) (sh_str (by decide +kernel))) ?_
        rw [eqv_str]
        refine isB (if_t (by decide +kernel) ?_)
        repeat walk_at "d"
        refine rw_eqD asD_d asD_d (sh_sh (n := 0) sh_int) (sh_sh (n := 0) sh_int) ?_
        rw [eqv_int]
        refine isB (dec_if (fun h1 => ?_) (fun h1 => ?_))
        · repeat walk_at "d"
          have e3 : cutG [PyData.str "answered", natD h, natD o, optD s] none (some 3) = [.str "answered", natD h, natD o] := rfl
          rw [e3]
          repeat walk_at "d"
          refine rw_catT (Nat.le_of_ble_eq_true rfl) ?_
          repeat walk_at "d"
          refine ⟨rfl, a, c, ?_⟩
          have e4 : dueR r (.answered h o s) = .answered h o none := by show Ring.answered h o (if o = r then none else s) = _; rw [if_pos (by omega)]
          rw [e4]
          rfl
        · repeat walk_at "d"
          refine ⟨rfl, a, c, ?_⟩
          have e4 : dueR r (.answered h o s) = .answered h o s := by show Ring.answered h o (if o = r then none else s) = _; rw [if_neg (by omega)]
          rw [e4]
          rfl
    rintro G' M' ⟨rfl, a, c, rfl⟩
    rw [← hring]
    repeat walk_at "d"
    refine ⟨rfl, br, rm, _, x, rfl, hxl, hxb, hF, by omega, hFl, ?_⟩
    repeat walk_at "d"
    refine rw_neD asD_d asD_d (sh_sh (n := 1) (sh_ring _)) (sh_sh (n := 1) (sh_ring _)) ?_
    rw [(sh_ring (n := 0) _).refl]
    refine isB (if_f rfl ?_)
    repeat walk_at "d"
    exact ⟨rfl, _, _, _, _, rfl⟩
  · rintro G' M' ⟨rfl, a, c, d, e', rfl⟩
    have hm := fewer_missed hP hat
    have hb1 := hbr.1
    repeat walk_at "d"
    refine w_lst ?_
    repeat walk_at "d"
    refine rw_inTS (ss := ["aport", "astar", "up"]) rfl ?_
    rw [back_in]
    repeat walk_at "d"
    refine rw_ixLd (d := encHN (if (rowAt br b).l.br then (true, b) else (false, r))) (by cases (rowAt br b).l.br <;> rfl) ?_
    repeat walk_at "d"
    refine ⟨rfl, br, rm, _, rfl, by omega, by omega, hFl, ?_⟩
    repeat walk_at "d"
    refine ⟨rfl, br, rm, ps, rfl, by omega, by omega, by omega, ?_⟩
    repeat walk_at "d"
    refine w_lst ?_
    repeat walk_at "d"
    have hll := left_len (br := br) (rm := rm) (ps := ps) (s := true)
    refine rw_catL (ds := (leftOf br rm ps true).map encHN) (ds' := [encHN (if (rowAt br b).l.br then (true, b) else (false, r))]) seqL_d seqL_d (by rw [List.length_map, List.length_singleton]; omega) ?_
    repeat walk_at "d"
    refine rc_sortD seqL_d ?_ ?_
    · have := sortOk_HN (leftOf br rm ps true ++ [if (rowAt br b).l.br then (true, b) else (false, r)])
      rw [List.map_append] at this
      exact this
    rw [hm]
    refine rw_eqD asD_d asD_d (sh_sh (n := 2) (sh_list (sh_map fun x _ => sh_HN x))) (sh_sh (n := 2) (sh_list (sh_map fun x _ => sh_HN x))) ?_
    rw [(sh_list (sh_map fun x _ => sh_HN (n := 0) x)).refl]
    exact h o' ho'
end DL


namespace DL
open PySem PySem.Spec PyProof.Rows L2
local macro_rules
  | `(tactic| walk_at "d") => `(tactic| first
    | with_reducible refine ru_seq ?_
    | with_reducible refine ru_asg ?_
    | with_reducible refine ru_ret ?_
    | with_reducible refine ru_if ?_
    | with_reducible refine ru_next ?_
    | with_reducible refine ru_cont ?_
    | with_reducible refine ru_break ?_
    | with_reducible refine ru_dropE ?_
    | with_reducible refine gw_name ?_
    | with_reducible refine gw_tup rfl ?_
    | with_reducible refine gws_consM ?_
    | with_reducible refine gws_nilM ?_
    | with_reducible refine gws_cons ?_
    | with_reducible refine gws_nil ?_
    | with_reducible refine w_var (by with_unfolding_all rfl) ?_
    | with_reducible refine w_int ?_
    | with_reducible refine w_str ?_
    | with_reducible refine w_bl ?_
    | with_reducible refine w_non ?_
    | with_reducible refine w_ref ?_
    | with_reducible refine w_ty ?_
    | with_reducible refine w_op ?_
    | with_reducible refine w_chain ?_
    | with_reducible refine w_cb ?_
    | with_reducible refine w_call0 ?_
    | with_reducible refine w_bm ?_
    | with_reducible refine w_neg ?_
    | with_reducible refine w_ckw ?_
    | with_reducible refine w_andV ?_
    | with_reducible refine w_orV ?_
    | with_reducible refine w_notV ?_
    | with_reducible refine w_sl ?_
    | with_reducible refine w_tup ?_
    | with_reducible refine wo_none ?_
    | with_reducible refine wt_test ?_
    | with_reducible refine wt_B ?_
    | with_reducible refine wt_and ?_
    | with_reducible refine wt_or ?_
    | with_reducible refine wt_not ?_
    | with_reducible refine wt_yes ?_
    | with_reducible refine wa_cons ?_
    | with_reducible refine wa_nil ?_
    | with_reducible refine isB ?_
    | with_reducible refine isI ?_
    | with_reducible refine wo_someI ?_
    | with_reducible refine rs_T ?_
    | with_reducible refine isDs_cons ?_
    | with_reducible refine isDs_nil ?_
    | with_reducible refine ⟨Nat.le_of_ble_eq_true (by with_unfolding_all rfl), ?_⟩
    | with_reducible refine rw_I0 ?_
    | with_reducible refine rw_B0 ?_
    | with_reducible refine rw_I (cmulL (by decide) (by decide)) ?_
    | with_reducible refine rw_I (cmulR (by decide) (by decide)) ?_
    | with_reducible refine rw_I (cpowI (by decide) (by decide) (by decide)) ?_
    | with_reducible refine rw_I (cdivI (by decide) (by decide)) ?_
    | with_reducible refine rw_I (C := fun _ j => 0 < j) (by show (0 : Int) < _; decide) ?_
    | with_reducible refine rw_eqI ?_
    | with_reducible refine rw_eqL ?_
    | with_reducible refine rw_eqH ?_
    | with_reducible refine rw_eqW ?_
    | with_reducible refine rw_eqS ?_
    | with_reducible refine rw_eqB ?_
    | with_reducible refine rw_eqSN ?_
    | with_reducible refine rw_neI ?_
    | with_reducible refine rw_neW ?_
    | with_reducible refine rw_neS ?_
    | with_reducible refine rw_isN ?_
    | with_reducible refine rw_notN ?_
    | with_reducible refine rw_ixLog (by assumption) ?_
    | with_reducible refine rw_ixTd (by with_unfolding_all rfl) ?_
    | with_reducible refine rw_ixLd (by with_unfolding_all rfl) ?_
    | with_reducible refine rc_lenMT ?_
    | with_reducible refine rc_lenML ?_
    | with_reducible refine rc_lenT seqT_d ?_
    | with_reducible refine rc_lenL seqL_d ?_
    | with_reducible refine rc_abs ?_
    | with_reducible refine rc_max2 ?_
    | with_reducible refine rc_min2 ?_
    | with_reducible refine rc_intB ?_
    | with_reducible refine rc_tupL seqL_d ?_
    | with_reducible refine iteT ?_
    | with_reducible refine iteF ?_
    | with_reducible refine iteNT ?_
    | with_reducible refine iteNF ?_)
theorem idx_spec {xs : List Nat} {k : Nat} (h : k ∈ xs) : xs[idx xs k]? = some k ∧ ∀ m, m < idx xs k → xs[m]? ≠ some k := by
  have hlt : idx xs k < xs.length := List.findIdx_lt_length_of_exists ⟨k, h, by simp⟩
  refine ⟨?_, fun m hm e => ?_⟩
  · have := List.findIdx_getElem (w := hlt)
    rw [List.getElem?_eq_getElem hlt]
    have h2 : xs[idx xs k] = k := of_decide_eq_true this
    rw [h2]
  · have h3 := List.not_of_lt_findIdx hm
    obtain ⟨hl, e2⟩ := List.getElem?_eq_some_iff.mp e
    rw [e2] at h3
    simp at h3
theorem rm_idx {K : PySem.W.Frag} {M : Mh} {R : Ent → Mh → Prop} {xs : List Nat} {k : Nat} (h : k ∈ xs) (r : R (.d (natD (idx xs k))) M) : RM K (rIndex K) (.d (.list (nats xs))) [.d (natD k)] M R := by
  obtain ⟨h1, h2⟩ := idx_spec h
  refine rm_index (ss := xs.map fun (n : Nat) => (n : Int)) (j := idx xs k) (by rw [List.map_map]; rfl) seqL_d (by rw [List.getElem?_map, h1]; rfl) (fun m hm e => ?_) r
  rw [List.getElem?_map] at e
  cases hx : xs[m]? with
  | none => rw [hx] at e; cases e
  | some y =>
    rw [hx] at e
    have : y = k := Int.ofNat.inj (Option.some.inj e)
    exact h2 m hm (by rw [hx, this])
theorem in_natsL {K : PySem.W.Frag} {M : Mh} {R : Ent → Mh → Prop} {xs : List Nat} {k : Nat} (r : R (.d (.bool (decide (k ∈ xs)))) M) : RW K (rIn K false) (.d (natD k)) (.d (.list (nats xs))) M R := by
  refine rw_inLI (ss := xs.map fun (n : Nat) => (n : Int)) (by rw [List.map_map]; rfl) seqL_d ?_
  rw [in_nats]
  exact r
theorem spots_lt {log : List Row} {k : Nat} (h : k ∈ spotsOf log) : k < log.length ∧ (rowAt log k).l.tube = false := by
  unfold spotsOf at h
  have := List.mem_filter.mp h
  exact ⟨List.mem_range.mp this.1, by simpa using this.2⟩
theorem spots_len (log : List Row) : (spotsOf log).length ≤ log.length := filt_len _
/-- what is told of a ring, place by place -/
theorem ring_steps {br rm : List Row} {q : Ring} (h : RingIn br rm q) : (encRing q).length = (encRing (mapRing (idx (spotsOf rm)) (idx (spotsOf br)) q)).length ∧ 1 ≤ (encRing q).length ∧ (encRing q).length ≤ 4 ∧ (encRing q)[0]? = (encRing (mapRing (idx (spotsOf rm)) (idx (spotsOf br)) q))[0]? ∧
    ∀ i, i + 1 < (encRing q).length → ((encRing q)[i + 1]? = some .none ∧ (encRing (mapRing (idx (spotsOf rm)) (idx (spotsOf br)) q))[i + 1]? = some .none) ∨
      ∃ (k : Nat) (xs : List Nat), (encRing q)[i + 1]? = some (natD k) ∧ k ∈ xs ∧ [spotsOf rm, spotsOf rm, spotsOf br][i]? = some xs ∧ (encRing (mapRing (idx (spotsOf rm)) (idx (spotsOf br)) q))[i + 1]? = some (natD (idx xs k)) := by
  cases q with
  | never => exact ⟨rfl, by decide, by decide, rfl, fun i hi => absurd hi (by show ¬(i + 1 < 1); omega)⟩
  | opn a =>
    refine ⟨rfl, Nat.le_of_ble_eq_true rfl, Nat.le_of_ble_eq_true rfl, rfl, fun i hi => ?_⟩
    have hi : i + 1 < 2 := hi
    obtain rfl : i = 0 := by omega
    exact .inr ⟨a, _, rfl, h, rfl, rfl⟩
  | taken a o =>
    refine ⟨rfl, Nat.le_of_ble_eq_true rfl, Nat.le_of_ble_eq_true rfl, rfl, fun i hi => ?_⟩
    have hi : i + 1 < 3 := hi
    rcases (show i = 0 ∨ i = 1 by omega) with rfl | rfl
    · exact .inr ⟨a, _, rfl, h.1, rfl, rfl⟩
    · exact .inr ⟨o, _, rfl, h.2, rfl, rfl⟩
  | answered a o s =>
    refine ⟨rfl, Nat.le_of_ble_eq_true rfl, Nat.le_of_ble_eq_true rfl, rfl, fun i hi => ?_⟩
    have hi : i + 1 < 4 := hi
    rcases (show i = 0 ∨ i = 1 ∨ i = 2 by omega) with rfl | rfl | rfl
    · exact .inr ⟨a, _, rfl, h.1, rfl, rfl⟩
    · exact .inr ⟨o, _, rfl, h.2.1, rfl, rfl⟩
    · cases s with
      | none => exact .inl ⟨rfl, rfl⟩
      | some x => exact .inr ⟨x, _, rfl, h.2.2 x rfl, rfl, rfl⟩
theorem mix_len {α : Type} {o t : List α} (h : o.length = t.length) (i : Nat) : (t.take i ++ o.drop i).length = o.length := by
  rw [List.length_append, List.length_take, List.length_drop]
  omega
theorem mix_at {α : Type} {o t : List α} (h : o.length = t.length) (i : Nat) : (t.take i ++ o.drop i)[i]? = o[i]? := by
  by_cases hi : i < o.length
  · rw [List.getElem?_append_right (by rw [List.length_take]; omega), List.getElem?_drop, List.length_take, Nat.min_eq_left (by omega)]
    congr 1
    omega
  · rw [List.getElem?_eq_none (by rw [mix_len h]; omega), List.getElem?_eq_none (by omega)]
theorem mix_set {α : Type} {o t : List α} (h : o.length = t.length) {i : Nat} {x : α} (hx : t[i]? = some x) : (t.take i ++ o.drop i).set i x = t.take (i + 1) ++ o.drop (i + 1) := by
  have hi : i < t.length := (List.getElem?_eq_some_iff.mp hx).1
  have e1 : o.drop i = o[i]'(by omega) :: o.drop (i + 1) := List.drop_eq_getElem_cons (by omega)
  have hl : (t.take i).length = i := by rw [List.length_take]; omega
  rw [List.take_succ, hx, List.set_append_right _ _ (by omega), hl, Nat.sub_self, e1]
  show _ = (t.take i ++ [x]) ++ o.drop (i + 1)
  rw [List.append_assoc]
  rfl
theorem mix_same {α : Type} {o t : List α} (h : o.length = t.length) {i : Nat} (hx : o[i]? = t[i]?) (hi : i < o.length) : t.take i ++ o.drop i = t.take (i + 1) ++ o.drop (i + 1) := by
  have e1 : o.drop i = o[i]'(by omega) :: o.drop (i + 1) := List.drop_eq_getElem_cons (by omega)
  rw [List.take_succ, ← hx, e1, List.getElem?_eq_getElem hi]
  simp
theorem ixN_nat {n i : Nat} (h : i < n) : ixN n (i : Int) = some i := by
  unfold ixN
  simp
  omega
abbrev s_bare_right : Stmt := topS 57
abbrev N_bare_right : List Str := ["_law_above", "_law_below", "_law_pairs_here", "_law_mine", "_law_yours", "_law_bare", "_law_less", "_law_spot", "_law_due", "_law_at", "_law_k", "_law_b", "_law_r"]
abbrev p_bare_right : List Str := ["_law_above", "_law_below", "_law_pairs_here"]
theorem sc_bare_right : FnScope N_bare_right p_bare_right (defScope s_bare_right) := ⟨rfl, rfl, rfl, by decide +kernel, rfl, by decide +kernel, by decide +kernel⟩

def sp_bare_right : Spec := fun M es R => es.length = 3 ∧ ∃ (br rm : List Row) (ps : List (Nat × Nat)), es = [.d (encLog br), .d (encLog rm), .d (encPs ps)] ∧ br.length ≤ 40 ∧ rm.length ≤ 40 ∧ Pairs br rm ps ∧ R (.d (.bool true)) M
theorem ok_bare_right {P : Program} {w : World} {K : PySem.W.Frag} {mg : Str → Option Value} {base : Heap} {aD aS aB aE : Addr}  {f : Addr} {fd : FuncData} (F : FunD K "_law_bare_right" "_law_bare_right" s_bare_right f fd) (T : Gb w K mg aD aS aB aE) (c_spots : Cd P w K mg base 1 "_law_spots" sp_spots []) (c_ring_of : Cd P w K mg base 3 "ring_of" sp_ring_of []) (c_obeyed : Cd P w K mg base 2 "obeyed" sp_obeyed [.int 0]) : FnOk P w K mg base CX0 4 f fd p_bare_right (PSp K sp_bare_right) := by
  refine okD F sc_bare_right (fun M es R h => h.1) (fun cdv A outer s H E hr => ⟨_, (pss_cons (ps_set (i := 3) sc_bare_right.nd rfl (Or.inr rfl) (e_def P w K mg base rfl rfl rfl rfl rfl c_spots hr (by decide) (by rfl) (pa_cons (pv 0) pa_nil)))
    (pss_cons (ps_set (i := 4) sc_bare_right.nd rfl (Or.inr rfl) (e_def P w K mg base rfl rfl rfl rfl rfl c_spots hr (by decide) (by rfl) (pa_cons (pv 1) pa_nil)))
    (pss_cons (ps_set (i := 5) sc_bare_right.nd rfl (Or.inl rfl) (pe_lst (pa_cons (e_tuple K rfl T.tuple (by rfl) (pa_cons (pe_lc (own := [("_law_k", 10)]) (g := (gName 10)) rfl sc_bare_right.nd (i_list K rfl (pv 3)) (blkOk_by (own := [("_law_k", 10)]) (N := N_bare_right) (sc := defScope s_bare_right) (by decide +kernel)) (fun _ _ _ _ _ => (pg_name (i := 10) sc_bare_right.nd rfl (Or.inl rfl))) (fun _ _ _ _ _ => pts_nil) (fun _ _ _ _ _ => (e_ixT K rfl (pv 0) (pv 10) (fun _ _ => rfl)))) pa_nil)) (pa_cons (e_tuple K rfl T.tuple (by rfl) (pa_cons (pe_lc (own := [("_law_k", 10)]) (g := (gName 10)) rfl sc_bare_right.nd (i_list K rfl (pv 4)) (blkOk_by (own := [("_law_k", 10)]) (N := N_bare_right) (sc := defScope s_bare_right) (by decide +kernel)) (fun _ _ _ _ _ => (pg_name (i := 10) sc_bare_right.nd rfl (Or.inl rfl))) (fun _ _ _ _ _ => pts_nil) (fun _ _ _ _ _ => (e_ixT K rfl (pv 1) (pv 10) (fun _ _ => rfl)))) pa_nil)) pa_nil))))
    (pss_cons (ps_setLc (i := 6) (own := [("_law_b", 11), ("_law_r", 12)]) (g := (gTup K 2 (gCons (gName 11) (gCons (gName 12) gNil)))) rfl sc_bare_right.nd rfl rfl (sw_true rfl rfl rfl (by decide +kernel)) (i_list K rfl (pv 2)) (blkOk_by (own := [("_law_b", 11), ("_law_r", 12)]) (N := N_bare_right) (sc := defScope s_bare_right) (by decide +kernel)) (fun _ _ _ _ _ => (g_tup K rfl 2 rfl (pgs_cons (pg_name (i := 11) sc_bare_right.nd rfl (Or.inl rfl)) (pgs_cons (pg_name (i := 12) sc_bare_right.nd rfl (Or.inl rfl)) pgs_nil)))) (fun _ _ _ _ _ => (pts_one (PW.pt (pw_and (c_in K rfl (pv 11) (pv 3) (by first | rfl | decide)) (pw_and1 (c_in K rfl (pv 12) (pv 4) (by first | rfl | decide))))))) (fun _ _ _ _ _ => (pe_tup (pa_cons (e_idx K rfl (pv 3) (pa_cons (pv 11) pa_nil)) (pa_cons (e_idx K rfl (pv 4) (pa_cons (pv 12) pa_nil)) pa_nil)))))
    (pss_cons (ps_for PassesOwn.never rfl (i_list K rfl (pe_lc (own := [("_law_k", 10)]) (g := (gName 10)) rfl sc_bare_right.nd (i_list K rfl (pv 3)) (blkOk_by (own := [("_law_k", 10)]) (N := N_bare_right) (sc := defScope s_bare_right) (by decide +kernel)) (fun _ _ _ _ _ => (pg_name (i := 10) sc_bare_right.nd rfl (Or.inl rfl))) (fun _ _ _ _ _ => (pts_one (c_in K rfl (e_ixT K rfl (e_ixT K rfl (pv 0) (pv 10) (fun _ _ => rfl)) pe_int (fun _ _ => rfl)) (pe_tup (pa_cons pe_str (pa_cons pe_str pa_nil))) (by first | rfl | decide)))) (fun _ _ _ _ _ => (pv 10)))) (pg_name (i := 7) sc_bare_right.nd rfl (Or.inl rfl)) (pss_cons (ps_set (i := 8) sc_bare_right.nd rfl (Or.inl rfl) (e_list K rfl T.list (by rfl) (pa_cons (e_def P w K mg base rfl rfl rfl rfl rfl c_ring_of hr (by decide) (by rfl) (pa_cons (pv 0) (pa_cons (pv 1) (pa_cons (pv 2) (pa_cons (pv 7) pa_nil))))) pa_nil)))
    (pss_cons (ps_for PassesOwn.never rfl (pi_range2 (by rfl) T.range (pa_cons pe_int (pa_cons (e_len K rfl T.len (by rfl) (pa_cons (pv 8) pa_nil)) pa_nil))) (pg_name (i := 9) sc_bare_right.nd rfl (Or.inl rfl)) (pss_one (ps_if (pt_cmpR op_notN (e_ixL K rfl (pv 8) (pv 9) (fun _ _ => rfl)) pe_non (nomark _)) (pss_one (ps_asg (e_idx K rfl (e_ixL K rfl (pe_lst (pa_cons (pv 4) (pa_cons (pv 4) (pa_cons (pv 3) pa_nil)))) (pe_op op_sub (pv 9) pe_int) (fun _ _ => rfl)) (pa_cons (e_ixL K rfl (pv 8) (pv 9) (fun _ _ => rfl)) pa_nil)) (pg_sub (pv 8) (pv 9) set_list))) pss_nil)))
    (pss_cons (ps_if (c_neD K rfl hr (e_def P w K mg base rfl rfl rfl rfl rfl c_ring_of hr (by decide) (by rfl) (pa_cons (e_ixL K rfl (pv 5) pe_int (fun _ _ => rfl)) (pa_cons (e_ixL K rfl (pv 5) pe_int (fun _ _ => rfl)) (pa_cons (pv 6) (pa_cons (e_idx K rfl (pv 3) (pa_cons (pv 7) pa_nil)) pa_nil))))) (e_tuple K rfl T.tuple (by rfl) (pa_cons (pv 8) pa_nil))) (pss_one (ps_ret pe_bl)) pss_nil)
    (pss_one (ps_if (c_neD K rfl hr (e_def P w K mg base rfl rfl rfl rfl rfl c_obeyed hr (by decide) (by rfl) (pa_cons (e_ixL K rfl (pv 5) pe_int (fun _ _ => rfl)) (pa_cons (e_ixL K rfl (pv 5) pe_int (fun _ _ => rfl)) (pa_cons (pv 6) (pa_cons (e_idx K rfl (pv 3) (pa_cons (pv 7) pa_nil)) pa_nil))))) (e_def P w K mg base rfl rfl rfl rfl rfl c_obeyed hr (by decide) (by rfl) (pa_cons (pv 0) (pa_cons (pv 1) (pa_cons (pv 2) (pa_cons (pv 7) pa_nil)))))) (pss_one (ps_ret pe_bl)) pss_nil))))))
    (pss_one (ps_ret pe_bl))))))), fun M es R h => ?_⟩)
  obtain ⟨_, h⟩ := h
  obtain ⟨br, rm, ps, rfl, l1, l2, hP, h⟩ := h
  have hpl := hP.len
  have sz : sizeLine = 16777216 := rfl
  have sl1 := spots_len br
  have sl2 := spots_len rm
  have hB := bare_pairs hP
  have hlb : (bareL br).length = (spotsOf br).length := by unfold bareL; rw [List.length_map]
  have hlr : (bareL rm).length = (spotsOf rm).length := by unfold bareL; rw [List.length_map]
  have hBl := hB.len
  repeat walk_at "d"
  refine ⟨rfl, br, rfl, by omega, ?_⟩
  repeat walk_at "d"
  refine ⟨rfl, rm, rfl, by omega, ?_⟩
  repeat walk_at "d"
  refine w_lst ?_
  repeat walk_at "d"
  refine w_lcE (α := Nat) (wpg_name (by decide)) (wi_listD ?_)
  repeat walk_at "d"
  refine ⟨_, rfl, spotsOf br, natD, fun k => encRow (rowAt br k), rfl, by omega, fun _ _ _ => trivial, fun i x q acc hx hq => ?_, ?_⟩
  · have hxl := (spots_lt (List.mem_of_getElem? hx)).1
    repeat walk_at "d"
    refine ⟨rfl, ?_⟩
    repeat walk_at "d"
    exact ⟨rfl, rfl⟩
  repeat walk_at "d"
  refine w_lcE (α := Nat) (wpg_name (by decide)) (wi_listD ?_)
  repeat walk_at "d"
  refine ⟨_, rfl, spotsOf rm, natD, fun k => encRow (rowAt rm k), rfl, by omega, fun _ _ _ => trivial, fun i x q acc hx hq => ?_, ?_⟩
  · have hxl := (spots_lt (List.mem_of_getElem? hx)).1
    repeat walk_at "d"
    refine ⟨rfl, ?_⟩
    repeat walk_at "d"
    exact ⟨rfl, rfl⟩
  repeat walk_at "d"
  rw [show ((spotsOf br).map fun k => encRow (rowAt br k)) = (bareL br).map encRow from by unfold bareL; rw [List.map_map]; rfl, show ((spotsOf rm).map fun k => encRow (rowAt rm k)) = (bareL rm).map encRow from by unfold bareL; rw [List.map_map]; rfl]
  refine w_lcF (α := Nat × Nat) (wpg_tup (wpgs_cons (by decide) (wpgs_cons (by decide) wpgs_nil))) (wi_listD ?_)
  repeat walk_at "d"
  refine ⟨_, rfl, ps, encP, fun p => encP (idx (spotsOf br) p.1, idx (spotsOf rm) p.2), fun p => decide (p.1 ∈ spotsOf br) && decide (p.2 ∈ spotsOf rm), rfl, by omega, fun _ _ _ => trivial, fun i x q acc hx hq => ?_, ?_⟩
  · repeat walk_at "d"
    refine in_natsL ?_
    refine isB (dec_if (fun h1 => ?_) (fun h1 => ?_))
    · repeat walk_at "d"
      refine in_natsL ?_
      refine isB ⟨rfl, by dsimp only; rw [decide_eq_true h1, Bool.true_and], fun hh => ?_⟩
      have h2 : x.2 ∈ spotsOf rm := by
        dsimp only at hh
        rw [decide_eq_true h1, Bool.true_and, decide_eq_true_eq] at hh
        exact hh
      repeat walk_at "d"
      refine ⟨ty_l seqL_d, ?_⟩
      repeat walk_at "d"
      refine rm_idx h1 ?_
      repeat walk_at "d"
      refine ⟨ty_l seqL_d, ?_⟩
      repeat walk_at "d"
      refine rm_idx h2 ?_
      repeat walk_at "d"
      exact ⟨rfl, rfl⟩
    · refine ⟨rfl, by dsimp only; rw [decide_eq_false h1, Bool.false_and], fun hh => ?_⟩
      dsimp only at hh
      rw [decide_eq_false h1, Bool.false_and] at hh
      cases hh
  rw [show ((ps.filter fun p => decide (p.1 ∈ spotsOf br) && decide (p.2 ∈ spotsOf rm)).map fun p => encP (idx (spotsOf br) p.1, idx (spotsOf rm) p.2)) = (lessP br rm ps).map encP from by unfold lessP; rw [List.map_map]; rfl]
  repeat walk_at "d"
  refine ru_for (wi_listD (w_lcF (α := Nat) (wpg_name (by decide)) (wi_listD ?_)))
  repeat walk_at "d"
  refine ⟨_, rfl, spotsOf br, natD, natD, fun k => (rowAt br k).l.bell, rfl, by omega, fun _ _ _ => trivial, fun i x q acc hx hq => ?_, ?_⟩
  · have hxl := (spots_lt (List.mem_of_getElem? hx)).1
    repeat walk_at "d"
    refine rw_inTS (ss := ["port", "star"]) rfl ?_
    rw [bell_in2]
    refine isB ⟨rfl, rfl, fun _ => ?_⟩
    repeat walk_at "d"
    exact ⟨rfl, rfl⟩
  refine ⟨_, rfl, fun j G' M' => M' = M ∧ ∃ a c d e f g : Option Ent, G' = [some (.d (encLog br)), some (.d (encLog rm)), some (.d (encPs ps)), some (.d (.list (nats (spotsOf br)))), some (.d (.list (nats (spotsOf rm)))), some (.d (.list [encLog (bareL br), encLog (bareL rm)])), some (.d (encPs (lessP br rm ps))), a, c, d, e, f, g], ⟨rfl, _, _, _, _, _, _, rfl⟩, fun _ _ _ _ => trivial, ?_, ?_⟩
  · rintro j e G' M' hx0 ⟨rfl, a, c, d, e', f', g', rfl⟩
    obtain ⟨x, hx, rfl⟩ := map_at hx0
    have hxm := List.mem_filter.mp (List.mem_of_getElem? hx)
    have hxs := hxm.1
    have hxb := hxm.2
    have hxl := (spots_lt hxs).1
    have hring := bare_ring hP hxs hxb
    have hob := bare_obey hP hxs hxb
    have hin := ring_in (k := x) hP hxb
    have hix : idx (spotsOf br) x < (bareL br).length := by rw [hlb]; exact (List.getElem?_eq_some_iff.mp (idx_spec hxs).1).1
    have hix2 : (rowAt (bareL br) (idx (spotsOf br) x)).l.bell = true := by
      have : rowAt (bareL br) (idx (spotsOf br) x) = rowAt br x := by
        have h1 := row_get hix
        unfold bareL at h1 ⊢
        rw [List.getElem?_map, (idx_spec hxs).1] at h1
        exact (Option.some.inj h1).symm
      rw [this]
      exact hxb
    generalize hq : ringOf br rm ps x = q at hring hin
    obtain ⟨st1, st2, st3, st4, st5⟩ := ring_steps hin
    repeat walk_at "d"
    refine ⟨rfl, br, rm, ps, x, rfl, hxl, hxb, hP, by omega, by omega, ?_⟩
    rw [hq]
    repeat walk_at "d"
    refine rc_listT fun p hp => ?_
    repeat walk_at "d"
    refine ru_for (wi_rng2 ?_)
    repeat walk_at "d"
    generalize hoo : encRing q = oo at st1 st2 st3 st4 st5 ⊢
    generalize htt : encRing (mapRing (idx (spotsOf rm)) (idx (spotsOf br)) q) = tt at st1 st4 st5 ⊢
    refine rc_lenL (seqL_m mupd_same) ?_
    rw [List.length_map]
    repeat walk_at "d"
    refine ⟨1, (oo.length : Int), rfl, ⟨by omega, by omega, by omega, by omega⟩, ?_⟩
    refine ⟨fun i G' M2 => i + 1 ≤ oo.length ∧ M2 = mupd M' p (.lst ((tt.take (i + 1) ++ oo.drop (i + 1)).map Ent.d)) ∧ ∃ a c d e : Option Ent, G' = [some (.d (encLog br)), some (.d (encLog rm)), some (.d (encPs ps)), some (.d (.list (nats (spotsOf br)))), some (.d (.list (nats (spotsOf rm)))), some (.d (.list [encLog (bareL br), encLog (bareL rm)])), some (.d (encPs (lessP br rm ps))), some (.d (natD x)), some (.v (.ref p)), a, c, d, e], ⟨st2, ?_, _, _, _, _, rfl⟩, fun _ _ _ _ => trivial, ?_, ?_⟩
    · rw [← mix_same st1 st4 (by omega)]
      rfl
    · rintro i e G' M2 he ⟨hi1, rfl, a, c, d, e', rfl⟩
      obtain ⟨hir, rfl⟩ := rng_at he
      have hi2 : i + 1 < oo.length := by omega
      rw [show (1 : Int) + (i : Int) = ((i + 1 : Nat) : Int) from by omega]
      have hlen := mix_len st1 (i + 1)
      have hmix := mix_at st1 (i + 1)
      rcases st5 i hi2 with ⟨ho, ht⟩ | ⟨k, xs, ho, hk, hsel, ht⟩
      · have hat : atI ((tt.take (i + 1) ++ oo.drop (i + 1)).map Ent.d) ((i + 1 : Nat) : Int) = some (.d .none) := atI_nat (by rw [List.getElem?_map, hmix, ho]; rfl)
        repeat walk_at "d"
        refine rw_ixL (seqL_m mupd_same) hat ?_
        repeat walk_at "d"
        refine if_f rfl ?_
        repeat walk_at "d"
        refine ⟨by omega, ?_, _, _, _, _, rfl⟩
        rw [mix_same st1 (by rw [ho, ht]) hi2]
      · have hat : atI ((tt.take (i + 1) ++ oo.drop (i + 1)).map Ent.d) ((i + 1 : Nat) : Int) = some (.d (natD k)) := atI_nat (by rw [List.getElem?_map, hmix, ho]; rfl)
        repeat walk_at "d"
        refine rw_ixL (seqL_m mupd_same) hat ?_
        repeat walk_at "d"
        refine if_t rfl ?_
        repeat walk_at "d"
        refine w_lst ?_
        repeat walk_at "d"
        refine rw_ixLd (d := .list (nats xs)) ?_ ?_
        · rw [show ((i + 1 : Nat) : Int) - 1 = (i : Int) from by omega]
          refine atI_nat ?_
          rcases (show i = 0 ∨ i = 1 ∨ i = 2 by omega) with rfl | rfl | rfl
          · cases hsel; rfl
          · cases hsel; rfl
          · cases hsel; rfl
        repeat walk_at "d"
        refine ⟨ty_l seqL_d, ?_⟩
        repeat walk_at "d"
        refine rw_ixL (seqL_m mupd_same) hat ?_
        repeat walk_at "d"
        refine rm_idx hk ?_
        refine gw_setL ?_
        repeat walk_at "d"
        refine ⟨p, _, _, i + 1, rfl, rfl, mupd_same, ixN_nat (by rw [List.length_map, hlen]; exact hi2), ?_⟩
        refine ⟨by omega, ?_, _, _, _, _, rfl⟩
        rw [mupd_mupd, show (((tt.take (i + 1) ++ oo.drop (i + 1)).map Ent.d).set (i + 1) (.d (natD (idx xs k)))) = ((tt.take (i + 1) ++ oo.drop (i + 1)).set (i + 1) (natD (idx xs k))).map Ent.d from (List.map_set).symm, mix_set st1 ht]
    · rintro G' M2 ⟨hi1, rfl, a, c, d, e', rfl⟩
      rw [rngE_len, show ((oo.length : Int) - 1).toNat + 1 = oo.length from by omega, List.drop_length, List.append_nil, st1, List.take_length]
      subst htt
      rw [← hring]
      repeat walk_at "d"
      refine ⟨ty_l seqL_d, ?_⟩
      repeat walk_at "d"
      refine rm_idx hxs ?_
      repeat walk_at "d"
      refine ⟨rfl, _, _, _, _, rfl, hix, hix2, hB, by omega, by omega, ?_⟩
      repeat walk_at "d"
      refine rc_tupL (seqL_m mupd_same) ?_
      refine rw_neD asD_d asD_d (sh_sh (n := 1) (sh_ring _)) (sh_sh (n := 1) (sh_ring _)) ?_
      rw [(sh_ring (n := 0) _).refl]
      refine isB (if_f rfl ?_)
      repeat walk_at "d"
      refine w_call (des := [.d (.int 0)]) (fun _ => .cons (.int 0) .nil) ?_
      repeat walk_at "d"
      refine ⟨ty_l seqL_d, ?_⟩
      repeat walk_at "d"
      refine rm_idx hxs ?_
      repeat walk_at "d"
      refine ⟨rfl, _, _, _, _, 0, rfl, hix, hix2, hB, by omega, by omega, ?_⟩
      refine w_call (des := [.d (.int 0)]) (fun _ => .cons (.int 0) .nil) ?_
      repeat walk_at "d"
      refine ⟨rfl, _, _, _, _, 0, rfl, hxl, hxb, hP, by omega, by omega, ?_⟩
      rw [hob]
      refine rw_neD asD_d asD_d (sh_sh (n := 1) (sh_ob _)) (sh_sh (n := 1) (sh_ob _)) ?_
      rw [(sh_ob (n := 0) _).refl]
      refine isB (if_f rfl ?_)
      refine ru_sub ((Sub.refl M').new hp) ?_
      repeat walk_at "d"
      exact ⟨rfl, _, _, _, _, _, _, rfl⟩
  · rintro G' M' ⟨rfl, a, c, d, e', f', g', rfl⟩
    repeat walk_at "d"
    exact h
end DL


namespace DL
open PySem PySem.Spec PyProof.Rows L2
local macro_rules
  | `(tactic| walk_at "d") => `(tactic| first
    | with_reducible refine ru_seq ?_
    | with_reducible refine ru_asg ?_
    | with_reducible refine ru_ret ?_
    | with_reducible refine ru_if ?_
    | with_reducible refine ru_next ?_
    | with_reducible refine ru_cont ?_
    | with_reducible refine ru_break ?_
    | with_reducible refine ru_dropE ?_
    | with_reducible refine gw_name ?_
    | with_reducible refine gw_tup rfl ?_
    | with_reducible refine gws_consM ?_
    | with_reducible refine gws_nilM ?_
    | with_reducible refine gws_cons ?_
    | with_reducible refine gws_nil ?_
    | with_reducible refine w_var (by with_unfolding_all rfl) ?_
    | with_reducible refine w_int ?_
    | with_reducible refine w_str ?_
    | with_reducible refine w_bl ?_
    | with_reducible refine w_non ?_
    | with_reducible refine w_ref ?_
    | with_reducible refine w_ty ?_
    | with_reducible refine w_op ?_
    | with_reducible refine w_chain ?_
    | with_reducible refine w_cb ?_
    | with_reducible refine w_call0 ?_
    | with_reducible refine w_bm ?_
    | with_reducible refine w_neg ?_
    | with_reducible refine w_ckw ?_
    | with_reducible refine w_andV ?_
    | with_reducible refine w_orV ?_
    | with_reducible refine w_notV ?_
    | with_reducible refine w_sl ?_
    | with_reducible refine w_tup ?_
    | with_reducible refine wo_none ?_
    | with_reducible refine wt_test ?_
    | with_reducible refine wt_B ?_
    | with_reducible refine wt_and ?_
    | with_reducible refine wt_or ?_
    | with_reducible refine wt_not ?_
    | with_reducible refine wt_yes ?_
    | with_reducible refine wa_cons ?_
    | with_reducible refine wa_nil ?_
    | with_reducible refine isB ?_
    | with_reducible refine isI ?_
    | with_reducible refine wo_someI ?_
    | with_reducible refine rs_T ?_
    | with_reducible refine isDs_cons ?_
    | with_reducible refine isDs_nil ?_
    | with_reducible refine ⟨Nat.le_of_ble_eq_true (by with_unfolding_all rfl), ?_⟩
    | with_reducible refine rw_I0 ?_
    | with_reducible refine rw_B0 ?_
    | with_reducible refine rw_I (cmulL (by decide) (by decide)) ?_
    | with_reducible refine rw_I (cmulR (by decide) (by decide)) ?_
    | with_reducible refine rw_I (cpowI (by decide) (by decide) (by decide)) ?_
    | with_reducible refine rw_I (cdivI (by decide) (by decide)) ?_
    | with_reducible refine rw_I (C := fun _ j => 0 < j) (by show (0 : Int) < _; decide) ?_
    | with_reducible refine rw_eqI ?_
    | with_reducible refine rw_eqL ?_
    | with_reducible refine rw_eqH ?_
    | with_reducible refine rw_eqW ?_
    | with_reducible refine rw_eqS ?_
    | with_reducible refine rw_eqB ?_
    | with_reducible refine rw_eqSN ?_
    | with_reducible refine rw_neI ?_
    | with_reducible refine rw_neW ?_
    | with_reducible refine rw_neS ?_
    | with_reducible refine rw_isN ?_
    | with_reducible refine rw_notN ?_
    | with_reducible refine rw_ixLog (by assumption) ?_
    | with_reducible refine rw_ixTd (by with_unfolding_all rfl) ?_
    | with_reducible refine rw_ixLd (by with_unfolding_all rfl) ?_
    | with_reducible refine rc_lenMT ?_
    | with_reducible refine rc_lenML ?_
    | with_reducible refine rc_lenT seqT_d ?_
    | with_reducible refine rc_lenL seqL_d ?_
    | with_reducible refine rc_abs ?_
    | with_reducible refine rc_max2 ?_
    | with_reducible refine rc_min2 ?_
    | with_reducible refine rc_intB ?_
    | with_reducible refine rc_tupL seqL_d ?_
    | with_reducible refine iteT ?_
    | with_reducible refine iteF ?_
    | with_reducible refine iteNT ?_
    | with_reducible refine iteNF ?_)
abbrev s_law : Stmt := topS 59
abbrev N_law : List Str := ["_law_script", "_law_pen_here", "_law_turn", "_law_above", "_law_below", "_law_gap", "_law_late", "_law_pairs_here", "_law_due", "_law_most", "_law_more", "_law_row"]
abbrev p_law : List Str := ["_law_script"]
theorem sc_law : FnScope N_law p_law (defScope s_law) := ⟨rfl, rfl, rfl, by decide +kernel, rfl, by decide +kernel, by decide +kernel⟩

def sp_law (tR tL : Addr) : Spec := fun M es R => es.length = 1 ∧ ∃ xs : List Int, es = [.s xs] ∧ xs.length < 1000 ∧ M tR = some (.tab qR) ∧ M tL = some (.tab qL) ∧ ∀ M', R (.d (.bool true)) M'
theorem ok_law {P : Program} {w : World} {K : PySem.W.Frag} {mg : Str → Option Value} {base : Heap} {aD aS aB aE : Addr} {tR : Addr} {tL : Addr} {f : Addr} {fd : FuncData} (F : FunD K "law" "law" s_law f fd) (T : Gb w K mg aD aS aB aE) (c_pen : Cd P w K mg base 1 "_law_pen" sp_pen []) (c_life : Cd P w K mg base 3 "_law_life" (sp_life tL) []) (c_pairs : Cd P w K mg base 9 "_law_pairs" (sp_pairs tR) []) (c_all : Cd P w K mg base 5 "_law_all" sp_all []) (c_draw : Cd P w K mg base 1 "_law_draw" sp_draw []) (c_moved : Cd P w K mg base 1 "_law_moved" sp_moved []) (c_turned : Cd P w K mg base 1 "_law_turned" sp_turned []) (c_bare_right : Cd P w K mg base 4 "_law_bare_right" sp_bare_right []) (c_fewer_right : Cd P w K mg base 4 "_law_fewer_right" sp_fewer_right []) : FnOk P w K mg base CX0 10 f fd p_law (PSp K (sp_law tR tL)) := by
  refine okD F sc_law (fun M es R h => h.1) (fun cdv A outer s H E hr => ⟨_, (pss_cons (ps_set (i := 1) sc_law.nd rfl (Or.inl rfl) (e_def P w K mg base rfl rfl rfl rfl rfl c_pen hr (by decide) (by rfl) (pa_cons (pv 0) pa_nil)))
    (pss_cons (ps_for PassesOwn.never rfl (pi_range1 (by rfl) T.range (pa_cons pe_int pa_nil)) (pg_name (i := 2) sc_law.nd rfl (Or.inl rfl)) (pss_cons (ps_asg (e_def P w K mg base rfl rfl rfl rfl rfl c_life hr (by decide) (by rfl) (pa_cons (pv 1) (pa_cons pe_int pa_nil))) (g_tup K rfl 4 rfl (pgs_cons (pg_name (i := 3) sc_law.nd rfl (Or.inl rfl)) (pgs_cons (pg_name (i := 4) sc_law.nd rfl (Or.inl rfl)) (pgs_cons (pg_name (i := 5) sc_law.nd rfl (Or.inl rfl)) (pgs_cons (pg_name (i := 6) sc_law.nd rfl (Or.inl rfl)) pgs_nil))))))
    (pss_cons (ps_set (i := 7) sc_law.nd rfl (Or.inl rfl) (e_def P w K mg base rfl rfl rfl rfl rfl c_pairs hr (by decide) (by rfl) (pa_cons (pv 1) (pa_cons (pv 3) (pa_cons (pv 4) (pa_cons (pv 5) (pa_cons (pv 6) pa_nil)))))))
    (pss_cons (ps_set (i := 8) sc_law.nd rfl (Or.inl rfl) (e_def P w K mg base rfl rfl rfl rfl rfl c_all hr (by decide) (by rfl) (pa_cons (pv 3) (pa_cons (pv 4) (pa_cons (pv 7) (pa_cons (pv 5) (pa_cons (pv 6) (pa_cons pe_int pa_nil))))))))
    (pss_cons (ps_set (i := 9) sc_law.nd rfl (Or.inl rfl) (e_maxDf K rfl rfl hr T.max (by rfl) (pa_cons (pe_lc (own := [("_law_row", 11)]) (g := (gName 11)) rfl sc_law.nd (i_tup K rfl (e_catT K rfl (pv 3) (pv 4))) (blkOk_by (own := [("_law_row", 11)]) (N := N_law) (sc := defScope s_law) (by decide +kernel)) (fun _ _ _ _ _ => (pg_name (i := 11) sc_law.nd rfl (Or.inl rfl))) (fun _ _ _ _ _ => pts_nil) (fun _ _ _ _ _ => (e_ixT K rfl (pv 11) pe_int (fun _ _ => rfl)))) pa_nil) (pk_cons pe_int pk_nil)))
    (pss_cons (ps_set (i := 10) sc_law.nd rfl (Or.inl rfl) (e_def P w K mg base rfl rfl rfl rfl rfl c_draw hr (by decide) (by rfl) (pa_cons (pv 1) (pa_cons (pe_op op_sub pe_int (pv 9)) pa_nil))))
    (pss_cons (ps_if (c_neD K rfl hr (e_def P w K mg base rfl rfl rfl rfl rfl c_all hr (by decide) (by rfl) (pa_cons (e_def P w K mg base rfl rfl rfl rfl rfl c_moved hr (by decide) (by rfl) (pa_cons (pv 3) (pa_cons (pv 10) pa_nil))) (pa_cons (e_def P w K mg base rfl rfl rfl rfl rfl c_moved hr (by decide) (by rfl) (pa_cons (pv 4) (pa_cons (pv 10) pa_nil))) (pa_cons (pv 7) (pa_cons (pv 5) (pa_cons (pv 6) (pa_cons (pv 10) pa_nil))))))) (pv 8)) (pss_one (ps_ret pe_bl)) pss_nil)
    (pss_cons (ps_if (c_neD K rfl hr (e_def P w K mg base rfl rfl rfl rfl rfl c_all hr (by decide) (by rfl) (pa_cons (e_def P w K mg base rfl rfl rfl rfl rfl c_turned hr (by decide) (by rfl) (pa_cons (pv 3) pa_nil)) (pa_cons (e_def P w K mg base rfl rfl rfl rfl rfl c_turned hr (by decide) (by rfl) (pa_cons (pv 4) pa_nil)) (pa_cons (pv 7) (pa_cons (pv 5) (pa_cons (pv 6) (pa_cons pe_int pa_nil))))))) (pv 8)) (pss_one (ps_ret pe_bl)) pss_nil)
    (pss_one (ps_if (PW.pt (pw_or (pt_not (pt_val (e_def P w K mg base rfl rfl rfl rfl rfl c_bare_right hr (by decide) (by rfl) (pa_cons (pv 3) (pa_cons (pv 4) (pa_cons (pv 7) pa_nil)))))) (pw_or1 (pt_not (pt_val (e_def P w K mg base rfl rfl rfl rfl rfl c_fewer_right hr (by decide) (by rfl) (pa_cons (pv 1) (pa_cons (pv 3) (pa_cons (pv 4) (pa_cons (pv 7) pa_nil)))))))))) (pss_one (ps_ret pe_bl)) pss_nil))))))))))
    (pss_one (ps_ret pe_bl)))), fun M es R h => ?_⟩)
  obtain ⟨_, h⟩ := h
  obtain ⟨xs, rfl, hx, htR, htL, h⟩ := h
  have sz : sizeLine = 16777216 := rfl
  repeat walk_at "d"
  refine ⟨rfl, xs, rfl, hx, fun pp o0 hpp ho0 => ?_⟩
  have hneR : tR ≠ pp := fun e => by rw [e, hpp] at htR; cases htR
  have hneL : tL ≠ pp := fun e => by rw [e, hpp] at htL; cases htL
  repeat walk_at "d"
  refine ru_for (wi_rng1 ?_)
  repeat walk_at "d"
  refine ⟨_, rfl, by decide, by decide, ?_⟩
  refine ⟨fun i G' M' => i ≤ 3 ∧ (∃ o, M' = mupd M pp o ∧ PenO (i * 3000) o) ∧ ∃ a b c d e f g h k l : Option Ent, G' = [some (.s xs), some (.v (.ref pp)), a, b, c, d, e, f, g, h, k, l], ⟨by decide, ⟨o0, rfl, ho0⟩, _, _, _, _, _, _, _, _, _, _, rfl⟩, fun _ _ _ _ => trivial, ?_, ?_⟩
  · rintro i e G' M' he ⟨hi3, ⟨o, rfl, ho⟩, a, b, c, d, e', f', g, h', k, l, rfl⟩
    obtain ⟨hi, rfl⟩ := rng0_at he
    have hi2 : i < 3 := hi
    repeat walk_at "d"
    refine ⟨rfl, pp, _, o, rfl, mupd_same, ho, by omega, by rw [mupd_ne hneL]; exact htL, fun br rm gap late o1 ho1 k1 k2 l1 l2 m1 m2 => ?_⟩
    rw [mupd_mupd]
    repeat walk_at "d"
    refine ⟨rfl, pp, _, o1, br, rm, gap, late, rfl, mupd_same, ho1, by omega, k1, k2, l1, l2, by rw [mupd_ne hneR]; exact htR, fun ps o2 ho2 hP => ?_⟩
    rw [mupd_mupd]
    have hpl := hP.len
    repeat walk_at "d"
    refine ⟨rfl, br, rm, ps, gap, late, 0, rfl, hP, by omega, by omega, by omega, ?_⟩
    repeat walk_at "d"
    refine w_lcE (α := Row) (wpg_name (by decide)) (wi_tup ?_)
    repeat walk_at "d"
    refine rw_catT (by rw [List.length_map, List.length_map]; omega) ?_
    rw [← List.map_append]
    refine ⟨_, rfl, br ++ rm, encRow, fun r => .int r.m, rfl, by rw [List.length_append]; omega, fun _ _ _ => trivial, fun i x q acc hx hq => ?_, ?_⟩
    · repeat walk_at "d"
      refine ⟨rfl, ?_⟩
      repeat walk_at "d"
      exact ⟨rfl, rfl⟩
    repeat walk_at "d"
    refine rk_maxDf (ns := (br ++ rm).map Row.m) (by rw [List.map_map]; rfl) seqL_d fun m hm => ?_
    have hm2 : 0 ≤ m ∧ m ≤ 99999 := by
      rcases hm with ⟨_, rfl⟩ | hm
      · exact ⟨by decide, by decide⟩
      · obtain ⟨r, hr, rfl⟩ := List.mem_map.mp hm
        rcases List.mem_append.mp hr with hr | hr
        · exact m1 r hr
        · exact m2 r hr
    repeat walk_at "d"
    refine ⟨rfl, pp, _, _, o2, rfl, mupd_same, ho2, by omega, by omega, by omega, fun more o3 ho3 hv0 hv1 => ?_⟩
    rw [mupd_mupd]
    repeat walk_at "d"
    refine ⟨rfl, br, more, rfl, by omega, ?_⟩
    repeat walk_at "d"
    refine ⟨rfl, rm, more, rfl, by omega, ?_⟩
    repeat walk_at "d"
    refine ⟨rfl, _, _, ps, gap, late, more, rfl, pairs_moved hP, by rw [List.length_map]; omega, by rw [List.length_map]; omega, by omega, ?_⟩
    rw [all_moved hP]
    repeat walk_at "d"
    refine rw_neD asD_d asD_d (sh_sh (n := 10) sh_allOf) (sh_sh (n := 10) sh_allOf) ?_
    rw [Sh.refl (n := 10) sh_allOf]
    refine isB (if_f rfl ?_)
    repeat walk_at "d"
    refine ⟨rfl, br, rfl, by omega, k1, ?_⟩
    repeat walk_at "d"
    refine ⟨rfl, rm, rfl, by omega, k2, ?_⟩
    repeat walk_at "d"
    refine ⟨rfl, _, _, ps, gap, late, 0, rfl, pairs_turned k1 k2 hP, by rw [List.length_map]; omega, by rw [List.length_map]; omega, by omega, ?_⟩
    rw [all_turned k1 k2 hP]
    repeat walk_at "d"
    refine rw_neD asD_d asD_d (sh_sh (n := 10) sh_allOf) (sh_sh (n := 10) sh_allOf) ?_
    rw [Sh.refl (n := 10) sh_allOf]
    refine isB (if_f rfl ?_)
    repeat walk_at "d"
    refine ⟨rfl, br, rm, ps, rfl, l1, l2, hP, ?_⟩
    refine isB (if_f rfl ?_)
    repeat walk_at "d"
    refine ⟨rfl, pp, _, o3, br, rm, ps, rfl, mupd_same, ho3, by omega, l1, l2, hP, fun o4 ho4 => ?_⟩
    rw [mupd_mupd]
    refine isB (if_f rfl ?_)
    repeat walk_at "d"
    exact ⟨by omega, ⟨o4, rfl, ho4.mono (by omega)⟩, _, _, _, _, _, _, _, _, _, _, rfl⟩
  · rintro G' M' ⟨hi3, ⟨o, rfl, ho⟩, a, b, c, d, e', f', g, h', k, l, rfl⟩
    repeat walk_at "d"
    exact h _
end DL


namespace DL
open PySem PySem.Spec PyProof.Rows L2
open Evl (Ex ex_rd ex_l ex_t)
def codeBits (vs : Array Value) (c P : Addr) : Bool := (match (vs[11]? : Option Value) with | some (.ref P') => P' == P | _ => false) &&
  (match vs.getD 18 .none with | .str _ _ => true | _ => false) && (match vs.getD 7 .none with | .int _ _ => true | _ => false) &&
  (match vs.getD 9 .none with | .bool _ => true | _ => false) && (match vs.getD 10 .none with | .int _ _ => true | _ => false) && c != P
theorem codeBits_in {K : PySem.W.Frag} {c P : Addr} {vs : Array Value} {od : Option Addr} {sl : Array (Option Value)} (l : K.lookup c = some ⟨.type "code", od, .fields vs, sl⟩) (b : codeBits vs c P = true) : PySem.W.codeHdIn K c P = true := by
  unfold PySem.W.codeHdIn
  rw [l]
  exact b
theorem none_low {K : PySem.W.Frag} (h : K.lookup sysModules = none) : ∀ a, K.lookup a ≠ none → (a == sysModules) = false := fun a ha => by
  rw [beq_eq_false_iff_ne]
  intro e
  rw [e] at ha
  exact ha h
def lawM (tR tL : Addr) : Mh := fun b => if b = tR then some (.tab qR) else if b = tL then some (.tab qL) else none
theorem law_start {K : PySem.W.Frag} {tR tL a : Addr} {H : Hp} {ns : List Int} {E : XK} (hne : tR ≠ tL) (hl : ns.length ≤ 63) (hR : H tR = some (.tbl #[])) (hL : H tL = some (.tbl #[])) (hs : SqL K H a (ns.map V.int)) : PSp K (sp_law tR tL) [.ref a] H (fun v _ => v = .bl true) E := by
  have mR : lawM tR tL tR = some (.tab qR) := if_pos rfl
  have mL : lawM tR tL tL = some (.tab qL) := by unfold lawM; rw [if_neg (Ne.symm hne), if_pos rfl]
  have nil : ∀ q : Str, MObj K (less H (lawM tR tL)) (.tbl #[]) (.tab q) := fun q => ⟨#[], rfl, trivial, fun pos cv hc => by cases hc⟩
  refine ⟨lawM tR tL, [.s ns], fun b mo hb => ?_, .cons ⟨a, rfl, ?_⟩ .nil, fun e _ => e = .d (.bool true), ⟨rfl, ns, rfl, by omega, mR, mL, fun _ => rfl⟩, fun v H' e M' he hk => ?_⟩
  · unfold lawM at hb
    split at hb
    · rename_i e1
      cases hb
      rw [e1]
      exact ⟨_, hR, nil _⟩
    · split at hb
      · rename_i e1
        cases hb
        rw [e1]
        exact ⟨_, hL, nil _⟩
      · cases hb
  · have key : ∀ o, H a = some o → o ≠ .tbl #[] → less H (lawM tR tL) a = some o := fun o ho hno => by
      have h1 : lawM tR tL a = none := by
        unfold lawM
        rw [if_neg, if_neg]
        · intro e; rw [e, hL] at ho; exact hno (Option.some.inj ho).symm
        · intro e; rw [e, hR] at ho; exact hno (Option.some.inj ho).symm
      rw [less_none h1]
      exact ho
    rcases hs with hs | hs
    · refine .inl ?_
      rcases hs with hs | ⟨ob, hs⟩
      · exact .inl (key _ hs (fun z => nomatch z))
      · exact .inr ⟨ob, key _ hs (fun z => nomatch z)⟩
    · exact .inr hs
  · subst he
    exact Da.bl_inv hk.v
set_option maxHeartbeats 0 in
theorem all_mk {l : PySem.W.OpenLaw} {w : World} {K : PySem.W.Frag} {h : Heap} {mg : Str → Option Value} {fa tR tL f_is_whole f_dial_of f_sent_from f_rows_on f_need_ring f_by_lines f_by_bridge f_lot f_pen f_draw f_fits f_moved f_turned f_spots f_is_from_to f_fate f_obeyed T_obeyed f_ranks C_ranks f_rows_left f_is_doubled f_is_crossed f_pick f_ring_of f_is_pair f_longest f_missed f_life C_life f_greedy f_span T_span f_greatest T_greatest f_strange T_strange f_bare_right f_fewer_right f_meets f_all f_pairs_within f_pairs_at T_pairs_at f_joining T_joining f_pairs f_law aD aS aE aB : Addr} (X : K.In h) (G : h.Ns mainGlobals mg) (hfa : mg "law" = some (.ref fa))
    {od_is_whole an_is_whole : Option Addr} {sl_is_whole : Array (Option Value)} {oc_is_whole kV_is_whole dc_is_whole pm_is_whole ct_is_whole : Value} {cd_is_whole : Value}
    {od_dial_of an_dial_of : Option Addr} {sl_dial_of : Array (Option Value)} {oc_dial_of kV_dial_of dc_dial_of pm_dial_of ct_dial_of : Value} {cd_dial_of : Value}
    {od_sent_from an_sent_from : Option Addr} {sl_sent_from : Array (Option Value)} {oc_sent_from kV_sent_from dc_sent_from pm_sent_from ct_sent_from : Value} {cd_sent_from : Value}
    {od_rows_on an_rows_on : Option Addr} {sl_rows_on : Array (Option Value)} {oc_rows_on kV_rows_on dc_rows_on pm_rows_on ct_rows_on : Value} {cd_rows_on : Value}
    {od_need_ring an_need_ring : Option Addr} {sl_need_ring : Array (Option Value)} {oc_need_ring kV_need_ring dc_need_ring pm_need_ring ct_need_ring : Value} {cd_need_ring : Value}
    {od_by_lines an_by_lines : Option Addr} {sl_by_lines : Array (Option Value)} {oc_by_lines kV_by_lines dc_by_lines pm_by_lines ct_by_lines : Value} {cd_by_lines : Value}
    {od_by_bridge an_by_bridge : Option Addr} {sl_by_bridge : Array (Option Value)} {oc_by_bridge kV_by_bridge dc_by_bridge pm_by_bridge ct_by_bridge : Value} {cd_by_bridge : Value}
    {od_lot an_lot : Option Addr} {sl_lot : Array (Option Value)} {oc_lot kV_lot dc_lot pm_lot ct_lot : Value} {cd_lot : Value}
    {od_pen an_pen : Option Addr} {sl_pen : Array (Option Value)} {oc_pen kV_pen dc_pen pm_pen ct_pen : Value} {cd_pen : Value}
    {od_draw an_draw : Option Addr} {sl_draw : Array (Option Value)} {oc_draw kV_draw dc_draw pm_draw ct_draw : Value} {cd_draw : Value}
    {od_fits an_fits : Option Addr} {sl_fits : Array (Option Value)} {oc_fits kV_fits dc_fits pm_fits ct_fits : Value} {cd_fits : Value}
    {od_moved an_moved : Option Addr} {sl_moved : Array (Option Value)} {oc_moved kV_moved dc_moved pm_moved ct_moved : Value} {cd_moved : Value}
    {od_turned an_turned : Option Addr} {sl_turned : Array (Option Value)} {oc_turned kV_turned dc_turned pm_turned ct_turned : Value} {cd_turned : Value}
    {od_spots an_spots : Option Addr} {sl_spots : Array (Option Value)} {oc_spots kV_spots dc_spots pm_spots ct_spots : Value} {cd_spots : Value}
    {od_is_from_to an_is_from_to : Option Addr} {sl_is_from_to : Array (Option Value)} {oc_is_from_to kV_is_from_to dc_is_from_to pm_is_from_to ct_is_from_to : Value} {cd_is_from_to : Value}
    {od_fate an_fate : Option Addr} {sl_fate : Array (Option Value)} {oc_fate kV_fate dc_fate pm_fate ct_fate : Value} {cd_fate : Value}
    {od_obeyed an_obeyed : Option Addr} {sl_obeyed : Array (Option Value)} {oc_obeyed kV_obeyed dc_obeyed pm_obeyed ct_obeyed : Value} {cd_obeyed : Value}
    {to_obeyed : Value} {td_obeyed : Option Addr} {tn_obeyed : Nat} {ts_obeyed : Array (Option Value)} {u0_obeyed : Tok}
    {od_ranks an_ranks : Option Addr} {sl_ranks : Array (Option Value)} {oc_ranks kV_ranks dc_ranks pm_ranks ct_ranks : Value}
    {cod_ranks : Option Addr} {cv_ranks : Array Value} {cs_ranks : Array (Option Value)}
    {od_rows_left an_rows_left : Option Addr} {sl_rows_left : Array (Option Value)} {oc_rows_left kV_rows_left dc_rows_left pm_rows_left ct_rows_left : Value} {cd_rows_left : Value}
    {od_is_doubled an_is_doubled : Option Addr} {sl_is_doubled : Array (Option Value)} {oc_is_doubled kV_is_doubled dc_is_doubled pm_is_doubled ct_is_doubled : Value} {cd_is_doubled : Value}
    {od_is_crossed an_is_crossed : Option Addr} {sl_is_crossed : Array (Option Value)} {oc_is_crossed kV_is_crossed dc_is_crossed pm_is_crossed ct_is_crossed : Value} {cd_is_crossed : Value}
    {od_pick an_pick : Option Addr} {sl_pick : Array (Option Value)} {oc_pick kV_pick dc_pick pm_pick ct_pick : Value} {cd_pick : Value}
    {od_ring_of an_ring_of : Option Addr} {sl_ring_of : Array (Option Value)} {oc_ring_of kV_ring_of dc_ring_of pm_ring_of ct_ring_of : Value} {cd_ring_of : Value}
    {od_is_pair an_is_pair : Option Addr} {sl_is_pair : Array (Option Value)} {oc_is_pair kV_is_pair dc_is_pair pm_is_pair ct_is_pair : Value} {cd_is_pair : Value}
    {od_longest an_longest : Option Addr} {sl_longest : Array (Option Value)} {oc_longest kV_longest dc_longest pm_longest ct_longest : Value} {cd_longest : Value}
    {od_missed an_missed : Option Addr} {sl_missed : Array (Option Value)} {oc_missed kV_missed dc_missed pm_missed ct_missed : Value} {cd_missed : Value}
    {od_life an_life : Option Addr} {sl_life : Array (Option Value)} {oc_life kV_life dc_life pm_life ct_life : Value}
    {cod_life : Option Addr} {cv_life : Array Value} {cs_life : Array (Option Value)}
    {od_greedy an_greedy : Option Addr} {sl_greedy : Array (Option Value)} {oc_greedy kV_greedy dc_greedy pm_greedy ct_greedy : Value} {cd_greedy : Value}
    {od_span an_span : Option Addr} {sl_span : Array (Option Value)} {oc_span kV_span dc_span pm_span ct_span : Value} {cd_span : Value}
    {to_span : Value} {td_span : Option Addr} {tn_span : Nat} {ts_span : Array (Option Value)} {u0_span : Tok}
    {od_greatest an_greatest : Option Addr} {sl_greatest : Array (Option Value)} {oc_greatest kV_greatest dc_greatest pm_greatest ct_greatest : Value} {cd_greatest : Value}
    {to_greatest : Value} {td_greatest : Option Addr} {tn_greatest : Nat} {ts_greatest : Array (Option Value)} {u0_greatest u1_greatest : Tok}
    {od_strange an_strange : Option Addr} {sl_strange : Array (Option Value)} {oc_strange kV_strange dc_strange pm_strange ct_strange : Value} {cd_strange : Value}
    {to_strange : Value} {td_strange : Option Addr} {tn_strange : Nat} {ts_strange : Array (Option Value)} {u0_strange u1_strange : Tok}
    {od_bare_right an_bare_right : Option Addr} {sl_bare_right : Array (Option Value)} {oc_bare_right kV_bare_right dc_bare_right pm_bare_right ct_bare_right : Value} {cd_bare_right : Value}
    {od_fewer_right an_fewer_right : Option Addr} {sl_fewer_right : Array (Option Value)} {oc_fewer_right kV_fewer_right dc_fewer_right pm_fewer_right ct_fewer_right : Value} {cd_fewer_right : Value}
    {od_meets an_meets : Option Addr} {sl_meets : Array (Option Value)} {oc_meets kV_meets dc_meets pm_meets ct_meets : Value} {cd_meets : Value}
    {od_all an_all : Option Addr} {sl_all : Array (Option Value)} {oc_all kV_all dc_all pm_all ct_all : Value} {cd_all : Value}
    {od_pairs_within an_pairs_within : Option Addr} {sl_pairs_within : Array (Option Value)} {oc_pairs_within kV_pairs_within dc_pairs_within pm_pairs_within ct_pairs_within : Value} {cd_pairs_within : Value}
    {od_pairs_at an_pairs_at : Option Addr} {sl_pairs_at : Array (Option Value)} {oc_pairs_at kV_pairs_at dc_pairs_at pm_pairs_at ct_pairs_at : Value} {cd_pairs_at : Value}
    {to_pairs_at : Value} {td_pairs_at : Option Addr} {tn_pairs_at : Nat} {ts_pairs_at : Array (Option Value)} {u0_pairs_at u1_pairs_at : Tok}
    {od_joining an_joining : Option Addr} {sl_joining : Array (Option Value)} {oc_joining kV_joining dc_joining pm_joining ct_joining : Value} {cd_joining : Value}
    {to_joining : Value} {td_joining : Option Addr} {tn_joining : Nat} {ts_joining : Array (Option Value)} {u0_joining u1_joining : Tok}
    {od_pairs an_pairs : Option Addr} {sl_pairs : Array (Option Value)} {oc_pairs kV_pairs dc_pairs pm_pairs ct_pairs : Value} {cd_pairs : Value}
    {od_law an_law : Option Addr} {sl_law : Array (Option Value)} {oc_law kV_law dc_law pm_law ct_law : Value} {cd_law : Value}
    {es_DIALS : Array DictEntry} {n_DIALS : Nat}
    {u_DIALS_port : Tok}
    {u_DIALS_star : Tok}
    {es_SENT : Array DictEntry} {n_SENT : Nat}
    {u_SENT_port : Tok}
    {u_SENT_star : Tok}
    {u_SENT_down : Tok}
    {u_SENT_aport : Tok}
    {u_SENT_astar : Tok}
    {u_SENT_up : Tok}
    {es_BESIDE : Array DictEntry} {n_BESIDE : Nat}
    {u_BESIDE_port : Tok}
    {u_BESIDE_star : Tok}
    {u_BESIDE_aport : Tok}
    {u_BESIDE_astar : Tok}
    {bod : Option Addr} {bn : Nat} {bsl : Array (Option Value)} {bu1 bu2 : Tok}
    (a_is_whole : PySem.W.nsIn K mainGlobals "is_whole" = some (some (.ref f_is_whole)))
    (l_is_whole : K.lookup f_is_whole = some ⟨oc_is_whole, od_is_whole, .func (PySem.W.fnOf "is_whole" "is_whole" (defArgs s_is_whole) (defBody s_is_whole) (defScope s_is_whole) .none kV_is_whole dc_is_whole pm_is_whole an_is_whole cd_is_whole ct_is_whole), sl_is_whole⟩)
    (c_is_whole : PySem.W.codeIn K cd_is_whole "is_whole" = true)
    (k_is_whole : PySem.W.keepIn K (.ref f_is_whole) = true)
    (a_dial_of : PySem.W.nsIn K mainGlobals "dial_of" = some (some (.ref f_dial_of)))
    (l_dial_of : K.lookup f_dial_of = some ⟨oc_dial_of, od_dial_of, .func (PySem.W.fnOf "dial_of" "dial_of" (defArgs s_dial_of) (defBody s_dial_of) (defScope s_dial_of) .none kV_dial_of dc_dial_of pm_dial_of an_dial_of cd_dial_of ct_dial_of), sl_dial_of⟩)
    (c_dial_of : PySem.W.codeIn K cd_dial_of "dial_of" = true)
    (k_dial_of : PySem.W.keepIn K (.ref f_dial_of) = true)
    (a_sent_from : PySem.W.nsIn K mainGlobals "sent_from" = some (some (.ref f_sent_from)))
    (l_sent_from : K.lookup f_sent_from = some ⟨oc_sent_from, od_sent_from, .func (PySem.W.fnOf "sent_from" "sent_from" (defArgs s_sent_from) (defBody s_sent_from) (defScope s_sent_from) .none kV_sent_from dc_sent_from pm_sent_from an_sent_from cd_sent_from ct_sent_from), sl_sent_from⟩)
    (c_sent_from : PySem.W.codeIn K cd_sent_from "sent_from" = true)
    (k_sent_from : PySem.W.keepIn K (.ref f_sent_from) = true)
    (a_rows_on : PySem.W.nsIn K mainGlobals "rows_on" = some (some (.ref f_rows_on)))
    (l_rows_on : K.lookup f_rows_on = some ⟨oc_rows_on, od_rows_on, .func (PySem.W.fnOf "rows_on" "rows_on" (defArgs s_rows_on) (defBody s_rows_on) (defScope s_rows_on) .none kV_rows_on dc_rows_on pm_rows_on an_rows_on cd_rows_on ct_rows_on), sl_rows_on⟩)
    (c_rows_on : PySem.W.codeIn K cd_rows_on "rows_on" = true)
    (k_rows_on : PySem.W.keepIn K (.ref f_rows_on) = true)
    (a_need_ring : PySem.W.nsIn K mainGlobals "need_ring" = some (some (.ref f_need_ring)))
    (l_need_ring : K.lookup f_need_ring = some ⟨oc_need_ring, od_need_ring, .func (PySem.W.fnOf "need_ring" "need_ring" (defArgs s_need_ring) (defBody s_need_ring) (defScope s_need_ring) .none kV_need_ring dc_need_ring pm_need_ring an_need_ring cd_need_ring ct_need_ring), sl_need_ring⟩)
    (c_need_ring : PySem.W.codeIn K cd_need_ring "need_ring" = true)
    (k_need_ring : PySem.W.keepIn K (.ref f_need_ring) = true)
    (a_by_lines : PySem.W.nsIn K mainGlobals "by_lines" = some (some (.ref f_by_lines)))
    (l_by_lines : K.lookup f_by_lines = some ⟨oc_by_lines, od_by_lines, .func (PySem.W.fnOf "by_lines" "by_lines" (defArgs s_by_lines) (defBody s_by_lines) (defScope s_by_lines) .none kV_by_lines dc_by_lines pm_by_lines an_by_lines cd_by_lines ct_by_lines), sl_by_lines⟩)
    (c_by_lines : PySem.W.codeIn K cd_by_lines "by_lines" = true)
    (k_by_lines : PySem.W.keepIn K (.ref f_by_lines) = true)
    (a_by_bridge : PySem.W.nsIn K mainGlobals "by_bridge" = some (some (.ref f_by_bridge)))
    (l_by_bridge : K.lookup f_by_bridge = some ⟨oc_by_bridge, od_by_bridge, .func (PySem.W.fnOf "by_bridge" "by_bridge" (defArgs s_by_bridge) (defBody s_by_bridge) (defScope s_by_bridge) .none kV_by_bridge dc_by_bridge pm_by_bridge an_by_bridge cd_by_bridge ct_by_bridge), sl_by_bridge⟩)
    (c_by_bridge : PySem.W.codeIn K cd_by_bridge "by_bridge" = true)
    (k_by_bridge : PySem.W.keepIn K (.ref f_by_bridge) = true)
    (a_lot : PySem.W.nsIn K mainGlobals "lot" = some (some (.ref f_lot)))
    (l_lot : K.lookup f_lot = some ⟨oc_lot, od_lot, .func (PySem.W.fnOf "lot" "lot" (defArgs s_lot) (defBody s_lot) (defScope s_lot) .none kV_lot dc_lot pm_lot an_lot cd_lot ct_lot), sl_lot⟩)
    (c_lot : PySem.W.codeIn K cd_lot "lot" = true)
    (k_lot : PySem.W.keepIn K (.ref f_lot) = true)
    (a_pen : PySem.W.nsIn K mainGlobals "_law_pen" = some (some (.ref f_pen)))
    (l_pen : K.lookup f_pen = some ⟨oc_pen, od_pen, .func (PySem.W.fnOf "_law_pen" "_law_pen" (defArgs s_pen) (defBody s_pen) (defScope s_pen) .none kV_pen dc_pen pm_pen an_pen cd_pen ct_pen), sl_pen⟩)
    (c_pen : PySem.W.codeIn K cd_pen "_law_pen" = true)
    (k_pen : PySem.W.keepIn K (.ref f_pen) = true)
    (a_draw : PySem.W.nsIn K mainGlobals "_law_draw" = some (some (.ref f_draw)))
    (l_draw : K.lookup f_draw = some ⟨oc_draw, od_draw, .func (PySem.W.fnOf "_law_draw" "_law_draw" (defArgs s_draw) (defBody s_draw) (defScope s_draw) .none kV_draw dc_draw pm_draw an_draw cd_draw ct_draw), sl_draw⟩)
    (c_draw : PySem.W.codeIn K cd_draw "_law_draw" = true)
    (k_draw : PySem.W.keepIn K (.ref f_draw) = true)
    (a_fits : PySem.W.nsIn K mainGlobals "_law_fits" = some (some (.ref f_fits)))
    (l_fits : K.lookup f_fits = some ⟨oc_fits, od_fits, .func (PySem.W.fnOf "_law_fits" "_law_fits" (defArgs s_fits) (defBody s_fits) (defScope s_fits) .none kV_fits dc_fits pm_fits an_fits cd_fits ct_fits), sl_fits⟩)
    (c_fits : PySem.W.codeIn K cd_fits "_law_fits" = true)
    (k_fits : PySem.W.keepIn K (.ref f_fits) = true)
    (a_moved : PySem.W.nsIn K mainGlobals "_law_moved" = some (some (.ref f_moved)))
    (l_moved : K.lookup f_moved = some ⟨oc_moved, od_moved, .func (PySem.W.fnOf "_law_moved" "_law_moved" (defArgs s_moved) (defBody s_moved) (defScope s_moved) .none kV_moved dc_moved pm_moved an_moved cd_moved ct_moved), sl_moved⟩)
    (c_moved : PySem.W.codeIn K cd_moved "_law_moved" = true)
    (k_moved : PySem.W.keepIn K (.ref f_moved) = true)
    (a_turned : PySem.W.nsIn K mainGlobals "_law_turned" = some (some (.ref f_turned)))
    (l_turned : K.lookup f_turned = some ⟨oc_turned, od_turned, .func (PySem.W.fnOf "_law_turned" "_law_turned" (defArgs s_turned) (defBody s_turned) (defScope s_turned) .none kV_turned dc_turned pm_turned an_turned cd_turned ct_turned), sl_turned⟩)
    (c_turned : PySem.W.codeIn K cd_turned "_law_turned" = true)
    (k_turned : PySem.W.keepIn K (.ref f_turned) = true)
    (a_spots : PySem.W.nsIn K mainGlobals "_law_spots" = some (some (.ref f_spots)))
    (l_spots : K.lookup f_spots = some ⟨oc_spots, od_spots, .func (PySem.W.fnOf "_law_spots" "_law_spots" (defArgs s_spots) (defBody s_spots) (defScope s_spots) .none kV_spots dc_spots pm_spots an_spots cd_spots ct_spots), sl_spots⟩)
    (c_spots : PySem.W.codeIn K cd_spots "_law_spots" = true)
    (k_spots : PySem.W.keepIn K (.ref f_spots) = true)
    (a_is_from_to : PySem.W.nsIn K mainGlobals "is_from_to" = some (some (.ref f_is_from_to)))
    (l_is_from_to : K.lookup f_is_from_to = some ⟨oc_is_from_to, od_is_from_to, .func (PySem.W.fnOf "is_from_to" "is_from_to" (defArgs s_is_from_to) (defBody s_is_from_to) (defScope s_is_from_to) .none kV_is_from_to dc_is_from_to pm_is_from_to an_is_from_to cd_is_from_to ct_is_from_to), sl_is_from_to⟩)
    (c_is_from_to : PySem.W.codeIn K cd_is_from_to "is_from_to" = true)
    (k_is_from_to : PySem.W.keepIn K (.ref f_is_from_to) = true)
    (a_fate : PySem.W.nsIn K mainGlobals "fate" = some (some (.ref f_fate)))
    (l_fate : K.lookup f_fate = some ⟨oc_fate, od_fate, .func (PySem.W.fnOf "fate" "fate" (defArgs s_fate) (defBody s_fate) (defScope s_fate) .none kV_fate dc_fate pm_fate an_fate cd_fate ct_fate), sl_fate⟩)
    (c_fate : PySem.W.codeIn K cd_fate "fate" = true)
    (k_fate : PySem.W.keepIn K (.ref f_fate) = true)
    (a_obeyed : PySem.W.nsIn K mainGlobals "obeyed" = some (some (.ref f_obeyed)))
    (l_obeyed : K.lookup f_obeyed = some ⟨oc_obeyed, od_obeyed, .func (PySem.W.fnOf "obeyed" "obeyed" (defArgs s_obeyed) (defBody s_obeyed) (defScope s_obeyed) (.ref T_obeyed) kV_obeyed dc_obeyed pm_obeyed an_obeyed cd_obeyed ct_obeyed), sl_obeyed⟩)
    (c_obeyed : PySem.W.codeIn K cd_obeyed "obeyed" = true)
    (k_obeyed : PySem.W.keepIn K (.ref f_obeyed) = true)
    (t_obeyed : K.lookup T_obeyed = some ⟨to_obeyed, td_obeyed, .seq #[.int 0 u0_obeyed] tn_obeyed, ts_obeyed⟩)
    (a_ranks : PySem.W.nsIn K mainGlobals "ranks" = some (some (.ref f_ranks)))
    (l_ranks : K.lookup f_ranks = some ⟨oc_ranks, od_ranks, .func (PySem.W.fnOf "ranks" "ranks" (defArgs s_ranks) (defBody s_ranks) (defScope s_ranks) .none kV_ranks dc_ranks pm_ranks an_ranks (.ref C_ranks) ct_ranks), sl_ranks⟩)
    (c_ranks : PySem.W.codeIn K (.ref C_ranks) "ranks" = true)
    (k_ranks : PySem.W.keepIn K (.ref f_ranks) = true)
    (y_ranks : K.lookup C_ranks = some ⟨.type "code", cod_ranks, .fields cv_ranks, cs_ranks⟩)
    (a_rows_left : PySem.W.nsIn K mainGlobals "rows_left" = some (some (.ref f_rows_left)))
    (l_rows_left : K.lookup f_rows_left = some ⟨oc_rows_left, od_rows_left, .func (PySem.W.fnOf "rows_left" "rows_left" (defArgs s_rows_left) (defBody s_rows_left) (defScope s_rows_left) .none kV_rows_left dc_rows_left pm_rows_left an_rows_left cd_rows_left ct_rows_left), sl_rows_left⟩)
    (c_rows_left : PySem.W.codeIn K cd_rows_left "rows_left" = true)
    (k_rows_left : PySem.W.keepIn K (.ref f_rows_left) = true)
    (a_is_doubled : PySem.W.nsIn K mainGlobals "is_doubled" = some (some (.ref f_is_doubled)))
    (l_is_doubled : K.lookup f_is_doubled = some ⟨oc_is_doubled, od_is_doubled, .func (PySem.W.fnOf "is_doubled" "is_doubled" (defArgs s_is_doubled) (defBody s_is_doubled) (defScope s_is_doubled) .none kV_is_doubled dc_is_doubled pm_is_doubled an_is_doubled cd_is_doubled ct_is_doubled), sl_is_doubled⟩)
    (c_is_doubled : PySem.W.codeIn K cd_is_doubled "is_doubled" = true)
    (k_is_doubled : PySem.W.keepIn K (.ref f_is_doubled) = true)
    (a_is_crossed : PySem.W.nsIn K mainGlobals "is_crossed" = some (some (.ref f_is_crossed)))
    (l_is_crossed : K.lookup f_is_crossed = some ⟨oc_is_crossed, od_is_crossed, .func (PySem.W.fnOf "is_crossed" "is_crossed" (defArgs s_is_crossed) (defBody s_is_crossed) (defScope s_is_crossed) .none kV_is_crossed dc_is_crossed pm_is_crossed an_is_crossed cd_is_crossed ct_is_crossed), sl_is_crossed⟩)
    (c_is_crossed : PySem.W.codeIn K cd_is_crossed "is_crossed" = true)
    (k_is_crossed : PySem.W.keepIn K (.ref f_is_crossed) = true)
    (a_pick : PySem.W.nsIn K mainGlobals "_law_pick" = some (some (.ref f_pick)))
    (l_pick : K.lookup f_pick = some ⟨oc_pick, od_pick, .func (PySem.W.fnOf "_law_pick" "_law_pick" (defArgs s_pick) (defBody s_pick) (defScope s_pick) .none kV_pick dc_pick pm_pick an_pick cd_pick ct_pick), sl_pick⟩)
    (c_pick : PySem.W.codeIn K cd_pick "_law_pick" = true)
    (k_pick : PySem.W.keepIn K (.ref f_pick) = true)
    (a_ring_of : PySem.W.nsIn K mainGlobals "ring_of" = some (some (.ref f_ring_of)))
    (l_ring_of : K.lookup f_ring_of = some ⟨oc_ring_of, od_ring_of, .func (PySem.W.fnOf "ring_of" "ring_of" (defArgs s_ring_of) (defBody s_ring_of) (defScope s_ring_of) .none kV_ring_of dc_ring_of pm_ring_of an_ring_of cd_ring_of ct_ring_of), sl_ring_of⟩)
    (c_ring_of : PySem.W.codeIn K cd_ring_of "ring_of" = true)
    (k_ring_of : PySem.W.keepIn K (.ref f_ring_of) = true)
    (a_is_pair : PySem.W.nsIn K mainGlobals "is_pair" = some (some (.ref f_is_pair)))
    (l_is_pair : K.lookup f_is_pair = some ⟨oc_is_pair, od_is_pair, .func (PySem.W.fnOf "is_pair" "is_pair" (defArgs s_is_pair) (defBody s_is_pair) (defScope s_is_pair) .none kV_is_pair dc_is_pair pm_is_pair an_is_pair cd_is_pair ct_is_pair), sl_is_pair⟩)
    (c_is_pair : PySem.W.codeIn K cd_is_pair "is_pair" = true)
    (k_is_pair : PySem.W.keepIn K (.ref f_is_pair) = true)
    (a_longest : PySem.W.nsIn K mainGlobals "longest" = some (some (.ref f_longest)))
    (l_longest : K.lookup f_longest = some ⟨oc_longest, od_longest, .func (PySem.W.fnOf "longest" "longest" (defArgs s_longest) (defBody s_longest) (defScope s_longest) .none kV_longest dc_longest pm_longest an_longest cd_longest ct_longest), sl_longest⟩)
    (c_longest : PySem.W.codeIn K cd_longest "longest" = true)
    (k_longest : PySem.W.keepIn K (.ref f_longest) = true)
    (a_missed : PySem.W.nsIn K mainGlobals "missed" = some (some (.ref f_missed)))
    (l_missed : K.lookup f_missed = some ⟨oc_missed, od_missed, .func (PySem.W.fnOf "missed" "missed" (defArgs s_missed) (defBody s_missed) (defScope s_missed) .none kV_missed dc_missed pm_missed an_missed cd_missed ct_missed), sl_missed⟩)
    (c_missed : PySem.W.codeIn K cd_missed "missed" = true)
    (k_missed : PySem.W.keepIn K (.ref f_missed) = true)
    (a_life : PySem.W.nsIn K mainGlobals "_law_life" = some (some (.ref f_life)))
    (l_life : K.lookup f_life = some ⟨oc_life, od_life, .func (PySem.W.fnOf "_law_life" "_law_life" (defArgs s_life) (defBody s_life) (defScope s_life) .none kV_life dc_life pm_life an_life (.ref C_life) ct_life), sl_life⟩)
    (c_life : PySem.W.codeIn K (.ref C_life) "_law_life" = true)
    (k_life : PySem.W.keepIn K (.ref f_life) = true)
    (y_life : K.lookup C_life = some ⟨.type "code", cod_life, .fields cv_life, cs_life⟩)
    (a_greedy : PySem.W.nsIn K mainGlobals "_law_greedy" = some (some (.ref f_greedy)))
    (l_greedy : K.lookup f_greedy = some ⟨oc_greedy, od_greedy, .func (PySem.W.fnOf "_law_greedy" "_law_greedy" (defArgs s_greedy) (defBody s_greedy) (defScope s_greedy) .none kV_greedy dc_greedy pm_greedy an_greedy cd_greedy ct_greedy), sl_greedy⟩)
    (c_greedy : PySem.W.codeIn K cd_greedy "_law_greedy" = true)
    (k_greedy : PySem.W.keepIn K (.ref f_greedy) = true)
    (a_span : PySem.W.nsIn K mainGlobals "span" = some (some (.ref f_span)))
    (l_span : K.lookup f_span = some ⟨oc_span, od_span, .func (PySem.W.fnOf "span" "span" (defArgs s_span) (defBody s_span) (defScope s_span) (.ref T_span) kV_span dc_span pm_span an_span cd_span ct_span), sl_span⟩)
    (c_span : PySem.W.codeIn K cd_span "span" = true)
    (k_span : PySem.W.keepIn K (.ref f_span) = true)
    (t_span : K.lookup T_span = some ⟨to_span, td_span, .seq #[.int 0 u0_span] tn_span, ts_span⟩)
    (a_greatest : PySem.W.nsIn K mainGlobals "greatest" = some (some (.ref f_greatest)))
    (l_greatest : K.lookup f_greatest = some ⟨oc_greatest, od_greatest, .func (PySem.W.fnOf "greatest" "greatest" (defArgs s_greatest) (defBody s_greatest) (defScope s_greatest) (.ref T_greatest) kV_greatest dc_greatest pm_greatest an_greatest cd_greatest ct_greatest), sl_greatest⟩)
    (c_greatest : PySem.W.codeIn K cd_greatest "greatest" = true)
    (k_greatest : PySem.W.keepIn K (.ref f_greatest) = true)
    (t_greatest : K.lookup T_greatest = some ⟨to_greatest, td_greatest, .seq #[.int 0 u0_greatest, .int 0 u1_greatest] tn_greatest, ts_greatest⟩)
    (a_strange : PySem.W.nsIn K mainGlobals "strange" = some (some (.ref f_strange)))
    (l_strange : K.lookup f_strange = some ⟨oc_strange, od_strange, .func (PySem.W.fnOf "strange" "strange" (defArgs s_strange) (defBody s_strange) (defScope s_strange) (.ref T_strange) kV_strange dc_strange pm_strange an_strange cd_strange ct_strange), sl_strange⟩)
    (c_strange : PySem.W.codeIn K cd_strange "strange" = true)
    (k_strange : PySem.W.keepIn K (.ref f_strange) = true)
    (t_strange : K.lookup T_strange = some ⟨to_strange, td_strange, .seq #[.int 0 u0_strange, .int 0 u1_strange] tn_strange, ts_strange⟩)
    (a_bare_right : PySem.W.nsIn K mainGlobals "_law_bare_right" = some (some (.ref f_bare_right)))
    (l_bare_right : K.lookup f_bare_right = some ⟨oc_bare_right, od_bare_right, .func (PySem.W.fnOf "_law_bare_right" "_law_bare_right" (defArgs s_bare_right) (defBody s_bare_right) (defScope s_bare_right) .none kV_bare_right dc_bare_right pm_bare_right an_bare_right cd_bare_right ct_bare_right), sl_bare_right⟩)
    (c_bare_right : PySem.W.codeIn K cd_bare_right "_law_bare_right" = true)
    (k_bare_right : PySem.W.keepIn K (.ref f_bare_right) = true)
    (a_fewer_right : PySem.W.nsIn K mainGlobals "_law_fewer_right" = some (some (.ref f_fewer_right)))
    (l_fewer_right : K.lookup f_fewer_right = some ⟨oc_fewer_right, od_fewer_right, .func (PySem.W.fnOf "_law_fewer_right" "_law_fewer_right" (defArgs s_fewer_right) (defBody s_fewer_right) (defScope s_fewer_right) .none kV_fewer_right dc_fewer_right pm_fewer_right an_fewer_right cd_fewer_right ct_fewer_right), sl_fewer_right⟩)
    (c_fewer_right : PySem.W.codeIn K cd_fewer_right "_law_fewer_right" = true)
    (k_fewer_right : PySem.W.keepIn K (.ref f_fewer_right) = true)
    (a_meets : PySem.W.nsIn K mainGlobals "meets" = some (some (.ref f_meets)))
    (l_meets : K.lookup f_meets = some ⟨oc_meets, od_meets, .func (PySem.W.fnOf "meets" "meets" (defArgs s_meets) (defBody s_meets) (defScope s_meets) .none kV_meets dc_meets pm_meets an_meets cd_meets ct_meets), sl_meets⟩)
    (c_meets : PySem.W.codeIn K cd_meets "meets" = true)
    (k_meets : PySem.W.keepIn K (.ref f_meets) = true)
    (a_all : PySem.W.nsIn K mainGlobals "_law_all" = some (some (.ref f_all)))
    (l_all : K.lookup f_all = some ⟨oc_all, od_all, .func (PySem.W.fnOf "_law_all" "_law_all" (defArgs s_all) (defBody s_all) (defScope s_all) .none kV_all dc_all pm_all an_all cd_all ct_all), sl_all⟩)
    (c_all : PySem.W.codeIn K cd_all "_law_all" = true)
    (k_all : PySem.W.keepIn K (.ref f_all) = true)
    (a_pairs_within : PySem.W.nsIn K mainGlobals "pairs_within" = some (some (.ref f_pairs_within)))
    (l_pairs_within : K.lookup f_pairs_within = some ⟨oc_pairs_within, od_pairs_within, .func (PySem.W.fnOf "pairs_within" "pairs_within" (defArgs s_pairs_within) (defBody s_pairs_within) (defScope s_pairs_within) .none kV_pairs_within dc_pairs_within pm_pairs_within an_pairs_within cd_pairs_within ct_pairs_within), sl_pairs_within⟩)
    (c_pairs_within : PySem.W.codeIn K cd_pairs_within "pairs_within" = true)
    (k_pairs_within : PySem.W.keepIn K (.ref f_pairs_within) = true)
    (a_pairs_at : PySem.W.nsIn K mainGlobals "pairs_at" = some (some (.ref f_pairs_at)))
    (l_pairs_at : K.lookup f_pairs_at = some ⟨oc_pairs_at, od_pairs_at, .func (PySem.W.fnOf "pairs_at" "pairs_at" (defArgs s_pairs_at) (defBody s_pairs_at) (defScope s_pairs_at) (.ref T_pairs_at) kV_pairs_at dc_pairs_at pm_pairs_at an_pairs_at cd_pairs_at ct_pairs_at), sl_pairs_at⟩)
    (c_pairs_at : PySem.W.codeIn K cd_pairs_at "pairs_at" = true)
    (k_pairs_at : PySem.W.keepIn K (.ref f_pairs_at) = true)
    (t_pairs_at : K.lookup T_pairs_at = some ⟨to_pairs_at, td_pairs_at, .seq #[.int 0 u0_pairs_at, .int 0 u1_pairs_at] tn_pairs_at, ts_pairs_at⟩)
    (a_joining : PySem.W.nsIn K mainGlobals "joining" = some (some (.ref f_joining)))
    (l_joining : K.lookup f_joining = some ⟨oc_joining, od_joining, .func (PySem.W.fnOf "joining" "joining" (defArgs s_joining) (defBody s_joining) (defScope s_joining) (.ref T_joining) kV_joining dc_joining pm_joining an_joining cd_joining ct_joining), sl_joining⟩)
    (c_joining : PySem.W.codeIn K cd_joining "joining" = true)
    (k_joining : PySem.W.keepIn K (.ref f_joining) = true)
    (t_joining : K.lookup T_joining = some ⟨to_joining, td_joining, .seq #[.int 0 u0_joining, .int 0 u1_joining] tn_joining, ts_joining⟩)
    (a_pairs : PySem.W.nsIn K mainGlobals "_law_pairs" = some (some (.ref f_pairs)))
    (l_pairs : K.lookup f_pairs = some ⟨oc_pairs, od_pairs, .func (PySem.W.fnOf "_law_pairs" "_law_pairs" (defArgs s_pairs) (defBody s_pairs) (defScope s_pairs) .none kV_pairs dc_pairs pm_pairs an_pairs cd_pairs ct_pairs), sl_pairs⟩)
    (c_pairs : PySem.W.codeIn K cd_pairs "_law_pairs" = true)
    (k_pairs : PySem.W.keepIn K (.ref f_pairs) = true)
    (a_law : PySem.W.nsIn K mainGlobals "law" = some (some (.ref f_law)))
    (l_law : K.lookup f_law = some ⟨oc_law, od_law, .func (PySem.W.fnOf "law" "law" (defArgs s_law) (defBody s_law) (defScope s_law) .none kV_law dc_law pm_law an_law cd_law ct_law), sl_law⟩)
    (c_law : PySem.W.codeIn K cd_law "law" = true)
    (k_law : PySem.W.keepIn K (.ref f_law) = true)
    (z_len : PySem.W.nsIn K mainGlobals "len" = some none)
    (z_isinstance : PySem.W.nsIn K mainGlobals "isinstance" = some none)
    (z_int : PySem.W.nsIn K mainGlobals "int" = some none)
    (z_bool : PySem.W.nsIn K mainGlobals "bool" = some none)
    (z_tuple : PySem.W.nsIn K mainGlobals "tuple" = some none)
    (z_list : PySem.W.nsIn K mainGlobals "list" = some none)
    (z_dict : PySem.W.nsIn K mainGlobals "dict" = some none)
    (z_range : PySem.W.nsIn K mainGlobals "range" = some none)
    (z_enumerate : PySem.W.nsIn K mainGlobals "enumerate" = some none)
    (z_sorted : PySem.W.nsIn K mainGlobals "sorted" = some none)
    (z_max : PySem.W.nsIn K mainGlobals "max" = some none)
    (z_min : PySem.W.nsIn K mainGlobals "min" = some none)
    (z_sum : PySem.W.nsIn K mainGlobals "sum" = some none)
    (z_abs : PySem.W.nsIn K mainGlobals "abs" = some none)
    (a_DIALS : PySem.W.nsIn K mainGlobals "DIALS" = some (some (.ref aD)))
    (l_DIALS : K.lookup aD = some ⟨.type "dict", none, .dict es_DIALS n_DIALS, #[]⟩)
    (v_DIALS_port : PySem.W.nsIn K aD "port" = some (some (.str "aport" u_DIALS_port)))
    (v_DIALS_star : PySem.W.nsIn K aD "star" = some (some (.str "astar" u_DIALS_star)))
    (a_SENT : PySem.W.nsIn K mainGlobals "SENT" = some (some (.ref aS)))
    (l_SENT : K.lookup aS = some ⟨.type "dict", none, .dict es_SENT n_SENT, #[]⟩)
    (v_SENT_port : PySem.W.nsIn K aS "port" = some (some (.str "bridge" u_SENT_port)))
    (v_SENT_star : PySem.W.nsIn K aS "star" = some (some (.str "bridge" u_SENT_star)))
    (v_SENT_down : PySem.W.nsIn K aS "down" = some (some (.str "bridge" u_SENT_down)))
    (v_SENT_aport : PySem.W.nsIn K aS "aport" = some (some (.str "room" u_SENT_aport)))
    (v_SENT_astar : PySem.W.nsIn K aS "astar" = some (some (.str "room" u_SENT_astar)))
    (v_SENT_up : PySem.W.nsIn K aS "up" = some (some (.str "room" u_SENT_up)))
    (a_BESIDE : PySem.W.nsIn K mainGlobals "BESIDE" = some (some (.ref aE)))
    (l_BESIDE : K.lookup aE = some ⟨.type "dict", none, .dict es_BESIDE n_BESIDE, #[]⟩)
    (v_BESIDE_port : PySem.W.nsIn K aE "port" = some (some (.str "star" u_BESIDE_port)))
    (v_BESIDE_star : PySem.W.nsIn K aE "star" = some (some (.str "port" u_BESIDE_star)))
    (v_BESIDE_aport : PySem.W.nsIn K aE "aport" = some (some (.str "astar" u_BESIDE_aport)))
    (v_BESIDE_astar : PySem.W.nsIn K aE "astar" = some (some (.str "aport" u_BESIDE_astar)))
    (v_BESIDE_down : PySem.W.nsIn K aE "down" = some none)
    (v_BESIDE_up : PySem.W.nsIn K aE "up" = some none)
    (a_BELLS : PySem.W.nsIn K mainGlobals "BELLS" = some (some (.ref aB)))
    (l_BELLS : K.lookup aB = some ⟨.type "tuple", bod, .seq #[.str "port" bu1, .str "star" bu2] bn, bsl⟩)
    (q_DIALS : PySem.W.KeysLit w.params es_DIALS.toList)
    (q_SENT : PySem.W.KeysLit w.params es_SENT.toList)
    (q_BESIDE : PySem.W.KeysLit w.params es_BESIDE.toList)
    (nR : K.lookup tR = none)
    (nL : K.lookup tL = none)
    (hR : codeBits cv_ranks C_ranks tR = true)
    (hL : codeBits cv_life C_life tL = true)
    (gR : h.get? tR = some { cls := .none, data := .fields #[] })
    (gL : h.get? tL = some { cls := .none, data := .fields #[] })
    (hne : tR ≠ tL)
    (low : K.lookup sysModules = none) :
    LamX.LawAtS l w K CX0 10 63 "_law_script" mg fa h := by
  have e := hfa.symm.trans (PySem.W.mg_of X G a_law)
  cases e
  have mT : Gb w K mg aD aS aB aE := by
    refine { len := PySem.W.mg_none_of X G z_len, isi := PySem.W.mg_none_of X G z_isinstance, int := PySem.W.mg_none_of X G z_int, bool := PySem.W.mg_none_of X G z_bool, tuple := PySem.W.mg_none_of X G z_tuple, list := PySem.W.mg_none_of X G z_list, dict := PySem.W.mg_none_of X G z_dict, range := PySem.W.mg_none_of X G z_range, enumerate := PySem.W.mg_none_of X G z_enumerate, sorted := PySem.W.mg_none_of X G z_sorted, max := PySem.W.mg_none_of X G z_max, min := PySem.W.mg_none_of X G z_min, sum := PySem.W.mg_none_of X G z_sum, abs := PySem.W.mg_none_of X G z_abs, dials := PySem.W.mg_of X G a_DIALS, dialsP := ?_, dialsS := ?_, sent := PySem.W.mg_of X G a_SENT, sent1 := ?_, sent2 := ?_, sent3 := ?_, sent4 := ?_, sent5 := ?_, sent6 := ?_, bells := PySem.W.mg_of X G a_BELLS, bellsT := ?_, beside := PySem.W.mg_of X G a_BESIDE, beside1 := ?_, beside2 := ?_, beside3 := ?_, beside4 := ?_, beside5 := ?_, beside6 := ?_, low := none_low low }
    · exact ⟨_, _, _, l_DIALS, q_DIALS, v_DIALS_port, ⟨_, rfl⟩⟩
    · exact ⟨_, _, _, l_DIALS, q_DIALS, v_DIALS_star, ⟨_, rfl⟩⟩
    · exact ⟨_, _, _, l_SENT, q_SENT, v_SENT_port, ⟨_, rfl⟩⟩
    · exact ⟨_, _, _, l_SENT, q_SENT, v_SENT_star, ⟨_, rfl⟩⟩
    · exact ⟨_, _, _, l_SENT, q_SENT, v_SENT_down, ⟨_, rfl⟩⟩
    · exact ⟨_, _, _, l_SENT, q_SENT, v_SENT_aport, ⟨_, rfl⟩⟩
    · exact ⟨_, _, _, l_SENT, q_SENT, v_SENT_astar, ⟨_, rfl⟩⟩
    · exact ⟨_, _, _, l_SENT, q_SENT, v_SENT_up, ⟨_, rfl⟩⟩
    · exact fun H => .inr ⟨_, _, _, l_BELLS, rfl, rfl, Nat.le_of_ble_eq_true rfl, .cons ⟨_, rfl⟩ (.cons ⟨_, rfl⟩ .nil)⟩
    · exact .inl ⟨.str "star", ⟨_, _, _, l_BESIDE, q_BESIDE, v_BESIDE_port, ⟨_, rfl⟩⟩, rfl⟩
    · exact .inl ⟨.str "port", ⟨_, _, _, l_BESIDE, q_BESIDE, v_BESIDE_star, ⟨_, rfl⟩⟩, rfl⟩
    · exact .inl ⟨.str "astar", ⟨_, _, _, l_BESIDE, q_BESIDE, v_BESIDE_aport, ⟨_, rfl⟩⟩, rfl⟩
    · exact .inl ⟨.str "aport", ⟨_, _, _, l_BESIDE, q_BESIDE, v_BESIDE_astar, ⟨_, rfl⟩⟩, rfl⟩
    · exact .inr ⟨⟨_, _, l_BESIDE, q_BESIDE, none_low low _ (by rw [l_BESIDE]; exact fun z => nomatch z), v_BESIDE_down⟩, rfl⟩
    · exact .inr ⟨⟨_, _, l_BESIDE, q_BESIDE, none_low low _ (by rw [l_BESIDE]; exact fun z => nomatch z), v_BESIDE_up⟩, rfl⟩
  refine ⟨PySem.W.fnOf "law" "law" (defArgs s_law) (defBody s_law) (defScope s_law) .none kV_law dc_law pm_law an_law cd_law ct_law, [(C_ranks, tR), (C_life, tL)], PSp K (sp_law tR tL), ?_, ?_, ?_, fun s u => .of_eq rfl, ?_, ?_⟩
  · intro p hp
    rcases List.mem_cons.mp hp with rfl | hp
    · exact gR
    · rw [List.mem_singleton.mp hp]; exact gL
  · intro p hp
    rcases List.mem_cons.mp hp with rfl | hp
    · exact nR
    · rw [List.mem_singleton.mp hp]; exact nL
  · intro p hp
    rcases List.mem_cons.mp hp with rfl | hp
    · exact PySem.W.codeHd_of_K X (codeBits_in y_ranks hR)
    · rw [List.mem_singleton.mp hp]; exact PySem.W.codeHd_of_K X (codeBits_in y_life hL)
  · intro H a ns hl _ hH hs
    exact law_start hne hl (hH _ List.mem_cons_self) (hH _ (List.mem_cons_of_mem _ (List.mem_singleton.mpr rfl))) hs
  · intro base hK hN TB
    have TBR := TB _ List.mem_cons_self
    have TBL := TB _ (List.mem_cons_of_mem _ (List.mem_singleton.mpr rfl))
    have F_is_whole : FunD K "is_whole" "is_whole" s_is_whole f_is_whole _ := ⟨_, _, _, _, _, _, _, _, _, _, rfl, l_is_whole, c_is_whole⟩
    have o_is_whole := ok_is_whole (P := l.prog) (w := w) (base := base) F_is_whole mT 
    have B_is_whole : Binds K (PySem.W.fnOf "is_whole" "is_whole" (defArgs s_is_whole) (defBody s_is_whole) (defScope s_is_whole) .none kV_is_whole dc_is_whole pm_is_whole an_is_whole cd_is_whole ct_is_whole) p_is_whole [] := .all fun us hl => match us, hl with | [_], _ => rfl
    have d_is_whole : Cd l.prog w K mg base 1 "is_whole" sp_is_whole [] := ⟨_, _, _, _, o_is_whole, PySem.W.mg_of X G a_is_whole, k_is_whole, B_is_whole, .nil⟩
    have F_dial_of : FunD K "dial_of" "dial_of" s_dial_of f_dial_of _ := ⟨_, _, _, _, _, _, _, _, _, _, rfl, l_dial_of, c_dial_of⟩
    have o_dial_of := ok_dial_of (P := l.prog) (w := w) (base := base) F_dial_of mT 
    have B_dial_of : Binds K (PySem.W.fnOf "dial_of" "dial_of" (defArgs s_dial_of) (defBody s_dial_of) (defScope s_dial_of) .none kV_dial_of dc_dial_of pm_dial_of an_dial_of cd_dial_of ct_dial_of) p_dial_of [] := .all fun us hl => match us, hl with | [_], _ => rfl
    have d_dial_of : Cd l.prog w K mg base 1 "dial_of" sp_dial_of [] := ⟨_, _, _, _, o_dial_of, PySem.W.mg_of X G a_dial_of, k_dial_of, B_dial_of, .nil⟩
    have F_sent_from : FunD K "sent_from" "sent_from" s_sent_from f_sent_from _ := ⟨_, _, _, _, _, _, _, _, _, _, rfl, l_sent_from, c_sent_from⟩
    have o_sent_from := ok_sent_from (P := l.prog) (w := w) (base := base) F_sent_from mT 
    have B_sent_from : Binds K (PySem.W.fnOf "sent_from" "sent_from" (defArgs s_sent_from) (defBody s_sent_from) (defScope s_sent_from) .none kV_sent_from dc_sent_from pm_sent_from an_sent_from cd_sent_from ct_sent_from) p_sent_from [] := .all fun us hl => match us, hl with | [_], _ => rfl
    have d_sent_from : Cd l.prog w K mg base 1 "sent_from" sp_sent_from [] := ⟨_, _, _, _, o_sent_from, PySem.W.mg_of X G a_sent_from, k_sent_from, B_sent_from, .nil⟩
    have F_rows_on : FunD K "rows_on" "rows_on" s_rows_on f_rows_on _ := ⟨_, _, _, _, _, _, _, _, _, _, rfl, l_rows_on, c_rows_on⟩
    have o_rows_on := ok_rows_on (P := l.prog) (w := w) (base := base) F_rows_on mT 
    have B_rows_on : Binds K (PySem.W.fnOf "rows_on" "rows_on" (defArgs s_rows_on) (defBody s_rows_on) (defScope s_rows_on) .none kV_rows_on dc_rows_on pm_rows_on an_rows_on cd_rows_on ct_rows_on) p_rows_on [] := .all fun us hl => match us, hl with | [_, _], _ => rfl
    have d_rows_on : Cd l.prog w K mg base 1 "rows_on" sp_rows_on [] := ⟨_, _, _, _, o_rows_on, PySem.W.mg_of X G a_rows_on, k_rows_on, B_rows_on, .nil⟩
    have F_need_ring : FunD K "need_ring" "need_ring" s_need_ring f_need_ring _ := ⟨_, _, _, _, _, _, _, _, _, _, rfl, l_need_ring, c_need_ring⟩
    have o_need_ring := ok_need_ring (P := l.prog) (w := w) (base := base) F_need_ring mT 
    have B_need_ring : Binds K (PySem.W.fnOf "need_ring" "need_ring" (defArgs s_need_ring) (defBody s_need_ring) (defScope s_need_ring) .none kV_need_ring dc_need_ring pm_need_ring an_need_ring cd_need_ring ct_need_ring) p_need_ring [] := .all fun us hl => match us, hl with | [_, _], _ => rfl
    have d_need_ring : Cd l.prog w K mg base 1 "need_ring" sp_need_ring [] := ⟨_, _, _, _, o_need_ring, PySem.W.mg_of X G a_need_ring, k_need_ring, B_need_ring, .nil⟩
    have F_by_lines : FunD K "by_lines" "by_lines" s_by_lines f_by_lines _ := ⟨_, _, _, _, _, _, _, _, _, _, rfl, l_by_lines, c_by_lines⟩
    have o_by_lines := ok_by_lines (P := l.prog) (w := w) (base := base) F_by_lines mT 
    have B_by_lines : Binds K (PySem.W.fnOf "by_lines" "by_lines" (defArgs s_by_lines) (defBody s_by_lines) (defScope s_by_lines) .none kV_by_lines dc_by_lines pm_by_lines an_by_lines cd_by_lines ct_by_lines) p_by_lines [] := .all fun us hl => match us, hl with | [_, _], _ => rfl
    have d_by_lines : Cd l.prog w K mg base 1 "by_lines" sp_by_lines [] := ⟨_, _, _, _, o_by_lines, PySem.W.mg_of X G a_by_lines, k_by_lines, B_by_lines, .nil⟩
    have F_by_bridge : FunD K "by_bridge" "by_bridge" s_by_bridge f_by_bridge _ := ⟨_, _, _, _, _, _, _, _, _, _, rfl, l_by_bridge, c_by_bridge⟩
    have o_by_bridge := ok_by_bridge (P := l.prog) (w := w) (base := base) F_by_bridge mT 
    have B_by_bridge : Binds K (PySem.W.fnOf "by_bridge" "by_bridge" (defArgs s_by_bridge) (defBody s_by_bridge) (defScope s_by_bridge) .none kV_by_bridge dc_by_bridge pm_by_bridge an_by_bridge cd_by_bridge ct_by_bridge) p_by_bridge [] := .all fun us hl => match us, hl with | [_, _, _], _ => rfl
    have d_by_bridge : Cd l.prog w K mg base 1 "by_bridge" sp_by_bridge [] := ⟨_, _, _, _, o_by_bridge, PySem.W.mg_of X G a_by_bridge, k_by_bridge, B_by_bridge, .nil⟩
    have F_lot : FunD K "lot" "lot" s_lot f_lot _ := ⟨_, _, _, _, _, _, _, _, _, _, rfl, l_lot, c_lot⟩
    have o_lot := ok_lot (P := l.prog) (w := w) (base := base) F_lot mT 
    have B_lot : Binds K (PySem.W.fnOf "lot" "lot" (defArgs s_lot) (defBody s_lot) (defScope s_lot) .none kV_lot dc_lot pm_lot an_lot cd_lot ct_lot) p_lot [] := .all fun us hl => match us, hl with | [_, _, _], _ => rfl
    have d_lot : Cd l.prog w K mg base 1 "lot" sp_lot [] := ⟨_, _, _, _, o_lot, PySem.W.mg_of X G a_lot, k_lot, B_lot, .nil⟩
    have F_pen : FunD K "_law_pen" "_law_pen" s_pen f_pen _ := ⟨_, _, _, _, _, _, _, _, _, _, rfl, l_pen, c_pen⟩
    have o_pen := ok_pen (P := l.prog) (w := w) (base := base) F_pen mT 
    have B_pen : Binds K (PySem.W.fnOf "_law_pen" "_law_pen" (defArgs s_pen) (defBody s_pen) (defScope s_pen) .none kV_pen dc_pen pm_pen an_pen cd_pen ct_pen) p_pen [] := .all fun us hl => match us, hl with | [_], _ => rfl
    have d_pen : Cd l.prog w K mg base 1 "_law_pen" sp_pen [] := ⟨_, _, _, _, o_pen, PySem.W.mg_of X G a_pen, k_pen, B_pen, .nil⟩
    have F_draw : FunD K "_law_draw" "_law_draw" s_draw f_draw _ := ⟨_, _, _, _, _, _, _, _, _, _, rfl, l_draw, c_draw⟩
    have o_draw := ok_draw (P := l.prog) (w := w) (base := base) F_draw mT 
    have B_draw : Binds K (PySem.W.fnOf "_law_draw" "_law_draw" (defArgs s_draw) (defBody s_draw) (defScope s_draw) .none kV_draw dc_draw pm_draw an_draw cd_draw ct_draw) p_draw [] := .all fun us hl => match us, hl with | [_, _], _ => rfl
    have d_draw : Cd l.prog w K mg base 1 "_law_draw" sp_draw [] := ⟨_, _, _, _, o_draw, PySem.W.mg_of X G a_draw, k_draw, B_draw, .nil⟩
    have F_fits : FunD K "_law_fits" "_law_fits" s_fits f_fits _ := ⟨_, _, _, _, _, _, _, _, _, _, rfl, l_fits, c_fits⟩
    have o_fits := ok_fits (P := l.prog) (w := w) (base := base) F_fits mT 
    have B_fits : Binds K (PySem.W.fnOf "_law_fits" "_law_fits" (defArgs s_fits) (defBody s_fits) (defScope s_fits) .none kV_fits dc_fits pm_fits an_fits cd_fits ct_fits) p_fits [] := .all fun us hl => match us, hl with | [_, _, _, _, _, _], _ => rfl
    have d_fits : Cd l.prog w K mg base 1 "_law_fits" sp_fits [] := ⟨_, _, _, _, o_fits, PySem.W.mg_of X G a_fits, k_fits, B_fits, .nil⟩
    have F_moved : FunD K "_law_moved" "_law_moved" s_moved f_moved _ := ⟨_, _, _, _, _, _, _, _, _, _, rfl, l_moved, c_moved⟩
    have o_moved := ok_moved (P := l.prog) (w := w) (base := base) F_moved mT 
    have B_moved : Binds K (PySem.W.fnOf "_law_moved" "_law_moved" (defArgs s_moved) (defBody s_moved) (defScope s_moved) .none kV_moved dc_moved pm_moved an_moved cd_moved ct_moved) p_moved [] := .all fun us hl => match us, hl with | [_, _], _ => rfl
    have d_moved : Cd l.prog w K mg base 1 "_law_moved" sp_moved [] := ⟨_, _, _, _, o_moved, PySem.W.mg_of X G a_moved, k_moved, B_moved, .nil⟩
    have F_turned : FunD K "_law_turned" "_law_turned" s_turned f_turned _ := ⟨_, _, _, _, _, _, _, _, _, _, rfl, l_turned, c_turned⟩
    have o_turned := ok_turned (P := l.prog) (w := w) (base := base) F_turned mT 
    have B_turned : Binds K (PySem.W.fnOf "_law_turned" "_law_turned" (defArgs s_turned) (defBody s_turned) (defScope s_turned) .none kV_turned dc_turned pm_turned an_turned cd_turned ct_turned) p_turned [] := .all fun us hl => match us, hl with | [_], _ => rfl
    have d_turned : Cd l.prog w K mg base 1 "_law_turned" sp_turned [] := ⟨_, _, _, _, o_turned, PySem.W.mg_of X G a_turned, k_turned, B_turned, .nil⟩
    have F_spots : FunD K "_law_spots" "_law_spots" s_spots f_spots _ := ⟨_, _, _, _, _, _, _, _, _, _, rfl, l_spots, c_spots⟩
    have o_spots := ok_spots (P := l.prog) (w := w) (base := base) F_spots mT 
    have B_spots : Binds K (PySem.W.fnOf "_law_spots" "_law_spots" (defArgs s_spots) (defBody s_spots) (defScope s_spots) .none kV_spots dc_spots pm_spots an_spots cd_spots ct_spots) p_spots [] := .all fun us hl => match us, hl with | [_], _ => rfl
    have d_spots : Cd l.prog w K mg base 1 "_law_spots" sp_spots [] := ⟨_, _, _, _, o_spots, PySem.W.mg_of X G a_spots, k_spots, B_spots, .nil⟩
    have F_is_from_to : FunD K "is_from_to" "is_from_to" s_is_from_to f_is_from_to _ := ⟨_, _, _, _, _, _, _, _, _, _, rfl, l_is_from_to, c_is_from_to⟩
    have o_is_from_to := ok_is_from_to (P := l.prog) (w := w) (base := base) F_is_from_to mT d_is_whole
    have B_is_from_to : Binds K (PySem.W.fnOf "is_from_to" "is_from_to" (defArgs s_is_from_to) (defBody s_is_from_to) (defScope s_is_from_to) .none kV_is_from_to dc_is_from_to pm_is_from_to an_is_from_to cd_is_from_to ct_is_from_to) p_is_from_to [] := .all fun us hl => match us, hl with | [_, _, _], _ => rfl
    have d_is_from_to : Cd l.prog w K mg base 2 "is_from_to" sp_is_from_to [] := ⟨_, _, _, _, o_is_from_to, PySem.W.mg_of X G a_is_from_to, k_is_from_to, B_is_from_to, .nil⟩
    have F_fate : FunD K "fate" "fate" s_fate f_fate _ := ⟨_, _, _, _, _, _, _, _, _, _, rfl, l_fate, c_fate⟩
    have o_fate := ok_fate (P := l.prog) (w := w) (base := base) F_fate mT d_dial_of
    have B_fate : Binds K (PySem.W.fnOf "fate" "fate" (defArgs s_fate) (defBody s_fate) (defScope s_fate) .none kV_fate dc_fate pm_fate an_fate cd_fate ct_fate) p_fate [] := .all fun us hl => match us, hl with | [_, _, _], _ => rfl
    have d_fate : Cd l.prog w K mg base 2 "fate" sp_fate [] := ⟨_, _, _, _, o_fate, PySem.W.mg_of X G a_fate, k_fate, B_fate, .nil⟩
    have F_obeyed : FunD K "obeyed" "obeyed" s_obeyed f_obeyed _ := ⟨_, _, _, _, _, _, _, _, _, _, rfl, l_obeyed, c_obeyed⟩
    have o_obeyed := ok_obeyed (P := l.prog) (w := w) (base := base) F_obeyed mT d_need_ring d_rows_on
    have D_obeyed : L2.FunD K "obeyed" "obeyed" (defArgs s_obeyed) (defBody s_obeyed) (defScope s_obeyed) [.int 0] [] f_obeyed _ := ⟨⟨_, _, _, _, _, _, _, _, _, _, rfl, l_obeyed, c_obeyed, .inr ⟨List.cons_ne_nil _ _, _, _, [Value.int 0 u0_obeyed], _, rfl, t_obeyed, rfl, .cons ⟨_, rfl⟩ (.nil)⟩, .inl rfl⟩, k_obeyed⟩
    obtain ⟨ds_obeyed, vs_obeyed, B_obeyed⟩ := D_obeyed.binds1 (ps := p_obeyed) 5 1 (List.cons_ne_nil _ _) rfl fun T kV doc pm an cdv ct us its h1 h2 => match us, its, h1, h2 with | [_, _, _, _, _], [_], _, _ => ⟨_, rfl, rfl⟩
    have d_obeyed : Cd l.prog w K mg base 2 "obeyed" sp_obeyed [] := ⟨_, _, _, _, o_obeyed, PySem.W.mg_of X G a_obeyed, k_obeyed, B_obeyed, vs_obeyed⟩
    obtain ⟨e4, v4, B4⟩ := D_obeyed.binds1 (ps := p_obeyed) 4 0 (List.cons_ne_nil _ _) rfl fun T kV doc pm an cdv ct us its h1 h2 => match us, its, h1, h2 with | [_, _, _, _], [_], _, _ => ⟨_, rfl, rfl⟩
    have d4_obeyed : Cd l.prog w K mg base 2 "obeyed" sp_obeyed [.int 0] := ⟨_, _, _, _, o_obeyed, PySem.W.mg_of X G a_obeyed, k_obeyed, B4, v4⟩
    have F_ranks : FunC K "ranks" "ranks" s_ranks f_ranks _ C_ranks := ⟨_, _, _, _, _, _, _, _, _, rfl, l_ranks, c_ranks⟩
    have o_ranks := ok_ranks (P := l.prog) (w := w) (base := base) (tR := tR) F_ranks mT TBR 
    have B_ranks : Binds K (PySem.W.fnOf "ranks" "ranks" (defArgs s_ranks) (defBody s_ranks) (defScope s_ranks) .none kV_ranks dc_ranks pm_ranks an_ranks (.ref C_ranks) ct_ranks) p_ranks [] := .all fun us hl => match us, hl with | [_], _ => rfl
    have d_ranks : Cd l.prog w K mg base 2 "ranks" (sp_ranks tR) [] := ⟨_, _, _, _, o_ranks, PySem.W.mg_of X G a_ranks, k_ranks, B_ranks, .nil⟩
    have F_rows_left : FunD K "rows_left" "rows_left" s_rows_left f_rows_left _ := ⟨_, _, _, _, _, _, _, _, _, _, rfl, l_rows_left, c_rows_left⟩
    have o_rows_left := ok_rows_left (P := l.prog) (w := w) (base := base) F_rows_left mT d_sent_from
    have B_rows_left : Binds K (PySem.W.fnOf "rows_left" "rows_left" (defArgs s_rows_left) (defBody s_rows_left) (defScope s_rows_left) .none kV_rows_left dc_rows_left pm_rows_left an_rows_left cd_rows_left ct_rows_left) p_rows_left [] := .all fun us hl => match us, hl with | [_, _, _, _], _ => rfl
    have d_rows_left : Cd l.prog w K mg base 2 "rows_left" sp_rows_left [] := ⟨_, _, _, _, o_rows_left, PySem.W.mg_of X G a_rows_left, k_rows_left, B_rows_left, .nil⟩
    have F_is_doubled : FunD K "is_doubled" "is_doubled" s_is_doubled f_is_doubled _ := ⟨_, _, _, _, _, _, _, _, _, _, rfl, l_is_doubled, c_is_doubled⟩
    have o_is_doubled := ok_is_doubled (P := l.prog) (w := w) (base := base) F_is_doubled mT d_rows_on
    have B_is_doubled : Binds K (PySem.W.fnOf "is_doubled" "is_doubled" (defArgs s_is_doubled) (defBody s_is_doubled) (defScope s_is_doubled) .none kV_is_doubled dc_is_doubled pm_is_doubled an_is_doubled cd_is_doubled ct_is_doubled) p_is_doubled [] := .all fun us hl => match us, hl with | [_, _, _], _ => rfl
    have d_is_doubled : Cd l.prog w K mg base 2 "is_doubled" sp_is_doubled [] := ⟨_, _, _, _, o_is_doubled, PySem.W.mg_of X G a_is_doubled, k_is_doubled, B_is_doubled, .nil⟩
    have F_is_crossed : FunD K "is_crossed" "is_crossed" s_is_crossed f_is_crossed _ := ⟨_, _, _, _, _, _, _, _, _, _, rfl, l_is_crossed, c_is_crossed⟩
    have o_is_crossed := ok_is_crossed (P := l.prog) (w := w) (base := base) F_is_crossed mT d_by_bridge
    have B_is_crossed : Binds K (PySem.W.fnOf "is_crossed" "is_crossed" (defArgs s_is_crossed) (defBody s_is_crossed) (defScope s_is_crossed) .none kV_is_crossed dc_is_crossed pm_is_crossed an_is_crossed cd_is_crossed ct_is_crossed) p_is_crossed [] := .all fun us hl => match us, hl with | [_, _, _, _, _, _], _ => rfl
    have d_is_crossed : Cd l.prog w K mg base 2 "is_crossed" sp_is_crossed [] := ⟨_, _, _, _, o_is_crossed, PySem.W.mg_of X G a_is_crossed, k_is_crossed, B_is_crossed, .nil⟩
    have F_pick : FunD K "_law_pick" "_law_pick" s_pick f_pick _ := ⟨_, _, _, _, _, _, _, _, _, _, rfl, l_pick, c_pick⟩
    have o_pick := ok_pick (P := l.prog) (w := w) (base := base) F_pick mT d_draw
    have B_pick : Binds K (PySem.W.fnOf "_law_pick" "_law_pick" (defArgs s_pick) (defBody s_pick) (defScope s_pick) .none kV_pick dc_pick pm_pick an_pick cd_pick ct_pick) p_pick [] := .all fun us hl => match us, hl with | [_, _], _ => rfl
    have d_pick : Cd l.prog w K mg base 2 "_law_pick" sp_pick [] := ⟨_, _, _, _, o_pick, PySem.W.mg_of X G a_pick, k_pick, B_pick, .nil⟩
    have F_ring_of : FunD K "ring_of" "ring_of" s_ring_of f_ring_of _ := ⟨_, _, _, _, _, _, _, _, _, _, rfl, l_ring_of, c_ring_of⟩
    have o_ring_of := ok_ring_of (P := l.prog) (w := w) (base := base) F_ring_of mT d_need_ring d_fate
    have B_ring_of : Binds K (PySem.W.fnOf "ring_of" "ring_of" (defArgs s_ring_of) (defBody s_ring_of) (defScope s_ring_of) .none kV_ring_of dc_ring_of pm_ring_of an_ring_of cd_ring_of ct_ring_of) p_ring_of [] := .all fun us hl => match us, hl with | [_, _, _, _], _ => rfl
    have d_ring_of : Cd l.prog w K mg base 3 "ring_of" sp_ring_of [] := ⟨_, _, _, _, o_ring_of, PySem.W.mg_of X G a_ring_of, k_ring_of, B_ring_of, .nil⟩
    have F_is_pair : FunD K "is_pair" "is_pair" s_is_pair f_is_pair _ := ⟨_, _, _, _, _, _, _, _, _, _, rfl, l_is_pair, c_is_pair⟩
    have o_is_pair := ok_is_pair (P := l.prog) (w := w) (base := base) F_is_pair mT d_is_from_to
    have B_is_pair : Binds K (PySem.W.fnOf "is_pair" "is_pair" (defArgs s_is_pair) (defBody s_is_pair) (defScope s_is_pair) .none kV_is_pair dc_is_pair pm_is_pair an_is_pair cd_is_pair ct_is_pair) p_is_pair [] := .all fun us hl => match us, hl with | [_, _, _], _ => rfl
    have d_is_pair : Cd l.prog w K mg base 3 "is_pair" sp_is_pair [] := ⟨_, _, _, _, o_is_pair, PySem.W.mg_of X G a_is_pair, k_is_pair, B_is_pair, .nil⟩
    have F_longest : FunD K "longest" "longest" s_longest f_longest _ := ⟨_, _, _, _, _, _, _, _, _, _, rfl, l_longest, c_longest⟩
    have o_longest := ok_longest (P := l.prog) (w := w) (base := base) (tR := tR) F_longest mT d_ranks
    have B_longest : Binds K (PySem.W.fnOf "longest" "longest" (defArgs s_longest) (defBody s_longest) (defScope s_longest) .none kV_longest dc_longest pm_longest an_longest cd_longest ct_longest) p_longest [] := .all fun us hl => match us, hl with | [_], _ => rfl
    have d_longest : Cd l.prog w K mg base 3 "longest" (sp_longest tR) [] := ⟨_, _, _, _, o_longest, PySem.W.mg_of X G a_longest, k_longest, B_longest, .nil⟩
    have F_missed : FunD K "missed" "missed" s_missed f_missed _ := ⟨_, _, _, _, _, _, _, _, _, _, rfl, l_missed, c_missed⟩
    have o_missed := ok_missed (P := l.prog) (w := w) (base := base) F_missed mT d_rows_left
    have B_missed : Binds K (PySem.W.fnOf "missed" "missed" (defArgs s_missed) (defBody s_missed) (defScope s_missed) .none kV_missed dc_missed pm_missed an_missed cd_missed ct_missed) p_missed [] := .all fun us hl => match us, hl with | [_, _, _], _ => rfl
    have d_missed : Cd l.prog w K mg base 3 "missed" sp_missed [] := ⟨_, _, _, _, o_missed, PySem.W.mg_of X G a_missed, k_missed, B_missed, .nil⟩
    have F_life : FunC K "_law_life" "_law_life" s_life f_life _ C_life := ⟨_, _, _, _, _, _, _, _, _, rfl, l_life, c_life⟩
    have o_life := ok_life (P := l.prog) (w := w) (base := base) (tL := tL) F_life mT TBL d_pick d_draw
    have B_life : Binds K (PySem.W.fnOf "_law_life" "_law_life" (defArgs s_life) (defBody s_life) (defScope s_life) .none kV_life dc_life pm_life an_life (.ref C_life) ct_life) p_life [] := .all fun us hl => match us, hl with | [_, _], _ => rfl
    have d_life : Cd l.prog w K mg base 3 "_law_life" (sp_life tL) [] := ⟨_, _, _, _, o_life, PySem.W.mg_of X G a_life, k_life, B_life, .nil⟩
    have F_greedy : FunD K "_law_greedy" "_law_greedy" s_greedy f_greedy _ := ⟨_, _, _, _, _, _, _, _, _, _, rfl, l_greedy, c_greedy⟩
    have o_greedy := ok_greedy (P := l.prog) (w := w) (base := base) F_greedy mT d_pick d_fits d_draw
    have B_greedy : Binds K (PySem.W.fnOf "_law_greedy" "_law_greedy" (defArgs s_greedy) (defBody s_greedy) (defScope s_greedy) .none kV_greedy dc_greedy pm_greedy an_greedy cd_greedy ct_greedy) p_greedy [] := .all fun us hl => match us, hl with | [_, _, _, _, _], _ => rfl
    have d_greedy : Cd l.prog w K mg base 3 "_law_greedy" sp_greedy [] := ⟨_, _, _, _, o_greedy, PySem.W.mg_of X G a_greedy, k_greedy, B_greedy, .nil⟩
    have F_span : FunD K "span" "span" s_span f_span _ := ⟨_, _, _, _, _, _, _, _, _, _, rfl, l_span, c_span⟩
    have o_span := ok_span (P := l.prog) (w := w) (base := base) F_span mT d_is_pair d_sent_from
    have D_span : L2.FunD K "span" "span" (defArgs s_span) (defBody s_span) (defScope s_span) [.int 0] [] f_span _ := ⟨⟨_, _, _, _, _, _, _, _, _, _, rfl, l_span, c_span, .inr ⟨List.cons_ne_nil _ _, _, _, [Value.int 0 u0_span], _, rfl, t_span, rfl, .cons ⟨_, rfl⟩ (.nil)⟩, .inl rfl⟩, k_span⟩
    obtain ⟨ds_span, vs_span, B_span⟩ := D_span.binds1 (ps := p_span) 4 1 (List.cons_ne_nil _ _) rfl fun T kV doc pm an cdv ct us its h1 h2 => match us, its, h1, h2 with | [_, _, _, _], [_], _, _ => ⟨_, rfl, rfl⟩
    have d_span : Cd l.prog w K mg base 4 "span" sp_span [] := ⟨_, _, _, _, o_span, PySem.W.mg_of X G a_span, k_span, B_span, vs_span⟩
    have F_greatest : FunD K "greatest" "greatest" s_greatest f_greatest _ := ⟨_, _, _, _, _, _, _, _, _, _, rfl, l_greatest, c_greatest⟩
    have o_greatest := ok_greatest (P := l.prog) (w := w) (base := base) (tR := tR) F_greatest mT d_by_lines d_longest
    have D_greatest : L2.FunD K "greatest" "greatest" (defArgs s_greatest) (defBody s_greatest) (defScope s_greatest) [.int 0, .int 0] [] f_greatest _ := ⟨⟨_, _, _, _, _, _, _, _, _, _, rfl, l_greatest, c_greatest, .inr ⟨List.cons_ne_nil _ _, _, _, [Value.int 0 u0_greatest, Value.int 0 u1_greatest], _, rfl, t_greatest, rfl, .cons ⟨_, rfl⟩ (.cons ⟨_, rfl⟩ (.nil))⟩, .inl rfl⟩, k_greatest⟩
    obtain ⟨ds_greatest, vs_greatest, B_greatest⟩ := D_greatest.binds1 (ps := p_greatest) 5 2 (List.cons_ne_nil _ _) rfl fun T kV doc pm an cdv ct us its h1 h2 => match us, its, h1, h2 with | [_, _, _, _, _], [_, _], _, _ => ⟨_, rfl, rfl⟩
    have d_greatest : Cd l.prog w K mg base 4 "greatest" (sp_greatest tR) [] := ⟨_, _, _, _, o_greatest, PySem.W.mg_of X G a_greatest, k_greatest, B_greatest, vs_greatest⟩
    have F_strange : FunD K "strange" "strange" s_strange f_strange _ := ⟨_, _, _, _, _, _, _, _, _, _, rfl, l_strange, c_strange⟩
    have o_strange := ok_strange (P := l.prog) (w := w) (base := base) F_strange mT d_missed d_rows_left d_is_doubled d_is_crossed
    have D_strange : L2.FunD K "strange" "strange" (defArgs s_strange) (defBody s_strange) (defScope s_strange) [.int 0, .int 0] [] f_strange _ := ⟨⟨_, _, _, _, _, _, _, _, _, _, rfl, l_strange, c_strange, .inr ⟨List.cons_ne_nil _ _, _, _, [Value.int 0 u0_strange, Value.int 0 u1_strange], _, rfl, t_strange, rfl, .cons ⟨_, rfl⟩ (.cons ⟨_, rfl⟩ (.nil))⟩, .inl rfl⟩, k_strange⟩
    obtain ⟨ds_strange, vs_strange, B_strange⟩ := D_strange.binds1 (ps := p_strange) 5 2 (List.cons_ne_nil _ _) rfl fun T kV doc pm an cdv ct us its h1 h2 => match us, its, h1, h2 with | [_, _, _, _, _], [_, _], _, _ => ⟨_, rfl, rfl⟩
    have d_strange : Cd l.prog w K mg base 4 "strange" sp_strange [] := ⟨_, _, _, _, o_strange, PySem.W.mg_of X G a_strange, k_strange, B_strange, vs_strange⟩
    have F_bare_right : FunD K "_law_bare_right" "_law_bare_right" s_bare_right f_bare_right _ := ⟨_, _, _, _, _, _, _, _, _, _, rfl, l_bare_right, c_bare_right⟩
    have o_bare_right := ok_bare_right (P := l.prog) (w := w) (base := base) F_bare_right mT d_spots d_ring_of d4_obeyed
    have B_bare_right : Binds K (PySem.W.fnOf "_law_bare_right" "_law_bare_right" (defArgs s_bare_right) (defBody s_bare_right) (defScope s_bare_right) .none kV_bare_right dc_bare_right pm_bare_right an_bare_right cd_bare_right ct_bare_right) p_bare_right [] := .all fun us hl => match us, hl with | [_, _, _], _ => rfl
    have d_bare_right : Cd l.prog w K mg base 4 "_law_bare_right" sp_bare_right [] := ⟨_, _, _, _, o_bare_right, PySem.W.mg_of X G a_bare_right, k_bare_right, B_bare_right, .nil⟩
    have F_fewer_right : FunD K "_law_fewer_right" "_law_fewer_right" s_fewer_right f_fewer_right _ := ⟨_, _, _, _, _, _, _, _, _, _, rfl, l_fewer_right, c_fewer_right⟩
    have o_fewer_right := ok_fewer_right (P := l.prog) (w := w) (base := base) F_fewer_right mT d_draw d_ring_of d_missed
    have B_fewer_right : Binds K (PySem.W.fnOf "_law_fewer_right" "_law_fewer_right" (defArgs s_fewer_right) (defBody s_fewer_right) (defScope s_fewer_right) .none kV_fewer_right dc_fewer_right pm_fewer_right an_fewer_right cd_fewer_right ct_fewer_right) p_fewer_right [] := .all fun us hl => match us, hl with | [_, _, _, _], _ => rfl
    have d_fewer_right : Cd l.prog w K mg base 4 "_law_fewer_right" sp_fewer_right [] := ⟨_, _, _, _, o_fewer_right, PySem.W.mg_of X G a_fewer_right, k_fewer_right, B_fewer_right, .nil⟩
    have F_meets : FunD K "meets" "meets" s_meets f_meets _ := ⟨_, _, _, _, _, _, _, _, _, _, rfl, l_meets, c_meets⟩
    have o_meets := ok_meets (P := l.prog) (w := w) (base := base) F_meets mT d_span
    have B_meets : Binds K (PySem.W.fnOf "meets" "meets" (defArgs s_meets) (defBody s_meets) (defScope s_meets) .none kV_meets dc_meets pm_meets an_meets cd_meets ct_meets) p_meets [] := .all fun us hl => match us, hl with | [_, _, _, _, _, _], _ => rfl
    have d_meets : Cd l.prog w K mg base 5 "meets" sp_meets [] := ⟨_, _, _, _, o_meets, PySem.W.mg_of X G a_meets, k_meets, B_meets, .nil⟩
    have F_all : FunD K "_law_all" "_law_all" s_all f_all _ := ⟨_, _, _, _, _, _, _, _, _, _, rfl, l_all, c_all⟩
    have o_all := ok_all (P := l.prog) (w := w) (base := base) F_all mT d_obeyed d_ring_of d_missed d_strange d_lot
    have B_all : Binds K (PySem.W.fnOf "_law_all" "_law_all" (defArgs s_all) (defBody s_all) (defScope s_all) .none kV_all dc_all pm_all an_all cd_all ct_all) p_all [] := .all fun us hl => match us, hl with | [_, _, _, _, _, _], _ => rfl
    have d_all : Cd l.prog w K mg base 5 "_law_all" sp_all [] := ⟨_, _, _, _, o_all, PySem.W.mg_of X G a_all, k_all, B_all, .nil⟩
    have F_pairs_within : FunD K "pairs_within" "pairs_within" s_pairs_within f_pairs_within _ := ⟨_, _, _, _, _, _, _, _, _, _, rfl, l_pairs_within, c_pairs_within⟩
    have o_pairs_within := ok_pairs_within (P := l.prog) (w := w) (base := base) F_pairs_within mT d_meets
    have B_pairs_within : Binds K (PySem.W.fnOf "pairs_within" "pairs_within" (defArgs s_pairs_within) (defBody s_pairs_within) (defScope s_pairs_within) .none kV_pairs_within dc_pairs_within pm_pairs_within an_pairs_within cd_pairs_within ct_pairs_within) p_pairs_within [] := .all fun us hl => match us, hl with | [_, _, _, _, _], _ => rfl
    have d_pairs_within : Cd l.prog w K mg base 6 "pairs_within" sp_pairs_within [] := ⟨_, _, _, _, o_pairs_within, PySem.W.mg_of X G a_pairs_within, k_pairs_within, B_pairs_within, .nil⟩
    have F_pairs_at : FunD K "pairs_at" "pairs_at" s_pairs_at f_pairs_at _ := ⟨_, _, _, _, _, _, _, _, _, _, rfl, l_pairs_at, c_pairs_at⟩
    have o_pairs_at := ok_pairs_at (P := l.prog) (w := w) (base := base) F_pairs_at mT d_pairs_within
    have D_pairs_at : L2.FunD K "pairs_at" "pairs_at" (defArgs s_pairs_at) (defBody s_pairs_at) (defScope s_pairs_at) [.int 0, .int 0] [] f_pairs_at _ := ⟨⟨_, _, _, _, _, _, _, _, _, _, rfl, l_pairs_at, c_pairs_at, .inr ⟨List.cons_ne_nil _ _, _, _, [Value.int 0 u0_pairs_at, Value.int 0 u1_pairs_at], _, rfl, t_pairs_at, rfl, .cons ⟨_, rfl⟩ (.cons ⟨_, rfl⟩ (.nil))⟩, .inl rfl⟩, k_pairs_at⟩
    obtain ⟨ds_pairs_at, vs_pairs_at, B_pairs_at⟩ := D_pairs_at.binds1 (ps := p_pairs_at) 4 2 (List.cons_ne_nil _ _) rfl fun T kV doc pm an cdv ct us its h1 h2 => match us, its, h1, h2 with | [_, _, _, _], [_, _], _, _ => ⟨_, rfl, rfl⟩
    have d_pairs_at : Cd l.prog w K mg base 7 "pairs_at" sp_pairs_at [] := ⟨_, _, _, _, o_pairs_at, PySem.W.mg_of X G a_pairs_at, k_pairs_at, B_pairs_at, vs_pairs_at⟩
    have F_joining : FunD K "joining" "joining" s_joining f_joining _ := ⟨_, _, _, _, _, _, _, _, _, _, rfl, l_joining, c_joining⟩
    have o_joining := ok_joining (P := l.prog) (w := w) (base := base) (tR := tR) F_joining mT d_greatest d_pairs_at
    have D_joining : L2.FunD K "joining" "joining" (defArgs s_joining) (defBody s_joining) (defScope s_joining) [.int 0, .int 0] [] f_joining _ := ⟨⟨_, _, _, _, _, _, _, _, _, _, rfl, l_joining, c_joining, .inr ⟨List.cons_ne_nil _ _, _, _, [Value.int 0 u0_joining, Value.int 0 u1_joining], _, rfl, t_joining, rfl, .cons ⟨_, rfl⟩ (.cons ⟨_, rfl⟩ (.nil))⟩, .inl rfl⟩, k_joining⟩
    obtain ⟨ds_joining, vs_joining, B_joining⟩ := D_joining.binds1 (ps := p_joining) 4 2 (List.cons_ne_nil _ _) rfl fun T kV doc pm an cdv ct us its h1 h2 => match us, its, h1, h2 with | [_, _, _, _], [_, _], _, _ => ⟨_, rfl, rfl⟩
    have d_joining : Cd l.prog w K mg base 8 "joining" (sp_joining tR) [] := ⟨_, _, _, _, o_joining, PySem.W.mg_of X G a_joining, k_joining, B_joining, vs_joining⟩
    have F_pairs : FunD K "_law_pairs" "_law_pairs" s_pairs f_pairs _ := ⟨_, _, _, _, _, _, _, _, _, _, rfl, l_pairs, c_pairs⟩
    have o_pairs := ok_pairs (P := l.prog) (w := w) (base := base) (tR := tR) F_pairs mT d_greedy d_joining d_pick
    have B_pairs : Binds K (PySem.W.fnOf "_law_pairs" "_law_pairs" (defArgs s_pairs) (defBody s_pairs) (defScope s_pairs) .none kV_pairs dc_pairs pm_pairs an_pairs cd_pairs ct_pairs) p_pairs [] := .all fun us hl => match us, hl with | [_, _, _, _, _], _ => rfl
    have d_pairs : Cd l.prog w K mg base 9 "_law_pairs" (sp_pairs tR) [] := ⟨_, _, _, _, o_pairs, PySem.W.mg_of X G a_pairs, k_pairs, B_pairs, .nil⟩
    have F_law : FunD K "law" "law" s_law fa _ := ⟨_, _, _, _, _, _, _, _, _, _, rfl, l_law, c_law⟩
    have o_law := ok_law (P := l.prog) (w := w) (base := base) (tR := tR) (tL := tL) F_law mT d_pen d_life d_pairs d_all d_draw d_moved d_turned d_bare_right d_fewer_right
    exact o_law
end DL

open PySem PySem.W PyProof.Rows
set_option maxRecDepth 100000 in
set_option maxHeartbeats 0 in
theorem PySem.Challenge.cw_ringorders_k50_whole_rings_told_otherwis_holds : PySem.Challenge.rw_ringorders_k50_whole_rings_told_otherwis.Holds := by
  w_on; o_law; k_head; (case hw => w_witness2)
  k_fill
  refine LamX.walk_ofTs (l := PySem.Challenge.rw_ringorders_k50_whole_rings_told_otherwis) (n := 63) (k := 10) (x := "_law_script") (CX := fun _ => L2.CX0) rfl (by decide) rfl ⟨rfl, by decide, by decide⟩ (fun w h Y => PySem.W.km_in_of Y) ?F (fun _ _ _ _ _ z => z)
  case F =>
    intro w mg fa h Y KX G hmg
    have tabs := PySem.W.km_tabs_of Y
    refine' DL.all_mk (tR := 164) (tL := 258) KX G hmg ?a_is_whole ?l_is_whole ?c_is_whole ?k_is_whole ?a_dial_of ?l_dial_of ?c_dial_of ?k_dial_of ?a_sent_from ?l_sent_from ?c_sent_from ?k_sent_from ?a_rows_on ?l_rows_on ?c_rows_on ?k_rows_on ?a_need_ring ?l_need_ring ?c_need_ring ?k_need_ring ?a_by_lines ?l_by_lines ?c_by_lines ?k_by_lines ?a_by_bridge ?l_by_bridge ?c_by_bridge ?k_by_bridge ?a_lot ?l_lot ?c_lot ?k_lot ?a_pen ?l_pen ?c_pen ?k_pen ?a_draw ?l_draw ?c_draw ?k_draw ?a_fits ?l_fits ?c_fits ?k_fits ?a_moved ?l_moved ?c_moved ?k_moved ?a_turned ?l_turned ?c_turned ?k_turned ?a_spots ?l_spots ?c_spots ?k_spots ?a_is_from_to ?l_is_from_to ?c_is_from_to ?k_is_from_to ?a_fate ?l_fate ?c_fate ?k_fate ?a_obeyed ?l_obeyed ?c_obeyed ?k_obeyed ?t_obeyed ?a_ranks ?l_ranks ?c_ranks ?k_ranks ?y_ranks ?a_rows_left ?l_rows_left ?c_rows_left ?k_rows_left ?a_is_doubled ?l_is_doubled ?c_is_doubled ?k_is_doubled ?a_is_crossed ?l_is_crossed ?c_is_crossed ?k_is_crossed ?a_pick ?l_pick ?c_pick ?k_pick ?a_ring_of ?l_ring_of ?c_ring_of ?k_ring_of ?a_is_pair ?l_is_pair ?c_is_pair ?k_is_pair ?a_longest ?l_longest ?c_longest ?k_longest ?a_missed ?l_missed ?c_missed ?k_missed ?a_life ?l_life ?c_life ?k_life ?y_life ?a_greedy ?l_greedy ?c_greedy ?k_greedy ?a_span ?l_span ?c_span ?k_span ?t_span ?a_greatest ?l_greatest ?c_greatest ?k_greatest ?t_greatest ?a_strange ?l_strange ?c_strange ?k_strange ?t_strange ?a_bare_right ?l_bare_right ?c_bare_right ?k_bare_right ?a_fewer_right ?l_fewer_right ?c_fewer_right ?k_fewer_right ?a_meets ?l_meets ?c_meets ?k_meets ?a_all ?l_all ?c_all ?k_all ?a_pairs_within ?l_pairs_within ?c_pairs_within ?k_pairs_within ?a_pairs_at ?l_pairs_at ?c_pairs_at ?k_pairs_at ?t_pairs_at ?a_joining ?l_joining ?c_joining ?k_joining ?t_joining ?a_pairs ?l_pairs ?c_pairs ?k_pairs ?a_law ?l_law ?c_law ?k_law ?z_len ?z_isinstance ?z_int ?z_bool ?z_tuple ?z_list ?z_dict ?z_range ?z_enumerate ?z_sorted ?z_max ?z_min ?z_sum ?z_abs ?a_DIALS ?l_DIALS ?v_DIALS_port ?v_DIALS_star ?a_SENT ?l_SENT ?v_SENT_port ?v_SENT_star ?v_SENT_down ?v_SENT_aport ?v_SENT_astar ?v_SENT_up ?a_BESIDE ?l_BESIDE ?v_BESIDE_port ?v_BESIDE_star ?v_BESIDE_aport ?v_BESIDE_astar ?v_BESIDE_down ?v_BESIDE_up ?a_BELLS ?l_BELLS ?q_DIALS ?q_SENT ?q_BESIDE ?nR ?nL ?hR ?hL (tabs 164 (by decide)) (tabs 258 (by decide)) (by decide) ?low
    (case a_is_whole => k_is)
    (case l_is_whole => k_is)
    (case c_is_whole => k_is)
    (case k_is_whole => k_is)
    (case a_dial_of => k_is)
    (case l_dial_of => k_is)
    (case c_dial_of => k_is)
    (case k_dial_of => k_is)
    (case a_sent_from => k_is)
    (case l_sent_from => k_is)
    (case c_sent_from => k_is)
    (case k_sent_from => k_is)
    (case a_rows_on => k_is)
    (case l_rows_on => k_is)
    (case c_rows_on => k_is)
    (case k_rows_on => k_is)
    (case a_need_ring => k_is)
    (case l_need_ring => k_is)
    (case c_need_ring => k_is)
    (case k_need_ring => k_is)
    (case a_by_lines => k_is)
    (case l_by_lines => k_is)
    (case c_by_lines => k_is)
    (case k_by_lines => k_is)
    (case a_by_bridge => k_is)
    (case l_by_bridge => k_is)
    (case c_by_bridge => k_is)
    (case k_by_bridge => k_is)
    (case a_lot => k_is)
    (case l_lot => k_is)
    (case c_lot => k_is)
    (case k_lot => k_is)
    (case a_pen => k_is)
    (case l_pen => k_is)
    (case c_pen => k_is)
    (case k_pen => k_is)
    (case a_draw => k_is)
    (case l_draw => k_is)
    (case c_draw => k_is)
    (case k_draw => k_is)
    (case a_fits => k_is)
    (case l_fits => k_is)
    (case c_fits => k_is)
    (case k_fits => k_is)
    (case a_moved => k_is)
    (case l_moved => k_is)
    (case c_moved => k_is)
    (case k_moved => k_is)
    (case a_turned => k_is)
    (case l_turned => k_is)
    (case c_turned => k_is)
    (case k_turned => k_is)
    (case a_spots => k_is)
    (case l_spots => k_is)
    (case c_spots => k_is)
    (case k_spots => k_is)
    (case a_is_from_to => k_is)
    (case l_is_from_to => k_is)
    (case c_is_from_to => k_is)
    (case k_is_from_to => k_is)
    (case a_fate => k_is)
    (case l_fate => k_is)
    (case c_fate => k_is)
    (case k_fate => k_is)
    (case a_obeyed => k_is)
    (case l_obeyed => k_is)
    (case c_obeyed => k_is)
    (case k_obeyed => k_is)
    (case t_obeyed => k_is)
    (case a_ranks => k_is)
    (case l_ranks => k_is)
    (case c_ranks => k_is)
    (case k_ranks => k_is)
    (case y_ranks => k_is)
    (case a_rows_left => k_is)
    (case l_rows_left => k_is)
    (case c_rows_left => k_is)
    (case k_rows_left => k_is)
    (case a_is_doubled => k_is)
    (case l_is_doubled => k_is)
    (case c_is_doubled => k_is)
    (case k_is_doubled => k_is)
    (case a_is_crossed => k_is)
    (case l_is_crossed => k_is)
    (case c_is_crossed => k_is)
    (case k_is_crossed => k_is)
    (case a_pick => k_is)
    (case l_pick => k_is)
    (case c_pick => k_is)
    (case k_pick => k_is)
    (case a_ring_of => k_is)
    (case l_ring_of => k_is)
    (case c_ring_of => k_is)
    (case k_ring_of => k_is)
    (case a_is_pair => k_is)
    (case l_is_pair => k_is)
    (case c_is_pair => k_is)
    (case k_is_pair => k_is)
    (case a_longest => k_is)
    (case l_longest => k_is)
    (case c_longest => k_is)
    (case k_longest => k_is)
    (case a_missed => k_is)
    (case l_missed => k_is)
    (case c_missed => k_is)
    (case k_missed => k_is)
    (case a_life => k_is)
    (case l_life => k_is)
    (case c_life => k_is)
    (case k_life => k_is)
    (case y_life => k_is)
    (case a_greedy => k_is)
    (case l_greedy => k_is)
    (case c_greedy => k_is)
    (case k_greedy => k_is)
    (case a_span => k_is)
    (case l_span => k_is)
    (case c_span => k_is)
    (case k_span => k_is)
    (case t_span => k_is)
    (case a_greatest => k_is)
    (case l_greatest => k_is)
    (case c_greatest => k_is)
    (case k_greatest => k_is)
    (case t_greatest => k_is)
    (case a_strange => k_is)
    (case l_strange => k_is)
    (case c_strange => k_is)
    (case k_strange => k_is)
    (case t_strange => k_is)
    (case a_bare_right => k_is)
    (case l_bare_right => k_is)
    (case c_bare_right => k_is)
    (case k_bare_right => k_is)
    (case a_fewer_right => k_is)
    (case l_fewer_right => k_is)
    (case c_fewer_right => k_is)
    (case k_fewer_right => k_is)
    (case a_meets => k_is)
    (case l_meets => k_is)
    (case c_meets => k_is)
    (case k_meets => k_is)
    (case a_all => k_is)
    (case l_all => k_is)
    (case c_all => k_is)
    (case k_all => k_is)
    (case a_pairs_within => k_is)
    (case l_pairs_within => k_is)
    (case c_pairs_within => k_is)
    (case k_pairs_within => k_is)
    (case a_pairs_at => k_is)
    (case l_pairs_at => k_is)
    (case c_pairs_at => k_is)
    (case k_pairs_at => k_is)
    (case t_pairs_at => k_is)
    (case a_joining => k_is)
    (case l_joining => k_is)
    (case c_joining => k_is)
    (case k_joining => k_is)
    (case t_joining => k_is)
    (case a_pairs => k_is)
    (case l_pairs => k_is)
    (case c_pairs => k_is)
    (case k_pairs => k_is)
    (case a_law => k_is)
    (case l_law => k_is)
    (case c_law => k_is)
    (case k_law => k_is)
    (case z_len => k_is)
    (case z_isinstance => k_is)
    (case z_int => k_is)
    (case z_bool => k_is)
    (case z_tuple => k_is)
    (case z_list => k_is)
    (case z_dict => k_is)
    (case z_range => k_is)
    (case z_enumerate => k_is)
    (case z_sorted => k_is)
    (case z_max => k_is)
    (case z_min => k_is)
    (case z_sum => k_is)
    (case z_abs => k_is)
    (case a_DIALS => k_is)
    (case l_DIALS => k_is)
    (case v_DIALS_port => k_is)
    (case v_DIALS_star => k_is)
    (case a_SENT => k_is)
    (case l_SENT => k_is)
    (case v_SENT_port => k_is)
    (case v_SENT_star => k_is)
    (case v_SENT_down => k_is)
    (case v_SENT_aport => k_is)
    (case v_SENT_astar => k_is)
    (case v_SENT_up => k_is)
    (case a_BESIDE => k_is)
    (case l_BESIDE => k_is)
    (case v_BESIDE_port => k_is)
    (case v_BESIDE_star => k_is)
    (case v_BESIDE_aport => k_is)
    (case v_BESIDE_astar => k_is)
    (case v_BESIDE_down => k_is)
    (case v_BESIDE_up => k_is)
    (case a_BELLS => k_is)
    (case l_BELLS => k_is)
    (case q_DIALS => repeat' first | exact trivial | refine ⟨⟨_, _, rfl, rfl⟩, ?_⟩)
    (case q_SENT => repeat' first | exact trivial | refine ⟨⟨_, _, rfl, rfl⟩, ?_⟩)
    (case q_BESIDE => repeat' first | exact trivial | refine ⟨⟨_, _, rfl, rfl⟩, ?_⟩)
    (case nR => first | rfl | kernel_rfl)
    (case nL => first | rfl | kernel_rfl)
    (case low => first | rfl | kernel_rfl)
    (case hR => first | rfl | kernel_rfl)
    (case hL => first | rfl | kernel_rfl)
