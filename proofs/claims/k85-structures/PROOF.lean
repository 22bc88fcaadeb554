import PyProof.Rows.All
import Wide.All
import OpenK.AllK
import Wide.FinOn
import HandS.Base
import HandS.Call
import HandS.List
import HandS.Comp
import HandS.Ends
import HandS.Exc
import HandS.Words
import KE.DataEq
import HandS.Gcd
import HandS.Wide
import HandS.TupAny
import HandS.Deep
import HandS.Conv
import HandS.CallSlots
import HandS.WordsExc
import HandS.IsInst
import HandS.Flow
import KE.DataAny
import HandS.Walk
import HandS.Iter
import HandS.Zip
import HandS.ExcOwn
import HandS.TryOnly
import HandS.ExcField
import HandS.ExcIs
import KE.SortData
import HandS.Dict
import HandS.ExcInit
import HandS.ExcSuper
import KE.KExcSuper
import KE.KSuper
import HandS.SetFor
import PySem.Challenge.RW_matroidproved_k85_structures
set_option Elab.async false
set_option linter.all false
set_option maxRecDepth 100000
set_option maxHeartbeats 4000000
/-! D0: a layer over HandS: values as plain data, mutable lists as cells of a store; each construct's plain meaning and its rule. -/
namespace DL
open PySem L2

/-- a local's value: plain data; a mutable list, told by its place in the store; the script -/
inductive SV where
  | d (x : PyData)
  | cell (i : Nat)
  | scr (ns : List Int)
/-- what a cell of the store holds -/
inductive MO where
  | lst (xs : List PyData)
abbrev Store := List MO
structure Exc where
  cls : Str
  fs : List (Str × PyData)
inductive Out (α : Type) where
  | ok (a : α) (S : Store)
  | ex (x : Exc) (S : Store)
  | no
abbrev Ev := List (Option SV)
abbrev Mo (α : Type) := Store → Out α

def Out.bind {α β : Type} : Out α → (α → Store → Out β) → Out β
  | .ok a S, k => k a S
  | .ex x S, _ => .ex x S
  | .no, _ => .no

/-! ### how values are read off the heap -/
mutual
inductive Rp (K : PySem.W.Frag) (F : Hp) : V → PyData → Prop
  | non : Rp K F .non .none
  | bl (b : Bool) : Rp K F (.bl b) (.bool b)
  | int (i : Int) : Rp K F (.int i) (.int i)
  | str (x : Str) : Rp K F (.str x) (.str x)
  | lst {a : Addr} {xs : List V} {ds : List PyData} : F a = some (.lst xs) → ds.length ≤ 16777216 → RpAll K F xs ds → Rp K F (.ref a) (.list ds)
  | tup {a : Addr} {xs : List V} {ds : List PyData} : SqT K F a xs → ds.length ≤ 16777216 → RpAll K F xs ds → Rp K F (.ref a) (.tuple ds)
  | dct {a : Addr} : F a = some (.dK []) → Rp K F (.ref a) (.dict [])
inductive RpAll (K : PySem.W.Frag) (F : Hp) : List V → List PyData → Prop
  | nil : RpAll K F [] []
  | cons {v : V} {vs : List V} {d : PyData} {ds : List PyData} : Rp K F v d → RpAll K F vs ds → RpAll K F (v :: vs) (d :: ds)
end
section
variable {K : PySem.W.Frag} {F F' : Hp}
abbrev Sub (F F' : Hp) : Prop := ∀ b o, F b = some o → F' b = some o
theorem SqT.sub (h : Sub F F') {a : Addr} {xs : List V} (q : SqT K F a xs) : SqT K F' a xs := by
  rcases q with (q | ⟨o, q⟩) | q
  · exact .inl (.inl (h _ _ q))
  · exact .inl (.inr ⟨o, h _ _ q⟩)
  · exact .inr q
theorem SqL.sub (h : Sub F F') {a : Addr} {xs : List V} (q : SqL K F a xs) : SqL K F' a xs := by
  rcases q with (q | ⟨o, q⟩) | q
  · exact .inl (.inl (h _ _ q))
  · exact .inl (.inr ⟨o, h _ _ q⟩)
  · exact .inr q
mutual
theorem Rp.sub (h : Sub F F') : ∀ (d : PyData) (v : V), Rp K F v d → Rp K F' v d
  | .none, _, q => by cases q; exact .non
  | .bool b, _, q => by cases q; exact .bl b
  | .int i, _, q => by cases q; exact .int i
  | .str x, _, q => by cases q; exact .str x
  | .list ds, _, q => by cases q with | lst e z r => exact .lst (h _ _ e) z (RpAll.sub h ds _ r)
  | .tuple ds, _, q => by cases q with | tup e z r => exact .tup (SqT.sub h e) z (RpAll.sub h ds _ r)
  | .dict _, _, q => by cases q with | dct e => exact .dct (h _ _ e)
theorem RpAll.sub (h : Sub F F') : ∀ (ds : List PyData) (vs : List V), RpAll K F vs ds → RpAll K F' vs ds
  | [], _, q => by cases q; exact .nil
  | d :: ds, _, q => by cases q with | cons r t => exact .cons (Rp.sub h d _ r) (RpAll.sub h ds _ t)
end
theorem RpAll.len : ∀ {vs : List V} {ds : List PyData}, RpAll K F vs ds → vs.length = ds.length
  | _, _, .nil => rfl
  | _, _, .cons _ t => by rw [List.length_cons, List.length_cons, RpAll.len t]
theorem RpAll.get : ∀ {vs : List V} {ds : List PyData} {i : Nat} {d : PyData}, RpAll K F vs ds → ds[i]? = some d → ∃ v, vs[i]? = some v ∧ Rp K F v d
  | _, _, _, _, .nil, e => by simp at e
  | _, _, 0, _, .cons r _, e => by simp at e; subst e; exact ⟨_, rfl, r⟩
  | _, _, i + 1, _, .cons _ t, e => by
    obtain ⟨v, h1, h2⟩ := RpAll.get (i := i) t (by simpa using e)
    exact ⟨v, by simpa using h1, h2⟩
theorem RpAll.getV : ∀ {vs : List V} {ds : List PyData} {i : Nat} {v : V}, RpAll K F vs ds → vs[i]? = some v → ∃ d, ds[i]? = some d ∧ Rp K F v d
  | _, _, _, _, .nil, e => by simp at e
  | _, _, 0, _, .cons r _, e => by simp at e; subst e; exact ⟨_, rfl, r⟩
  | _, _, i + 1, _, .cons _ t, e => by
    obtain ⟨v, h1, h2⟩ := RpAll.getV (i := i) t (by simpa using e)
    exact ⟨v, by simpa using h1, h2⟩
theorem RpAll.append : ∀ {vs ws : List V} {ds es : List PyData}, RpAll K F vs ds → RpAll K F ws es → RpAll K F (vs ++ ws) (ds ++ es)
  | _, _, _, _, .nil, q => q
  | _, _, _, _, .cons r t, q => .cons r (RpAll.append t q)
theorem RpAll.set {v : V} {d : PyData} (r : Rp K F v d) : ∀ {vs : List V} {ds : List PyData} (i : Nat), RpAll K F vs ds → RpAll K F (vs.set i v) (ds.set i d)
  | _, _, _, .nil => .nil
  | _, _, 0, .cons _ t => .cons r t
  | _, _, i + 1, .cons q t => .cons q (RpAll.set r i t)
theorem RpAll.take : ∀ {vs : List V} {ds : List PyData} (n : Nat), RpAll K F vs ds → RpAll K F (vs.take n) (ds.take n)
  | _, _, 0, _ => .nil
  | _, _, _ + 1, .nil => .nil
  | _, _, n + 1, .cons r t => .cons r (RpAll.take n t)
theorem RpAll.drop : ∀ {vs : List V} {ds : List PyData} (n : Nat), RpAll K F vs ds → RpAll K F (vs.drop n) (ds.drop n)
  | _, _, 0, r => r
  | _, _, _ + 1, .nil => .nil
  | _, _, n + 1, .cons _ t => RpAll.drop n t
theorem RpAll.eraseIdx : ∀ {vs : List V} {ds : List PyData} (n : Nat), RpAll K F vs ds → RpAll K F (vs.eraseIdx n) (ds.eraseIdx n)
  | _, _, _, .nil => .nil
  | _, _, 0, .cons _ t => t
  | _, _, n + 1, .cons r t => .cons r (RpAll.eraseIdx n t)
theorem RpAll.ints : ∀ {vs : List V} {ns : List Int}, RpAll K F vs (ns.map .int) → vs = ns.map V.int
  | _, [], .nil => rfl
  | _, n :: ns, .cons r t => by cases r; rw [RpAll.ints t]; rfl
theorem RpAll.of_ints : ∀ ns : List Int, RpAll K F (ns.map V.int) (ns.map .int)
  | [] => .nil
  | n :: ns => .cons (.int n) (RpAll.of_ints ns)
mutual
theorem Rp.dp {H : Hp} (h : Sub F H) : ∀ (d : PyData) (v : V), PyData.plain d = true → Rp K F v d → Dp K H v d
  | .none, _, _, q => by cases q; exact .non
  | .bool b, _, _, q => by cases q; exact .bl b
  | .int i, _, _, q => by cases q; exact .int i
  | .str x, _, _, q => by cases q; exact .str x
  | .list ds, _, n, q => by cases q with | lst e z r => exact .lst (SqL.of (h _ _ e)) (RpAll.dp h ds _ (by rwa [PyData.plain] at n) r)
  | .tuple ds, _, n, q => by cases q with | tup e z r => exact .tup (SqT.sub h e) (RpAll.dp h ds _ (by rwa [PyData.plain] at n) r)
  | .dict _, _, n, q => by simp [PyData.plain] at n
theorem RpAll.dp {H : Hp} (h : Sub F H) : ∀ (ds : List PyData) (vs : List V), PyData.plainAll ds = true → RpAll K F vs ds → DpAll K H vs ds
  | [], _, _, q => by cases q; exact .nil
  | d :: ds, _, n, q => by
    rw [PyData.plainAll, Bool.and_eq_true] at n
    cases q with | cons r t => exact .cons (Rp.dp h d _ n.1 r) (RpAll.dp h ds _ n.2 t)
end
end

/-- the ghost: where the store's cells stand; what is frozen -/
structure Gh where
  B : List Addr
  F : Hp
/-- what the layer knows of the module -/
structure Mi where
  K : PySem.W.Frag
  cn : Str → Option Addr
def RepS (K : PySem.W.Frag) (g : Gh) (v : V) : SV → Prop
  | .d x => Rp K g.F v x
  | .cell i => ∃ a, g.B[i]? = some a ∧ v = .ref a
  | .scr ns => ∃ a, v = .ref a ∧ SqL K g.F a (ns.map V.int)
inductive RepA (K : PySem.W.Frag) (g : Gh) : List V → List SV → Prop
  | nil : RepA K g [] []
  | cons {v : V} {vs : List V} {x : SV} {xs : List SV} : RepS K g v x → RepA K g vs xs → RepA K g (v :: vs) (x :: xs)
theorem RepA.len {K : PySem.W.Frag} {g : Gh} : ∀ {vs : List V} {xs : List SV}, RepA K g vs xs → vs.length = xs.length
  | _, _, .nil => rfl
  | _, _, .cons _ t => by rw [List.length_cons, List.length_cons, RepA.len t]
def RepM (K : PySem.W.Frag) (F : Hp) (o : Option HO) : MO → Prop
  | .lst ds => ds.length ≤ 16777216 ∧ ∃ vs, o = some (.lst vs) ∧ RpAll K F vs ds
structure Rel (K : PySem.W.Frag) (g : Gh) (H : Hp) (S : Store) : Prop where
  sub : Sub g.F H
  nd : g.B.Nodup
  dis : ∀ a ∈ g.B, g.F a = none
  len : g.B.length = S.length
  at_ : ∀ (i : Nat) (a : Addr) (m : MO), g.B[i]? = some a → S[i]? = some m → RepM K g.F (H a) m
structure Vars (K : PySem.W.Frag) (g : Gh) (σ : St) (Γ : Ev) : Prop where
  len : σ.length = Γ.length
  at_ : ∀ (i : Nat) (x : SV), Γ[i]? = some (some x) → ∃ v, σ[i]? = some (some v) ∧ RepS K g v x
structure Grow (g : Gh) (H : Hp) (g' : Gh) (H' : Hp) : Prop where
  pre : ∃ C, g'.B = g.B ++ C
  sub : Sub g.F g'.F
  frm : ∀ b o, H b = some o → b ∉ g.B → H' b = some o
  newB : ∀ b ∈ g'.B, b ∈ g.B ∨ H b = none
  newF : ∀ b o, g'.F b = some o → g.F b = some o ∨ H b = none
section
variable {K : PySem.W.Frag} {g g1 g2 g' : Gh} {H H1 H2 H' : Hp} {S S1 : Store} {σ : St} {Γ : Ev}
theorem Grow.refl (g : Gh) (H : Hp) : Grow g H g H := ⟨⟨[], by simp⟩, fun _ _ h => h, fun _ _ h _ => h, fun _ h => .inl h, fun _ _ h => .inl h⟩
theorem Rel.there (r : Rel K g H S) {a : Addr} (h : a ∈ g.B) : ∃ o, H a = some o := by
  obtain ⟨i, hi, e⟩ := List.getElem_of_mem h
  have e1 : g.B[i]? = some a := by rw [List.getElem?_eq_getElem hi, e]
  have hS : i < S.length := by rw [← r.len]; exact hi
  have q := r.at_ i a S[i] e1 (List.getElem?_eq_getElem hS)
  cases hm : S[i] with
  | lst ds =>
    rw [hm] at q
    obtain ⟨_, vs, e, _⟩ := q
    exact ⟨_, e⟩
theorem Grow.trans (r1 : Rel K g1 H1 S1) (a : Grow g H g1 H1) (b : Grow g1 H1 g2 H2) : Grow g H g2 H2 := by
  have back : ∀ c, H1 c = none → H c = none ∨ c ∈ g.B := fun c e => by
    by_cases hc : c ∈ g.B
    · exact .inr hc
    · cases q : H c with
      | none => exact .inl rfl
      | some o =>
        rw [a.frm c o q hc] at e
        cases e
  have inB : ∀ c, c ∈ g.B → c ∈ g1.B := fun c hc => by
    obtain ⟨C, e⟩ := a.pre
    rw [e]; exact List.mem_append_left _ hc
  have fresh : ∀ c, H1 c = none → H c = none := fun c e => by
    rcases back c e with h | h
    · exact h
    · obtain ⟨o, q⟩ := r1.there (inB c h)
      rw [q] at e; cases e
  refine ⟨?_, fun c o h => b.sub _ _ (a.sub _ _ h), fun c o h hc => ?_, fun c hc => ?_, fun c o h => ?_⟩
  · obtain ⟨C, e⟩ := a.pre
    obtain ⟨C', e'⟩ := b.pre
    exact ⟨C ++ C', by rw [e', e, List.append_assoc]⟩
  · have h1 := a.frm c o h hc
    refine b.frm c o h1 fun q => ?_
    rcases a.newB c q with z | z
    · exact hc z
    · rw [h] at z; cases z
  · rcases b.newB c hc with z | z
    · exact a.newB c z
    · exact .inr (fresh c z)
  · rcases b.newF c o h with z | z
    · exact a.newF c o z
    · exact .inr (fresh c z)
theorem Grow.rep (a : Grow g H g' H') {v : V} {x : SV} (h : RepS K g v x) : RepS K g' v x := by
  cases x with
  | d x => exact Rp.sub a.sub _ _ h
  | cell i =>
    obtain ⟨c, e, rfl⟩ := h
    obtain ⟨C, q⟩ := a.pre
    exact ⟨c, by rw [q, List.getElem?_append_left (List.getElem?_eq_some_iff.mp e).1]; exact e, rfl⟩
  | scr ns =>
    obtain ⟨c, rfl, q⟩ := h
    exact ⟨c, rfl, SqL.sub a.sub q⟩
theorem Grow.repA (a : Grow g H g' H') : ∀ {vs : List V} {xs : List SV}, RepA K g vs xs → RepA K g' vs xs
  | _, _, .nil => .nil
  | _, _, .cons r t => .cons (a.rep r) (Grow.repA a t)
theorem Grow.vars (a : Grow g H g' H') (h : Vars K g σ Γ) : Vars K g' σ Γ := ⟨h.len, fun i x e => let ⟨v, q, r⟩ := h.at_ i x e; ⟨v, q, a.rep r⟩⟩
theorem Vars.set (h : Vars K g σ Γ) {v : V} {x : SV} (r : RepS K g v x) (i : Nat) : Vars K g (σ.set i (some v)) (Γ.set i (some x)) := by
  refine ⟨by rw [List.length_set, List.length_set, h.len], fun j y e => ?_⟩
  by_cases hj : i = j
  · subst hj
    have hl : i < Γ.length := by
      have := (List.getElem?_eq_some_iff.mp e).1
      rwa [List.length_set] at this
    rw [List.getElem?_set_self hl] at e
    cases e
    exact ⟨v, List.getElem?_set_self (by rw [h.len]; exact hl), r⟩
  · rw [List.getElem?_set_ne hj] at e
    obtain ⟨w, q, z⟩ := h.at_ j y e
    exact ⟨w, by rw [List.getElem?_set_ne hj]; exact q, z⟩
def wipeE (Γ : Ev) : List Nat → Ev
  | [] => Γ
  | v :: vs => (wipeE Γ vs).set v none
theorem Vars.setN (h : Vars K g σ Γ) (i : Nat) : Vars K g (σ.set i none) (Γ.set i none) := by
  refine ⟨by rw [List.length_set, List.length_set, h.len], fun j y e => ?_⟩
  by_cases hj : i = j
  · subst hj
    have hl : i < Γ.length := by
      have := (List.getElem?_eq_some_iff.mp e).1
      rwa [List.length_set] at this
    rw [List.getElem?_set_self hl] at e
    cases e
  · rw [List.getElem?_set_ne hj] at e
    obtain ⟨w, q, z⟩ := h.at_ j y e
    exact ⟨w, by rw [List.getElem?_set_ne hj]; exact q, z⟩
theorem Vars.wipe (h : Vars K g σ Γ) : ∀ vs : List Nat, Vars K g (wipe σ vs) (wipeE Γ vs)
  | [] => h
  | v :: vs => (Vars.wipe h vs).setN v
/-- a new frozen object -/
theorem Rel.free (r : Rel K g H S) {p : Addr} (hp : H p = none) : g.F p = none ∧ p ∉ g.B := by
  constructor
  · cases q : g.F p with
    | none => rfl
    | some o => rw [r.sub _ _ q] at hp; cases hp
  · intro h
    obtain ⟨o, e⟩ := r.there h
    rw [e] at hp; cases hp
def Gh.frz (g : Gh) (p : Addr) (o : HO) : Gh := ⟨g.B, upd g.F p o⟩
theorem sub_upd {F : Hp} {p : Addr} {o : HO} (h : F p = none) : Sub F (upd F p o) := fun b u e => by
  rw [upd_ne (ne_of_none e h)]; exact e
theorem RepM.sub {F F' : Hp} (h : Sub F F') {o : Option HO} {m : MO} (r : RepM K F o m) : RepM K F' o m := by
  cases m with
  | lst ds =>
    obtain ⟨z, vs, e, q⟩ := r
    exact ⟨z, vs, e, RpAll.sub h _ _ q⟩
theorem Rel.frz (r : Rel K g H S) {p : Addr} (hp : H p = none) (o : HO) : Rel K (g.frz p o) (upd H p o) S ∧ Grow g H (g.frz p o) (upd H p o) := by
  obtain ⟨hF, hB⟩ := r.free hp
  have ne : ∀ b ∈ g.B, b ≠ p := fun b hb e => hB (e ▸ hb)
  refine ⟨⟨fun b u e => ?_, r.nd, fun b hb => ?_, r.len, fun i a m e1 e2 => ?_⟩, ⟨⟨[], by simp [Gh.frz]⟩, sub_upd hF, fun b u e _ => ?_, fun b hb => .inl hb, fun b u e => ?_⟩⟩
  · by_cases hb : b = p
    · subst hb
      have e' : upd g.F b o b = some u := e
      rw [upd_same] at e' ⊢; exact e'
    · have e' : upd g.F p o b = some u := e
      rw [upd_ne hb] at e' ⊢; exact r.sub _ _ e'
  · show upd g.F p o b = none
    rw [upd_ne (ne b hb)]; exact r.dis b hb
  · have q := r.at_ i a m e1 e2
    rw [upd_ne (ne a (List.mem_of_getElem? e1))]
    exact q.sub (sub_upd hF)
  · rw [upd_ne (ne_of_none e hp)]; exact e
  · have e' : upd g.F p o b = some u := e
    by_cases hb : b = p
    · subst hb; exact .inr hp
    · rw [upd_ne hb] at e'; exact .inl e'
/-- a new cell -/
def Gh.cel (g : Gh) (p : Addr) : Gh := ⟨g.B ++ [p], g.F⟩
theorem Rel.cel (r : Rel K g H S) {p : Addr} (hp : H p = none) {vs : List V} {ds : List PyData} (hz : ds.length ≤ 16777216) (q : RpAll K g.F vs ds) : Rel K (g.cel p) (upd H p (.lst vs)) (S ++ [.lst ds]) ∧ Grow g H (g.cel p) (upd H p (.lst vs)) ∧ RepS K (g.cel p) (.ref p) (.cell S.length) := by
  obtain ⟨hF, hB⟩ := r.free hp
  have ne : ∀ b ∈ g.B, b ≠ p := fun b hb e => hB (e ▸ hb)
  refine ⟨⟨fun b u e => ?_, ?_, fun b hb => ?_, ?_, fun i a m e1 e2 => ?_⟩, ⟨⟨[p], rfl⟩, fun _ _ h => h, fun b u e _ => ?_, fun b hb => ?_, fun b u e => .inl e⟩, ⟨p, ?_, rfl⟩⟩
  · have e' : g.F b = some u := e
    have nb : b ≠ p := fun z => by rw [z, hF] at e'; cases e'
    rw [upd_ne nb]; exact r.sub _ _ e'
  · show (g.B ++ [p]).Nodup
    rw [List.nodup_append]
    exact ⟨r.nd, by simp, fun a ha b hb => by simp at hb; subst hb; exact ne a ha⟩
  · rcases List.mem_append.mp hb with h | h
    · exact r.dis b h
    · simp at h; subst h; exact hF
  · show (g.B ++ [p]).length = _
    rw [List.length_append, List.length_append, r.len]; rfl
  · have e1' : (g.B ++ [p])[i]? = some a := e1
    by_cases hi : i < g.B.length
    · rw [List.getElem?_append_left hi] at e1'
      rw [List.getElem?_append_left (by rw [← r.len]; exact hi)] at e2
      rw [upd_ne (ne a (List.mem_of_getElem? e1'))]
      exact r.at_ i a m e1' e2
    · have hl := (List.getElem?_eq_some_iff.mp e1').1
      rw [List.length_append, List.length_singleton] at hl
      have ei : i = g.B.length := by omega
      subst ei
      rw [List.getElem?_append_right (Nat.le_refl _), Nat.sub_self] at e1'
      rw [r.len, List.getElem?_append_right (Nat.le_refl _), Nat.sub_self] at e2
      cases e1'
      cases e2
      exact ⟨hz, vs, upd_same, q⟩
  · rw [upd_ne (ne_of_none e hp)]; exact e
  · rcases List.mem_append.mp hb with h | h
    · exact .inl h
    · simp at h; subst h; exact .inr hp
  · show (g.B ++ [p])[S.length]? = some p
    rw [← r.len, List.getElem?_append_right (Nat.le_refl _), Nat.sub_self]; rfl
/-- a cell is written -/
theorem Rel.put (r : Rel K g H S) {i : Nat} {a : Addr} (ha : g.B[i]? = some a) {vs : List V} {ds : List PyData} (hz : ds.length ≤ 16777216) (q : RpAll K g.F vs ds) : Rel K g (upd H a (.lst vs)) (S.set i (.lst ds)) ∧ Grow g H g (upd H a (.lst vs)) := by
  have am : a ∈ g.B := List.mem_of_getElem? ha
  have hF := r.dis a am
  refine ⟨⟨fun b u e => ?_, r.nd, r.dis, by rw [List.length_set]; exact r.len, fun j b m e1 e2 => ?_⟩, ⟨⟨[], by simp⟩, fun _ _ h => h, fun b u e hb => ?_, fun b hb => .inl hb, fun b u e => .inl e⟩⟩
  · have nb : b ≠ a := fun z => by rw [z, hF] at e; cases e
    rw [upd_ne nb]; exact r.sub _ _ e
  · by_cases hj : i = j
    · subst hj
      rw [ha] at e1; cases e1
      have hl := (List.getElem?_eq_some_iff.mp ha).1
      rw [List.getElem?_set_self (by rw [← r.len]; exact hl)] at e2
      cases e2
      exact ⟨hz, vs, upd_same, q⟩
    · rw [List.getElem?_set_ne hj] at e2
      have nb : b ≠ a := fun z => by
        subst z
        obtain ⟨h1, e1'⟩ := List.getElem?_eq_some_iff.mp ha
        obtain ⟨h2, e2'⟩ := List.getElem?_eq_some_iff.mp e1
        exact hj ((List.getElem_inj r.nd).mp (e1'.trans e2'.symm))
      rw [upd_ne nb]
      exact r.at_ j b m e1 e2
  · have nb : b ≠ a := fun z => hb (z ▸ am)
    rw [upd_ne nb]; exact e
end
end DL
/-! D1: readings by plain meaning; expressions, tests, arguments. -/
namespace DL
open PySem L2

def RepX (F : Hp) (K : PySem.W.Frag) (fs : List (Str × PyData)) (d : Option Addr) : Prop :=
  (fs = [] ∧ d = none) ∨ fs ≠ [] ∧ ∃ dx vs, d = some dx ∧ F dx = some (.xd vs) ∧ Paired (fun (p : Str × V) (q : Str × PyData) => p.1 = q.1 ∧ Rp K F p.2 q.2) vs fs
def XRep (M : Mi) (F : Hp) (x : Exc) (cls : Value) (d : Option Addr) : Prop := ∃ C, M.cn x.cls = some C ∧ cls = .ref C ∧ RepX F M.K x.fs d

/-- what an outcome promises -/
def Post {α β : Type} (M : Mi) (W : WX) (σ : St) (R : Gh → β → α → Prop) (Q : β → Hp → Prop) (g : Gh) (H : Hp) : Out α → Prop
  | .ok a S' => ∀ u g' H', Grow g H g' H' → Rel M.K g' H' S' → R g' u a → Q u H'
  | .ex x S' => ∀ cls d g' H', Grow g H g' H' → Rel M.K g' H' S' → XRep M g'.F x cls d → W cls d σ H'
  | .no => False
section
variable {α β γ δ : Type} {M : Mi} {W : WX} {σ : St} {R : Gh → β → α → Prop} {R2 : Gh → δ → γ → Prop} {Q Q' : β → Hp → Prop} {g g1 : Gh} {H H1 : Hp} {S S1 : Store}
theorem Post.grow {o : Out α} (r : Rel M.K g1 H1 S1) (a : Grow g H g1 H1) (h : Post M W σ R Q g H o) : Post M W σ R Q g1 H1 o := by
  cases o with
  | ok v S' => exact fun u g' H' b r' q => h u g' H' (a.trans r b) r' q
  | ex x S' => exact fun cls d g' H' b r' q => h cls d g' H' (a.trans r b) r' q
  | no => exact h
theorem Post.imp {o : Out α} (hQ : ∀ u H, Q u H → Q' u H) (h : Post M W σ R Q g H o) : Post M W σ R Q' g H o := by
  cases o with
  | ok v S' => exact fun u g' H' b r' q => hQ _ _ (h u g' H' b r' q)
  | ex x S' => exact h
  | no => exact h
theorem Post.now {a : α} {u : β} (h : Post M W σ R Q g H (.ok a S)) (r : Rel M.K g H S) (q : R g u a) : Q u H := h u g H (Grow.refl _ _) r q
/-- one outcome, then another -/
theorem Post.bind {o : Out α} {k : α → Store → Out γ} {Q2 : δ → Hp → Prop} (h : Post M W σ R2 Q2 g H (o.bind k)) :
    Post M W σ R (fun u H1 => ∃ g1 S1 a, Grow g H g1 H1 ∧ Rel M.K g1 H1 S1 ∧ R g1 u a ∧ Post M W σ R2 Q2 g1 H1 (k a S1)) g H o := by
  cases o with
  | ok a S' =>
    intro u g1 H1 gr r q
    exact ⟨g1, S', a, gr, r, q, Post.grow r gr h⟩
  | ex x S' => exact h
  | no => exact h
end

abbrev EF := Ev → Store → Out SV
abbrev TF := Ev → Store → Out Bool
abbrev AF := Ev → Store → Out (List SV)
def rS (M : Mi) : Gh → V → SV → Prop := fun g v x => RepS M.K g v x
def rB : Gh → Bool → Bool → Prop := fun _ b c => b = c
def rA (M : Mi) : Gh → List V → List SV → Prop := fun g v x => RepA M.K g v x
def tG {α β : Type} (M : Mi) (W : WX) (R : Gh → β → α → Prop) (f : Ev → Store → Out α) : St → Hp → (β → Hp → Prop) → Prop := fun σ H Q =>
  ∃ g Γ S, Rel M.K g H S ∧ Vars M.K g σ Γ ∧ Post M W σ R Q g H (f Γ S)
abbrev tE (M : Mi) (W : WX) (f : EF) : TE := tG M W (rS M) f
abbrev tT (M : Mi) (W : WX) (f : TF) : TT := tG M W rB f
abbrev tA (M : Mi) (W : WX) (f : AF) : TA := tG M W (rA M) f
abbrev DE (X : Cx) (M : Mi) (W : WX) (e : Expr) (f : EF) : Prop := PE X e (tE M W f)
abbrev DT (X : Cx) (M : Mi) (W : WX) (e : Expr) (f : TF) : Prop := PT X e (tT M W f)
abbrev DA (X : Cx) (M : Mi) (W : WX) (es : List Expr) (f : AF) : Prop := PA X es (tA M W f)

theorem _root_.L2.PE.weak {X : Cx} {e : Expr} {t t' : TE} (h : PE X e t) (k : ∀ σ H Q, t' σ H Q → t σ H Q) : PE X e t' := ⟨fun pins s σ H Q I z => h.run pins s σ H Q I (k _ _ _ z)⟩
theorem _root_.L2.PT.weak {X : Cx} {e : Expr} {t t' : TT} (h : PT X e t) (k : ∀ σ H Q, t' σ H Q → t σ H Q) : PT X e t' := ⟨fun pins s σ H Q I z => h.run pins s σ H Q I (k _ _ _ z)⟩
theorem _root_.L2.PW.weak {X : Cx} {e : Expr} {t t' : TT} (h : PW X e t) (k : ∀ σ H Q, t' σ H Q → t σ H Q) : PW X e t' := ⟨fun wh pins s σ H Q I z => h.run wh pins s σ H Q I (k _ _ _ z)⟩
theorem _root_.L2.PA.weak {X : Cx} {e : List Expr} {t t' : TA} (h : PA X e t) (k : ∀ σ H Q, t' σ H Q → t σ H Q) : PA X e t' := ⟨fun pos pins s σ H Q I z => h.run pos pins s σ H Q I (k _ _ _ z)⟩
theorem _root_.L2.PS.weak {X : Cx} {e : Stmt} {t t' : TS} (h : PS X e t) (k : ∀ D σ H, t' D σ H → t D σ H) : PS X e t' := ⟨fun pins s σ H D I z => h.run pins s σ H D I (k _ _ _ z)⟩
theorem _root_.L2.PSs.weak {X : Cx} {e : List Stmt} {t t' : TS} (h : PSs X e t) (k : ∀ D σ H, t' D σ H → t D σ H) : PSs X e t' := ⟨fun pins s σ H D I z => h.run pins s σ H D I (k _ _ _ z)⟩

section
variable {α β γ δ : Type} {M : Mi} {W : WX} {R : Gh → β → α → Prop} {R2 : Gh → δ → γ → Prop} {σ : St} {H : Hp}
/-- the first part of a compound: what is left for the rest -/
theorem step {f : Ev → Store → Out α} {k : α → Store → Out γ} {Q2 : δ → Hp → Prop} {Q : β → Hp → Prop} {g : Gh} {Γ : Ev} {S : Store} (r : Rel M.K g H S) (v : Vars M.K g σ Γ) (p : Post M W σ R2 Q2 g H ((f Γ S).bind k))
    (kk : ∀ u H1 g1 S1 a, Grow g H g1 H1 → Rel M.K g1 H1 S1 → Vars M.K g1 σ Γ → R g1 u a → Post M W σ R2 Q2 g1 H1 (k a S1) → Q u H1) : tG M W R f σ H Q := by
  refine ⟨g, Γ, S, r, v, Post.imp (fun u H1 q => ?_) (Post.bind p)⟩
  obtain ⟨g1, S1, a, gr, r1, q1, p1⟩ := q
  exact kk u H1 g1 S1 a gr r1 (gr.vars v) q1 p1
theorem tG.of {f : Ev → Store → Out α} {Q : β → Hp → Prop} {g : Gh} {Γ : Ev} {S : Store} (r : Rel M.K g H S) (v : Vars M.K g σ Γ) (p : Post M W σ R Q g H (f Γ S)) : tG M W R f σ H Q := ⟨g, Γ, S, r, v, p⟩
end

/-! ### names, constants -/
section
variable {X : Cx} {M : Mi} {W : WX} {pos : Pos}
def eVar (i : Nat) : EF := fun Γ S => match Γ[i]? with
  | some (some x) => .ok x S
  | _ => .no
def eC (x : PyData) : EF := fun _ S => .ok (.d x) S
theorem dv (i : Nat) {x : Str} (h : PE X (.Name x pos) (tVar i)) : DE X M W (.Name x pos) (eVar i) := h.weak fun σ H Q ⟨g, Γ, S, r, v, p⟩ => by
  unfold eVar at p
  split at p
  · rename_i x e
    obtain ⟨u, q, rp⟩ := v.at_ i x e
    exact ⟨u, q, p.now r rp⟩
  · exact p.elim
theorem d_int {i : Int} {j : Nat} : DE X M W (.Constant (.int i) j pos) (eC (.int i)) := pe_int.weak fun σ H Q ⟨g, Γ, S, r, v, p⟩ => Post.now p r (.int i)
theorem d_bl {b : Bool} {j : Nat} : DE X M W (.Constant (.bool b) j pos) (eC (.bool b)) := pe_bl.weak fun σ H Q ⟨g, Γ, S, r, v, p⟩ => Post.now p r (.bl b)
theorem d_non {j : Nat} : DE X M W (.Constant .none j pos) (eC .none) := pe_non.weak fun σ H Q ⟨g, Γ, S, r, v, p⟩ => Post.now p r .non
theorem d_str {x : Str} {j : Nat} : DE X M W (.Constant (.str x) j pos) (eC (.str x)) := pe_str.weak fun σ H Q ⟨g, Γ, S, r, v, p⟩ => Post.now p r (.str x)
/-- a constant of the module, as data -/
theorem d_glob {x : Str} {v : V} {u : Value} {d : PyData} (hg : Gl X x) (hm : X.mg x = some u) (r : RelV v u) (hd : ∀ F, Rp M.K F v d) (hdb : (x == ("__debug__" : Str)) = false := by decide) : DE X M W (.Name x pos) (eC d) :=
  (pe_glob hg hm r hdb).weak fun σ H Q ⟨g, Γ, S, r, w, p⟩ => Post.now p r (hd _)

/-! ### a list just made: frozen, or a cell -/
def Fin (M : Mi) (fin : List PyData → Store → Out SV) : Prop := ∀ (W : WX) (σ : St) (Q : VK) (g0 : Gh) (H0 : Hp) (g : Gh) (H : Hp) (S : Store) (p : Addr) (vs : List V) (ds : List PyData),
  Rel M.K g H S → Grow g0 H0 g H → H0 p = none → H p = some (.lst vs) → g.F p = none → p ∉ g.B → ds.length ≤ 16777216 → RpAll M.K g.F vs ds → Post M W σ (rS M) Q g0 H0 (fin ds S) → Q (.ref p) H
def finF : List PyData → Store → Out SV := fun ds S => .ok (.d (.list ds)) S
def finC : List PyData → Store → Out SV := fun ds S => .ok (.cell S.length) (S ++ [.lst ds])
theorem fin_f : Fin M finF := by
  intro W σ Q g0 H0 g H S p vs ds r gr hn hp hF hB hz q post
  have ne : ∀ b ∈ g.B, b ≠ p := fun b hb e => hB (e ▸ hb)
  refine post (.ref p) (g.frz p (.lst vs)) H ⟨gr.pre, fun b o e => sub_upd hF b o (gr.sub b o e), gr.frm, gr.newB, fun b u e => ?_⟩ ⟨fun b u e => ?_, r.nd, fun b hb => ?_, r.len, fun i a m e1 e2 => (r.at_ i a m e1 e2).sub (sub_upd hF)⟩ ?_
  · have e' : upd g.F p (.lst vs) b = some u := e
    by_cases hb : b = p
    · subst hb; exact .inr hn
    · rw [upd_ne hb] at e'; exact gr.newF _ _ e'
  · have e' : upd g.F p (.lst vs) b = some u := e
    by_cases hb : b = p
    · subst hb; rw [upd_same] at e'; cases e'; exact hp
    · rw [upd_ne hb] at e'; exact r.sub _ _ e'
  · show upd g.F p _ b = none
    rw [upd_ne (ne b hb)]; exact r.dis b hb
  · exact Rp.lst upd_same hz (RpAll.sub (sub_upd hF) _ _ q)
theorem fin_c : Fin M finC := by
  intro W σ Q g0 H0 g H S p vs ds r gr hn hp hF hB hz q post
  have ne : ∀ b ∈ g.B, b ≠ p := fun b hb e => hB (e ▸ hb)
  refine post (.ref p) (g.cel p) H ⟨?_, gr.sub, gr.frm, fun b hb => ?_, gr.newF⟩ ⟨r.sub, ?_, fun b hb => ?_, ?_, fun i a m e1 e2 => ?_⟩ ⟨p, ?_, rfl⟩
  · obtain ⟨C, e⟩ := gr.pre
    exact ⟨C ++ [p], by show g.B ++ [p] = _; rw [e, List.append_assoc]⟩
  · rcases List.mem_append.mp hb with h | h
    · exact gr.newB b h
    · simp at h; subst h; exact .inr hn
  · show (g.B ++ [p]).Nodup
    rw [List.nodup_append]
    exact ⟨r.nd, by simp, fun a ha b hb => by simp at hb; subst hb; exact ne a ha⟩
  · rcases List.mem_append.mp hb with h | h
    · exact r.dis b h
    · simp at h; subst h; exact hF
  · show (g.B ++ [p]).length = _
    rw [List.length_append, List.length_append, r.len]; rfl
  · have e1' : (g.B ++ [p])[i]? = some a := e1
    by_cases hi : i < g.B.length
    · rw [List.getElem?_append_left hi] at e1'
      rw [List.getElem?_append_left (by rw [← r.len]; exact hi)] at e2
      exact r.at_ i a m e1' e2
    · have hl := (List.getElem?_eq_some_iff.mp e1').1
      rw [List.length_append, List.length_singleton] at hl
      have ei : i = g.B.length := by omega
      subst ei
      rw [List.getElem?_append_right (Nat.le_refl _), Nat.sub_self] at e1'
      rw [r.len, List.getElem?_append_right (Nat.le_refl _), Nat.sub_self] at e2
      cases e1'
      cases e2
      exact ⟨hz, vs, hp, q⟩
  · show (g.B ++ [p])[S.length]? = some p
    rw [← r.len, List.getElem?_append_right (Nat.le_refl _), Nat.sub_self]; rfl
/-- .. where it is laid at the last step -/
theorem Fin.lay {fin : List PyData → Store → Out SV} (f : Fin M fin) {σ : St} {Q : VK} {g : Gh} {H : Hp} {S : Store} {vs : List V} {ds : List PyData} (r : Rel M.K g H S) (hz : ds.length ≤ 16777216) (q : RpAll M.K g.F vs ds) (post : Post M W σ (rS M) Q g H (fin ds S)) :
    ∀ p, H p = none → Q (.ref p) (upd H p (.lst vs)) := fun p hp => by
  obtain ⟨hF, hB⟩ := r.free hp
  have ne : ∀ b ∈ g.B, b ≠ p := fun b hb e => hB (e ▸ hb)
  refine f W σ Q g H g (upd H p (.lst vs)) S p vs ds ⟨fun b u e => ?_, r.nd, r.dis, r.len, fun i a m e1 e2 => ?_⟩ ⟨⟨[], by simp⟩, fun _ _ h => h, fun b u e _ => ?_, fun b hb => .inl hb, fun b u e => .inl e⟩ hp upd_same hF hB hz q post
  · have nb : b ≠ p := fun z => by rw [z, hF] at e; cases e
    rw [upd_ne nb]; exact r.sub _ _ e
  · rw [upd_ne (ne a (List.mem_of_getElem? e1))]; exact r.at_ i a m e1 e2
  · rw [upd_ne (ne_of_none e hp)]; exact e
/-- a new tuple -/
theorem lay_tup {σ : St} {Q : VK} {g : Gh} {H : Hp} {S : Store} {vs : List V} {ds : List PyData} (r : Rel M.K g H S) (hz : ds.length ≤ 16777216) (q : RpAll M.K g.F vs ds) (post : Post M W σ (rS M) Q g H (.ok (.d (.tuple ds)) S)) :
    ∀ p, H p = none → Q (.ref p) (upd H p (.tup vs)) := fun p hp => by
  obtain ⟨r', gr⟩ := r.frz hp (.tup vs)
  obtain ⟨hF, _⟩ := r.free hp
  exact post _ _ _ gr r' (Rp.tup (.inl (.inl upd_same)) hz (RpAll.sub (sub_upd hF) _ _ q))

/-! ### operators by values -/
def eBin (op : SV → SV → Store → Out SV) (fa fb : EF) : EF := fun Γ S => (fa Γ S).bind fun v S => (fb Γ S).bind fun w S => op v w S
def eUn (op : SV → Store → Out SV) (fa : EF) : EF := fun Γ S => (fa Γ S).bind fun v S => op v S
/-- a plain meaning of two values for a rule of the layer below -/
def Sat2 (M : Mi) (r : R2) (op : SV → SV → Store → Out SV) : Prop := ∀ (W : WX) (σ : St) (Q : VK) (g : Gh) (H : Hp) (S : Store) (x y : V) (v w : SV),
  Rel M.K g H S → RepS M.K g x v → RepS M.K g y w → Post M W σ (rS M) Q g H (op v w S) → r x y H Q
def Sat1 (M : Mi) (r : V → Hp → VK → Prop) (op : SV → Store → Out SV) : Prop := ∀ (W : WX) (σ : St) (Q : VK) (g : Gh) (H : Hp) (S : Store) (x : V) (v : SV),
  Rel M.K g H S → RepS M.K g x v → Post M W σ (rS M) Q g H (op v S) → r x H Q
variable {a b : Expr} {fa fb : EF}
theorem tOp_of {r : R2} {op : SV → SV → Store → Out SV} (hs : Sat2 M r op) {σ : St} {H : Hp} {Q : VK} (h : tE M W (eBin op fa fb) σ H Q) : tOp r (tE M W fa) (tE M W fb) σ H Q := by
  obtain ⟨g, Γ, S, r0, v0, p⟩ := h
  exact step r0 v0 p fun u H1 g1 S1 v gr r1 v1 q1 p1 => step r1 v1 p1 fun u2 H2 g2 S2 w gr2 r2 v2 q2 p2 => hs _ _ _ _ _ _ _ _ _ _ r2 (gr2.rep q1) q2 p2
theorem tUn_of {r : V → Hp → VK → Prop} {op : SV → Store → Out SV} (hs : Sat1 M r op) {σ : St} {H : Hp} {Q : VK} (h : tE M W (eUn op fa) σ H Q) : tUn r (tE M W fa) σ H Q := by
  obtain ⟨g, Γ, S, r0, v0, p⟩ := h
  exact step r0 v0 p fun u H1 g1 S1 v gr r1 v1 q1 p1 => hs _ _ _ _ _ _ _ _ r1 q1 p1
theorem d_op {o : Operator} {r : R2} {op : SV → SV → Store → Out SV} (ho : OpR X (binaryOp o) r) (hs : Sat2 M r op) (ha : DE X M W a fa) (hb : DE X M W b fb) : DE X M W (.BinOp a o b pos) (eBin op fa fb) :=
  (pe_op ho ha hb).weak fun _ _ _ h => tOp_of hs h
theorem d_un {o : UnaryOp} {r : V → Hp → VK → Prop} {op : SV → Store → Out SV} (ho : UnR X (unaryOp o) r) (hs : Sat1 M r op) (ha : DE X M W a fa) : DE X M W (.UnaryOp o a pos) (eUn op fa) :=
  (pe_un ho ha).weak fun _ _ _ h => tUn_of hs h
theorem d_cmp {o : CmpOp} {r : R2} {op : SV → SV → Store → Out SV} (ho : OpR X (compareOp o) r) (hs : Sat2 M r op) (ha : DE X M W a fa) (hb : DE X M W b fb) (hm : behindInMarks o b = false) : DE X M W (.Compare a [o] [b] pos) (eBin op fa fb) :=
  (pe_cmpR ho ha hb hm).weak fun _ _ _ h => tOp_of hs h
/-- .. as a test -/
def tst (f : EF) : TF := fun Γ S => (f Γ S).bind fun v S => match v with
  | .d (.bool b) => .ok b S
  | _ => .no
theorem tst_of {t : TE} {f : EF} (hs : ∀ σ H Q, tE M W f σ H Q → t σ H Q) {σ : St} {H : Hp} {Q : Bool → Hp → Prop} (h : tT M W (tst f) σ H Q) : tTest t σ H Q := by
  obtain ⟨g, Γ, S, r0, v0, p⟩ := h
  refine hs _ _ _ (step r0 v0 p fun u H1 g1 S1 v gr r1 v1 q1 p1 => ?_)
  split at p1
  · cases q1
    exact ⟨_, rfl, p1.now r1 rfl⟩
  · exact p1.elim
theorem t_cmp {o : CmpOp} {r : R2} {op : SV → SV → Store → Out SV} (ho : OpR X (compareOp o) r) (hs : Sat2 M r op) (ha : DE X M W a fa) (hb : DE X M W b fb) (hm : behindInMarks o b = false) : DT X M W (.Compare a [o] [b] pos) (tst (eBin op fa fb)) :=
  (pt_cmpR ho ha hb hm).weak fun _ _ _ h => tst_of (fun _ _ _ h => tOp_of hs h) h
/-- an expression that gives a bool, as a test -/
theorem t_val (h : DE X M W a fa) (he : ∀ whole, isTrue a X.env whole = (do let v ← whole; standAt a.pos; holding [v] (truthy v)) := by intro _; rfl) : DT X M W a (tst fa) :=
  (pt_val h he).weak fun _ _ _ h => by
    obtain ⟨g, Γ, S, r0, v0, p⟩ := h
    refine (step r0 v0 p fun u H1 g1 S1 v gr r1 v1 q1 p1 => ?_)
    split at p1
    · cases q1
      exact ⟨_, rfl, p1.now r1 rfl⟩
    · exact p1.elim

/-! ### the meanings: ints -/
def iOp (C : Int → Int → Bool) (f : Int → Int → Int) : SV → SV → Store → Out SV := fun v w S => match v, w with
  | .d (.int i), .d (.int j) => if C i j then .ok (.d (.int (f i j))) S else .no
  | _, _ => .no
def iOp0 (f : Int → Int → Int) : SV → SV → Store → Out SV := fun v w S => match v, w with
  | .d (.int i), .d (.int j) => .ok (.d (.int (f i j))) S
  | _, _ => .no
def iCmp (f : Int → Int → Bool) : SV → SV → Store → Out SV := fun v w S => match v, w with
  | .d (.int i), .d (.int j) => .ok (.d (.bool (f i j))) S
  | _, _ => .no
theorem sat_i {C : Int → Int → Bool} {f : Int → Int → Int} {C' : Int → Int → Prop} (hC : ∀ i j, C i j = true → C' i j) : Sat2 M (rI C' fun i j => .int (f i j)) (iOp C f) := by
  intro W σ Q g H S x y v w r q1 q2 p
  unfold iOp at p
  split at p
  · cases q1; cases q2
    split at p
    · rename_i hc
      exact ⟨_, _, rfl, rfl, hC _ _ hc, p.now r (.int _)⟩
    · exact p.elim
  · exact p.elim
theorem sat_i0 {f : Int → Int → Int} : Sat2 M (rI0 fun i j => .int (f i j)) (iOp0 f) := by
  intro W σ Q g H S x y v w r q1 q2 p
  unfold iOp0 at p
  split at p
  · cases q1; cases q2
    exact ⟨_, _, rfl, rfl, p.now r (.int _)⟩
  · exact p.elim
theorem sat_c {f : Int → Int → Bool} : Sat2 M (rI0 fun i j => .bl (f i j)) (iCmp f) := by
  intro W σ Q g H S x y v w r q1 q2 p
  unfold iCmp at p
  split at p
  · cases q1; cases q2
    exact ⟨_, _, rfl, rfl, p.now r (.bl _)⟩
  · exact p.elim
theorem Sat2.or {r r' : R2} {op : SV → SV → Store → Out SV} (h : ∀ (W : WX) (σ : St) (Q : VK) (g : Gh) (H : Hp) (S : Store) (x y : V) (v w : SV), Rel M.K g H S → RepS M.K g x v → RepS M.K g y w → Post M W σ (rS M) Q g H (op v w S) → r x y H Q ∨ r' x y H Q) : Sat2 M (fun x y H Q => r x y H Q ∨ r' x y H Q) op := h
end
end DL
/-! D2: operators, comparisons, subscripts, built-ins: plain meanings and rules. -/
namespace DL
open PySem L2

/-- the data that a value is now -/
def asD (v : SV) (S : Store) : Option PyData := match v with
  | .d x => some x
  | .cell i => match S[i]? with
    | some (.lst xs) => some (.list xs)
    | _ => none
  | .scr _ => none
section
variable {K : PySem.W.Frag} {g : Gh} {H : Hp} {S : Store} {x : V} {v : SV}
theorem asD_list (r : Rel K g H S) (q : RepS K g x v) {ds : List PyData} (e : asD v S = some (.list ds)) : ∃ a vs, x = .ref a ∧ H a = some (.lst vs) ∧ RpAll K g.F vs ds ∧ ds.length ≤ 16777216 := by
  cases v with
  | d y =>
    cases e
    cases q with
    | lst h z t => exact ⟨_, _, rfl, r.sub _ _ h, t, z⟩
  | cell i =>
    unfold asD at e
    simp only at e
    split at e
    · rename_i xs hs
      cases e
      obtain ⟨a, ha, rfl⟩ := q
      obtain ⟨z, vs, h1, h2⟩ := r.at_ i a _ ha hs
      exact ⟨a, vs, rfl, h1, h2, z⟩
    · cases e
  | scr ns => cases e
theorem asD_other (q : RepS K g x v) {d : PyData} (e : asD v S = some d) (h : ∀ ds, d ≠ .list ds) : Rp K g.F x d := by
  cases v with
  | d y => cases e; exact q
  | cell i =>
    unfold asD at e
    simp only at e
    split at e
    · cases e; exact absurd rfl (h _)
    · cases e
  | scr ns => cases e
theorem asD_dp (r : Rel K g H S) (q : RepS K g x v) {d : PyData} (e : asD v S = some d) (n : PyData.plain d = true) : Dp K H x d := by
  cases d with
  | list ds =>
    obtain ⟨a, vs, rfl, h1, h2, _⟩ := asD_list r q e
    exact .lst (SqL.of h1) (RpAll.dp r.sub _ _ (by rwa [PyData.plain] at n) h2)
  | _ => exact Rp.dp r.sub _ _ n (asD_other q e (fun _ z => nomatch z))
theorem shp_n {d : PyData} (h : SeqAt.shaped d = true) : PyData.plain d = true := PyData.plain_of_canLay0 d (SeqAt.canLay_of_shaped h)
theorem asD_tup (q : RepS K g x v) {ds : List PyData} (e : asD v S = some (.tuple ds)) : ∃ a vs, x = .ref a ∧ SqT K g.F a vs ∧ RpAll K g.F vs ds ∧ Rp K g.F x (.tuple ds) ∧ ds.length ≤ 16777216 := by
  have p := asD_other q e (fun _ z => nomatch z)
  cases p with
  | tup h z t => exact ⟨_, _, rfl, h, t, .tup h z t, z⟩
end

section
variable {X : Cx} {M : Mi}
/-! ### + - * // % ** << >> & | ^ -/
def addS (fin : List PyData → Store → Out SV) : SV → SV → Store → Out SV := fun v w S => match asD v S, asD w S with
  | some (.int i), some (.int j) => .ok (.d (.int (i + j))) S
  | some (.list xs), some (.list ys) => if xs.length + ys.length ≤ 16777216 then fin (xs ++ ys) S else .no
  | some (.tuple xs), some (.tuple ys) => if xs.length + ys.length ≤ 16777216 then .ok (.d (.tuple (xs ++ ys))) S else .no
  | some (.str a), some (.str b) => if a.length + b.length ≤ 16777216 then .ok (.d (.str (a ++ b))) S else .no
  | _, _ => .no
theorem sat_add {fin : List PyData → Store → Out SV} (hf : Fin M fin) : Sat2 M (fun x y H Q => (rI0 fun i j => .int (i + j)) x y H Q ∨ rCat x y H Q ∨ rCatA M.K x y H Q ∨ ∃ i j, x = .str i ∧ y = .str j ∧ i.length + j.length ≤ sizeLine ∧ Q (.str (i ++ j)) H) (addS fin) := by
  intro W σ Q g H S x y v w r q1 q2 p
  unfold addS at p
  split at p
  · rename_i i j e1 e2
    have a1 := asD_other q1 e1 (fun _ z => nomatch z)
    have a2 := asD_other q2 e2 (fun _ z => nomatch z)
    cases a1; cases a2
    exact .inl ⟨_, _, rfl, rfl, p.now r (.int _)⟩
  · rename_i xs ys e1 e2
    split at p
    · rename_i hz
      obtain ⟨a, vs, rfl, h1, t1, z1⟩ := asD_list r q1 e1
      obtain ⟨b, ws, rfl, h2, t2, z2⟩ := asD_list r q2 e2
      exact .inr (.inl ⟨a, b, vs, ws, rfl, rfl, h1, h2, by rw [t1.len, t2.len]; exact hz, hf.lay r (by rw [List.length_append]; exact hz) (t1.append t2) p⟩)
    · exact p.elim
  · rename_i xs ys e1 e2
    split at p
    · rename_i hz
      obtain ⟨a, vs, rfl, h1, t1, p1, z1⟩ := asD_tup q1 e1
      obtain ⟨b, ws, rfl, h2, t2, p2, z2⟩ := asD_tup q2 e2
      refine .inr (.inr (.inl ⟨a, b, vs, ws, rfl, rfl, SqT.sub r.sub h1, SqT.sub r.sub h2, by rw [t1.len, t2.len]; exact hz, fun e => ?_, fun _ e => ?_, fun _ _ => lay_tup r (by rw [List.length_append]; exact hz) (t1.append t2) p⟩))
      · subst e
        cases t1
        exact p.now r p2
      · subst e
        cases t2
        rw [List.append_nil] at p
        exact p.now r p1
    · exact p.elim
  · rename_i a b e1 e2
    split at p
    · rename_i hz
      have a1 := asD_other q1 e1 (fun _ z => nomatch z)
      have a2 := asD_other q2 e2 (fun _ z => nomatch z)
      cases a1; cases a2
      exact .inr (.inr (.inr ⟨_, _, rfl, rfl, hz, p.now r (.str _)⟩))
    · exact p.elim
  · exact p.elim
theorem op_addD (hK : X.K = M.K) : OpR X (binaryOp .Add) (fun x y H Q => (rI0 fun i j => .int (i + j)) x y H Q ∨ rCat x y H Q ∨ rCatA M.K x y H Q ∨ ∃ i j, x = .str i ∧ y = .str j ∧ i.length + j.length ≤ sizeLine ∧ Q (.str (i ++ j)) H) := by
  rw [← hK]
  exact op_add.or (op_cat.or (op_catA.or op_add_str))
def mulC (i j : Int) : Bool := decide ((-(2 ^ 64) < i ∧ i < 2 ^ 64) ∨ (-(2 ^ 64) < j ∧ j < 2 ^ 64)) || decide (i.natAbs.log2 + j.natAbs.log2 < 1000000)
/-- int * int, list * int -/
def mulS (fin : List PyData → Store → Out SV) : SV → SV → Store → Out SV := fun v w S => match asD v S, asD w S with
  | some (.int i), some (.int j) => if mulC i j then .ok (.d (.int (i * j))) S else .no
  | some (.list xs), some (.int k) => if -(2 ^ 63) ≤ k ∧ k < 2 ^ 63 ∧ xs.length * k.toNat ≤ 16777216 then fin (List.replicate k.toNat xs).flatten S else .no
  | _, _ => .no
theorem RpAll.rep {K : PySem.W.Frag} {F : Hp} {vs : List V} {ds : List PyData} (h : RpAll K F vs ds) : ∀ k : Nat, RpAll K F (List.replicate k vs).flatten (List.replicate k ds).flatten
  | 0 => .nil
  | k + 1 => by
    rw [List.replicate_succ, List.replicate_succ, List.flatten_cons, List.flatten_cons]
    exact h.append (RpAll.rep h k)
theorem sat_mul {fin : List PyData → Store → Out SV} (hf : Fin M fin) : Sat2 M (fun x y H Q => (rI CMul fun i j => .int (i * j)) x y H Q ∨ (rI CMulW fun i j => .int (i * j)) x y H Q ∨ rRep x y H Q) (mulS fin) := by
  intro W σ Q g H S x y v w r q1 q2 p
  unfold mulS at p
  split at p
  · rename_i i j e1 e2
    have a1 := asD_other q1 e1 (fun _ z => nomatch z)
    have a2 := asD_other q2 e2 (fun _ z => nomatch z)
    cases a1; cases a2
    split at p
    · rename_i hc
      unfold mulC at hc
      rw [Bool.or_eq_true, decide_eq_true_eq, decide_eq_true_eq] at hc
      rcases hc with h | h
      · exact .inl ⟨_, _, rfl, rfl, h, p.now r (.int _)⟩
      · exact .inr (.inl ⟨_, _, rfl, rfl, h, p.now r (.int _)⟩)
    · exact p.elim
  · rename_i xs k e1 e2
    have a2 := asD_other q2 e2 (fun _ z => nomatch z)
    cases a2
    split at p
    · rename_i hz
      obtain ⟨a, vs, rfl, h1, t1, z1⟩ := asD_list r q1 e1
      exact .inr (.inr ⟨a, k, vs, rfl, rfl, h1, hz.1, hz.2.1, by rw [t1.len]; exact hz.2.2, hf.lay r (by rw [PyProof.Rows.lm_len_rep_flat, Nat.mul_comm]; exact hz.2.2) (t1.rep k.toNat) p⟩)
    · exact p.elim
  · exact p.elim
theorem op_mulD : OpR X (binaryOp .Mult) (fun x y H Q => (rI CMul fun i j => .int (i * j)) x y H Q ∨ (rI CMulW fun i j => .int (i * j)) x y H Q ∨ rRep x y H Q) := op_mul.or (op_mulW.or op_rep)
def divC (i j : Int) : Bool := decide (j ≠ 0 ∧ j.natAbs < 1073741824) || decide (0 < j ∧ j.natAbs.log2 < 9000)
theorem sat_div : Sat2 M (fun x y H Q => (rI CDivN fun i j => .int (i.fdiv j)) x y H Q ∨ (rI CDivW fun i j => .int (i / j)) x y H Q) (iOp divC Int.fdiv) := by
  intro W σ Q g H S x y v w r q1 q2 p
  unfold iOp at p
  split at p
  · cases q1; cases q2
    split at p
    · rename_i hc
      unfold divC at hc
      rw [Bool.or_eq_true, decide_eq_true_eq, decide_eq_true_eq] at hc
      rcases hc with h | h
      · exact .inl ⟨_, _, rfl, rfl, h, p.now r (.int _)⟩
      · rw [Int.fdiv_eq_ediv_of_nonneg _ (Int.le_of_lt h.1)] at p
        exact .inr ⟨_, _, rfl, rfl, h, p.now r (.int _)⟩
    · exact p.elim
  · exact p.elim
theorem op_divD : OpR X (binaryOp .FloorDiv) (fun x y H Q => (rI CDivN fun i j => .int (i.fdiv j)) x y H Q ∨ (rI CDivW fun i j => .int (i / j)) x y H Q) := op_fdivN.or op_fdivW
def modC (_ j : Int) : Bool := decide (j ≠ 0)
def powC (i j : Int) : Bool := decide (0 ≤ j ∧ j ≤ 1000000 ∧ i.natAbs < 2 ^ 64)
def shrC (_ j : Int) : Bool := decide (0 ≤ j)
variable {W : WX} {a b : Expr} {fa fb : EF} {pos : Pos}
def eAddF (fin : List PyData → Store → Out SV) (fa fb : EF) : EF := eBin (addS fin) fa fb
def eSub (fa fb : EF) : EF := eBin (iOp0 fun i j => i - j) fa fb
def eMulF (fin : List PyData → Store → Out SV) (fa fb : EF) : EF := eBin (mulS fin) fa fb
def eDiv (fa fb : EF) : EF := eBin (iOp divC Int.fdiv) fa fb
def eMod (fa fb : EF) : EF := eBin (iOp modC Int.fmod) fa fb
def ePow (fa fb : EF) : EF := eBin (iOp powC fun i j => i ^ j.toNat) fa fb
def eShl (fa fb : EF) : EF := eBin (iOp powC fun i j => i * 2 ^ j.toNat) fa fb
def eShr (fa fb : EF) : EF := eBin (iOp shrC fun i j => i / 2 ^ j.toNat) fa fb
def eAnd (fa fb : EF) : EF := eBin (iOp0 Builtin.bitAnd) fa fb
def eOr (fa fb : EF) : EF := eBin (iOp0 Builtin.bitOr) fa fb
def eXor (fa fb : EF) : EF := eBin (iOp0 Builtin.bitXor) fa fb
def negS : SV → Store → Out SV := fun v S => match v with
  | .d (.int i) => .ok (.d (.int (-i))) S
  | _ => .no
def eNeg (fa : EF) : EF := eUn negS fa
theorem d_add (hK : X.K = M.K) {fin : List PyData → Store → Out SV} (hf : Fin M fin) (ha : DE X M W a fa) (hb : DE X M W b fb) : DE X M W (.BinOp a .Add b pos) (eAddF fin fa fb) := d_op (op_addD hK) (sat_add hf) ha hb
theorem d_sub (ha : DE X M W a fa) (hb : DE X M W b fb) : DE X M W (.BinOp a .Sub b pos) (eSub fa fb) := d_op op_sub sat_i0 ha hb
theorem d_mul {fin : List PyData → Store → Out SV} (hf : Fin M fin) (ha : DE X M W a fa) (hb : DE X M W b fb) : DE X M W (.BinOp a .Mult b pos) (eMulF fin fa fb) := d_op op_mulD (sat_mul hf) ha hb
theorem d_div (ha : DE X M W a fa) (hb : DE X M W b fb) : DE X M W (.BinOp a .FloorDiv b pos) (eDiv fa fb) := d_op op_divD sat_div ha hb
theorem d_mod (ha : DE X M W a fa) (hb : DE X M W b fb) : DE X M W (.BinOp a .Mod b pos) (eMod fa fb) := d_op op_modN (sat_i fun _ _ h => of_decide_eq_true h) ha hb
theorem d_pow (ha : DE X M W a fa) (hb : DE X M W b fb) : DE X M W (.BinOp a .Pow b pos) (ePow fa fb) := d_op op_pow (sat_i fun i j h => of_decide_eq_true (p := 0 ≤ j ∧ j ≤ 1000000 ∧ i.natAbs < 2 ^ 64) h) ha hb
theorem d_shl (ha : DE X M W a fa) (hb : DE X M W b fb) : DE X M W (.BinOp a .LShift b pos) (eShl fa fb) := d_op op_shl (sat_i fun i j h => of_decide_eq_true (p := 0 ≤ j ∧ j ≤ 1000000 ∧ i.natAbs < 2 ^ 64) h) ha hb
theorem d_shr (ha : DE X M W a fa) (hb : DE X M W b fb) : DE X M W (.BinOp a .RShift b pos) (eShr fa fb) := d_op op_shr (sat_i fun _ _ h => of_decide_eq_true h) ha hb
theorem d_and (ha : DE X M W a fa) (hb : DE X M W b fb) : DE X M W (.BinOp a .BitAnd b pos) (eAnd fa fb) := d_op op_and sat_i0 ha hb
theorem d_or (ha : DE X M W a fa) (hb : DE X M W b fb) : DE X M W (.BinOp a .BitOr b pos) (eOr fa fb) := d_op op_or sat_i0 ha hb
theorem d_xor (ha : DE X M W a fa) (hb : DE X M W b fb) : DE X M W (.BinOp a .BitXor b pos) (eXor fa fb) := d_op op_xor sat_i0 ha hb
theorem d_neg (ha : DE X M W a fa) : DE X M W (.UnaryOp .USub a pos) (eNeg fa) := d_un un_neg (fun W σ Q g H S x v r q p => by
  unfold negS at p
  split at p
  · cases q
    exact ⟨_, rfl, p.now r (.int _)⟩
  · exact p.elim) ha

/-! ### comparisons -/
def eqS (neg : Bool) : SV → SV → Store → Out SV := fun v w S => match asD v S, asD w S with
  | some d, some e => if SeqAt.shaped d && SeqAt.shaped e then .ok (.d (.bool (if neg then !PyData.eqv d e else PyData.eqv d e))) S else .no
  | _, _ => .no
theorem sat_eq : Sat2 M (rEqD M.K) (eqS false) := by
  intro W σ Q g H S x y v w r q1 q2 p
  unfold eqS at p
  split at p
  · rename_i d e e1 e2
    split at p
    · rename_i hc
      rw [Bool.and_eq_true] at hc
      exact ⟨d, e, asD_dp r q1 e1 (shp_n hc.1), asD_dp r q2 e2 (shp_n hc.2), hc.1, hc.2, p.now r (.bl _)⟩
    · exact p.elim
  · exact p.elim
theorem sat_ne : Sat2 M (rNeD M.K) (eqS true) := by
  intro W σ Q g H S x y v w r q1 q2 p
  unfold eqS at p
  split at p
  · rename_i d e e1 e2
    split at p
    · rename_i hc
      rw [Bool.and_eq_true] at hc
      exact ⟨d, e, asD_dp r q1 e1 (shp_n hc.1), asD_dp r q2 e2 (shp_n hc.2), hc.1, hc.2, p.now r (.bl _)⟩
    · exact p.elim
  · exact p.elim
def rInT (K : PySem.W.Frag) (neg : Bool) : R2 := fun x y H Q => ∃ d ds, Dp K H x d ∧ Dp K H y (.tuple ds) ∧ SeqAt.shaped d = true ∧ SeqAt.shaped (.tuple ds) = true ∧ Q (.bl (if neg then !(ds.any fun z => PyData.eqv z d) else ds.any fun z => PyData.eqv z d)) H
theorem room_in {A : Around} {d : PyData} {ds : List PyData} (sd : SeqAt.shaped d = true) (hu : A.units + 65 < cLine) : A.units + 1 + min (PyData.depthAll ds) d.depth < cLine := by
  have := SeqAt.depth_of_shaped sd
  omega
theorem op_inT (hu : X.A.units + 65 < cLine) : OpR X (compareOp .In) (rInT X.K false) := by
  intro pins s σ H x y v u Q I rx ry h
  obtain ⟨d, ds, hd, he, sd, se, q⟩ := h
  obtain ⟨as, r1⟩ := Dp.reads I d x v hd rx
  obtain ⟨bs, r2⟩ := Dp.reads I (.tuple ds) y u he ry
  exact SeqAt.in_tuple_reads r2 r1 (SeqAt.canLay_of_shaped se) (SeqAt.canLay_of_shaped sd) (room_in sd hu) ⟨.bl _, H, I, rfl, q⟩
theorem op_notInT (hu : X.A.units + 65 < cLine) : OpR X (compareOp .NotIn) (rInT X.K true) := by
  intro pins s σ H x y v u Q I rx ry h
  obtain ⟨d, ds, hd, he, sd, se, q⟩ := h
  obtain ⟨as, r1⟩ := Dp.reads I d x v hd rx
  obtain ⟨bs, r2⟩ := Dp.reads I (.tuple ds) y u he ry
  exact SeqAt.notIn_tuple_reads r2 r1 (SeqAt.canLay_of_shaped se) (SeqAt.canLay_of_shaped sd) (room_in sd hu) ⟨.bl _, H, I, rfl, q⟩
def hasD (ds : List PyData) (d : PyData) : Bool := ds.any fun z => PyData.eqv z d
def inS (neg : Bool) : SV → SV → Store → Out SV := fun v w S => match asD v S, asD w S with
  | some d, some (.list ds) => if SeqAt.shaped d && SeqAt.shaped (.list ds) then .ok (.d (.bool (if neg then !hasD ds d else hasD ds d))) S else .no
  | some d, some (.tuple ds) => if SeqAt.shaped d && SeqAt.shaped (.tuple ds) then .ok (.d (.bool (if neg then !hasD ds d else hasD ds d))) S else .no
  | _, _ => .no
theorem sat_in : Sat2 M (fun x y H Q => rInD M.K x y H Q ∨ rInT M.K false x y H Q) (inS false) := by
  intro W σ Q g H S x y v w r q1 q2 p
  unfold inS at p
  split at p
  · rename_i d ds e1 e2
    split at p
    · rename_i hc
      rw [Bool.and_eq_true] at hc
      exact .inl ⟨d, ds, asD_dp r q1 e1 (shp_n hc.1), asD_dp r q2 e2 (shp_n hc.2), hc.1, hc.2, p.now r (.bl _)⟩
    · exact p.elim
  · rename_i d ds e1 e2
    split at p
    · rename_i hc
      rw [Bool.and_eq_true] at hc
      exact .inr ⟨d, ds, asD_dp r q1 e1 (shp_n hc.1), asD_dp r q2 e2 (shp_n hc.2), hc.1, hc.2, p.now r (.bl _)⟩
    · exact p.elim
  · exact p.elim
theorem sat_notIn : Sat2 M (fun x y H Q => rNotInD M.K x y H Q ∨ rInT M.K true x y H Q) (inS true) := by
  intro W σ Q g H S x y v w r q1 q2 p
  unfold inS at p
  split at p
  · rename_i d ds e1 e2
    split at p
    · rename_i hc
      rw [Bool.and_eq_true] at hc
      exact .inl ⟨d, ds, asD_dp r q1 e1 (shp_n hc.1), asD_dp r q2 e2 (shp_n hc.2), hc.1, hc.2, p.now r (.bl _)⟩
    · exact p.elim
  · rename_i d ds e1 e2
    split at p
    · rename_i hc
      rw [Bool.and_eq_true] at hc
      exact .inr ⟨d, ds, asD_dp r q1 e1 (shp_n hc.1), asD_dp r q2 e2 (shp_n hc.2), hc.1, hc.2, p.now r (.bl _)⟩
    · exact p.elim
  · exact p.elim
def isNS (neg : Bool) : SV → SV → Store → Out SV := fun v w S => match v, w with
  | .d .none, .d .none => .ok (.d (.bool (!neg))) S
  | .d _, .d .none => .ok (.d (.bool neg)) S
  | .cell _, .d .none => .ok (.d (.bool neg)) S
  | _, _ => .no
theorem sat_isN : Sat2 M (fun x y H Q => y = .non ∧ Q (.bl (decide (x = .non))) H) (isNS false) := by
  intro W σ Q g H S x y v w r q1 q2 p
  unfold isNS at p
  split at p
  · cases q1; cases q2; exact ⟨rfl, p.now r (.bl _)⟩
  · rename_i d hne
    cases q2
    refine ⟨rfl, ?_⟩
    have : decide (x = .non) = false := decide_eq_false fun e => by subst e; cases q1; exact hne rfl
    rw [this]
    exact p.now r (.bl _)
  · rename_i i
    cases q2
    obtain ⟨a, _, rfl⟩ := q1
    exact ⟨rfl, p.now r (.bl _)⟩
  · exact p.elim
theorem sat_notN : Sat2 M (fun x y H Q => y = .non ∧ Q (.bl (!decide (x = .non))) H) (isNS true) := by
  intro W σ Q g H S x y v w r q1 q2 p
  unfold isNS at p
  split at p
  · cases q1; cases q2; exact ⟨rfl, p.now r (.bl _)⟩
  · rename_i d hne
    cases q2
    refine ⟨rfl, ?_⟩
    have : decide (x = .non) = false := decide_eq_false fun e => by subst e; cases q1; exact hne rfl
    rw [this]
    exact p.now r (.bl _)
  · rename_i i
    cases q2
    obtain ⟨a, _, rfl⟩ := q1
    exact ⟨rfl, p.now r (.bl _)⟩
  · exact p.elim
/-- a comparison's rule and its meaning -/
structure CmpD (X : Cx) (M : Mi) (o : CmpOp) (op : SV → SV → Store → Out SV) : Prop where
  ok : ∃ r, OpR X (compareOp o) r ∧ Sat2 M r op
theorem c_lt : CmpD X M .Lt (iCmp fun i j => decide (i < j)) := ⟨_, op_lt, sat_c⟩
theorem c_le : CmpD X M .LtE (iCmp fun i j => decide (i ≤ j)) := ⟨_, op_le, sat_c⟩
theorem c_gt : CmpD X M .Gt (iCmp fun i j => decide (j < i)) := ⟨_, op_gt, sat_c⟩
theorem c_ge : CmpD X M .GtE (iCmp fun i j => decide (j ≤ i)) := ⟨_, op_ge, sat_c⟩
theorem c_eq (hK : X.K = M.K) (hu : X.A.units + 64 < cLine) : CmpD X M .Eq (eqS false) := ⟨_, op_eqD hu, by rw [hK]; exact sat_eq⟩
theorem c_ne (hK : X.K = M.K) (hu : X.A.units + 64 < cLine) : CmpD X M .NotEq (eqS true) := ⟨_, op_neD hu, by rw [hK]; exact sat_ne⟩
theorem c_in (hK : X.K = M.K) (hu : X.A.units + 65 < cLine) : CmpD X M .In (inS false) := ⟨_, (op_inD hu).or (op_inT hu), by rw [hK]; exact sat_in⟩
theorem c_notIn (hK : X.K = M.K) (hu : X.A.units + 65 < cLine) : CmpD X M .NotIn (inS true) := ⟨_, (op_notInD hu).or (op_notInT hu), by rw [hK]; exact sat_notIn⟩
theorem c_is : CmpD X M .Is (isNS false) := ⟨_, op_isN, sat_isN⟩
theorem c_isNot : CmpD X M .IsNot (isNS true) := ⟨_, op_notN, sat_notN⟩
theorem d_c {o : CmpOp} {op : SV → SV → Store → Out SV} (hc : CmpD X M o op) (ha : DE X M W a fa) (hb : DE X M W b fb) (hm : behindInMarks o b = false := by rfl) : DE X M W (.Compare a [o] [b] pos) (eBin op fa fb) := by
  obtain ⟨r, h1, h2⟩ := hc.ok
  exact d_cmp h1 h2 ha hb hm
theorem t_c {o : CmpOp} {op : SV → SV → Store → Out SV} (hc : CmpD X M o op) (ha : DE X M W a fa) (hb : DE X M W b fb) (hm : behindInMarks o b = false := by rfl) : DT X M W (.Compare a [o] [b] pos) (tst (eBin op fa fb)) := by
  obtain ⟨r, h1, h2⟩ := hc.ok
  exact t_cmp h1 h2 ha hb hm
end
end DL
/-! D3: tests, and, or, not, conditional expressions, chains, subscripts, displays, arguments, calls. -/
namespace DL
open PySem L2
section
variable {X : Cx} {M : Mi} {W : WX} {a b c : Expr} {fa fb fc : EF} {ta tb : TF} {pos : Pos} {rest : List Expr}

/-! ### truth -/
def truD : PyData → Option Bool
  | .none => some false
  | .bool b => some b
  | .int i => some (i != 0)
  | .str x => if x.length ≤ 16777216 then some ((x.length : Int) != 0) else none
  | .list xs => some (!xs.isEmpty)
  | .tuple xs => some (!xs.isEmpty)
  | .dict _ => none
def truS (v : SV) (S : Store) : Option Bool := (asD v S).bind truD
theorem RpAll.emp {K : PySem.W.Frag} {F : Hp} {vs : List V} {ds : List PyData} (h : RpAll K F vs ds) : vs.isEmpty = ds.isEmpty := by cases h <;> rfl
theorem truS_ok {g : Gh} {H : Hp} {S : Store} {x : V} {v : SV} (r : Rel M.K g H S) (q : RepS M.K g x v) {k : Bool} (e : truS v S = some k) : TruV M.K x H k := by
  unfold truS at e
  cases h : asD v S with
  | none => rw [h] at e; cases e
  | some d =>
    rw [h] at e
    have e' : truD d = some k := e
    cases d with
    | list ds =>
      obtain ⟨a, vs, rfl, h1, h2, _⟩ := asD_list r q h
      cases e'
      exact .inl ⟨vs, SqL.of h1, by rw [h2.emp]⟩
    | tuple ds =>
      obtain ⟨a, vs, rfl, h1, h2, _, _⟩ := asD_tup q h
      cases e'
      exact .inr (.inl ⟨vs, SqT.sub r.sub h1, by rw [h2.emp]⟩)
    | none =>
      have p := asD_other q h (fun _ z => nomatch z)
      cases p; cases e'; rfl
    | bool b =>
      have p := asD_other q h (fun _ z => nomatch z)
      cases p; cases e'; rfl
    | int i =>
      have p := asD_other q h (fun _ z => nomatch z)
      cases p; cases e'; rfl
    | str y =>
      have p := asD_other q h (fun _ z => nomatch z)
      cases p
      have e2 : (if y.length ≤ 16777216 then some ((y.length : Int) != 0) else Option.none) = some k := e'
      split at e2
      · rename_i hz
        cases e2
        exact ⟨hz, rfl⟩
      · cases e2
    | dict _ => cases e'
def tru (f : EF) : TF := fun Γ S => (f Γ S).bind fun v S => match truS v S with
  | some k => .ok k S
  | none => .no
theorem t_tru (hK : X.K = M.K) (ha : DE X M W a fa) (he : ∀ whole, isTrue a X.env whole = (do let v ← whole; standAt a.pos; holding [v] (truthy v)) := by intro _; rfl) : DT X M W a (tru fa) :=
  (pt_truth ha he).weak fun σ H Q h => by
    obtain ⟨g, Γ, S, r0, v0, p⟩ := h
    refine step r0 v0 p fun u H1 g1 S1 v gr r1 v1 q1 p1 => ?_
    split at p1
    · rename_i k e
      exact ⟨k, by rw [hK]; exact truS_ok r1 q1 e, p1.now r1 rfl⟩
    · exact p1.elim

/-! ### and, or, not as tests -/
abbrev DW (X : Cx) (M : Mi) (W : WX) (e : Expr) (f : TF) : Prop := PW X e (tT M W f)
def tAndF (ta tb : TF) : TF := fun Γ S => (ta Γ S).bind fun k S => if k = true then tb Γ S else .ok false S
def tOrF (ta tb : TF) : TF := fun Γ S => (ta Γ S).bind fun k S => if k = true then .ok true S else tb Γ S
def tNotF (ta : TF) : TF := fun Γ S => (ta Γ S).bind fun k S => .ok (!k) S
theorem w_and1 (ha : DT X M W a ta) : DW X M W (.BoolOp .And [a] pos) ta := pw_and1 ha
theorem w_or1 (ha : DT X M W a ta) : DW X M W (.BoolOp .Or [a] pos) ta := pw_or1 ha
theorem w_and (ha : DT X M W a ta) (hb : DW X M W (.BoolOp .And (b :: rest) pos) tb) : DW X M W (.BoolOp .And (a :: b :: rest) pos) (tAndF ta tb) :=
  (pw_and ha hb).weak fun σ H Q h => by
    obtain ⟨g, Γ, S, r0, v0, p⟩ := h
    refine step r0 v0 p fun u H1 g1 S1 v gr r1 v1 q1 p1 => ?_
    cases q1
    cases u with
    | true => exact ⟨g1, Γ, S1, r1, v1, p1⟩
    | false => exact p1.now r1 rfl
theorem w_or (ha : DT X M W a ta) (hb : DW X M W (.BoolOp .Or (b :: rest) pos) tb) : DW X M W (.BoolOp .Or (a :: b :: rest) pos) (tOrF ta tb) :=
  (pw_or ha hb).weak fun σ H Q h => by
    obtain ⟨g, Γ, S, r0, v0, p⟩ := h
    refine step r0 v0 p fun u H1 g1 S1 v gr r1 v1 q1 p1 => ?_
    cases q1
    cases u with
    | true => exact p1.now r1 rfl
    | false => exact ⟨g1, Γ, S1, r1, v1, p1⟩
theorem t_w {e : Expr} {f : TF} (h : DW X M W e f) : DT X M W e f := h.pt
theorem t_not (ha : DT X M W a ta) : DT X M W (.UnaryOp .Not a pos) (tNotF ta) :=
  (pt_not ha).weak fun σ H Q h => by
    obtain ⟨g, Γ, S, r0, v0, p⟩ := h
    refine step r0 v0 p fun u H1 g1 S1 v gr r1 v1 q1 p1 => ?_
    cases q1
    exact p1.now r1 rfl
/-! ### .. as values -/
def eAndF (fa fb : EF) : EF := fun Γ S => (fa Γ S).bind fun v S => match truS v S with
  | some true => fb Γ S
  | some false => .ok v S
  | none => .no
def eOrF (fa fb : EF) : EF := fun Γ S => (fa Γ S).bind fun v S => match truS v S with
  | some true => .ok v S
  | some false => fb Γ S
  | none => .no
def eNotF (fa : EF) : EF := fun Γ S => (fa Γ S).bind fun v S => match truS v S with
  | some k => .ok (.d (.bool (!k))) S
  | none => .no
theorem d_one {op : BoolOp} (ha : DE X M W a fa) : DE X M W (.BoolOp op [a] pos) fa := pe_one ha
theorem d_andv (hK : X.K = M.K) (ha : DE X M W a fa) (hb : DE X M W (.BoolOp .And (b :: rest) pos) fb) : DE X M W (.BoolOp .And (a :: b :: rest) pos) (eAndF fa fb) :=
  (pe_andT ha hb).weak fun σ H Q h => by
    obtain ⟨g, Γ, S, r0, v0, p⟩ := h
    refine step r0 v0 p fun u H1 g1 S1 v gr r1 v1 q1 p1 => ?_
    split at p1
    · rename_i e
      exact ⟨true, by rw [hK]; exact truS_ok r1 q1 e, iteT ⟨g1, Γ, S1, r1, v1, p1⟩⟩
    · rename_i e
      exact ⟨false, by rw [hK]; exact truS_ok r1 q1 e, iteF (p1.now r1 q1)⟩
    · exact p1.elim
theorem d_orv (hK : X.K = M.K) (ha : DE X M W a fa) (hb : DE X M W (.BoolOp .Or (b :: rest) pos) fb) : DE X M W (.BoolOp .Or (a :: b :: rest) pos) (eOrF fa fb) :=
  (pe_orT ha hb).weak fun σ H Q h => by
    obtain ⟨g, Γ, S, r0, v0, p⟩ := h
    refine step r0 v0 p fun u H1 g1 S1 v gr r1 v1 q1 p1 => ?_
    split at p1
    · rename_i e
      exact ⟨true, by rw [hK]; exact truS_ok r1 q1 e, iteT (p1.now r1 q1)⟩
    · rename_i e
      exact ⟨false, by rw [hK]; exact truS_ok r1 q1 e, iteF ⟨g1, Γ, S1, r1, v1, p1⟩⟩
    · exact p1.elim
theorem d_notv (hK : X.K = M.K) (ha : DE X M W a fa) : DE X M W (.UnaryOp .Not a pos) (eNotF fa) :=
  (pe_notT ha).weak fun σ H Q h => by
    obtain ⟨g, Γ, S, r0, v0, p⟩ := h
    refine step r0 v0 p fun u H1 g1 S1 v gr r1 v1 q1 p1 => ?_
    split at p1
    · rename_i k e
      exact ⟨k, by rw [hK]; exact truS_ok r1 q1 e, p1.now r1 (.bl _)⟩
    · exact p1.elim
def eIf (t : TF) (fa fb : EF) : EF := fun Γ S => (t Γ S).bind fun k S => if k = true then fa Γ S else fb Γ S
theorem d_if (hc : DT X M W c ta) (ha : DE X M W a fa) (hb : DE X M W b fb) : DE X M W (.IfExp c a b pos) (eIf ta fa fb) :=
  (pe_ifExp hc ha hb).weak fun σ H Q h => by
    obtain ⟨g, Γ, S, r0, v0, p⟩ := h
    refine step r0 v0 p fun u H1 g1 S1 v gr r1 v1 q1 p1 => ?_
    cases q1
    cases u with
    | true => exact ⟨g1, Γ, S1, r1, v1, p1⟩
    | false => exact ⟨g1, Γ, S1, r1, v1, p1⟩

/-! ### a < b < c -/
def eChain (op op' : SV → SV → Store → Out SV) (fa fb fc : EF) : EF := fun Γ S => (fa Γ S).bind fun v S => (fb Γ S).bind fun w S => (op v w S).bind fun z S => match z with
  | .d (.bool true) => (fc Γ S).bind fun u S => op' w u S
  | .d (.bool false) => .ok (.d (.bool false)) S
  | _ => .no
theorem chain_of {r r' : R2} {op op' : SV → SV → Store → Out SV} (h1 : Sat2 M r op) (h2 : Sat2 M r' op') {σ : St} {H : Hp} {Q : VK} (h : tE M W (eChain op op' fa fb fc) σ H Q) : tChain r r' (tE M W fa) (tE M W fb) (tE M W fc) σ H Q := by
  obtain ⟨g, Γ, S, r0, v0, p⟩ := h
  refine step r0 v0 p fun u H1 g1 S1 v gr rl1 v1 q1 p1 => step rl1 v1 p1 fun u2 H2 g2 S2 w gr2 rl2 v2 q2 p2 => ?_
  refine h1 W σ _ g2 H2 S2 _ _ v w rl2 (gr2.rep q1) q2 (Post.imp (fun z H3 q => ?_) (Post.bind (R := rS M) p2))
  obtain ⟨g3, S3, zv, gr3, rl3, q3, p3⟩ := q
  split at p3
  · cases q3
    refine ⟨true, rfl, ?_⟩
    refine iteT (step rl3 (gr3.vars v2) p3 fun u4 H4 g4 S4 x4 gr4 rl4 v4 q4 p4 => ?_)
    exact h2 W σ _ g4 H4 S4 _ _ w x4 rl4 (gr4.rep (gr3.rep q2)) q4 p4
  · cases q3
    exact ⟨false, rfl, iteF (p3.now rl3 (.bl _))⟩
  · exact p3.elim
theorem d_chain {o o' : CmpOp} {op op' : SV → SV → Store → Out SV} (h1 : CmpD X M o op) (h2 : CmpD X M o' op') (ha : DE X M W a fa) (hb : DE X M W b fb) (hc : DE X M W c fc) (hm : lastMarks [o, o'] [b, c] = false := by with_unfolding_all rfl) :
    DE X M W (.Compare a [o, o'] [b, c] pos) (eChain op op' fa fb fc) := by
  obtain ⟨r, k1, s1⟩ := h1.ok
  obtain ⟨r', k2, s2⟩ := h2.ok
  exact (pe_chain k1 k2 ha hb hc hm).weak fun _ _ _ h => chain_of s1 s2 h
theorem t_chain {o o' : CmpOp} {op op' : SV → SV → Store → Out SV} (h1 : CmpD X M o op) (h2 : CmpD X M o' op') (ha : DE X M W a fa) (hb : DE X M W b fb) (hc : DE X M W c fc) (hm : lastMarks [o, o'] [b, c] = false := by with_unfolding_all rfl) :
    DT X M W (.Compare a [o, o'] [b, c] pos) (tst (eChain op op' fa fb fc)) := by
  obtain ⟨r, k1, s1⟩ := h1.ok
  obtain ⟨r', k2, s2⟩ := h2.ok
  exact (pt_chain k1 k2 ha hb hc hm).weak fun _ _ _ h => tst_of (fun _ _ _ h => chain_of s1 s2 h) h

/-! ### arguments, displays -/
def aNil : AF := fun _ S => .ok [] S
def aCons (f : EF) (r : AF) : AF := fun Γ S => (f Γ S).bind fun v S => (r Γ S).bind fun vs S => .ok (v :: vs) S
theorem da_nil : DA X M W [] aNil := pa_nil.weak fun σ H Q h => by
  obtain ⟨g, Γ, S, r0, v0, p⟩ := h
  exact Post.now p r0 .nil
theorem da_cons {e : Expr} {es : List Expr} {f : EF} {r : AF} (he : DE X M W e f) (hr : DA X M W es r) (hs : starEach (e :: es) X.env = (false, eval e X.env) :: starEach es X.env := by rfl) : DA X M W (e :: es) (aCons f r) :=
  (pa_cons he hr hs).weak fun σ H Q h => by
    obtain ⟨g, Γ, S, r0, v0, p⟩ := h
    refine step r0 v0 p fun u H1 g1 S1 v gr r1 v1 q1 p1 => step r1 v1 p1 fun us H2 g2 S2 vs gr2 r2 v2 q2 p2 => ?_
    exact p2.now r2 (.cons (gr2.rep q1) q2)
/-- values as data -/
def allD : List SV → Store → Option (List PyData)
  | [], _ => some []
  | .d x :: r, S => (allD r S).map (x :: ·)
  | _ :: _, _ => none
theorem allD_ok {g : Gh} {S : Store} : ∀ {us : List V} {vs : List SV} {ds : List PyData}, RepA M.K g us vs → allD vs S = some ds → RpAll M.K g.F us ds
  | _, [], _, .nil, e => by cases e; exact .nil
  | _, .d x :: r, ds, .cons q t, e => by
    unfold allD at e
    cases h : allD r S with
    | none => rw [h] at e; cases e
    | some es =>
      rw [h] at e
      cases e
      exact .cons q (allD_ok t h)
  | _, .cell _ :: _, _, _, e => by cases e
  | _, .scr _ :: _, _, _, e => by cases e
def eTup (f : AF) : EF := fun Γ S => (f Γ S).bind fun vs S => match allD vs S with
  | some ds => if ds.length ≤ 16777216 then .ok (.d (.tuple ds)) S else .no
  | none => .no
def eLst (fin : List PyData → Store → Out SV) (f : AF) : EF := fun Γ S => (f Γ S).bind fun vs S => match allD vs S with
  | some ds => if ds.length ≤ 16777216 then fin ds S else .no
  | none => .no
theorem d_tup {es : List Expr} {k : Nat} {f : AF} (h : DA X M W es f) : DE X M W (.Tuple es k pos) (eTup f) :=
  (pe_tup h).weak fun σ H Q h => by
    obtain ⟨g, Γ, S, r0, v0, p⟩ := h
    refine step r0 v0 p fun us H1 g1 S1 vs gr r1 v1 q1 p1 => ?_
    split at p1
    · rename_i ds e
      split at p1
      · rename_i hz
        have t := allD_ok q1 e
        exact ⟨by rw [t.len]; exact hz, lay_tup r1 hz t p1⟩
      · exact p1.elim
    · exact p1.elim
theorem d_lst {fin : List PyData → Store → Out SV} (hf : Fin M fin) {es : List Expr} {f : AF} (h : DA X M W es f) : DE X M W (.List es pos) (eLst fin f) :=
  (pe_lst h).weak fun σ H Q h => by
    obtain ⟨g, Γ, S, r0, v0, p⟩ := h
    refine step r0 v0 p fun us H1 g1 S1 vs gr r1 v1 q1 p1 => ?_
    split at p1
    · rename_i ds e
      split at p1
      · rename_i hz
        have t := allD_ok q1 e
        exact ⟨by rw [t.len]; exact hz, hf.lay r1 hz t p1⟩
      · exact p1.elim
    · exact p1.elim

/-! ### subscripts, slices -/
def ixS : SV → SV → Store → Out SV := fun v w S => match asD v S, asD w S with
  | some (.list xs), some (.int i) => match atI xs i with
    | some d => .ok (.d d) S
    | none => .no
  | some (.tuple xs), some (.int i) => match atI xs i with
    | some d => .ok (.d d) S
    | none => .no
  | _, _ => .no
theorem atI_rep {K : PySem.W.Frag} {F : Hp} {vs : List V} {ds : List PyData} (h : RpAll K F vs ds) {i : Int} {d : PyData} (e : atI ds i = some d) : ∃ v, atI vs i = some v ∧ Rp K F v d := by
  unfold atI at e ⊢
  rw [h.len]
  cases q : ixN ds.length i with
  | none => rw [q] at e; cases e
  | some j =>
    rw [q] at e
    obtain ⟨v, h1, h2⟩ := h.get e
    exact ⟨v, h1, h2⟩
theorem sat_ix : Sat2 M (rIx M.K) ixS := by
  intro W σ Q g H S x y v w r q1 q2 p
  unfold ixS at p
  split at p
  · rename_i xs i e1 e2
    have a2 := asD_other q2 e2 (fun _ z => nomatch z)
    cases a2
    split at p
    · rename_i d e
      obtain ⟨a, vs, rfl, h1, t1, _⟩ := asD_list r q1 e1
      obtain ⟨u, hu, ru⟩ := atI_rep t1 e
      exact .inl ⟨a, vs, i, u, rfl, rfl, SqL.of h1, hu, p.now r ru⟩
    · exact p.elim
  · rename_i xs i e1 e2
    have a2 := asD_other q2 e2 (fun _ z => nomatch z)
    cases a2
    split at p
    · rename_i d e
      obtain ⟨a, vs, rfl, h1, t1, _, _⟩ := asD_tup q1 e1
      obtain ⟨u, hu, ru⟩ := atI_rep t1 e
      exact .inr (.inl ⟨a, vs, i, u, rfl, rfl, SqT.sub r.sub h1, hu, p.now r ru⟩)
    · exact p.elim
  · exact p.elim
def eIx (fa fb : EF) : EF := eBin ixS fa fb
theorem d_ix (hK : X.K = M.K) (ha : DE X M W a fa) (hb : DE X M W b fb) (hs : PlainIx b := by exact fun _ _ => rfl) : DE X M W (.Subscript a b pos) (eIx fa fb) :=
  (pe_ix (r := rIx M.K) (by rw [← hK]; exact ix_seq) ha hb hs).weak fun _ _ _ h => tOp_of sat_ix h
abbrev OF := Ev → Store → Out (Option Int)
def oNone : OF := fun _ S => .ok none S
def oSome (f : EF) : OF := fun Γ S => (f Γ S).bind fun v S => match v with
  | .d (.int i) => .ok (some i) S
  | _ => .no
def rO : Gh → Option Int → Option Int → Prop := fun _ a b => a = b
abbrev DO (X : Cx) (M : Mi) (W : WX) (e : Option Expr) (f : OF) : Prop := PO X e (tG M W rO f)
theorem PO.weak' {X : Cx} {e : Option Expr} {t t' : TO} (h : PO X e t) (k : ∀ σ H Q, t' σ H Q → t σ H Q) : PO X e t' := ⟨fun pins s σ H Q I z => h.run pins s σ H Q I (k _ _ _ z)⟩
theorem do_none : DO X M W none oNone := PO.weak' po_none fun σ H Q h => by
  obtain ⟨g, Γ, S, r0, v0, p⟩ := h
  exact Post.now p r0 rfl
theorem do_some (ha : DE X M W a fa) : DO X M W (some a) (oSome fa) := PO.weak' (po_some ha) fun σ H Q h => by
  obtain ⟨g, Γ, S, r0, v0, p⟩ := h
  refine step r0 v0 p fun u H1 g1 S1 v gr r1 v1 q1 p1 => ?_
  split at p1
  · cases q1
    exact ⟨_, rfl, p1.now r1 rfl⟩
  · exact p1.elim
def cutD (xs : List PyData) (lo hi : Option Int) : List PyData := (xs.drop (HT.sIx xs.length 0 lo)).take (HT.sIx xs.length xs.length hi - HT.sIx xs.length 0 lo)
theorem cutD_len (xs : List PyData) (lo hi : Option Int) : (cutD xs lo hi).length ≤ xs.length := by
  unfold cutD
  rw [List.length_take, List.length_drop]
  omega
def slS (fin : List PyData → Store → Out SV) (v : SV) (lo hi : Option Int) (S : Store) : Out SV := match asD v S with
  | some (.list xs) => fin (cutD xs lo hi) S
  | some (.tuple xs) => .ok (.d (.tuple (cutD xs lo hi))) S
  | _ => .no
def eSl (fin : List PyData → Store → Out SV) (fa : EF) (fl fh : OF) : EF := fun Γ S => (fa Γ S).bind fun v S => (fl Γ S).bind fun lo S => (fh Γ S).bind fun hi S => slS fin v lo hi S
theorem d_sl (hK : X.K = M.K) {fin : List PyData → Store → Out SV} (hf : Fin M fin) {lo hi : Option Expr} {fl fh : OF} {p2 : Pos} (ha : DE X M W a fa) (hl : DO X M W lo fl) (hh : DO X M W hi fh) : DE X M W (.Subscript a (.Slice lo hi none p2) pos) (eSl fin fa fl fh) :=
  (pe_slice (sl_list.or sl_tupA) ha hl hh).weak fun σ H Q h => by
    obtain ⟨g, Γ, S, r0, v0, p⟩ := h
    refine step r0 v0 p fun u H1 g1 S1 v gr r1 v1 q1 p1 => step r1 v1 p1 fun l H2 g2 S2 lo' gr2 r2 v2 q2 p2 => step r2 v2 p2 fun m H3 g3 S3 hi' gr3 r3 v3 q3 p3 => ?_
    cases q2; cases q3
    have q1' := gr3.rep (gr2.rep q1)
    unfold slS at p3
    split at p3
    · rename_i xs e
      obtain ⟨a, vs, rfl, h1, t1, hz⟩ := asD_list r3 q1' e
      refine .inl ⟨a, vs, rfl, SqL.of h1, hf.lay r3 (Nat.le_trans (cutD_len _ _ _) hz) ?_ p3⟩
      unfold cutV
      rw [t1.len]
      exact (t1.drop _).take _
    · rename_i xs e
      obtain ⟨a, vs, rfl, h1, t1, pp, hz⟩ := asD_tup q1' e
      refine .inr ⟨a, vs, rfl, by rw [hK]; exact SqT.sub r3.sub h1, fun hw => ?_, fun hw => ?_⟩
      · rw [t1.len] at hw
        unfold cutD at p3
        rw [hw.1, hw.2, List.drop_zero, Nat.sub_zero, List.take_length] at p3
        exact p3.now r3 pp
      · refine lay_tup r3 (Nat.le_trans (cutD_len _ _ _) hz) ?_ p3
        unfold cutV
        rw [t1.len]
        exact (t1.drop _).take _
    · exact p3.elim
end
end DL
/-! D4: calls of built-ins and of defs. -/
namespace DL
open PySem L2
section
variable {X : Cx} {M : Mi} {W : WX} {a b c e : Expr} {es : List Expr} {fa fb fc : EF} {af : AF} {pos p : Pos} {x : Str} {id T : String}

def eCall (op : List SV → Store → Out SV) (f : AF) : EF := fun Γ S => (f Γ S).bind fun vs S => op vs S
def SatA (M : Mi) (r : List V → Hp → VK → Prop) (op : List SV → Store → Out SV) : Prop := ∀ (W : WX) (σ : St) (Q : VK) (g : Gh) (H : Hp) (S : Store) (us : List V) (vs : List SV),
  Rel M.K g H S → RepA M.K g us vs → Post M W σ (rS M) Q g H (op vs S) → r us H Q
theorem tCB_of {r : List V → Hp → VK → Prop} {op : List SV → Store → Out SV} (hs : SatA M r op) {σ : St} {H : Hp} {Q : VK} (h : tE M W (eCall op af) σ H Q) : tCB r (tA M W af) σ H Q := by
  obtain ⟨g, Γ, S, r0, v0, p⟩ := h
  exact step r0 v0 p fun us H1 g1 S1 vs gr r1 v1 q1 p1 => hs _ _ _ _ _ _ _ _ r1 q1 p1
theorem d_callB {r : List V → Hp → VK → Prop} {op : List SV → Store → Out SV} (hc : CallR X (.builtin id) r) (hs : SatA M r op) (hg : Gl X x) (hm : X.mg x = none) (hv : bootBuiltins x = some (.builtin id)) (ha : DA X M W (e :: es) af) (hn : x ≠ "__name__" := by decide) (hdb : (x == ("__debug__" : Str)) = false := by decide)
    (he : starEach (e :: es) X.env = (false, eval e X.env) :: starEach es X.env := by rfl) (hpl : (backTo pos (starEach es X.env)).any (·.1) = false := by rfl) : DE X M W (.Call (.Name x p) (e :: es) [] pos) (eCall op af) :=
  (pe_callB hc hg hm hv ha hn hdb he hpl).weak fun _ _ _ h => tCB_of hs h
theorem d_callTy {r : List V → Hp → VK → Prop} {op : List SV → Store → Out SV} (hc : CallR X (.type T) r) (hs : SatA M r op) (hg : Gl X x) (hm : X.mg x = none) (hv : bootBuiltins x = some (.type T)) (ha : DA X M W (e :: es) af) (hn : x ≠ "__name__" := by decide) (hdb : (x == ("__debug__" : Str)) = false := by decide)
    (he : starEach (e :: es) X.env = (false, eval e X.env) :: starEach es X.env := by rfl) (hpl : (backTo pos (starEach es X.env)).any (·.1) = false := by rfl) : DE X M W (.Call (.Name x p) (e :: es) [] pos) (eCall op af) :=
  (pe_callTy hc hg hm hv ha hn hdb he hpl).weak fun _ _ _ h => tCB_of hs h
theorem d_callFun {r : List V → Hp → VK → Prop} {op : List SV → Store → Out SV} (hc : CallR X (.builtin id) r) (hs : SatA M r op) (hg : Gl X x) (hm : X.mg x = some (.builtin id)) (ha : DA X M W (e :: es) af) (hdb : (x == ("__debug__" : Str)) = false := by decide)
    (he : starEach (e :: es) X.env = (false, eval e X.env) :: starEach es X.env := by rfl) (hpl : (backTo pos (starEach es X.env)).any (·.1) = false := by rfl) : DE X M W (.Call (.Name x p) (e :: es) [] pos) (eCall op af) :=
  (pe_callBfun hc hg hm ha hdb he hpl).weak fun _ _ _ h => tCB_of hs h

/-! ### len -/
def lenS : List SV → Store → Out SV := fun vs S => match vs with
  | [v] => match asD v S with
    | some (.list xs) => .ok (.d (.int xs.length)) S
    | some (.tuple xs) => .ok (.d (.int xs.length)) S
    | some (.str x) => if x.length ≤ 16777216 then .ok (.d (.int x.length)) S else .no
    | _ => .no
  | _ => .no
theorem sat_len : SatA M (fun xs H Q => ∃ x n, xs = [x] ∧ LenV M.K x H n ∧ Q (.int n) H) lenS := by
  intro W σ Q g H S us vs r q p
  unfold lenS at p
  split at p
  · cases q with
    | cons q1 q2 =>
      cases q2
      split at p
      · rename_i xs e1
        obtain ⟨a, ws, rfl, h1, t1, hz⟩ := asD_list r q1 e1
        exact ⟨_, ws.length, rfl, .inl ⟨ws, SqL.of h1, rfl⟩, by rw [t1.len]; exact p.now r (.int _)⟩
      · rename_i xs e1
        obtain ⟨a, ws, rfl, h1, t1, _, hz⟩ := asD_tup q1 e1
        exact ⟨_, ws.length, rfl, .inr ⟨ws, SqT.sub r.sub h1, rfl⟩, by rw [t1.len]; exact p.now r (.int _)⟩
      · rename_i y e1
        have a1 := asD_other q1 e1 (fun _ z => nomatch z)
        cases a1
        split at p
        · rename_i hz
          exact ⟨_, y.length, rfl, ⟨hz, rfl⟩, p.now r (.int _)⟩
        · exact p.elim
      · exact p.elim
  · exact p.elim
theorem d_len (hK : X.K = M.K) (hg : Gl X "len") (hm : X.mg "len" = none) (ha : DE X M W a fa) (he : starEach [a] X.env = (false, eval a X.env) :: starEach [] X.env := by rfl) (hpl : (backTo pos (starEach [] X.env)).any (·.1) = false := by rfl) : DE X M W (.Call (.Name "len" p) [a] [] pos) (eCall lenS (aCons fa aNil)) :=
  d_callB (by rw [← hK]; exact call_len) sat_len hg hm PySem.boot_len (da_cons ha da_nil he) (by decide) (by decide) he hpl

/-! ### int, abs, gcd -/
def intS : List SV → Store → Out SV := fun vs S => match vs with
  | [.d (.int i)] => .ok (.d (.int i)) S
  | [.d (.bool b)] => .ok (.d (.int (if b then 1 else 0))) S
  | _ => .no
theorem sat_int : SatA M (fun xs H Q => (∃ i, xs = [.int i] ∧ Q (.int i) H) ∨ ∃ k, xs = [.bl k] ∧ Q (.int (if k then 1 else 0)) H) intS := by
  intro W σ Q g H S us vs r q p
  unfold intS at p
  split at p
  · cases q with
    | cons q1 q2 => cases q2; cases q1; exact .inl ⟨_, rfl, p.now r (.int _)⟩
  · cases q with
    | cons q1 q2 => cases q2; cases q1; exact .inr ⟨_, rfl, p.now r (.int _)⟩
  · exact p.elim
def absS : List SV → Store → Out SV := fun vs S => match vs with
  | [.d (.int i)] => .ok (.d (.int (if i < 0 then -i else i))) S
  | _ => .no
theorem sat_abs : SatA M (fun xs H Q => ∃ i, xs = [.int i] ∧ Q (.int (if i < 0 then -i else i)) H) absS := by
  intro W σ Q g H S us vs r q p
  unfold absS at p
  split at p
  · cases q with
    | cons q1 q2 => cases q2; cases q1; exact ⟨_, rfl, p.now r (.int _)⟩
  · exact p.elim
/-- min, max of two ints -/
def mmS (f : Int → Int → Int) : List SV → Store → Out SV := fun vs S => match vs with
  | [.d (.int i), .d (.int j)] => .ok (.d (.int (f i j))) S
  | _ => .no
theorem sat_mm {f : Int → Int → Int} {r : List V → Hp → VK → Prop} (hr : ∀ i j H (Q : VK), Q (.int (f i j)) H → r [.int i, .int j] H Q) : SatA M r (mmS f) := by
  intro W σ Q g H S us vs r q p
  unfold mmS at p
  split at p
  · cases q with
    | cons q1 q2 =>
      cases q2 with
      | cons q2 q3 => cases q3; cases q1; cases q2; exact hr _ _ _ _ (p.now r (.int _))
  · exact p.elim
theorem sat_gcd : SatA M rGcd (mmS fun i j => (Int.gcd i j : Int)) := sat_mm fun i j H Q q => ⟨i, j, rfl, q⟩

/-! ### list(x), tuple(x) -/
def listS (fin : List PyData → Store → Out SV) : List SV → Store → Out SV := fun vs S => match vs with
  | [v] => match asD v S with
    | some (.list xs) => fin xs S
    | some (.tuple xs) => fin xs S
    | _ => .no
  | _ => .no
theorem sat_list {fin : List PyData → Store → Out SV} (hf : Fin M fin) : SatA M (fun xs H Q => ∃ p ys, xs = [.ref p] ∧ (SqL M.K H p ys ∨ SqT M.K H p ys) ∧ ∀ l, H l = none → Q (.ref l) (upd H l (.lst ys))) (listS fin) := by
  intro W σ Q g H S us vs r q p
  unfold listS at p
  split at p
  · cases q with
    | cons q1 q2 =>
      cases q2
      split at p
      · rename_i xs e1
        obtain ⟨a, ws, rfl, h1, t1, hz⟩ := asD_list r q1 e1
        exact ⟨a, ws, rfl, .inl (SqL.of h1), hf.lay r hz t1 p⟩
      · rename_i xs e1
        obtain ⟨a, ws, rfl, h1, t1, _, hz⟩ := asD_tup q1 e1
        exact ⟨a, ws, rfl, .inr (SqT.sub r.sub h1), hf.lay r hz t1 p⟩
      · exact p.elim
  · exact p.elim
def tupS : List SV → Store → Out SV := fun vs S => match vs with
  | [v] => match asD v S with
    | some (.list xs) => .ok (.d (.tuple xs)) S
    | some (.tuple xs) => .ok (.d (.tuple xs)) S
    | _ => .no
  | _ => .no
theorem sat_tup : SatA M (fun xs H Q => ∃ p ys, xs = [.ref p] ∧ ((SqL M.K H p ys ∧ ∀ l, H l = none → Q (.ref l) (upd H l (.tup ys))) ∨ (SqT M.K H p ys ∧ Q (.ref p) H))) tupS := by
  intro W σ Q g H S us vs r q p
  unfold tupS at p
  split at p
  · cases q with
    | cons q1 q2 =>
      cases q2
      split at p
      · rename_i xs e1
        obtain ⟨a, ws, rfl, h1, t1, hz⟩ := asD_list r q1 e1
        exact ⟨a, ws, rfl, .inl ⟨SqL.of h1, lay_tup r hz t1 p⟩⟩
      · rename_i xs e1
        obtain ⟨a, ws, rfl, h1, t1, pp, hz⟩ := asD_tup q1 e1
        exact ⟨a, ws, rfl, .inr ⟨SqT.sub r.sub h1, p.now r pp⟩⟩
      · exact p.elim
  · exact p.elim
theorem d_list (hK : X.K = M.K) {fin : List PyData → Store → Out SV} (hf : Fin M fin) (hg : Gl X "list") (hm : X.mg "list" = none) (ha : DE X M W a fa) (he : starEach [a] X.env = (false, eval a X.env) :: starEach [] X.env := by rfl) (hpl : (backTo pos (starEach [] X.env)).any (·.1) = false := by rfl) : DE X M W (.Call (.Name "list" p) [a] [] pos) (eCall (listS fin) (aCons fa aNil)) :=
  d_callTy (by rw [← hK]; exact call_list_of) (sat_list hf) hg hm PyProof.Rows.boot_list (da_cons ha da_nil he) (by decide) (by decide) he hpl
theorem d_tuple (hK : X.K = M.K) (hg : Gl X "tuple") (hm : X.mg "tuple" = none) (ha : DE X M W a fa) (he : starEach [a] X.env = (false, eval a X.env) :: starEach [] X.env := by rfl) (hpl : (backTo pos (starEach [] X.env)).any (·.1) = false := by rfl) : DE X M W (.Call (.Name "tuple" p) [a] [] pos) (eCall tupS (aCons fa aNil)) :=
  d_callTy (by rw [← hK]; exact call_tuple_of) sat_tup hg hm PyProof.Rows.boot_tuple (da_cons ha da_nil he) (by decide) (by decide) he hpl
theorem d_int1 (hg : Gl X "int") (hm : X.mg "int" = none) (ha : DE X M W a fa) (he : starEach [a] X.env = (false, eval a X.env) :: starEach [] X.env := by rfl) (hpl : (backTo pos (starEach [] X.env)).any (·.1) = false := by rfl) : DE X M W (.Call (.Name "int" p) [a] [] pos) (eCall intS (aCons fa aNil)) :=
  d_callTy call_int1 sat_int hg hm (by decide +kernel) (da_cons ha da_nil he) (by decide) (by decide) he hpl
theorem d_abs (hg : Gl X "abs") (hm : X.mg "abs" = none) (ha : DE X M W a fa) (he : starEach [a] X.env = (false, eval a X.env) :: starEach [] X.env := by rfl) (hpl : (backTo pos (starEach [] X.env)).any (·.1) = false := by rfl) : DE X M W (.Call (.Name "abs" p) [a] [] pos) (eCall absS (aCons fa aNil)) :=
  d_callB call_abs sat_abs hg hm (by decide +kernel) (da_cons ha da_nil he) (by decide) (by decide) he hpl
theorem d_gcd (hg : Gl X "gcd") (hm : X.mg "gcd" = some (.builtin "math.gcd")) (ha : DE X M W a fa) (hb : DE X M W b fb) (he : starEach [a, b] X.env = (false, eval a X.env) :: starEach [b] X.env := by rfl) (he2 : starEach [b] X.env = (false, eval b X.env) :: starEach [] X.env := by rfl) (hpl : (backTo pos (starEach [b] X.env)).any (·.1) = false := by rfl) :
    DE X M W (.Call (.Name "gcd" p) [a, b] [] pos) (eCall (mmS fun i j => (Int.gcd i j : Int)) (aCons fa (aCons fb aNil))) :=
  d_callFun cr_gcd sat_gcd hg hm (da_cons ha (da_cons hb da_nil he2) he) (by decide) he hpl
theorem d_min2 (hc : X.calm = true) (hg : Gl X "min") (hm : X.mg "min" = none) (ha : DE X M W a fa) (hb : DE X M W b fb) (he : starEach [a, b] X.env = (false, eval a X.env) :: starEach [b] X.env := by rfl) (he2 : starEach [b] X.env = (false, eval b X.env) :: starEach [] X.env := by rfl) (hpl : (backTo pos (starEach [b] X.env)).any (·.1) = false := by rfl) :
    DE X M W (.Call (.Name "min" p) [a, b] [] pos) (eCall (mmS fun i j => if j < i then j else i) (aCons fa (aCons fb aNil))) :=
  d_callB (call_min2 hc) (sat_mm fun i j H Q q => ⟨i, j, rfl, q⟩) hg hm (by decide +kernel) (da_cons ha (da_cons hb da_nil he2) he) (by decide) (by decide) he hpl
theorem d_max2 (hc : X.calm = true) (hg : Gl X "max") (hm : X.mg "max" = none) (ha : DE X M W a fa) (hb : DE X M W b fb) (he : starEach [a, b] X.env = (false, eval a X.env) :: starEach [b] X.env := by rfl) (he2 : starEach [b] X.env = (false, eval b X.env) :: starEach [] X.env := by rfl) (hpl : (backTo pos (starEach [b] X.env)).any (·.1) = false := by rfl) :
    DE X M W (.Call (.Name "max" p) [a, b] [] pos) (eCall (mmS fun i j => if j > i then j else i) (aCons fa (aCons fb aNil))) :=
  d_callB (call_max2 hc) (sat_mm fun i j H Q q => ⟨i, j, rfl, q⟩) hg hm (by decide +kernel) (da_cons ha (da_cons hb da_nil he2) he) (by decide) (by decide) he hpl

/-! ### list(range(..)), tuple(range(..)) -/
def rgD (a b : Int) : List PyData := (List.range (b - a).toNat).map fun (i : Nat) => PyData.int (a + i)
theorem rgD_rep {K : PySem.W.Frag} {F : Hp} (a b : Int) : RpAll K F (rgV a b) (rgD a b) := by
  unfold rgV rgD
  have h : ∀ l : List Nat, RpAll K F (l.map fun (i : Nat) => V.int (a + i)) (l.map fun (i : Nat) => PyData.int (a + i)) := fun l => by
    induction l with
    | nil => exact .nil
    | cons i l ih => exact .cons (.int _) ih
  exact h _
def rgC (a b : Int) : Bool := decide (-(2 ^ 62) ≤ a ∧ a < 2 ^ 62 ∧ -(2 ^ 62) ≤ b ∧ b < 2 ^ 62 ∧ (b - a).toNat ≤ 16777216)
theorem rgC_ok {a b : Int} (h : rgC a b = true) : RgOk a b := of_decide_eq_true (p := -(2 ^ 62) ≤ a ∧ a < 2 ^ 62 ∧ -(2 ^ 62) ≤ b ∧ b < 2 ^ 62 ∧ (b - a).toNat ≤ 16777216) h
theorem rgD_len {a b : Int} (h : rgC a b = true) : (rgD a b).length ≤ 16777216 := by
  unfold rgD
  rw [List.length_map, List.length_range]
  exact (rgC_ok h).2.2.2.2
/-- the bounds of range(..) -/
abbrev RF := Ev → Store → Out (Int × Int)
def rg1 (f : EF) : RF := fun Γ S => (f Γ S).bind fun v S => match v with
  | .d (.int n) => .ok (0, n) S
  | _ => .no
def rg2 (f g : EF) : RF := fun Γ S => (f Γ S).bind fun v S => (g Γ S).bind fun w S => match v, w with
  | .d (.int i), .d (.int j) => .ok (i, j) S
  | _, _ => .no
def DRg (X : Cx) (M : Mi) (W : WX) (e : Expr) (f : RF) : Prop := PRg X e (fun σ H Q => ∃ g Γ S, Rel M.K g H S ∧ Vars M.K g σ Γ ∧ Post M W σ (fun _ (u v : Int × Int) => u = v) (fun u H => Q u.1 u.2 H) g H (f Γ S))
theorem PRg.weak' {X : Cx} {e : Expr} {t t' : St → Hp → (Int → Int → Hp → Prop) → Prop} (h : PRg X e t) (k : ∀ σ H Q, t' σ H Q → t σ H Q) : PRg X e t' := fun pins s σ H Q I z => h pins s σ H Q I (k _ _ _ z)
theorem drg1 (hg : Gl X "range") (hm : X.mg "range" = none) (ha : DE X M W a fa) (na : starEach [a] X.env = (false, eval a X.env) :: starEach [] X.env := by rfl) : DRg X M W (.Call (.Name "range" p) [a] [] pos) (rg1 fa) :=
  PRg.weak' (prg_1 hg hm ha na) fun σ H Q h => by
    obtain ⟨g, Γ, S, r0, v0, p⟩ := h
    refine step r0 v0 p fun u H1 g1 S1 v gr r1 v1 q1 p1 => ?_
    split at p1
    · cases q1
      exact ⟨_, rfl, p1.now (u := (0, _)) r1 rfl⟩
    · exact p1.elim
theorem drg2 (hg : Gl X "range") (hm : X.mg "range" = none) (ha : DE X M W a fa) (hb : DE X M W b fb) (na : starEach [a, b] X.env = (false, eval a X.env) :: starEach [b] X.env := by rfl)
    (nb : starEach [b] X.env = (false, eval b X.env) :: starEach [] X.env := by rfl) (hp : (backTo pos (starEach [b] X.env)).any (·.1) = false := by rfl) : DRg X M W (.Call (.Name "range" p) [a, b] [] pos) (rg2 fa fb) :=
  PRg.weak' (prg_2 hg hm ha hb na nb hp) fun σ H Q h => by
    obtain ⟨g, Γ, S, r0, v0, p⟩ := h
    refine step r0 v0 p fun u H1 g1 S1 v gr r1 v1 q1 p1 => step r1 v1 p1 fun u2 H2 g2 S2 w gr2 r2 v2 q2 p2 => ?_
    split at p2
    · have q1' := gr2.rep q1
      cases q1'; cases q2
      exact ⟨_, _, rfl, rfl, p2.now (u := (_, _)) r2 rfl⟩
    · exact p2.elim
def eLstRg (fin : List PyData → Store → Out SV) (f : RF) : EF := fun Γ S => (f Γ S).bind fun ab S => if rgC ab.1 ab.2 then fin (rgD ab.1 ab.2) S else .no
def eTupRg (f : RF) : EF := fun Γ S => (f Γ S).bind fun ab S => if rgC ab.1 ab.2 then .ok (.d (.tuple (rgD ab.1 ab.2))) S else .no
theorem d_lstRg {fin : List PyData → Store → Out SV} (hf : Fin M fin) {f : RF} (hc : X.calm = true) (hg : Gl X "list") (hm : X.mg "list" = none) (he : DRg X M W e f) (na : starEach [e] X.env = (false, eval e X.env) :: starEach [] X.env := by rfl) : DE X M W (.Call (.Name "list" p) [e] [] pos) (eLstRg fin f) :=
  (pe_listRg hc hg hm he na).weak fun σ H Q h => by
    obtain ⟨g, Γ, S, r0, v0, p⟩ := h
    refine ⟨g, Γ, S, r0, v0, Post.imp (fun u H1 q => ?_) (Post.bind (R := fun _ (u v : Int × Int) => u = v) p)⟩
    obtain ⟨g1, S1, ab, gr, r1, q1, p1⟩ := q
    cases q1
    split at p1
    · rename_i hz
      exact ⟨rgC_ok hz, hf.lay r1 (rgD_len hz) (rgD_rep _ _) p1⟩
    · exact p1.elim
theorem d_tupRg {f : RF} (hc : X.calm = true) (hg : Gl X "tuple") (hm : X.mg "tuple" = none) (he : DRg X M W e f) (na : starEach [e] X.env = (false, eval e X.env) :: starEach [] X.env := by rfl) : DE X M W (.Call (.Name "tuple" p) [e] [] pos) (eTupRg f) :=
  (pe_tupRg hc hg hm he na).weak fun σ H Q h => by
    obtain ⟨g, Γ, S, r0, v0, p⟩ := h
    refine ⟨g, Γ, S, r0, v0, Post.imp (fun u H1 q => ?_) (Post.bind (R := fun _ (u v : Int × Int) => u = v) p)⟩
    obtain ⟨g1, S1, ab, gr, r1, q1, p1⟩ := q
    cases q1
    split at p1
    · rename_i hz
      exact ⟨rgC_ok hz, lay_tup r1 (rgD_len hz) (rgD_rep _ _) p1⟩
    · exact p1.elim

/-! ### isinstance -/
def tyN : PyData → String
  | .none => "NoneType"
  | .bool _ => "bool"
  | .int _ => "int"
  | .str _ => "str"
  | .list _ => "list"
  | .tuple _ => "tuple"
  | .dict _ => "dict"
def isiB (t T : String) : Bool := t == T || (t == "bool" && T == "int")
def okT (T : String) : Bool := ["int", "bool", "str", "list", "tuple", "dict", "NoneType", "float"].contains T
theorem kit_tab : (["NoneType", "bool", "int", "str", "list", "tuple", "dict"].all fun t => ["int", "bool", "str", "list", "tuple", "dict", "NoneType", "float"].all fun T => kitB t T == some (isiB t T)) = true := by decide +kernel
theorem kitB_ok (d : PyData) {T : String} (h : okT T = true) : kitB (tyN d) T = some (isiB (tyN d) T) := by
  have h1 : tyN d ∈ ["NoneType", "bool", "int", "str", "list", "tuple", "dict"] := by cases d <;> simp [tyN]
  have h2 : T ∈ ["int", "bool", "str", "list", "tuple", "dict", "NoneType", "float"] := List.contains_iff_mem.mp h
  exact beq_iff_eq.mp (List.all_eq_true.mp (List.all_eq_true.mp kit_tab _ h1) _ h2)
theorem tyX_ok {g : Gh} {H : Hp} {S : Store} {u : V} {v : SV} {d : PyData} (r : Rel M.K g H S) (q : RepS M.K g u v) (e : asD v S = some d) : TyX M.K H u (.type (tyN d)) := by
  cases d with
  | list xs =>
    obtain ⟨a, ws, rfl, h1, t1, _⟩ := asD_list r q e
    exact .base (.lst h1)
  | tuple xs =>
    obtain ⟨a, ws, rfl, h1, t1, _, _⟩ := asD_tup q e
    rcases SqT.sub r.sub h1 with (h | ⟨o, h⟩) | ⟨o, its, n, h, hc, _⟩
    · exact .base (.tup h)
    · exact .fTuple h
    · exact .kTuple h hc
  | none =>
    have a1 := asD_other q e (fun _ z => nomatch z)
    cases a1; exact .base .non
  | bool b =>
    have a1 := asD_other q e (fun _ z => nomatch z)
    cases a1; exact .base (.bl _)
  | int i =>
    have a1 := asD_other q e (fun _ z => nomatch z)
    cases a1; exact .base (.int _)
  | str y =>
    have a1 := asD_other q e (fun _ z => nomatch z)
    cases a1; exact .base (.str _)
  | dict _ =>
    have a1 := asD_other q e (fun _ z => nomatch z)
    cases a1 with
    | dct h => exact .base (.dK (r.sub _ _ h))
def eIsi (T : String) (f : EF) : EF := fun Γ S => (f Γ S).bind fun v S => match asD v S with
  | some d => .ok (.d (.bool (isiB (tyN d) T))) S
  | none => .no
theorem d_isi (hK : X.K = M.K) {T' : String} (hT : okT T' = true) (hg : Gl X "isinstance") (hm : X.mg "isinstance" = none) (ha : DE X M W a fa) (ht : PE X b (tC (.ty T')))
    (he : starEach [a, b] X.env = (false, eval a X.env) :: starEach [b] X.env := by rfl) (he2 : starEach [b] X.env = (false, eval b X.env) :: starEach [] X.env := by rfl) (hpl : (backTo pos (starEach [b] X.env)).any (·.1) = false := by rfl) :
    DE X M W (.Call (.Name "isinstance" p) [a, b] [] pos) (eIsi T' fa) :=
  (pe_callB (r := rIsi M.K) (by rw [← hK]; exact call_isi) hg hm (by decide +kernel) (pa_cons ha (pa_cons ht pa_nil he2) he) (by decide) (by decide) he hpl).weak fun σ H Q h => by
    obtain ⟨g, Γ, S, r0, v0, p⟩ := h
    refine step r0 v0 p fun u H1 g1 S1 v gr r1 v1 q1 p1 => ?_
    split at p1
    · rename_i d e
      exact ⟨u, .ty T', .type (tyN d), .type T', _, rfl, .ty _, tyX_ok r1 q1 e, kit_ty (kitB_ok d hT), p1.now r1 (.bl _)⟩
    · exact p1.elim
/-- isinstance(a, (T1, T2)) -/
def eIsi2 (T1 T2 : String) (f : EF) : EF := fun Γ S => (f Γ S).bind fun v S => match asD v S with
  | some d => .ok (.d (.bool (isiB (tyN d) T1 || isiB (tyN d) T2))) S
  | none => .no
theorem Rel.lay (r : Rel M.K g H S) {q : Addr} (hq : H q = none) (o : HO) : Rel M.K g (upd H q o) S ∧ Grow g H g (upd H q o) := by
  obtain ⟨hF, hB⟩ := r.free hq
  have ne : ∀ b ∈ g.B, b ≠ q := fun b hb e => hB (e ▸ hb)
  refine ⟨⟨fun b u e => ?_, r.nd, r.dis, r.len, fun i a m e1 e2 => ?_⟩, ⟨⟨[], by simp⟩, fun _ _ h => h, fun b u e _ => ?_, fun b hb => .inl hb, fun b u e => .inl e⟩⟩
  · have nb : b ≠ q := fun z => by rw [z, hF] at e; cases e
    rw [upd_ne nb]; exact r.sub _ _ e
  · rw [upd_ne (ne a (List.mem_of_getElem? e1))]; exact r.at_ i a m e1 e2
  · rw [upd_ne (ne_of_none e hq)]; exact e
theorem d_isi2 (hK : X.K = M.K) {T1 T2 : String} {b1 b2 : Expr} {k : Nat} {p2 : Pos} (h1 : okT T1 = true) (h2 : okT T2 = true) (hg : Gl X "isinstance") (hm : X.mg "isinstance" = none) (ha : DE X M W a fa) (t1 : PE X b1 (tC (.ty T1))) (t2 : PE X b2 (tC (.ty T2)))
    (he : starEach [a, .Tuple [b1, b2] k p2] X.env = (false, eval a X.env) :: starEach [.Tuple [b1, b2] k p2] X.env := by rfl) (he2 : starEach [.Tuple [b1, b2] k p2] X.env = (false, eval (.Tuple [b1, b2] k p2) X.env) :: starEach [] X.env := by rfl) (hpl : (backTo pos (starEach [.Tuple [b1, b2] k p2] X.env)).any (·.1) = false := by rfl)
    (hs1 : starEach [b1, b2] X.env = (false, eval b1 X.env) :: starEach [b2] X.env := by rfl) (hs2 : starEach [b2] X.env = (false, eval b2 X.env) :: starEach [] X.env := by rfl) :
    DE X M W (.Call (.Name "isinstance" p) [a, .Tuple [b1, b2] k p2] [] pos) (eIsi2 T1 T2 fa) :=
  (pe_callB (r := rIsiT M.K) (by rw [← hK]; exact call_isiT) hg hm (by decide +kernel) (pa_cons ha (pa_cons (pe_tup (pa_cons t1 (pa_cons t2 pa_nil hs2) hs1)) pa_nil he2) he) (by decide) (by decide) he hpl).weak fun σ H Q h => by
    obtain ⟨g, Γ, S, r0, v0, p⟩ := h
    refine step r0 v0 p fun u H1 g1 S1 v gr r1 v1 q1 p1 => ?_
    split at p1
    · rename_i d e
      refine ⟨by show 2 ≤ sizeLine; decide, fun q hq => ?_⟩
      obtain ⟨r2, gr2⟩ := Rel.lay r1 hq (.tup [.ty T1, .ty T2])
      refine ⟨u, q, [.ty T1, .ty T2], .type (tyN d), [.type T1, .type T2], isiB (tyN d) T1 || isiB (tyN d) T2, rfl, upd_same, .cons (.ty _) (.cons (.ty _) .nil), tyX_ok r2 q1 e, ?_, ?_⟩
      · refine kitAny_cons (kit_ty (kitB_ok d h1)) (fun z => ?_) (fun z => by rw [z]; rfl)
        refine kitAny_cons (kit_ty (kitB_ok d h2)) (fun z' => ?_) (fun z' => by rw [z']; simp)
        rw [z, z']; exact kitAny_nil
      · exact p1 _ _ _ gr2 r2 (.bl _)
    · exact p1.elim

/-! ### all, any -/
def scaD : PyData → Bool
  | .none => true
  | .bool _ => true
  | .int _ => true
  | _ => false
def trB : PyData → Bool
  | .bool b => b
  | .int i => i != 0
  | _ => false
def allS (any : Bool) : List SV → Store → Out SV := fun vs S => match vs with
  | [v] => match asD v S with
    | some (.list xs) => if xs.all scaD then .ok (.d (.bool (if any then xs.any trB else xs.all trB))) S else .no
    | some (.tuple xs) => if xs.all scaD then .ok (.d (.bool (if any then xs.any trB else xs.all trB))) S else .no
    | _ => .no
  | _ => .no
theorem sca_plain : ∀ {xs : List PyData}, xs.all scaD = true → PyData.plainAll xs = true ∧ (∀ x ∈ xs, x.fits63) ∧ (xs.map PyData.truthy = xs.map trB)
  | [], _ => ⟨by simp [PyData.plainAll], fun _ h => (by cases h), rfl⟩
  | x :: xs, h => by
    rw [List.all_cons, Bool.and_eq_true] at h
    obtain ⟨h1, h2, h3⟩ := sca_plain h.2
    have k : x.plain = true ∧ x.fits63 ∧ x.truthy = trB x := by
      cases x with
      | none => exact ⟨by simp [PyData.plain], trivial, rfl⟩
      | bool b => exact ⟨by simp [PyData.plain], trivial, rfl⟩
      | int i => exact ⟨by simp [PyData.plain], trivial, rfl⟩
      | _ => exact absurd h.1 (by simp [scaD])
    refine ⟨by simp [PyData.plainAll, k.1, h1], fun y hy => ?_, by rw [List.map_cons, List.map_cons, h3, k.2.2]⟩
    rcases List.mem_cons.mp hy with rfl | hy
    · exact k.2.1
    · exact h2 y hy
theorem any_eq {xs : List PyData} (h : xs.map PyData.truthy = xs.map trB) : xs.any PyData.truthy = xs.any trB := by
  have e1 : xs.any PyData.truthy = (xs.map PyData.truthy).any id := by simp [List.any_map]
  have e2 : xs.any trB = (xs.map trB).any id := by simp [List.any_map]
  rw [e1, e2, h]
theorem all_eq {xs : List PyData} (h : xs.map PyData.truthy = xs.map trB) : xs.all PyData.truthy = xs.all trB := by
  have e1 : xs.all PyData.truthy = (xs.map PyData.truthy).all id := by simp [List.all_map]
  have e2 : xs.all trB = (xs.map trB).all id := by simp [List.all_map]
  rw [e1, e2, h]
def rAnyD (K : PySem.W.Frag) (any : Bool) : List V → Hp → VK → Prop := fun us H Q => ∃ x ds, us = [x] ∧ (Dp K H x (.list ds) ∨ Dp K H x (.tuple ds)) ∧ ds.all scaD = true ∧ Q (.bl (if any then ds.any trB else ds.all trB)) H
theorem cr_anyD (hc : X.calm = true) : CallR X (.builtin "any") (rAnyD X.K true) := by
  intro pins s σ H xs us Q I r h
  obtain ⟨x, ds, rfl, hd, hs, q⟩ := h
  obtain ⟨u, rfl, ru⟩ := vals1 r
  obtain ⟨p1, p2, p3⟩ := sca_plain hs
  rw [if_pos rfl, ← any_eq p3] at q
  rcases hd with hd | hd
  · cases hd with
    | lst hs ha =>
      cases ru
      obtain ⟨its, rv, ⟨o, n, ho, hc', hd', hdt⟩, _⟩ := I.list hs
      obtain ⟨as, hr⟩ := Dp.readsAll I ds _ its ha rv
      exact PySem.W.any_list_data (I.ok.hd hc) (PlainL.isList ⟨o, n, ho, hc', hd', hdt⟩) (by simpa using hr) p1 p2 fun h' tk k => ⟨.bl _, H, I.kept k, rfl, q⟩
  · cases hd with
    | tup hs ha =>
      cases ru
      obtain ⟨its, rv, ht, _⟩ := I.tuple hs
      obtain ⟨as, hr⟩ := Dp.readsAll I ds _ its ha rv
      exact PySem.W.any_tuple_data (I.ok.hd hc) ht (by simpa using hr) p1 p2 fun h' tk k => ⟨.bl _, H, I.kept k, rfl, q⟩
theorem cr_allD (hc : X.calm = true) : CallR X (.builtin "all") (rAnyD X.K false) := by
  intro pins s σ H xs us Q I r h
  obtain ⟨x, ds, rfl, hd, hs, q⟩ := h
  obtain ⟨u, rfl, ru⟩ := vals1 r
  obtain ⟨p1, p2, p3⟩ := sca_plain hs
  rw [if_neg Bool.false_ne_true, ← all_eq p3] at q
  rcases hd with hd | hd
  · cases hd with
    | lst hs ha =>
      cases ru
      obtain ⟨its, rv, ⟨o, n, ho, hc', hd', hdt⟩, _⟩ := I.list hs
      obtain ⟨as, hr⟩ := Dp.readsAll I ds _ its ha rv
      exact PySem.W.all_list_data (I.ok.hd hc) (PlainL.isList ⟨o, n, ho, hc', hd', hdt⟩) (by simpa using hr) p1 p2 fun h' tk k => ⟨.bl _, H, I.kept k, rfl, q⟩
  · cases hd with
    | tup hs ha =>
      cases ru
      obtain ⟨its, rv, ht, _⟩ := I.tuple hs
      obtain ⟨as, hr⟩ := Dp.readsAll I ds _ its ha rv
      exact PySem.W.all_tuple_data (I.ok.hd hc) ht (by simpa using hr) p1 p2 fun h' tk k => ⟨.bl _, H, I.kept k, rfl, q⟩
theorem sat_any {k : Bool} : SatA M (rAnyD M.K k) (allS k) := by
  intro W σ Q g H S us vs r q p
  unfold allS at p
  split at p
  · cases q with
    | cons q1 q2 =>
      cases q2
      split at p
      · rename_i xs e1
        split at p
        · rename_i hs
          exact ⟨_, xs, rfl, .inl (asD_dp r q1 e1 (by rw [PyData.plain]; exact (sca_plain hs).1)), hs, p.now r (.bl _)⟩
        · exact p.elim
      · rename_i xs e1
        split at p
        · rename_i hs
          exact ⟨_, xs, rfl, .inr (asD_dp r q1 e1 (by rw [PyData.plain]; exact (sca_plain hs).1)), hs, p.now r (.bl _)⟩
        · exact p.elim
      · exact p.elim
  · exact p.elim
theorem d_any (hK : X.K = M.K) (hc : X.calm = true) (hg : Gl X "any") (hm : X.mg "any" = none) (ha : DE X M W a fa) (he : starEach [a] X.env = (false, eval a X.env) :: starEach [] X.env := by rfl) (hpl : (backTo pos (starEach [] X.env)).any (·.1) = false := by rfl) : DE X M W (.Call (.Name "any" p) [a] [] pos) (eCall (allS true) (aCons fa aNil)) :=
  d_callB (by rw [← hK]; exact cr_anyD hc) sat_any hg hm (by decide +kernel) (da_cons ha da_nil he) (by decide) (by decide) he hpl
theorem d_all (hK : X.K = M.K) (hc : X.calm = true) (hg : Gl X "all") (hm : X.mg "all" = none) (ha : DE X M W a fa) (he : starEach [a] X.env = (false, eval a X.env) :: starEach [] X.env := by rfl) (hpl : (backTo pos (starEach [] X.env)).any (·.1) = false := by rfl) : DE X M W (.Call (.Name "all" p) [a] [] pos) (eCall (allS false) (aCons fa aNil)) :=
  d_callB (by rw [← hK]; exact cr_allD hc) sat_any hg hm (by decide +kernel) (da_cons ha da_nil he) (by decide) (by decide) he hpl
end
end DL
/-! D5: statements, targets, defs. -/
namespace DL
open PySem L2

inductive Fl where
  | nx (Γ : Ev)
  | rt (v : SV)
  | bk (Γ : Ev)
  | ct (Γ : Ev)
  | xc (x : Exc) (Γ : Ev)
abbrev SF := Ev → Store → Out Fl
def PostS (M : Mi) (W : WX) (D : Ends) (g : Gh) (H : Hp) : Out Fl → Prop
  | .ok (.nx Γ') S' => ∀ σ' g' H', Grow g H g' H' → Rel M.K g' H' S' → Vars M.K g' σ' Γ' → D.nx σ' H'
  | .ok (.rt v) S' => ∀ u g' H', Grow g H g' H' → Rel M.K g' H' S' → RepS M.K g' u v → D.rt u H'
  | .ok (.bk Γ') S' => ∀ σ' g' H', Grow g H g' H' → Rel M.K g' H' S' → Vars M.K g' σ' Γ' → D.bk σ' H'
  | .ok (.ct Γ') S' => ∀ σ' g' H', Grow g H g' H' → Rel M.K g' H' S' → Vars M.K g' σ' Γ' → D.ct σ' H'
  | .ok (.xc x Γ') S' => ∀ cls d σ' g' H', Grow g H g' H' → Rel M.K g' H' S' → Vars M.K g' σ' Γ' → XRep M g'.F x cls d → W cls d σ' H'
  | .ex _ _ => False
  | .no => False
section
variable {α β : Type} {M : Mi} {W : WX} {D D' : Ends} {R : Gh → β → α → Prop} {g g1 : Gh} {H H1 : Hp} {S S1 : Store} {σ : St} {Γ : Ev}
theorem PostS.grow {o : Out Fl} (r : Rel M.K g1 H1 S1) (a : Grow g H g1 H1) (h : PostS M W D g H o) : PostS M W D g1 H1 o := by
  cases o with
  | ok f S' =>
    cases f with
    | nx _ => exact fun σ' g' H' b r' q => h σ' g' H' (a.trans r b) r' q
    | rt _ => exact fun u g' H' b r' q => h u g' H' (a.trans r b) r' q
    | bk _ => exact fun σ' g' H' b r' q => h σ' g' H' (a.trans r b) r' q
    | ct _ => exact fun σ' g' H' b r' q => h σ' g' H' (a.trans r b) r' q
    | xc _ _ => exact fun c d σ' g' H' b r' q => h c d σ' g' H' (a.trans r b) r' q
  | ex x S' => exact h
  | no => exact h
theorem PostS.imp {o : Out Fl} (h1 : ∀ σ H, D.nx σ H → D'.nx σ H) (h2 : ∀ u H, D.rt u H → D'.rt u H) (h3 : ∀ σ H, D.bk σ H → D'.bk σ H) (h4 : ∀ σ H, D.ct σ H → D'.ct σ H) (h : PostS M W D g H o) : PostS M W D' g H o := by
  cases o with
  | ok f S' =>
    cases f with
    | nx _ => exact fun σ' g' H' b r' q => h1 _ _ (h σ' g' H' b r' q)
    | rt _ => exact fun u g' H' b r' q => h2 _ _ (h u g' H' b r' q)
    | bk _ => exact fun σ' g' H' b r' q => h3 _ _ (h σ' g' H' b r' q)
    | ct _ => exact fun σ' g' H' b r' q => h4 _ _ (h σ' g' H' b r' q)
    | xc _ _ => exact h
  | ex x S' => exact h
  | no => exact h
def sB {α : Type} (o : Out α) (Γ : Ev) (k : α → Store → Out Fl) : Out Fl := match o with
  | .ok a S => k a S
  | .ex x S => .ok (.xc x Γ) S
  | .no => .no
/-- an expression within a statement -/
theorem stepS {f : Ev → Store → Out α} {k : α → Store → Out Fl} {Q : β → Hp → Prop} (r : Rel M.K g H S) (v : Vars M.K g σ Γ) (p : PostS M W D g H (sB (f Γ S) Γ k))
    (kk : ∀ u H1 g1 S1 a, Grow g H g1 H1 → Rel M.K g1 H1 S1 → Vars M.K g1 σ Γ → R g1 u a → PostS M W D g1 H1 (k a S1) → Q u H1) : tG M W R f σ H Q := by
  refine ⟨g, Γ, S, r, v, ?_⟩
  cases h : f Γ S with
  | ok a S' =>
    rw [h] at p
    exact fun u g1 H1 gr r1 q => kk u H1 g1 S' a gr r1 (gr.vars v) q (PostS.grow r1 gr p)
  | ex x S' =>
    rw [h] at p
    exact fun cls d g1 H1 gr r1 q => p cls d σ g1 H1 gr r1 (gr.vars v) q
  | no =>
    rw [h] at p
    exact p
end
def tS (M : Mi) (W : WX) (f : SF) : TS := fun D σ H => ∃ g Γ S, Rel M.K g H S ∧ Vars M.K g σ Γ ∧ PostS M W D g H (f Γ S)
abbrev DS (X : Cx) (M : Mi) (W : WX) (s : Stmt) (f : SF) : Prop := PS X s (tS M W f)
abbrev DSs (X : Cx) (M : Mi) (W : WX) (s : List Stmt) (f : SF) : Prop := PSs X s (tS M W f)
section
variable {X : Cx} {M : Mi} {W : WX} {st : Stmt} {rest : List Stmt} {f h : SF} {e : Expr} {fe : EF} {pos : Pos}
def fNil : SF := fun Γ S => .ok (.nx Γ) S
def fSeq (f h : SF) : SF := fun Γ S => match f Γ S with
  | .ok (.nx Γ') S' => h Γ' S'
  | o => o
theorem ss_nil : DSs X M W [] fNil := pss_nil.weak fun D σ H ⟨g, Γ, S, r, v, p⟩ => p σ g H (Grow.refl _ _) r v
theorem ss_cons (h1 : DS X M W st f) (h2 : DSs X M W rest h) : DSs X M W (st :: rest) (fSeq f h) := (pss_cons h1 h2).weak fun D σ H ⟨g, Γ, S, r, v, p⟩ => by
  refine ⟨g, Γ, S, r, v, ?_⟩
  unfold fSeq at p
  cases q : f Γ S with
  | ok fl S' =>
    rw [q] at p
    cases fl with
    | nx Γ' => exact fun σ' g' H' gr r' v' => ⟨g', Γ', S', r', v', PostS.grow r' gr p⟩
    | rt _ => exact p
    | bk _ => exact p
    | ct _ => exact p
    | xc _ _ => exact p
  | ex x S' => rw [q] at p; exact p
  | no => rw [q] at p; exact p
theorem ss_one (h1 : DS X M W st f) : DSs X M W [st] f := pss_one h1
theorem s_pass : DS X M W (.Pass pos) fNil := ps_pass.weak fun D σ H ⟨g, Γ, S, r, v, p⟩ => p σ g H (Grow.refl _ _) r v
def fBreak : SF := fun Γ S => .ok (.bk Γ) S
def fCont : SF := fun Γ S => .ok (.ct Γ) S
theorem s_break : DS X M W (.Break pos) fBreak := ps_break.weak fun D σ H ⟨g, Γ, S, r, v, p⟩ => p σ g H (Grow.refl _ _) r v
theorem s_cont : DS X M W (.Continue pos) fCont := ps_continue.weak fun D σ H ⟨g, Γ, S, r, v, p⟩ => p σ g H (Grow.refl _ _) r v
def fExpr (fe : EF) : SF := fun Γ S => sB (fe Γ S) Γ fun _ S => .ok (.nx Γ) S
theorem s_expr (he : DE X M W e fe) (hs : swapsWith e none pos.line X.env = pure false := by rfl) : DS X M W (.Expr e pos) (fExpr fe) := (ps_expr he hs).weak fun D σ H ⟨g, Γ, S, r, v, p⟩ =>
  stepS r v p fun u H1 g1 S1 a gr r1 v1 q1 p1 => p1 σ g1 H1 (Grow.refl _ _) r1 v1
def fRet (fe : EF) : SF := fun Γ S => sB (fe Γ S) Γ fun v S => .ok (.rt v) S
theorem s_ret (he : DE X M W e fe) : DS X M W (.Return (some e) pos) (fRet fe) := (ps_ret he).weak fun D σ H ⟨g, Γ, S, r, v, p⟩ =>
  stepS r v p fun u H1 g1 S1 a gr r1 v1 q1 p1 => p1 u g1 H1 (Grow.refl _ _) r1 q1
def fRetN : SF := fun _ S => .ok (.rt (.d .none)) S
theorem s_retN : DS X M W (.Return none pos) fRetN := ps_retN.weak fun D σ H ⟨g, Γ, S, r, v, p⟩ => p .non g H (Grow.refl _ _) r .non
def fIf (t : TF) (f h : SF) : SF := fun Γ S => sB (t Γ S) Γ fun b S => if b = true then f Γ S else h Γ S
theorem s_if {c : Expr} {a b : List Stmt} {t : TF} (hc : DT X M W c t) (ha : DSs X M W a f) (hb : DSs X M W b h) : DS X M W (.If c a b pos) (fIf t f h) := (ps_if hc ha hb).weak fun D σ H ⟨g, Γ, S, r, v, p⟩ =>
  stepS r v p fun u H1 g1 S1 a gr r1 v1 q1 p1 => by
    cases q1
    cases u with
    | true => exact ⟨g1, Γ, S1, r1, v1, p1⟩
    | false => exact ⟨g1, Γ, S1, r1, v1, p1⟩

/-! ### targets -/
abbrev GF := SV → Ev → Store → Out Ev
/-- the slots outside T are as they were -/
abbrev OnlyT (T : List Nat) (σ σ' : St) : Prop := σ'.length = σ.length ∧ ∀ j, j ∉ T → σ'[j]? = σ[j]?
def PostG (M : Mi) (T : List Nat) (σ : St) (Q : St → Hp → Prop) (g : Gh) (H : Hp) : Out Ev → Prop
  | .ok Γ' S' => ∀ σ' g' H', OnlyT T σ σ' → Grow g H g' H' → Rel M.K g' H' S' → Vars M.K g' σ' Γ' → Q σ' H'
  | _ => False
theorem PostG.grow {M : Mi} {T : List Nat} {σ : St} {Q : St → Hp → Prop} {g g1 : Gh} {H H1 : Hp} {S1 : Store} {o : Out Ev} (r : Rel M.K g1 H1 S1) (a : Grow g H g1 H1) (h : PostG M T σ Q g H o) : PostG M T σ Q g1 H1 o := by
  cases o with
  | ok Γ' S' => exact fun σ' g' H' t b r' q => h σ' g' H' t (a.trans r b) r' q
  | ex x S' => exact h
  | no => exact h
def tT1 (M : Mi) (T : List Nat) (gf : GF) : L2.TG := fun u σ H Q => ∃ g Γ S v, Rel M.K g H S ∧ Vars M.K g σ Γ ∧ RepS M.K g u v ∧ PostG M T σ Q g H (gf v Γ S)
abbrev DG (X : Cx) (M : Mi) (T : List Nat) (e : Expr) (gf : GF) : Prop := PG X e (tT1 M T gf)
theorem _root_.L2.PG.weak {X : Cx} {e : Expr} {t t' : L2.TG} (h : PG X e t) (k : ∀ u σ H Q, t' u σ H Q → t u σ H Q) : PG X e t' := ⟨fun pins s σ H v u Q I r z => h.run pins s σ H v u Q I r (k _ _ _ _ z)⟩
theorem _root_.L2.PGs.weak {X : Cx} {e : List Expr} {t t' : L2.TGs} (h : PGs X e t) (k : ∀ u σ H Q, t' u σ H Q → t u σ H Q) : PGs X e t' := ⟨fun pins s σ H v u Q I r z => h.run pins s σ H v u Q I r (k _ _ _ _ z)⟩
def gNm (i : Nat) : GF := fun v Γ S => .ok (Γ.set i (some v)) S
theorem g_nm {i : Nat} {x : Str} (hN : X.N.Nodup) (hi : X.N[i]? = some x) (hx : Loc X.env.scope x) (hf : X.fn x = true ∨ X.env.scope.names.lookup x = some .local := by first | exact .inl rfl | exact .inr rfl | assumption) : DG X M [i] (.Name x pos) (gNm i) :=
  (pg_name hN hi hx hf).weak fun u σ H Q ⟨g, Γ, S, v, r, vs, q, p⟩ => p _ g H ⟨List.length_set, fun j hj => List.getElem?_set_ne (fun e => hj (by simp [e]))⟩ (Grow.refl _ _) r (vs.set q i)
/-- several targets: the items of data -/
def gsNil : List PyData → Ev → Store → Out Ev := fun ds Γ S => match ds with
  | [] => .ok Γ S
  | _ => .no
def gsCons (gf : GF) (gr : List PyData → Ev → Store → Out Ev) : List PyData → Ev → Store → Out Ev := fun ds Γ S => match ds with
  | d :: ds => (gf (.d d) Γ S).bind fun Γ S => gr ds Γ S
  | [] => .no
def tTs (M : Mi) (T : List Nat) (gf : List PyData → Ev → Store → Out Ev) : L2.TGs := fun us σ H Q => ∃ g Γ S ds, Rel M.K g H S ∧ Vars M.K g σ Γ ∧ RpAll M.K g.F us ds ∧ PostG M T σ Q g H (gf ds Γ S)
abbrev DGs (X : Cx) (M : Mi) (T : List Nat) (e : List Expr) (gf : List PyData → Ev → Store → Out Ev) : Prop := PGs X e (tTs M T gf)
theorem gs_nil : DGs X M [] [] gsNil := pgs_nil.weak fun u σ H Q ⟨g, Γ, S, ds, r, vs, q, p⟩ => by
  cases q with
  | nil => exact ⟨rfl, p _ g H ⟨rfl, fun _ _ => rfl⟩ (Grow.refl _ _) r vs⟩
  | cons _ _ => exact p.elim
theorem gs_cons {T1 T2 : List Nat} {es : List Expr} {gf : GF} {gr : List PyData → Ev → Store → Out Ev} (h1 : DG X M T1 e gf) (h2 : DGs X M T2 es gr)
    (hs : (assignEach (e :: es) X.env).map (·.2) = assign e X.env :: (assignEach es X.env).map (·.2) := by rfl) : DGs X M (T1 ++ T2) (e :: es) (gsCons gf gr) := (pgs_cons h1 h2 hs).weak fun u σ H Q ⟨g, Γ, S, ds, r, vs, q, p⟩ => by
  cases q with
  | nil => exact p.elim
  | @cons v vr d dr q1 q2 =>
    refine ⟨v, vr, rfl, g, Γ, S, .d d, r, vs, q1, ?_⟩
    unfold gsCons at p
    cases h : gf (.d d) Γ S with
    | ok Γ' S' =>
      simp only [h, Out.bind] at p
      refine fun σ' g' H' t gr' r' v' => ⟨g', Γ', S', dr, r', v', RpAll.sub gr'.sub _ _ q2, ?_⟩
      cases h2 : gr dr Γ' S' with
      | ok Γ2 S2 =>
        rw [h2] at p
        exact fun σ3 g3 H3 t3 gr3 r3 v3 => p σ3 g3 H3 ⟨t3.1.trans t.1, fun j hj => (t3.2 j (fun z => hj (List.mem_append_right _ z))).trans (t.2 j (fun z => hj (List.mem_append_left _ z)))⟩ (gr'.trans r' gr3) r3 v3
      | ex x S2 => rw [h2] at p; exact p
      | no => rw [h2] at p; exact p
    | ex x S' => simp only [h, Out.bind] at p; exact p.elim
    | no => simp only [h, Out.bind] at p; exact p.elim
def gTupF (n : Nat) (gf : List PyData → Ev → Store → Out Ev) : GF := fun v Γ S => match asD v S with
  | some (.tuple ds) => if ds.length = n then gf ds Γ S else .no
  | _ => .no
theorem g_tup (hK : X.K = M.K) {T : List Nat} {es : List Expr} {k n : Nat} {gf : List PyData → Ev → Store → Out Ev} (hc : X.calm = true) (h : DGs X M T es gf)
    (hn : (assignEach es X.env).length = n := by rfl) (hst : (assignEach es X.env).findIdx? (·.1) = none := by rfl) : DG X M T (.Tuple es k pos) (gTupF n gf) := (pg_tup hc h hn hst).weak fun u σ H Q ⟨g, Γ, S, v, r, vs, q, p⟩ => by
  unfold gTupF at p
  split at p
  · rename_i ds e
    obtain ⟨a, ws, rfl, h1, t1, _, _⟩ := asD_tup q e
    split at p
    · rename_i hl
      exact ⟨a, ws, rfl, by rw [hK]; exact SqT.sub r.sub h1, by rw [t1.len]; exact hl, g, Γ, S, ds, r, vs, t1, p⟩
    · exact p.elim
  · exact p.elim
/-- o[i] = v -/
def setS : SV → SV → SV → Store → Out Unit := fun o w v S => match o, w, v with
  | .cell c, .d (.int k), .d x => match S[c]? with
    | some (.lst xs) => match ixN xs.length k with
      | some j => .ok () (S.set c (.lst (xs.set j x)))
      | none => .no
    | _ => .no
  | _, _, _ => .no
def gSubF (fo fi : EF) : GF := fun v Γ S => (fo Γ S).bind fun o S => (fi Γ S).bind fun w S => (setS o w v S).bind fun _ S => .ok Γ S
theorem g_sub {o i : Expr} {fo fi : EF} (ho : DE X M W o fo) (hi : DE X M W i fi)
    (ha : ∀ v, assign (.Subscript o i pos) X.env v = (do
      let ov ← holding [v] (eval o X.env)
      let iv ← holding [v, ov] (eval i X.env)
      standAt pos
      holding [v, ov, iv] (setItem ov iv v)
      release [v, ov, iv] []) := by intro _; rfl) : DG X M [] (.Subscript o i pos) (gSubF fo fi) := (pg_sub ho hi set_list ha).weak fun u σ H Q ⟨g, Γ, S, v, r, vs, q, p⟩ => by
  unfold gSubF at p
  refine ⟨g, Γ, S, r, vs, ?_⟩
  cases h1 : fo Γ S with
  | ok ov S1 =>
    simp only [h1, Out.bind] at p
    intro u1 g1 H1 gr1 r1 q1
    refine ⟨g1, Γ, S1, r1, gr1.vars vs, ?_⟩
    cases h2 : fi Γ S1 with
    | ok w S2 =>
      simp only [h2, Out.bind] at p
      intro u2 g2 H2 gr2 r2 q2
      cases h3 : setS ov w v S2 with
      | ex x S' => rw [h3] at p; exact p.elim
      | no => rw [h3] at p; exact p.elim
      | ok z S3 =>
      rw [h3] at p
      have p' : PostG M [] σ Q g H (.ok Γ S3) := p
      unfold setS at h3
      split at h3
      · rename_i c k x
        split at h3
        · rename_i xs hs
          split at h3
          · rename_i j hj
            cases h3
            have q1' : RepS M.K g2 u1 (.cell c) := gr2.rep q1
            obtain ⟨a, ha, rfl⟩ := q1'
            cases q2
            obtain ⟨hz, ws, hw, tw⟩ := r2.at_ c a _ ha hs
            have qx : Rp M.K g2.F u x := (gr2.rep (gr1.rep q) : RepS M.K g2 u (.d x))
            refine ⟨a, ws, k, j, rfl, rfl, hw, by rw [tw.len]; exact hj, ?_⟩
            obtain ⟨r3, gr3⟩ := r2.put ha (by rw [List.length_set]; exact hz) (tw.set qx j)
            have vs3 := gr3.vars (gr2.vars (gr1.vars vs))
            exact p' σ g2 _ ⟨rfl, fun _ _ => rfl⟩ ((gr1.trans r1 gr2).trans r2 gr3) r3 vs3
          · cases h3
        · cases h3
      · cases h3
    | ex x S' => simp only [h2, Out.bind] at p; exact p.elim
    | no => simp only [h2, Out.bind] at p; exact p.elim
  | ex x S' => simp only [h1, Out.bind] at p; exact p.elim
  | no => simp only [h1, Out.bind] at p; exact p.elim
/-- target = value -/
def fAsg (fe : EF) (gf : GF) : SF := fun Γ S => sB (fe Γ S) Γ fun v S => match gf v Γ S with
  | .ok Γ' S' => .ok (.nx Γ') S'
  | _ => .no
theorem asg_of {T : List Nat} {te : TE} {gf : GF} (ht : ∀ σ H Q, tE M W fe σ H Q → te σ H Q) {D : Ends} {σ : St} {H : Hp} (h : tS M W (fAsg fe gf) D σ H) : tAsg te (tT1 M T gf) D σ H := by
  obtain ⟨g, Γ, S, r, v, p⟩ := h
  refine ht _ _ _ (stepS r v p fun u H1 g1 S1 a gr r1 v1 q1 p1 => ⟨g1, Γ, S1, a, r1, v1, q1, ?_⟩)
  cases h : gf a Γ S1 with
  | ok Γ' S' => rw [h] at p1; exact fun σ' g' H' _ => p1 σ' g' H'
  | ex x S' => rw [h] at p1; exact p1
  | no => rw [h] at p1; exact p1
theorem s_asg {T : List Nat} {tg : Expr} {gf : GF} (he : DE X M W e fe) (hg : DG X M T tg gf) (hs : swapsWithSole [tg] e pos.line X.env = pure false := by rfl) (hw : swappedStores [tg] e X.env = pure none := by rfl)
    (h1 : (assignEach [tg] X.env).map (·.2) = [assign tg X.env] := by rfl) : DS X M W (.Assign [tg] e pos) (fAsg fe gf) := (ps_asg he hg hs hw h1).weak fun D σ H h => asg_of (fun _ _ _ h => h) h
/-- name = value -/
def fSet (i : Nat) (fe : EF) : SF := fun Γ S => sB (fe Γ S) Γ fun v S => .ok (.nx (Γ.set i (some v))) S
theorem set_of {i : Nat} {te : TE} (ht : ∀ σ H Q, tE M W fe σ H Q → te σ H Q) {D : Ends} {σ : St} {H : Hp} (h : tS M W (fSet i fe) D σ H) : tAsg te (gName i) D σ H := by
  obtain ⟨g, Γ, S, r, v, p⟩ := h
  exact ht _ _ _ (stepS r v p fun u H1 g1 S1 a gr r1 v1 q1 p1 => p1 _ g1 H1 (Grow.refl _ _) r1 (v1.set q1 i))
theorem s_set {i : Nat} {x : Str} {pos' : Pos} (hN : X.N.Nodup) (hi : X.N[i]? = some x) (hx : Loc X.env.scope x) (he : DE X M W e fe) (hs : swapsWith e (some (.Name x pos')) pos.line X.env = pure false := by rfl) (hf : X.fn x = true ∨ X.env.scope.names.lookup x = some .local := by first | exact .inl rfl | exact .inr rfl | assumption) :
    DS X M W (.Assign [.Name x pos'] e pos) (fSet i fe) := (ps_set hN hi hx he hs hf).weak fun D σ H h => set_of (fun _ _ _ h => h) h
/-- a, b = x, y of plain local names -/
def fPar (i j : Nat) (af : AF) : SF := fun Γ S => sB (af Γ S) Γ fun vs S => match vs with
  | [v, w] => .ok (.nx ((Γ.set i (some v)).set j (some w))) S
  | _ => .no
theorem s_par {i j : Nat} {x y : Str} {a b : Expr} {af : AF} {px py pt : Pos} {kt k2 : Nat} {pt2 : Pos} (hc : X.calm = true) (hN : X.N.Nodup) (hi : X.N[i]? = some x) (hj : X.N[j]? = some y) (hij : i ≠ j)
    (hx : X.env.scope.names.lookup x = some .local) (hy : X.env.scope.names.lookup y = some .local) (ha : DA X M W [a, b] af)
    (hw : swappedStores [.Tuple [.Name x px, .Name y py] kt pt] (.Tuple [a, b] k2 pt2) X.env = pure (some [x, y]))
    (hs : swapsWithSole [.Tuple [.Name x px, .Name y py] kt pt] (.Tuple [a, b] k2 pt2) pos.line X.env = pure false := by rfl) :
    DS X M W (.Assign [.Tuple [.Name x px, .Name y py] kt pt] (.Tuple [a, b] k2 pt2) pos) (fPar i j af) := (ps_par hc hN hi hj hij hx hy ha hw hs).weak fun D σ H ⟨g, Γ, S, r, v, p⟩ =>
  stepS r v p fun us H1 g1 S1 vs gr r1 v1 q1 p1 => by
    split at p1
    · cases q1 with
      | cons q1 q2 =>
        cases q2 with
        | cons q2 q3 =>
          cases q3
          exact ⟨_, _, rfl, p1 _ g1 H1 (Grow.refl _ _) r1 ((v1.set q1 i).set q2 j)⟩
    · exact p1.elim
/-- name op= e of ints -/
def fAug (i : Nat) (f : Int → Int → Int) (fe : EF) : SF := fun Γ S => match Γ[i]? with
  | some (some (.d (.int a))) => sB (fe Γ S) Γ fun v S => match v with
    | .d (.int b) => .ok (.nx (Γ.set i (some (.d (.int (f a b)))))) S
    | _ => .no
  | _ => .no
end

/-! ### defs -/
abbrev FD := List SV → Store → Out SV
/-- what a def hands back: a list made within is frozen, the store is as long as before -/
def handF (n : Nat) (v : SV) (S : Store) : Out SV := match v with
  | .d x => .ok (.d x) (S.take n)
  | .scr ns => .ok (.scr ns) (S.take n)
  | .cell i => if i < n then .ok (.cell i) (S.take n) else match S[i]? with
    | some (.lst xs) => .ok (.d (.list xs)) (S.take n)
    | none => .no
/-- .. where a list made within is handed back as a cell -/
def handC (n : Nat) (v : SV) (S : Store) : Out SV := match v with
  | .d x => .ok (.d x) (S.take n)
  | .scr ns => .ok (.scr ns) (S.take n)
  | .cell i => if i < n then .ok (.cell i) (S.take n) else match S[i]? with
    | some m => .ok (.cell n) (S.take n ++ [m])
    | none => .no
def runD (hand : Nat → SV → Store → Out SV) (nN : Nat) (f : SF) : FD := fun ds S => match f (ds.map some ++ List.replicate (nN - ds.length) none) S with
  | .ok (.rt v) S' => hand S.length v S'
  | .ok (.nx _) S' => .ok (.d .none) (S'.take S.length)
  | .ok (.xc x _) S' => .ex x (S'.take S.length)
  | _ => .no
def spD (M : Mi) (n : Nat) (F : FD) : Sp := fun vs H Q E => vs.length = n ∧ ∃ g S ds, Rel M.K g H S ∧ RepA M.K g vs ds ∧ Post M (fun cls d _ H => E cls d H) [] (rS M) Q g H (F ds S)
section
variable {K : PySem.W.Frag} {g g' : Gh} {H H' : Hp} {S S' : Store} {M : Mi}
def Gh.cut (g : Gh) (n : Nat) : Gh := ⟨g.B.take n, g.F⟩
theorem Rel.cut (r : Rel K g' H' S') (gr : Grow g H g' H') (n : Nat) (hn : g.B.length = n) : Rel K (g'.cut n) H' (S'.take n) ∧ Grow g H (g'.cut n) H' ∧ (g'.cut n).B = g.B := by
  obtain ⟨C, e⟩ := gr.pre
  have eB : (g'.cut n).B = g.B := by show g'.B.take n = g.B; rw [e, ← hn]; simp
  have mem : ∀ b, b ∈ (g'.cut n).B → b ∈ g'.B := fun b hb => List.mem_of_mem_take hb
  refine ⟨⟨r.sub, ?_, fun b hb => r.dis b (mem b hb), ?_, fun i a m e1 e2 => ?_⟩, ⟨⟨[], by rw [eB]; simp⟩, gr.sub, gr.frm, fun b hb => .inl (by rw [← eB]; exact hb), gr.newF⟩, eB⟩
  · exact r.nd.sublist (List.take_sublist _ _)
  · show (g'.B.take n).length = (S'.take n).length
    rw [List.length_take, List.length_take, r.len]
  · have e1' : (g'.B.take n)[i]? = some a := e1
    by_cases hi : i < n
    · rw [List.getElem?_take_of_lt hi] at e1' e2
      exact r.at_ i a m e1' e2
    · rw [List.getElem?_take_eq_none (Nat.le_of_not_lt hi)] at e1'; cases e1'
/-- a cell made within is frozen -/
theorem Rel.thaw (r : Rel K g' H' S') (gr : Grow g H g' H') (n : Nat) (hn : g.B.length = n) {i : Nat} (hi : n ≤ i) {a : Addr} (ha : g'.B[i]? = some a) {xs : List PyData} (hS : S'[i]? = some (.lst xs)) :
    ∃ g2, Rel K g2 H' (S'.take n) ∧ Grow g H g2 H' ∧ Rp K g2.F (.ref a) (.list xs) := by
  obtain ⟨hz, vs, hv, tv⟩ := r.at_ i a _ ha hS
  obtain ⟨r2, gr2, eB⟩ := r.cut gr n hn
  have am : a ∈ g'.B := List.mem_of_getElem? ha
  have hF := r.dis a am
  have nB : a ∉ g.B := fun hm => by
    rw [← eB] at hm
    obtain ⟨j, hj, ej⟩ := List.getElem_of_mem hm
    have hjn : j < n := Nat.lt_of_lt_of_le hj (by show (g'.B.take n).length ≤ n; rw [List.length_take]; exact Nat.min_le_left _ _)
    have e1 : g'.B[j]? = some a := by
      have := List.getElem?_eq_getElem hj
      rw [ej] at this
      have t : (g'.B.take n)[j]? = some a := this
      rwa [List.getElem?_take_of_lt hjn] at t
    obtain ⟨h1, e1'⟩ := List.getElem?_eq_some_iff.mp ha
    obtain ⟨h2, e2'⟩ := List.getElem?_eq_some_iff.mp e1
    have := (List.getElem_inj r.nd).mp (e1'.trans e2'.symm)
    omega
  have hn0 : H a = none := by
    rcases gr.newB a am with h | h
    · exact absurd h nB
    · exact h
  have ne : ∀ b ∈ (g'.cut n).B, b ≠ a := fun b hb e => nB (by rw [← eB]; exact e ▸ hb)
  refine ⟨⟨(g'.cut n).B, upd g'.F a (.lst vs)⟩, ⟨fun b u e => ?_, r2.nd, fun b hb => ?_, r2.len, fun j b m e1 e2 => (r2.at_ j b m e1 e2).sub (sub_upd hF)⟩, ⟨gr2.pre, fun b o e => sub_upd hF b o (gr.sub b o e), gr.frm, gr2.newB, fun b u e => ?_⟩, ?_⟩
  · have e' : upd g'.F a (.lst vs) b = some u := e
    by_cases hb : b = a
    · subst hb; rw [upd_same] at e'; cases e'; exact hv
    · rw [upd_ne hb] at e'; exact r.sub _ _ e'
  · show upd g'.F a _ b = none
    rw [upd_ne (ne b hb)]; exact r2.dis b hb
  · have e' : upd g'.F a (.lst vs) b = some u := e
    by_cases hb : b = a
    · subst hb; exact .inr hn0
    · rw [upd_ne hb] at e'; exact gr.newF _ _ e'
  · exact Rp.lst upd_same hz (RpAll.sub (sub_upd hF) _ _ tv)
end
/-- how a def hands back -/
def HandOk (M : Mi) (hand : Nat → SV → Store → Out SV) : Prop := ∀ (W : WX) (σ : St) (Q : VK) (g : Gh) (H : Hp) (g' : Gh) (H' : Hp) (S' : Store) (n : Nat) (u : V) (v : SV),
  g.B.length = n → Grow g H g' H' → Rel M.K g' H' S' → RepS M.K g' u v → Post M W σ (rS M) Q g H (hand n v S') → Q u H'
theorem hand_f {M : Mi} : HandOk M handF := by
  intro W σ Q g H g' H' S' n u v hn gr r q p
  obtain ⟨r2, gr2, eB⟩ := r.cut gr n hn
  unfold handF at p
  split at p
  · exact p u _ _ gr2 r2 q
  · obtain ⟨a, rfl, h⟩ := q
    exact p _ _ _ gr2 r2 ⟨a, rfl, h⟩
  · rename_i i
    obtain ⟨a, ha, rfl⟩ := q
    split at p
    · rename_i hi
      exact p _ _ _ gr2 r2 ⟨a, by show (g'.B.take n)[i]? = some a; rw [List.getElem?_take_of_lt hi]; exact ha, rfl⟩
    · rename_i hi
      split at p
      · rename_i xs hS
        obtain ⟨g2, r3, gr3, q3⟩ := r.thaw gr n hn (Nat.le_of_not_lt hi) ha hS
        exact p _ _ _ gr3 r3 q3
      · exact p.elim
theorem hand_c {M : Mi} : HandOk M handC := by
  intro W σ Q g H g' H' S' n u v hn gr r q p
  obtain ⟨r2, gr2, eB⟩ := r.cut gr n hn
  unfold handC at p
  split at p
  · exact p u _ _ gr2 r2 q
  · obtain ⟨a, rfl, h⟩ := q
    exact p _ _ _ gr2 r2 ⟨a, rfl, h⟩
  · rename_i i
    obtain ⟨a, ha, rfl⟩ := q
    split at p
    · rename_i hi
      exact p _ _ _ gr2 r2 ⟨a, by show (g'.B.take n)[i]? = some a; rw [List.getElem?_take_of_lt hi]; exact ha, rfl⟩
    · rename_i hi
      split at p
      · rename_i m hS
        have am : a ∈ g'.B := List.mem_of_getElem? ha
        have nB : a ∉ (g'.cut n).B := fun hm => by
          obtain ⟨j, hj, ej⟩ := List.getElem_of_mem hm
          have hjn : j < n := Nat.lt_of_lt_of_le hj (by show (g'.B.take n).length ≤ n; rw [List.length_take]; exact Nat.min_le_left _ _)
          have e1 : g'.B[j]? = some a := by
            have := List.getElem?_eq_getElem hj
            rw [ej] at this
            have t : (g'.B.take n)[j]? = some a := this
            rwa [List.getElem?_take_of_lt hjn] at t
          obtain ⟨h1, e1'⟩ := List.getElem?_eq_some_iff.mp ha
          obtain ⟨h2, e2'⟩ := List.getElem?_eq_some_iff.mp e1
          have := (List.getElem_inj r.nd).mp (e1'.trans e2'.symm)
          omega
        have hn0 : H a = none := by
          rcases gr.newB a am with h | h
          · exact absurd (by rw [eB]; exact h) nB
          · exact h
        have hl : (g'.cut n).B.length = n := by rw [eB]; exact hn
        refine p (.ref a) ⟨(g'.cut n).B ++ [a], g'.F⟩ H' ⟨⟨[a], by rw [eB]⟩, gr2.sub, gr2.frm, fun b hb => ?_, gr2.newF⟩ ⟨r.sub, ?_, fun b hb => ?_, ?_, fun j b m' e1 e2 => ?_⟩ ⟨a, ?_, rfl⟩
        · rcases List.mem_append.mp hb with h | h
          · exact gr2.newB b h
          · simp at h; subst h; exact .inr hn0
        · show ((g'.cut n).B ++ [a]).Nodup
          rw [List.nodup_append]
          exact ⟨r2.nd, by simp, fun b hb c hc => by simp at hc; subst hc; exact fun e => nB (e ▸ hb)⟩
        · rcases List.mem_append.mp hb with h | h
          · exact r2.dis b h
          · simp at h; subst h; exact r.dis _ am
        · show ((g'.cut n).B ++ [a]).length = _
          rw [List.length_append, List.length_append, r2.len]; rfl
        · have e1' : ((g'.cut n).B ++ [a])[j]? = some b := e1
          by_cases hj : j < (g'.cut n).B.length
          · rw [List.getElem?_append_left hj] at e1'
            rw [List.getElem?_append_left (by rw [← r2.len]; exact hj)] at e2
            exact r2.at_ j b m' e1' e2
          · have hl2 := (List.getElem?_eq_some_iff.mp e1').1
            rw [List.length_append, List.length_singleton] at hl2
            have ej : j = (g'.cut n).B.length := by omega
            subst ej
            rw [List.getElem?_append_right (Nat.le_refl _), Nat.sub_self] at e1'
            rw [r2.len, List.getElem?_append_right (Nat.le_refl _), Nat.sub_self] at e2
            cases e1'
            cases e2
            exact r.at_ i a m ha hS
        · show ((g'.cut n).B ++ [a])[n]? = some a
          rw [List.getElem?_append_right (by rw [hl]; exact Nat.le_refl _), hl, Nat.sub_self]; rfl
      · exact p.elim
section
variable {P : Program} {w : World} {K : PySem.W.Frag} {mg : Str → Option Value} {base : Heap}
theorem start_vars {K : PySem.W.Frag} {g : Gh} {N : List Str} : ∀ {vs : List V} {ds : List SV}, RepA K g vs ds → Vars K g (L2.start N vs) (ds.map some ++ List.replicate (N.length - ds.length) none) := by
  intro vs ds h
  have hl := h.len
  refine ⟨by unfold L2.start; rw [List.length_append, List.length_append, List.length_map, List.length_map, List.length_replicate, List.length_replicate, hl], fun i x e => ?_⟩
  by_cases hi : i < ds.length
  · rw [List.getElem?_append_left (by simpa using hi), List.getElem?_map] at e
    have key : ∀ {vs : List V} {ds : List SV} {i : Nat} {x : SV}, RepA K g vs ds → ds[i]? = some x → ∃ v, vs[i]? = some v ∧ RepS K g v x := by
      intro vs ds i x h
      induction h generalizing i with
      | nil => intro e; simp at e
      | cons r t ih =>
        intro e
        cases i with
        | zero => simp at e; subst e; exact ⟨_, rfl, r⟩
        | succ i => exact ih (by simpa using e)
    cases q : ds[i]? with
    | none => rw [q] at e; cases e
    | some y =>
      rw [q] at e
      have e' : some (some y) = some (some x) := e
      cases e'
      obtain ⟨v, h1, h2⟩ := key h q
      refine ⟨v, ?_, h2⟩
      unfold L2.start
      have hlt : i < vs.length := by rw [hl]; exact hi
      rw [List.getElem?_append_left (by simpa using hlt), List.getElem?_map, h1]; rfl
  · rw [List.getElem?_append_right (by simpa using Nat.le_of_not_lt hi)] at e
    obtain ⟨_, e2⟩ := List.getElem?_eq_some_iff.mp e
    rw [List.getElem_replicate] at e2
    cases e2
/-- a def that is known -/
structure DefD (P : Program) (w : World) (K : PySem.W.Frag) (mg : Str → Option Value) (base : Heap) (M : Mi) (k : Nat) (name : Str) (n : Nat) (F : FD) : Prop where
  ok : ∃ f fd ps, FnOk P w K mg base (L2.CX P w) k f fd ps (spD M n F) ∧ mg name = some (.ref f) ∧ PySem.W.keepIn K (.ref f) = true ∧ Binds K fd ps []
/-- THE RULE for a def: its body's meaning -/
theorem def_ok {M : Mi} {x qual : Str} {st : Stmt} {f : Addr} {fd : FuncData} {N ps : List Str} {k : Nat} {body : SF} {hand : Nat → SV → Store → Out SV} (hh : HandOk M hand) (F : Fun K x qual st f fd) (S : FnScope N ps (defScope st)) (hm : mg x = some (.ref f)) (hb : Binds K fd ps [])
    (h : ∀ (X : Cx) (W : WX), X.prog = P → X.w = w → X.K = K → X.mg = mg → X.base = base → X.N = N → X.calm = true → X.env.scope = defScope st → (∀ x, X.fn x = true) → Room k X.A → Takes X W → PassesOwn (model X.prog X.w) X.A X.env X.xe → X.stack = X.env :: X.outer → X.env.frame = some X.env.locals → DSs X M W (defBody st) body) :
    DefD P w K mg base M (k + 1) x ps.length (runD hand N.length body) := by
  refine ⟨f, fd, ps, ?_, hm, F.kp, hb⟩
  refine F.okX S (fun vs H Q E h => h.1) fun cdv A outer s H vs Q E hr hsp => ?_
  obtain ⟨hl, g, S0, ds, r, q, p⟩ := hsp
  refine ⟨_, h _ (fun cls d _ H => E cls d H) rfl rfl rfl rfl rfl rfl rfl rfl (fun _ => rfl) hr (takes_of rfl rfl rfl rfl) (passes_of rfl) rfl rfl, g, _, S0, r, start_vars q, ?_⟩
  unfold runD at p
  have hB : g.B.length = S0.length := r.len
  split at p
  · rename_i v S' e
    rw [e]
    exact fun u g' H' gr r' q' => hh _ _ _ _ _ _ _ _ _ _ _ hB gr r' q' p
  · rename_i Γ' S' e
    rw [e]
    intro σ' g' H' gr r' v'
    obtain ⟨r2, gr2, _⟩ := r'.cut gr _ hB
    exact p .non _ _ gr2 r2 .non
  · rename_i x Γ' S' e
    rw [e]
    intro cls d σ' g' H' gr r' v' q'
    obtain ⟨r2, gr2, _⟩ := r'.cut gr _ hB
    exact p cls d _ _ gr2 r2 q'
  · exact p.elim
end
section
variable {X : Cx} {M : Mi} {W : WX} {e : Expr} {es : List Expr} {af : AF} {pos p : Pos} {x : Str}
def eCallD (n : Nat) (F : FD) (af : AF) : EF := fun Γ S => (af Γ S).bind fun vs S => if vs.length = n then F vs S else .no
theorem d_call {k n : Nat} {F : FD} (D : DefD X.prog X.w X.K X.mg X.base M k x n F) (hr : Room k X.A) (tk : Takes X W) (hg : Gl X x) (ha : DA X M W (e :: es) af)
    (hdb : (x == ("__debug__" : Str)) = false := by decide) (he : starEach (e :: es) X.env = (false, eval e X.env) :: starEach es X.env := by rfl) (hpl : (backTo pos (starEach es X.env)).any (·.1) = false := by rfl) :
    DE X M W (.Call (.Name x p) (e :: es) [] pos) (eCallD n F af) := by
  obtain ⟨f, fd, ps, hF, hm, hk, hb⟩ := D.ok
  refine (pe_callSD hF hr hg hm hk hb .nil (fun σ => passAt tk σ) ha hdb he hpl).weak fun σ H Q h => ?_
  obtain ⟨g, Γ, S, r, v, p⟩ := h
  refine step r v p fun us H1 g1 S1 vs gr r1 v1 q1 p1 => ?_
  split at p1
  · rename_i hl
    rw [List.append_nil]
    refine ⟨by rw [q1.len]; exact hl, g1, S1, vs, r1, q1, ?_⟩
    cases h : F vs S1 with
    | ok a S' => rw [h] at p1; exact p1
    | ex x S' => rw [h] at p1; exact p1
    | no => rw [h] at p1; exact p1
  · exact p1.elim
end
end DL
/-! D6: for, while, comprehensions. -/
namespace DL
open PySem L2

/-- what is walked: its items; what must hold of the store at each turn -/
structure Src where
  items : List PyData
  ok : Store → Bool
abbrev IF := Ev → Store → Out Src
def ItR (K : PySem.W.Frag) (g0 : Gh) (J : It) (s : Src) : Prop := ∀ g H S, Rel K g H S → (∃ C, g.B = g0.B ++ C) → Sub g0.F g.F → s.ok S = true →
  J.stop s.items.length H ∧ ∀ i d, s.items[i]? = some d → J.go i H ∧ ∀ x H', J.yld i H x H' → ∃ g', Grow g H g' H' ∧ Rel K g' H' S ∧ Rp K g'.F x d
def rIt (M : Mi) : Gh → It → Src → Prop := fun g J s => s.items.length ≤ 16777216 ∧ ItR M.K g J s
def tI (M : Mi) (W : WX) (f : IF) : TI := tG M W (rIt M) f
abbrev DI (X : Cx) (M : Mi) (W : WX) (tg e : Expr) (f : IF) : Prop := PI X tg e (tI M W f)
theorem _root_.L2.PI.weak {X : Cx} {tg e : Expr} {t t' : TI} (h : PI X tg e t) (k : ∀ σ H Q, t' σ H Q → t σ H Q) : PI X tg e t' := ⟨fun pins s σ H R I z => h.run pins s σ H R I (k _ _ _ z)⟩

/-! ### for -/
def forL (ok : Store → Bool) (gf : GF) (b : SF) : List PyData → SF
  | [] => fun Γ S => if ok S then .ok (.nx Γ) S else .no
  | d :: ds => fun Γ S => if ok S then (match gf (.d d) Γ S with
    | .ok Γ1 S1 => match b Γ1 S1 with
      | .ok (.nx Γ2) S2 => forL ok gf b ds Γ2 S2
      | .ok (.ct Γ2) S2 => forL ok gf b ds Γ2 S2
      | .ok (.bk Γ2) S2 => .ok (.nx Γ2) S2
      | o => o
    | _ => .no) else .no
def fFor (f : IF) (gf : GF) (b : SF) : SF := fun Γ S => sB (f Γ S) Γ fun s S => forL s.ok gf b s.items Γ S
theorem PostS.ok_of {M : Mi} {W : WX} {D : Ends} {g : Gh} {H : Hp} {ok : Store → Bool} {gf : GF} {b : SF} : ∀ {ds : List PyData} {Γ : Ev} {S : Store}, PostS M W D g H (forL ok gf b ds Γ S) → ok S = true
  | [], Γ, S, h => by
    unfold forL at h
    split at h
    · assumption
    · exact h.elim
  | d :: ds, Γ, S, h => by
    unfold forL at h
    split at h
    · assumption
    · exact h.elim
theorem s_for {X : Cx} {M : Mi} {W : WX} {T : List Nat} {tg iter : Expr} {body : List Stmt} {f : IF} {gf : GF} {b : SF} {pos : Pos} (hp : PassesOwn (model X.prog X.w) X.A X.env X.xe) (hc : X.calm = true) (hi : DI X M W tg iter f) (hg : DG X M T tg gf) (hb : DSs X M W body b)
    (hs : ∀ x, foldedSetIterable iter X.env x = pure x := by intro _; rfl) : DS X M W (.For tg iter body [] pos) (fFor f gf b) := (ps_for hp hc hi hg hb hs).weak fun D σ H h => by
  obtain ⟨g0, Γ0, S0, r0, v0, p0⟩ := h
  refine stepS r0 v0 p0 fun J H1 g1 S1 s gr1 r1 v1 q1 p1 => ?_
  obtain ⟨hz, q1⟩ := q1
  refine ⟨fun i m σ H => m = s.items.length - i ∧ i ≤ s.items.length ∧ ∃ g Γ S, Rel M.K g H S ∧ Vars M.K g σ Γ ∧ (∃ C, g.B = g1.B ++ C) ∧ Sub g1.F g.F ∧ PostS M W D g H (forL s.ok gf b (s.items.drop i) Γ S),
    ⟨_, rfl, Nat.zero_le _, g1, Γ0, S1, r1, v1, ⟨[], by simp⟩, fun _ _ h => h, by rw [List.drop_zero]; exact p1⟩, ?_⟩
  rintro i m σ H ⟨rfl, hi, g, Γ, S, r, v, hB, hF, p⟩
  have hok := PostS.ok_of p
  obtain ⟨hst, hgo⟩ := q1 g H S r hB hF hok
  by_cases hlt : i < s.items.length
  · have e : s.items[i]? = some s.items[i] := List.getElem?_eq_getElem hlt
    obtain ⟨go, yl⟩ := hgo i _ e
    refine .inr ⟨go, fun σ' H' => ∃ g Γ S, Rel M.K g H' S ∧ Vars M.K g σ' Γ ∧ (∃ C, g.B = g1.B ++ C) ∧ Sub g1.F g.F ∧ PostS M W D g H' (forL s.ok gf b (s.items.drop (i + 1)) Γ S), fun σ' H' h => ⟨s.items.length - (i + 1), by omega, rfl, hlt, h⟩, fun x H' y => ?_⟩
    obtain ⟨g', gr', r', rp⟩ := yl x H' y
    rw [List.drop_eq_getElem_cons hlt] at p
    unfold forL at p
    rw [if_pos hok] at p
    refine ⟨g', Γ, S, .d s.items[i], r', gr'.vars v, rp, ?_⟩
    cases h1 : gf (.d s.items[i]) Γ S with
    | ok Γ1 S1' =>
      rw [h1] at p
      intro σ2 g2 H2 _ gr2 r2 v2
      refine ⟨g2, Γ1, S1', r2, v2, ?_⟩
      have key : ∀ {g3 : Gh} {H3 : Hp} {S3 : Store}, Grow g2 H2 g3 H3 → Rel M.K g3 H3 S3 → Grow g H g3 H3 ∧ (∃ C, g3.B = g1.B ++ C) ∧ Sub g1.F g3.F := fun {g3 H3 S3} gr3 r3 => by
        have gr := (gr'.trans r' gr2).trans r2 gr3
        refine ⟨gr, ?_, fun b o e => gr.sub _ _ (hF _ _ e)⟩
        obtain ⟨C, e1⟩ := hB
        obtain ⟨C', e2⟩ := gr.pre
        exact ⟨C ++ C', by rw [e2, e1, List.append_assoc]⟩
      cases h2 : b Γ1 S1' with
      | ok fl S2 =>
        simp only [h2] at p
        cases fl with
        | nx Γ2 =>
          intro σ3 g3 H3 gr3 r3 v3
          obtain ⟨k1, k2, k3⟩ := key gr3 r3
          exact ⟨g3, Γ2, S2, r3, v3, k2, k3, PostS.grow r3 k1 p⟩
        | ct Γ2 =>
          intro σ3 g3 H3 gr3 r3 v3
          obtain ⟨k1, k2, k3⟩ := key gr3 r3
          exact ⟨g3, Γ2, S2, r3, v3, k2, k3, PostS.grow r3 k1 p⟩
        | bk Γ2 =>
          intro σ3 g3 H3 gr3 r3 v3
          exact p σ3 g3 H3 (key gr3 r3).1 r3 v3
        | rt v =>
          intro u g3 H3 gr3 r3 q3
          exact p u g3 H3 (key gr3 r3).1 r3 q3
        | xc x Γ2 =>
          intro c d σ3 g3 H3 gr3 r3 v3 q3
          exact p c d σ3 g3 H3 (key gr3 r3).1 r3 v3 q3
      | ex x S2 => simp only [h2] at p; exact p
      | no => simp only [h2] at p; exact p
    | ex x S' => rw [h1] at p; exact p
    | no => rw [h1] at p; exact p
  · have e : i = s.items.length := by omega
    subst e
    rw [List.drop_length] at p
    unfold forL at p
    rw [if_pos hok] at p
    exact .inl ⟨hst, p σ g H (Grow.refl _ _) r v⟩

/-! ### while -/
def whF (t : TF) (b : SF) : Nat → SF
  | 0 => fun _ _ => .no
  | n + 1 => fun Γ S => sB (t Γ S) Γ fun k S => if k = true then (match b Γ S with
    | .ok (.nx Γ') S' => whF t b n Γ' S'
    | .ok (.ct Γ') S' => whF t b n Γ' S'
    | .ok (.bk Γ') S' => .ok (.nx Γ') S'
    | o => o) else .ok (.nx Γ) S
def fWhile (fuel : Ev → Store → Nat) (t : TF) (b : SF) : SF := fun Γ S => whF t b (fuel Γ S) Γ S
theorem s_while {X : Cx} {M : Mi} {W : WX} {c : Expr} {body : List Stmt} {t : TF} {b : SF} {pos : Pos} (fuel : Ev → Store → Nat) (hp : PassesOwn (model X.prog X.w) X.A X.env X.xe) (hc : DT X M W c t) (hb : DSs X M W body b) : DS X M W (.While c body [] pos) (fWhile fuel t b) := (ps_while hp hc hb).weak fun D σ H h => by
  obtain ⟨g0, Γ0, S0, r0, v0, p0⟩ := h
  refine ⟨fun m σ H => ∃ g Γ S, Rel M.K g H S ∧ Vars M.K g σ Γ ∧ PostS M W D g H (whF t b m Γ S), ⟨_, g0, Γ0, S0, r0, v0, p0⟩, ?_⟩
  rintro m σ H ⟨g, Γ, S, r, v, p⟩
  cases m with
  | zero => exact p.elim
  | succ m =>
    unfold whF at p
    refine stepS r v p fun k H1 g1 S1 k' gr1 r1 v1 q1 p1 => ?_
    cases q1
    cases k with
    | false => exact iteF (p1 σ g1 H1 (Grow.refl _ _) r1 v1)
    | true =>
      rw [if_pos rfl] at p1
      refine iteT ⟨fun σ' H' => ∃ g Γ S, Rel M.K g H' S ∧ Vars M.K g σ' Γ ∧ PostS M W D g H' (whF t b m Γ S), fun σ' H' h => ⟨m, Nat.lt_succ_self _, h⟩, g1, Γ, S1, r1, v1, ?_⟩
      cases h2 : b Γ S1 with
      | ok fl S2 =>
        simp only [h2] at p1
        cases fl with
        | nx Γ2 => exact fun σ3 g3 H3 gr3 r3 v3 => ⟨g3, Γ2, S2, r3, v3, PostS.grow r3 gr3 p1⟩
        | ct Γ2 => exact fun σ3 g3 H3 gr3 r3 v3 => ⟨g3, Γ2, S2, r3, v3, PostS.grow r3 gr3 p1⟩
        | bk Γ2 => exact p1
        | rt v => exact p1
        | xc x Γ2 => exact p1
      | ex x S2 => simp only [h2] at p1; exact p1
      | no => simp only [h2] at p1; exact p1

/-! ### what is walked -/
section
variable {X : Cx} {M : Mi} {W : WX} {tg a b : Expr} {fa fb : EF} {pos p : Pos}
def iSeq (K : PySem.W.Frag) (tl : TE) : TI := fun σ H R => tl σ H fun x H1 => ∃ a, x = .ref a ∧ (((∃ xs, SqL K H1 a xs) ∧ R (Itl K a) H1) ∨ ((∃ xs, SqT K H1 a xs) ∧ R (Itt K a) H1))
theorem pi_seq {l : Expr} {tl : TE} (hl : PE X l tl) : PI X tg l (iSeq X.K tl) := by
  refine ⟨fun pins s σ H R I h => ?_⟩
  refine thn (hl.run pins s σ H _ I h) fun v s1 ⟨x, H1, I1, r1, q1⟩ => ?_
  obtain ⟨a, e, q | q⟩ := q1
  · obtain ⟨⟨xs, hq⟩, q⟩ := q
    subst e
    cases r1
    obtain ⟨its, rv, p, hz⟩ := I1.list hq
    refine wpAny_pyIter_list p.isList ?_
    refine ⟨s1.heap.objs.size, [s1.heap.objs.size], _, _, H1, rfl, I1.kept (t' := s1.toks) fun b o e => Heap.get?_push_of_some _ e, turn_list a _, ⟨_, Heap.get?_push_size _ rfl, rfl, rfl⟩, fun b hb => ?_, q⟩
    have e : b = s1.heap.objs.size := by simpa using hb
    subst e
    exact I1.fpOk (Nat.le_refl _) (I1.hok.fresh (Nat.le_refl _))
  · obtain ⟨⟨xs, hq⟩, q⟩ := q
    subst e
    cases r1
    obtain ⟨its, rv, p, hz⟩ := I1.tuple hq
    refine wpAny_pyIter_tuple (show s1.heap.IsTuple a its.toArray from p) ?_
    refine ⟨s1.heap.objs.size, [s1.heap.objs.size], _, _, H1, rfl, I1.kept (t' := s1.toks) fun b o e => Heap.get?_push_of_some _ e, turn_tuple a _, ⟨_, Heap.get?_push_size _ rfl, rfl, rfl⟩, fun b hb => ?_, q⟩
    have e : b = s1.heap.objs.size := by simpa using hb
    subst e
    exact I1.fpOk (Nat.le_refl _) (I1.hok.fresh (Nat.le_refl _))
mutual
/-- whether two data are the same, to the sign -/
def eqP : PyData → PyData → Bool
  | .none, .none => true
  | .bool a, .bool b => a == b
  | .int a, .int b => a == b
  | .str a, .str b => decide (a = b)
  | .list a, .list b => eqPs a b
  | .tuple a, .tuple b => eqPs a b
  | _, _ => false
def eqPs : List PyData → List PyData → Bool
  | [], [] => true
  | a :: as, b :: bs => eqP a b && eqPs as bs
  | _, _ => false
end
mutual
theorem eqP_eq : ∀ (a b : PyData), eqP a b = true → a = b
  | .none, b, h => by cases b <;> simp [eqP] at h ⊢
  | .bool a, b, h => by cases b <;> simp [eqP] at h ⊢ <;> exact h
  | .int a, b, h => by cases b <;> simp [eqP] at h ⊢ <;> exact h
  | .str a, b, h => by cases b <;> simp [eqP] at h ⊢ <;> exact h
  | .list a, b, h => by
    cases b <;> simp [eqP] at h ⊢
    exact eqPs_eq _ _ h
  | .tuple a, b, h => by
    cases b <;> simp [eqP] at h ⊢
    exact eqPs_eq _ _ h
  | .dict a, b, h => by cases b <;> simp [eqP] at h
theorem eqPs_eq : ∀ (a b : List PyData), eqPs a b = true → a = b
  | [], b, h => by cases b <;> simp [eqPs] at h ⊢
  | a :: as, b, h => by
    cases b with
    | nil => simp [eqPs] at h
    | cons b bs =>
      simp only [eqPs, Bool.and_eq_true] at h
      rw [eqP_eq _ _ h.1, eqPs_eq _ _ h.2]
end
/-- a list, a tuple, the script; a cell (it must stay as it is) -/
def srcS : SV → Store → Out Src := fun v S => match v with
  | .d (.list xs) => .ok ⟨xs, fun _ => true⟩ S
  | .d (.tuple xs) => .ok ⟨xs, fun _ => true⟩ S
  | .scr ns => if ns.length ≤ 16777216 then .ok ⟨ns.map .int, fun _ => true⟩ S else .no
  | .cell c => match S[c]? with
    | some (.lst xs) => .ok ⟨xs, fun S => match S[c]? with
      | some (.lst ys) => eqPs ys xs
      | none => false⟩ S
    | none => .no
  | _ => .no
def iSrc (fa : EF) : IF := fun Γ S => (fa Γ S).bind fun v S => srcS v S
theorem itR_list {K : PySem.W.Frag} {g0 : Gh} {a : Addr} {vs : List V} {ds : List PyData} (h : ∀ g H S, Rel K g H S → Sub g0.F g.F → SqL K H a vs) (t : RpAll K g0.F vs ds) : ItR K g0 (Itl K a) ⟨ds, fun _ => true⟩ := by
  intro g H S r hB hF _
  have q := h g H S r hF
  refine ⟨⟨vs, q, by rw [t.len]; exact Nat.le_refl _⟩, fun i d e => ?_⟩
  obtain ⟨v, hv, rv⟩ := t.get e
  refine ⟨⟨vs, v, q, hv⟩, fun x H' y => ?_⟩
  obtain ⟨e1, y⟩ := y
  subst e1
  have := y vs q
  rw [hv] at this
  cases this
  exact ⟨g, Grow.refl _ _, r, Rp.sub hF _ _ rv⟩
theorem itR_tup {K : PySem.W.Frag} {g0 : Gh} {a : Addr} {vs : List V} {ds : List PyData} (h : SqT K g0.F a vs) (t : RpAll K g0.F vs ds) : ItR K g0 (Itt K a) ⟨ds, fun _ => true⟩ := by
  intro g H S r hB hF _
  have q : SqT K H a vs := SqT.sub (fun b o e => r.sub _ _ (hF _ _ e)) h
  refine ⟨⟨vs, q, by rw [t.len]; exact Nat.le_refl _⟩, fun i d e => ?_⟩
  obtain ⟨v, hv, rv⟩ := t.get e
  refine ⟨⟨vs, v, q, hv⟩, fun x H' y => ?_⟩
  obtain ⟨e1, y⟩ := y
  subst e1
  have := y vs q
  rw [hv] at this
  cases this
  exact ⟨g, Grow.refl _ _, r, Rp.sub hF _ _ rv⟩
theorem i_src (hK : X.K = M.K) (ha : DE X M W a fa) : DI X M W tg a (iSrc fa) := (pi_seq ha).weak fun σ H R h => by
  obtain ⟨g, Γ, S, r, v, p⟩ := h
  refine step r v p fun u H1 g1 S1 w gr r1 v1 q1 p1 => ?_
  rw [hK]
  unfold srcS at p1
  split at p1
  · rename_i xs
    cases q1 with
    | lst h1 z t => exact ⟨_, rfl, .inl ⟨⟨_, SqL.of (r1.sub _ _ h1)⟩, p1.now r1 ⟨z, itR_list (fun g H S r hF => SqL.of (r.sub _ _ (hF _ _ h1))) t⟩⟩⟩
  · rename_i xs
    cases q1 with
    | tup h1 z t => exact ⟨_, rfl, .inr ⟨⟨_, SqT.sub r1.sub h1⟩, p1.now r1 ⟨z, itR_tup h1 t⟩⟩⟩
  · rename_i ns
    obtain ⟨c, rfl, h1⟩ := q1
    split at p1
    · rename_i hz
      exact ⟨_, rfl, .inl ⟨⟨_, SqL.sub r1.sub h1⟩, p1.now r1 ⟨by rw [List.length_map]; exact hz, itR_list (fun g H S r hF => SqL.sub (fun b o e => r.sub _ _ (hF _ _ e)) h1) (RpAll.of_ints ns)⟩⟩⟩
    · exact p1.elim
  · rename_i c
    obtain ⟨ad, ha, rfl⟩ := q1
    split at p1
    · rename_i xs hs
      obtain ⟨hz, vs, hv, tv⟩ := r1.at_ c ad _ ha hs
      refine ⟨_, rfl, .inl ⟨⟨_, SqL.of hv⟩, p1.now r1 ⟨hz, fun g H S r hB hF hok => ?_⟩⟩⟩
      obtain ⟨C, eB⟩ := hB
      have ha' : g.B[c]? = some ad := by rw [eB, List.getElem?_append_left (List.getElem?_eq_some_iff.mp ha).1]; exact ha
      cases hS : S[c]? with
      | none => simp only [hS] at hok; cases hok
      | some m =>
        cases m with
        | lst ys =>
          simp only [hS] at hok
          have e := eqPs_eq _ _ hok
          subst e
          obtain ⟨_, ws, hw, tw⟩ := r.at_ c ad _ ha' hS
          have q : SqL M.K H ad ws := SqL.of hw
          refine ⟨⟨ws, q, by rw [tw.len]; exact Nat.le_refl _⟩, fun i d e => ?_⟩
          obtain ⟨v, hv', rv⟩ := tw.get e
          refine ⟨⟨ws, v, q, hv'⟩, fun x H' y => ?_⟩
          obtain ⟨e1, y⟩ := y
          subst e1
          have := y ws q
          rw [hv'] at this
          cases this
          exact ⟨g, Grow.refl _ _, r, rv⟩
    · exact p1.elim
  · exact p1.elim
/-- range(n), range(a, b) -/
def rgSrc (ab : Int × Int) (S : Store) : Out Src := if rgC ab.1 ab.2 then .ok ⟨rgD ab.1 ab.2, fun _ => true⟩ S else .no
def iRg (f : RF) : IF := fun Γ S => (f Γ S).bind rgSrc
theorem itR_rg {K : PySem.W.Frag} {g0 : Gh} (lo : Int) (n : Nat) : ItR K g0 (Itr lo n) ⟨(List.range n).map fun (i : Nat) => PyData.int (lo + i), fun _ => true⟩ := by
  intro g H S r hB hF _
  refine ⟨by show n ≤ _; simp, fun i d e => ?_⟩
  rw [List.getElem?_map] at e
  have hi : i < n := by
    cases q : (List.range n)[i]? with
    | none => rw [q] at e; cases e
    | some j =>
      have := (List.getElem?_eq_some_iff.mp q).1
      simpa using this
  have e2 : (List.range n)[i]? = some i := by simp [hi]
  rw [e2] at e
  cases e
  exact ⟨hi, fun x H' y => by
    obtain ⟨e1, e2⟩ := y
    subst e1 e2
    exact ⟨g, Grow.refl _ _, r, .int _⟩⟩
theorem i_rg1 (hg : Gl X "range") (hm : X.mg "range" = none) (ha : DE X M W a fa) (hs : starEach [a] X.env = (false, eval a X.env) :: starEach [] X.env := by rfl) (hs' : starEach [a] X.env = [(false, eval a X.env)] := by rfl) : DI X M W tg (.Call (.Name "range" p) [a] [] pos) (iRg (rg1 fa)) :=
  (pi_range1 hg hm (pa_cons ha pa_nil hs) hs').weak fun σ H R h => by
    obtain ⟨g, Γ, S, r, v, p⟩ := h
    have p' : Post M W σ (rIt M) R g H ((fa Γ S).bind fun v S => (match v with | .d (.int n) => Out.ok ((0 : Int), n) S | _ => Out.no : Out (Int × Int)).bind rgSrc) := by
      unfold iRg rg1 at p
      cases h : fa Γ S with
      | ok a S' => rw [h] at p; exact p
      | ex x S' => rw [h] at p; exact p
      | no => rw [h] at p; exact p
    refine step r v p' fun u H1 g1 S1 w gr r1 v1 q1 p1 => ?_
    split at p1
    · rename_i n
      cases q1
      have p2 : Post M W σ (rIt M) R g1 H1 (rgSrc (0, n) S1) := p1
      unfold rgSrc at p2
      split at p2
      · rename_i hz
        obtain ⟨h1, h2, h3, h4, h5⟩ := rgC_ok hz
        refine ⟨n, rfl, h3, h4, p2.now r1 ⟨rgD_len hz, ?_⟩⟩
        unfold rgD
        rw [Int.sub_zero]
        exact itR_rg 0 n.toNat
      · exact p2.elim
    · exact p1.elim
theorem i_rg2 (hg : Gl X "range") (hm : X.mg "range" = none) (ha : DE X M W a fa) (hb : DE X M W b fb) (hs : starEach [a, b] X.env = (false, eval a X.env) :: starEach [b] X.env := by rfl) (hs2 : starEach [b] X.env = (false, eval b X.env) :: starEach [] X.env := by rfl) (hs' : starEach [a, b] X.env = [(false, eval a X.env), (false, eval b X.env)] := by rfl) (hs2' : starEach [b] X.env = [(false, eval b X.env)] := by rfl) :
    DI X M W tg (.Call (.Name "range" p) [a, b] [] pos) (iRg (rg2 fa fb)) :=
  (pi_range2 hg hm (pa_cons ha (pa_cons hb pa_nil hs2) hs) hs' hs2').weak fun σ H R h => by
    obtain ⟨g, Γ, S, r, v, p⟩ := h
    have p' : Post M W σ (rIt M) R g H ((fa Γ S).bind fun v S => (fb Γ S).bind fun w S => (match v, w with | .d (.int i), .d (.int j) => Out.ok (i, j) S | _, _ => Out.no : Out (Int × Int)).bind rgSrc) := by
      unfold iRg rg2 at p
      cases h : fa Γ S with
      | ok a S' =>
        rw [h] at p
        simp only [Out.bind] at p ⊢
        cases h2 : fb Γ S' with
        | ok b S2 => rw [h2] at p; exact p
        | ex x S2 => rw [h2] at p; exact p
        | no => rw [h2] at p; exact p
      | ex x S' => rw [h] at p; exact p
      | no => rw [h] at p; exact p
    refine step r v p' fun u H1 g1 S1 w gr r1 v1 q1 p1 => step r1 v1 p1 fun u2 H2 g2 S2 w2 gr2 r2 v2 q2 p2 => ?_
    split at p2
    · rename_i i j
      have q1' := gr2.rep q1
      cases q1'; cases q2
      have p3 : Post M W σ (rIt M) R g2 H2 (rgSrc (i, j) S2) := p2
      unfold rgSrc at p3
      split at p3
      · rename_i hz
        obtain ⟨h1, h2, h3, h4, h5⟩ := rgC_ok hz
        exact ⟨i, j, rfl, ⟨h1, h2, h3, h4⟩, p3.now r2 ⟨rgD_len hz, itR_rg i (j - i).toNat⟩⟩
      · exact p3.elim
    · exact p2.elim
/-- zip(a, b) of two lists, of two tuples -/
def pairD (xs ys : List PyData) : List PyData := (xs.zip ys).map fun p => .tuple [p.1, p.2]
def zipS : SV → SV → Store → Out Src := fun v w S => match v, w with
  | .d (.list xs), .d (.list ys) => .ok ⟨pairD xs ys, fun _ => true⟩ S
  | .d (.tuple xs), .d (.tuple ys) => .ok ⟨pairD xs ys, fun _ => true⟩ S
  | _, _ => .no
def iZip (fa fb : EF) : IF := fun Γ S => (fa Γ S).bind fun v S => (fb Γ S).bind fun w S => zipS v w S
theorem pairD_at {xs ys : List PyData} {i : Nat} {d : PyData} (e : (pairD xs ys)[i]? = some d) : ∃ x y, xs[i]? = some x ∧ ys[i]? = some y ∧ d = .tuple [x, y] := by
  unfold pairD at e
  rw [List.getElem?_map] at e
  cases q : (xs.zip ys)[i]? with
  | none => rw [q] at e; cases e
  | some p =>
    rw [q] at e
    cases e
    rw [List.getElem?_zip_eq_some] at q
    exact ⟨p.1, p.2, q.1, q.2, rfl⟩
theorem pairD_len (xs ys : List PyData) : (pairD xs ys).length = min xs.length ys.length := by unfold pairD; rw [List.length_map, List.length_zip]
/-- a new pair -/
theorem pair_new {K : PySem.W.Frag} {g : Gh} {H : Hp} {S : Store} (r : Rel K g H S) {T : Addr} (hT : H T = none) {u v : V} {x y : PyData} (q1 : Rp K g.F u x) (q2 : Rp K g.F v y) : ∃ g', Grow g H g' (upd H T (.tup [u, v])) ∧ Rel K g' (upd H T (.tup [u, v])) S ∧ Rp K g'.F (.ref T) (.tuple [x, y]) := by
  obtain ⟨r', gr⟩ := r.frz hT (.tup [u, v])
  obtain ⟨hF, _⟩ := r.free hT
  exact ⟨_, gr, r', Rp.tup (.inl (.inl upd_same)) (by show 2 ≤ _; decide) (.cons (Rp.sub (sub_upd hF) _ _ q1) (.cons (Rp.sub (sub_upd hF) _ _ q2) .nil))⟩
theorem i_zip (hK : X.K = M.K) {elts : List Expr} {kk : Nat} {tpos : Pos} (hg : Gl X "zip") (hm : X.mg "zip" = none) (ha : DE X M W a fa) (hb : DE X M W b fb) (hs : starEach [a, b] X.env = (false, eval a X.env) :: starEach [b] X.env := by rfl) (hs2 : starEach [b] X.env = (false, eval b X.env) :: starEach [] X.env := by rfl) (hpl : (backTo pos (starEach [b] X.env)).any (·.1) = false := by rfl) :
    DI X M W (.Tuple elts kk tpos) (.Call (.Name "zip" p) [a, b] [] pos) (iZip fa fb) :=
  (RZ.pi_zipA hg hm (pa_cons ha (pa_cons hb pa_nil hs2) hs) hs hpl).weak fun σ H R h => by
    obtain ⟨g, Γ, S, r, v, p⟩ := h
    refine step r v p fun u H1 g1 S1 w gr r1 v1 q1 p1 => step r1 v1 p1 fun u2 H2 g2 S2 w2 gr2 r2 v2 q2 p2 => ?_
    have q1' := gr2.rep q1
    rw [hK]
    unfold zipS at p2
    split at p2
    · rename_i xs ys
      cases q1' with
      | lst h1 z1 t1 =>
        cases q2 with
        | lst h2 z2 t2 =>
          refine ⟨_, _, _, _, rfl, .inl ⟨SqL.of (r2.sub _ _ h1), SqL.of (r2.sub _ _ h2), p2.now r2 ⟨by rw [pairD_len]; omega, fun g H S r hB hF _ => ?_⟩⟩⟩
          have e1 := r.sub _ _ (hF _ _ h1)
          have e2 := r.sub _ _ (hF _ _ h2)
          have l1 := t1.len
          have l2 := t2.len
          refine ⟨⟨_, _, SqL.of e1, SqL.of e2, ?_⟩, fun i d e => ?_⟩
          · show _ ≤ (pairD xs ys).length ∨ _ ≤ (pairD xs ys).length
            rw [pairD_len]; omega
          · obtain ⟨x, y, hx, hy, rfl⟩ := pairD_at e
            obtain ⟨a1, hu, ru⟩ := t1.get hx
            obtain ⟨b1, hv, rv⟩ := t2.get hy
            refine ⟨⟨_, _, a1, b1, SqL.of e1, SqL.of e2, hu, hv⟩, fun z H' yy => ?_⟩
            obtain ⟨T, a2, b2, rfl, hT, rfl, y1, y2⟩ := yy
            have k1 := y1 _ (SqL.of e1)
            have k2 := y2 _ (SqL.of e2)
            rw [hu] at k1; rw [hv] at k2
            cases k1; cases k2
            exact pair_new r hT (Rp.sub hF _ _ ru) (Rp.sub hF _ _ rv)
    · rename_i xs ys
      cases q1' with
      | tup h1 z1 t1 =>
        cases q2 with
        | tup h2 z2 t2 =>
          refine ⟨_, _, _, _, rfl, .inr ⟨SqT.sub r2.sub h1, SqT.sub r2.sub h2, p2.now r2 ⟨by rw [pairD_len]; omega, fun g H S r hB hF _ => ?_⟩⟩⟩
          have e1 : SqT M.K H _ _ := SqT.sub (fun b o e => r.sub _ _ (hF _ _ e)) h1
          have e2 : SqT M.K H _ _ := SqT.sub (fun b o e => r.sub _ _ (hF _ _ e)) h2
          have l1 := t1.len
          have l2 := t2.len
          refine ⟨⟨_, _, e1, e2, ?_⟩, fun i d e => ?_⟩
          · show _ ≤ (pairD xs ys).length ∨ _ ≤ (pairD xs ys).length
            rw [pairD_len]; omega
          · obtain ⟨x, y, hx, hy, rfl⟩ := pairD_at e
            obtain ⟨a1, hu, ru⟩ := t1.get hx
            obtain ⟨b1, hv, rv⟩ := t2.get hy
            refine ⟨⟨_, _, a1, b1, e1, e2, hu, hv⟩, fun z H' yy => ?_⟩
            obtain ⟨T, a2, b2, rfl, hT, rfl, y1, y2⟩ := yy
            have k1 := y1 _ e1
            have k2 := y2 _ e2
            rw [hu] at k1; rw [hv] at k2
            cases k1; cases k2
            exact pair_new r hT (Rp.sub hF _ _ ru) (Rp.sub hF _ _ rv)
    · exact p2.elim
/-- enumerate(a) of a list -/
def enumD (xs : List PyData) : List PyData := xs.mapIdx fun i x => .tuple [.int i, x]
def enumS : SV → Store → Out Src := fun v S => match v with
  | .d (.list xs) => .ok ⟨enumD xs, fun _ => true⟩ S
  | _ => .no
def iEnm (fa : EF) : IF := fun Γ S => (fa Γ S).bind fun v S => enumS v S
theorem i_enum (hK : X.K = M.K) {elts : List Expr} {kk : Nat} {tpos : Pos} (hg : Gl X "enumerate") (hm : X.mg "enumerate" = none) (ha : DE X M W a fa) (hs : starEach [a] X.env = (false, eval a X.env) :: starEach [] X.env := by rfl) (hs' : starEach [a] X.env = [(false, eval a X.env)] := by rfl) :
    DI X M W (.Tuple elts kk tpos) (.Call (.Name "enumerate" p) [a] [] pos) (iEnm fa) :=
  (pi_enum hg hm (pa_cons ha pa_nil hs) hs').weak fun σ H R h => by
    obtain ⟨g, Γ, S, r, v, p⟩ := h
    refine step r v p fun u H1 g1 S1 w gr r1 v1 q1 p1 => ?_
    rw [hK]
    unfold enumS at p1
    split at p1
    · rename_i xs
      cases q1 with
      | lst h1 z1 t1 =>
        refine ⟨_, _, rfl, SqL.of (r1.sub _ _ h1), p1.now r1 ⟨by unfold enumD; rw [List.length_mapIdx]; exact z1, fun g H S r hB hF _ => ?_⟩⟩
        have e1 := r.sub _ _ (hF _ _ h1)
        refine ⟨⟨_, SqL.of e1, ?_⟩, fun i d e => ?_⟩
        · show _ ≤ (enumD xs).length
          unfold enumD
          rw [List.length_mapIdx, t1.len]; exact Nat.le_refl _
        · have e' : (enumD xs)[i]? = some d := e
          unfold enumD at e'
          rw [List.getElem?_mapIdx] at e'
          cases hx : xs[i]? with
          | none => rw [hx] at e'; cases e'
          | some x =>
            rw [hx] at e'
            cases e'
            obtain ⟨a1, hu, ru⟩ := t1.get hx
            refine ⟨⟨_, a1, SqL.of e1, hu⟩, fun z H' yy => ?_⟩
            obtain ⟨T, a2, rfl, hT, rfl, y1⟩ := yy
            have k1 := y1 _ (SqL.of e1)
            rw [hu] at k1
            cases k1
            exact pair_new r hT (.int _) (Rp.sub hF _ _ ru)
    · exact p1.elim
end

/-! ### comprehensions -/
def lcL (ok : Store → Bool) (gf : GF) (tf : TF) (ef : EF) (vs : List Nat) (Γ : Ev) : List PyData → Store → Out (List PyData)
  | [], S => if ok S then .ok [] S else .no
  | d :: ds, S => if ok S then (match gf (.d d) (wipeE Γ vs) S with
    | .ok Γ1 S1 => match tf Γ1 S1 with
      | .ok true S2 => match ef Γ1 S2 with
        | .ok (.d x) S3 => (lcL ok gf tf ef vs Γ ds S3).bind fun xs S => .ok (x :: xs) S
        | _ => .no
      | .ok false S2 => lcL ok gf tf ef vs Γ ds S2
      | _ => .no
    | _ => .no) else .no
def eLc (fin : List PyData → Store → Out SV) (f : IF) (gf : GF) (tf : TF) (ef : EF) (vs : List Nat) : EF := fun Γ S => (f Γ S).bind fun s S => (lcL s.ok gf tf ef vs Γ s.items S).bind fun xs S => fin xs S
theorem wipe_in {σ : St} {i : Nat} : ∀ {vs : List Nat}, i ∈ vs → i < σ.length → (wipe σ vs)[i]? = some none
  | v :: vs, h, hl => by
    unfold wipe
    by_cases e : v = i
    · subst e
      rw [List.getElem?_set_self (by rw [wipe_length]; exact hl)]
    · rw [List.getElem?_set_ne e]
      rcases List.mem_cons.mp h with h | h
      · exact absurd h.symm e
      · exact wipe_in h hl
theorem wipe_only {σ σ2 : St} {vs T : List Nat} (h : OnlyT T (wipe σ vs) σ2) (hT : ∀ j ∈ T, j ∈ vs) : wipe σ2 vs = wipe σ vs := by
  have hl : σ2.length = σ.length := by rw [h.1, wipe_length]
  apply List.ext_getElem?
  intro j
  by_cases hj : j ∈ vs
  · by_cases hlt : j < σ.length
    · rw [wipe_in hj hlt, wipe_in hj (by rw [hl]; exact hlt)]
    · rw [List.getElem?_eq_none (by rw [wipe_length]; omega), List.getElem?_eq_none (by rw [wipe_length]; omega)]
  · rw [wipe_out hj]
    exact h.2 j (fun z => hj (hT j z))
abbrev W0 : WX := fun _ _ _ _ => False
def PostL (M : Mi) (Q : VK) (g0 : Gh) (H0 : Hp) (p : Addr) (acc : List PyData) (fin : List PyData → Store → Out SV) (W : WX) (σ : St) (o : Out (List PyData)) : Prop := Post M W σ (rS M) Q g0 H0 (o.bind fun xs S => fin (acc ++ xs) S)
section
variable {X : Cx} {M : Mi} {W : WX} {T : List Nat} {tg iter elt : Expr} {ifs : List Expr} {f : IF} {gf : GF} {tf : TF} {ef : EF} {pos : Pos} {scope : Scope} {own : List (Str × Nat)}
/-- a cell's item and the new list grow together: the state of a comprehension's loop -/
theorem lc_of {fin : List PyData → Store → Out SV} (hf : Fin M fin) (hT : ∀ j ∈ T, j ∈ own.map (·.2)) {σ : St} {H : Hp} {Q : VK} (h : tE M W (eLc fin f gf tf ef (own.map (·.2))) σ H Q) :
    tLc (tI M W f) (tT1 M T gf) (tT M W0 tf) (tE M W0 ef) (own.map (·.2)) σ H Q := by
  obtain ⟨g0, Γ, S0, r0, v0, p0⟩ := h
  unfold eLc at p0
  refine step r0 v0 p0 fun J H1 g1 S1 s gr1 r1 v1 q1 p1 => ?_
  obtain ⟨hz, hit⟩ := q1
  intro D hD
  obtain ⟨hFD, hBD⟩ := r1.free hD
  obtain ⟨rD, grD⟩ := Rel.lay r1 hD (.lst [])
  refine ⟨fun i m H => m = s.items.length - i ∧ i ≤ s.items.length ∧ ∃ g S vs acc, Rel M.K g H S ∧ Grow g1 H1 g H ∧ g.F D = none ∧ D ∉ g.B ∧ H D = some (.lst vs) ∧ RpAll M.K g.F vs acc ∧ acc.length ≤ i ∧
      Post M W σ (rS M) Q g1 H1 ((lcL s.ok gf tf ef (own.map (·.2)) Γ (s.items.drop i) S).bind fun xs S => fin (acc ++ xs) S),
    ⟨_, rfl, Nat.zero_le _, g1, S1, [], [], rD, grD, hFD, hBD, upd_same, .nil, Nat.le_refl _, by rw [List.drop_zero]; exact p1⟩, ?_⟩
  rintro i m H2 ⟨rfl, hi, g, S, vs, acc, r, gr, hF, hB, hDv, tacc, hla, p⟩
  have hok : s.ok S = true := by
    cases hd : s.items.drop i with
    | nil =>
      rw [hd] at p
      unfold lcL at p
      cases h : s.ok S with
      | true => rfl
      | false => rw [h] at p; exact p.elim
    | cons d ds =>
      rw [hd] at p
      unfold lcL at p
      cases h : s.ok S with
      | true => rfl
      | false => rw [h] at p; exact p.elim
  obtain ⟨hst, hgo⟩ := hit g H2 S r gr.pre gr.sub hok
  by_cases hlt : i < s.items.length
  · have e : s.items[i]? = some s.items[i] := List.getElem?_eq_getElem hlt
    obtain ⟨go, yl⟩ := hgo i _ e
    rw [List.drop_eq_getElem_cons hlt] at p
    unfold lcL at p
    rw [if_pos hok] at p
    refine .inr ⟨go, fun H' => ∃ g S vs acc, Rel M.K g H' S ∧ Grow g1 H1 g H' ∧ g.F D = none ∧ D ∉ g.B ∧ H' D = some (.lst vs) ∧ RpAll M.K g.F vs acc ∧ acc.length ≤ i + 1 ∧
      Post M W σ (rS M) Q g1 H1 ((lcL s.ok gf tf ef (own.map (·.2)) Γ (s.items.drop (i + 1)) S).bind fun xs S => fin (acc ++ xs) S), fun H' h => ⟨s.items.length - (i + 1), by omega, rfl, hlt, h⟩, fun x H' y => ?_⟩
    obtain ⟨g', gr', r', rp⟩ := yl x H' y
    -- what stays true of the new list through evaluation
    have keep : ∀ {ga gb : Gh} {Ha Hb : Hp} {Sa : Store}, Rel M.K ga Ha Sa → Grow ga Ha gb Hb → ga.F D = none → D ∉ ga.B → (∃ vs, Ha D = some (.lst vs)) → gb.F D = none ∧ D ∉ gb.B ∧ Hb D = Ha D := fun {ga gb Ha Hb Sa} ra gb' k1 k2 k3 => by
      obtain ⟨ws, k3⟩ := k3
      refine ⟨?_, fun hm => ?_, by rw [gb'.frm D _ k3 k2, k3]⟩
      · cases q : gb.F D with
        | none => rfl
        | some o =>
          rcases gb'.newF D o q with z | z
          · rw [k1] at z; cases z
          · rw [k3] at z; cases z
      · rcases gb'.newB D hm with z | z
        · exact k2 z
        · rw [k3] at z; cases z
    obtain ⟨a1, a2, a3⟩ := keep r gr' hF hB ⟨vs, hDv⟩
    have gr1' := gr.trans r gr'
    have vσ : Vars M.K g' (wipe σ (own.map (·.2))) (wipeE Γ (own.map (·.2))) := gr1'.vars v1 |>.wipe _
    refine ⟨g', _, S, .d s.items[i], r', vσ, rp, ?_⟩
    cases h1 : gf (.d s.items[i]) (wipeE Γ (own.map (·.2))) S with
    | ex x S' => rw [h1] at p; exact p.elim
    | no => rw [h1] at p; exact p.elim
    | ok Γ1 S1' =>
      rw [h1] at p
      intro σ2 g2 H3 t2 gr2 r2 v2
      refine ⟨wipe_only t2 hT, ?_⟩
      obtain ⟨b1, b2, b3⟩ := keep r' gr2 a1 a2 ⟨vs, by rw [a3]; exact hDv⟩
      have gr12 := gr1'.trans r' gr2
      refine ⟨g2, Γ1, S1', r2, v2, ?_⟩
      cases h2 : tf Γ1 S1' with
      | ex x S' => simp only [h2] at p; exact p.elim
      | no => simp only [h2] at p; exact p.elim
      | ok b S2 =>
        intro u g3 H4 gr3 r3 q3
        obtain rfl : u = b := q3
        obtain ⟨c1, c2, c3⟩ := keep r2 gr3 b1 b2 ⟨vs, by rw [b3, a3]; exact hDv⟩
        have gr13 := gr12.trans r2 gr3
        have e4 : H4 D = some (.lst vs) := by rw [c3, b3, a3]; exact hDv
        cases u with
        | false =>
          simp only [h2] at p
          exact iteF ⟨g3, S2, vs, acc, r3, gr13, c1, c2, e4, RpAll.sub (fun b o e => gr3.sub _ _ (gr2.sub _ _ (gr'.sub _ _ e))) _ _ tacc, by omega, p⟩
        | true =>
          simp only [h2] at p
          refine iteT ⟨g3, Γ1, S2, r3, gr3.vars v2, ?_⟩
          cases h3 : ef Γ1 S2 with
          | ex x S' => rw [h3] at p; exact p.elim
          | no => rw [h3] at p; exact p.elim
          | ok z S3 =>
            cases z with
            | cell _ => rw [h3] at p; exact p.elim
            | scr _ => rw [h3] at p; exact p.elim
            | d x =>
              rw [h3] at p
              intro y g4 H5 gr4 r4 q4
              obtain ⟨d1, d2, d3⟩ := keep r3 gr4 c1 c2 ⟨vs, e4⟩
              have e5 : H5 D = some (.lst vs) := by rw [d3]; exact e4
              have gr14 := gr13.trans r3 gr4
              have t4 : RpAll M.K g4.F vs acc := RpAll.sub (fun b o e => gr4.sub _ _ (gr3.sub _ _ (gr2.sub _ _ (gr'.sub _ _ e)))) _ _ tacc
              have ne : ∀ b ∈ g4.B, b ≠ D := fun b hb e => d2 (e ▸ hb)
              refine ⟨vs, e5, by rw [t4.len, sizeLine_eq]; omega, g4, S3, vs ++ [y], acc ++ [x], ⟨fun b o e => ?_, r4.nd, r4.dis, r4.len, fun j b m e1 e2 => ?_⟩, ⟨gr14.pre, gr14.sub, fun b o e hb => ?_, gr14.newB, gr14.newF⟩, d1, d2, upd_same, t4.append (.cons q4 .nil), by rw [List.length_append, List.length_singleton]; omega, ?_⟩
              · rw [upd_ne (fun z => by rw [z, d1] at e; cases e)]; exact r4.sub _ _ e
              · rw [upd_ne (ne b (List.mem_of_getElem? e1))]; exact r4.at_ j b m e1 e2
              · rw [upd_ne (ne_of_none e hD)]; exact gr14.frm b o e hb
              · cases h4 : lcL s.ok gf tf ef (own.map (·.2)) Γ (s.items.drop (i + 1)) S3 with
                | ok xs S4 =>
                  simp only [h4, Out.bind] at p ⊢
                  rw [List.append_assoc]
                  exact p
                | ex x' S4 => simp only [h4, Out.bind] at p ⊢; exact p
                | no => simp only [h4, Out.bind] at p; exact p.elim
  · have e : i = s.items.length := by omega
    subst e
    rw [List.drop_length] at p
    unfold lcL at p
    rw [if_pos hok] at p
    refine .inl ⟨hst, ?_⟩
    have p' : Post M W σ (rS M) Q g1 H1 (fin (acc ++ []) S) := p
    rw [List.append_nil] at p'
    exact hf W σ Q g1 H1 g H2 S D vs acc r gr hD hDv hF hB (Nat.le_trans hla hz) tacc p'
/-- [elt for tg in iter if ..] as a value -/
theorem d_lc {fin : List PyData → Store → Out SV} (hf : Fin M fin) (hT : ∀ j ∈ T, j ∈ own.map (·.2)) (hc : X.calm = true) (hN : X.N.Nodup) (hi : DI X M W tg iter f) (ok : BlkOk X.N X.env.scope scope own)
    (hg : ∀ (s : Shared) (H : Hp) (C : Addr) (cl : List (Str × Addr)) (fp : List Addr), DG (X.blk s H scope (compEnvC scope cl C X.env) fp) M T tg gf) (ht : ∀ (s : Shared) (H : Hp) (C : Addr) (cl : List (Str × Addr)) (fp : List Addr), PTs (X.blk s H scope (compEnvC scope cl C X.env) fp) ifs (tT M W0 tf))
    (he : ∀ (s : Shared) (H : Hp) (C : Addr) (cl : List (Str × Addr)) (fp : List Addr), DE (X.blk s H scope (compEnvC scope cl C X.env) fp) M W0 elt ef) (hs : ∀ x, foldedSetIterable iter X.env x = pure x := by intro _; rfl) :
    DE X M W (.ListComp elt [⟨tg, iter, ifs, 0⟩] scope pos) (eLc fin f gf tf ef (own.map (·.2))) := (pe_lc hc hN hi ok hg ht he hs).weak fun _ _ _ h => lc_of hf hT h
/-- name = [elt for ..] on one line -/
theorem s_setLc {fin : List PyData → Store → Out SV} (hf : Fin M fin) {i : Nat} {y : Str} {py spos : Pos} (hT : ∀ j ∈ T, j ∈ own.map (·.2)) (hc : X.calm = true) (hN : X.N.Nodup) (hy : X.N[i]? = some y) (hyl : X.env.scope.names.lookup y = some .local)
    (hsw : swapsWith (.ListComp elt [⟨tg, iter, ifs, 0⟩] scope pos) (some (.Name y py)) spos.line X.env = pure true) (hi : DI X M W tg iter f) (ok : BlkOk X.N X.env.scope scope own)
    (hg : ∀ (s : Shared) (H : Hp) (C : Addr) (cl : List (Str × Addr)) (fp : List Addr), DG (X.blk s H scope (compEnvC scope cl C X.env) fp) M T tg gf) (ht : ∀ (s : Shared) (H : Hp) (C : Addr) (cl : List (Str × Addr)) (fp : List Addr), PTs (X.blk s H scope (compEnvC scope cl C X.env) fp) ifs (tT M W0 tf))
    (he : ∀ (s : Shared) (H : Hp) (C : Addr) (cl : List (Str × Addr)) (fp : List Addr), DE (X.blk s H scope (compEnvC scope cl C X.env) fp) M W0 elt ef) (hs : ∀ x, foldedSetIterable iter X.env x = pure x := by intro _; rfl) :
    DS X M W (.Assign [.Name y py] (.ListComp elt [⟨tg, iter, ifs, 0⟩] scope pos) spos) (fSet i (eLc fin f gf tf ef (own.map (·.2)))) := (ps_setLc hc hN hy hyl hsw hi ok hg ht he hs).weak fun _ _ _ h => set_of (fun _ _ _ h => lc_of hf hT h) h
def tYesF : TF := fun _ S => .ok true S
theorem ts_nil : PTs X [] (tT M W tYesF) := ⟨fun pins s σ H Q I ⟨g, Γ, S, r, v, p⟩ => pts_nil.run pins s σ H Q I (p.now (u := true) r rfl)⟩
theorem ts_one {c : Expr} {t : TF} (h : DT X M W c t) : PTs X [c] (tT M W t) := pts_one h
end
end DL
/-! D7: methods of lists. -/
namespace DL
open PySem L2
def isL (o : SV) (S : Store) : Bool := match o with
  | .cell c => match S[c]? with
    | some (.lst _) => true
    | none => false
  | .d (.list _) => true
  | _ => false
def eMeth (op : SV → List SV → Store → Out SV) (fo : EF) (af : AF) : EF := fun Γ S => (fo Γ S).bind fun o S => if isL o S then (af Γ S).bind fun vs S => op o vs S else .no
def SatM (M : Mi) (r : V → List V → Hp → VK → Prop) (op : SV → List SV → Store → Out SV) : Prop := ∀ (W : WX) (σ : St) (Q : VK) (g : Gh) (H : Hp) (S : Store) (x : V) (o : SV) (us : List V) (vs : List SV),
  Rel M.K g H S → RepS M.K g x o → RepA M.K g us vs → Post M W σ (rS M) Q g H (op o vs S) → r x us H Q
section
variable {X : Cx} {M : Mi} {W : WX} {o e : Expr} {es : List Expr} {fo : EF} {af : AF} {name : Str} {apos cpos : Pos} {id : String} {r : V → List V → Hp → VK → Prop} {op : SV → List SV → Store → Out SV}
theorem isL_ok {g : Gh} {H : Hp} {S : Store} {x : V} {o : SV} (r : Rel M.K g H S) (q : RepS M.K g x o) (h : isL o S = true) : tyV M.K "list" x H := by
  unfold isL at h
  split at h
  · rename_i c
    obtain ⟨a, ha, rfl⟩ := q
    split at h
    · rename_i xs hs
      obtain ⟨_, vs, hv, _⟩ := r.at_ c a _ ha hs
      exact .inl ⟨rfl, vs, SqL.of hv⟩
    · cases h
  · cases q with
    | lst h1 z t => exact .inl ⟨rfl, _, SqL.of (r.sub _ _ h1)⟩
  · cases h
theorem d_bm0 (hK : X.K = M.K) (slot : Slot "list" name id) (hty : typeOf (.builtin id) = pure (.type "method_descriptor")) (hm : MtR X id r) (hs : SatM M r op) (ho : DE X M W o fo)
    (hbase : attributeBase o name X.env (eval o X.env) = eval o X.env := by rfl) (hline : (apos.endLine == cpos.line) = true := by rfl) : DE X M W (.Call (.Attribute o name apos) [] [] cpos) (eMeth op fo aNil) :=
  (pe_bm0 PySem.F.plainAttrs_list slot hty hm ho hbase hline).weak fun σ H Q h => by
    obtain ⟨g, Γ, S, r0, v0, p⟩ := h
    refine step r0 v0 p fun u H1 g1 S1 v gr r1 v1 q1 p1 => ?_
    split at p1
    · rename_i hl
      exact ⟨by rw [hK]; exact isL_ok r1 q1 hl, hs _ _ _ _ _ _ _ _ _ _ r1 q1 .nil p1⟩
    · exact p1.elim
theorem d_bm (hK : X.K = M.K) (slot : Slot "list" name id) (hty : typeOf (.builtin id) = pure (.type "method_descriptor")) (hm : MtR X id r) (hs' : SatM M r op) (ho : DE X M W o fo) (ha : DA X M W (e :: es) af)
    (hbase : attributeBase o name X.env (eval o X.env) = eval o X.env := by rfl)
    (hfew : ((backTo cpos (starEach (e :: es) X.env)).all (fun x => !x.1) && (backToKw cpos (keywordEach [] X.env)).all (fun x => x.1.isSome)
      && decide ((e :: es).length + ([] : List Keyword).length + (if ([] : List Keyword).isEmpty then 0 else 1) < 30)) = true := by rfl)
    (hline : (apos.endLine == cpos.line) = true := by rfl) (hs : starEach (e :: es) X.env = (false, eval e X.env) :: starEach es X.env := by rfl) (hplain : (backTo cpos (starEach es X.env)).any (·.1) = false := by rfl) :
    DE X M W (.Call (.Attribute o name apos) (e :: es) [] cpos) (eMeth op fo af) :=
  (pe_bm PySem.F.plainAttrs_list slot hty hm ho ha hbase hfew hline hs hplain).weak fun σ H Q h => by
    obtain ⟨g, Γ, S, r0, v0, p⟩ := h
    refine step r0 v0 p fun u H1 g1 S1 v gr r1 v1 q1 p1 => ?_
    split at p1
    · rename_i hl
      exact ⟨by rw [hK]; exact isL_ok r1 q1 hl, step r1 v1 p1 fun us H2 g2 S2 vs gr2 r2 v2 q2 p2 => hs' _ _ _ _ _ _ _ _ _ _ r2 (gr2.rep q1) q2 p2⟩
    · exact p1.elim
/-- the cell's list -/
def cellL (o : SV) (S : Store) : Option (Nat × List PyData) := match o with
  | .cell c => match S[c]? with
    | some (.lst xs) => some (c, xs)
    | none => none
  | _ => none
theorem cellL_ok {g : Gh} {H : Hp} {S : Store} {x : V} {o : SV} (r : Rel M.K g H S) (q : RepS M.K g x o) {c : Nat} {xs : List PyData} (h : cellL o S = some (c, xs)) : ∃ a vs, x = .ref a ∧ g.B[c]? = some a ∧ H a = some (.lst vs) ∧ RpAll M.K g.F vs xs ∧ xs.length ≤ 16777216 := by
  unfold cellL at h
  split at h
  · rename_i c'
    obtain ⟨a, ha, rfl⟩ := q
    split at h
    · rename_i ys hs
      cases h
      obtain ⟨hz, vs, hv, t⟩ := r.at_ c a _ ha hs
      exact ⟨a, vs, rfl, ha, hv, t, hz⟩
    · cases h
  · cases h
def appendS : SV → List SV → Store → Out SV := fun o vs S => match cellL o S, vs with
  | some (c, xs), [.d x] => if xs.length < 16777216 then .ok (.d .none) (S.set c (.lst (xs ++ [x]))) else .no
  | _, _ => .no
theorem sat_append : SatM M rAppend appendS := by
  intro W σ Q g H S x o us vs r q1 q2 p
  unfold appendS at p
  split at p
  · rename_i c xs y e
    split at p
    · rename_i hz
      obtain ⟨a, ws, rfl, ha, hv, t, _⟩ := cellL_ok r q1 e
      cases q2 with
      | cons q2 q3 =>
        cases q3
        rename_i u
        have hz' : (xs ++ [y]).length ≤ 16777216 := by rw [List.length_append, List.length_singleton]; exact hz
        obtain ⟨r2, gr2⟩ := r.put ha hz' (t.append (.cons q2 .nil))
        exact ⟨a, ws, u, rfl, rfl, hv, by rw [t.len]; exact hz, p .non g _ gr2 r2 .non⟩
    · exact p.elim
  · exact p.elim
def popS : SV → List SV → Store → Out SV := fun o vs S => match cellL o S, vs with
  | some (c, xs), [] => match xs[xs.length - 1]? with
    | some x => .ok (.d x) (S.set c (.lst xs.dropLast))
    | none => .no
  | _, _ => .no
theorem RpAll.dropLast {K : PySem.W.Frag} {F : Hp} {vs : List V} {ds : List PyData} (h : RpAll K F vs ds) : RpAll K F vs.dropLast ds.dropLast := by
  rw [List.dropLast_eq_take, List.dropLast_eq_take, h.len]
  exact h.take _
theorem sat_pop : SatM M rPop popS := by
  intro W σ Q g H S x o us vs r q1 q2 p
  unfold popS at p
  split at p
  · rename_i c xs e
    split at p
    · rename_i y hy
      obtain ⟨a, ws, rfl, ha, hv, t, hz⟩ := cellL_ok r q1 e
      cases q2
      obtain ⟨u, hu, ru⟩ := t.get hy
      have hz' : xs.dropLast.length ≤ 16777216 := by rw [List.length_dropLast]; omega
      obtain ⟨r2, gr2⟩ := r.put ha hz' t.dropLast
      exact ⟨a, ws, u, rfl, rfl, hv, by rw [t.len]; exact hu, p u g _ gr2 r2 ru⟩
    · exact p.elim
  · exact p.elim
def popAtS : SV → List SV → Store → Out SV := fun o vs S => match cellL o S, vs with
  | some (c, xs), [.d (.int i)] => match ixN xs.length i with
    | some k => match xs[k]? with
      | some x => .ok (.d x) (S.set c (.lst (xs.eraseIdx k)))
      | none => .no
    | none => .no
  | _, _ => .no
theorem sat_popAt : SatM M rPopAt popAtS := by
  intro W σ Q g H S x o us vs r q1 q2 p
  unfold popAtS at p
  split at p
  · rename_i c xs i e
    split at p
    · rename_i k hk
      split at p
      · rename_i y hy
        obtain ⟨a, ws, rfl, ha, hv, t, hz⟩ := cellL_ok r q1 e
        cases q2 with
        | cons q2 q3 =>
          cases q3
          cases q2
          obtain ⟨u, hu, ru⟩ := t.get hy
          have hz' : (xs.eraseIdx k).length ≤ 16777216 := Nat.le_trans (len_erase _ _) hz
          obtain ⟨r2, gr2⟩ := r.put ha hz' (t.eraseIdx k)
          obtain ⟨h1, h2, h3, h4⟩ := ixN_seq hk
          exact ⟨a, ws, i, k, u, rfl, rfl, hv, by omega, by omega, by rw [t.len]; exact h1, hu, p u g _ gr2 r2 ru⟩
      · exact p.elim
    · exact p.elim
  · exact p.elim
def extendS : SV → List SV → Store → Out SV := fun o vs S => match cellL o S, vs with
  | some (c, xs), [w] => match asD w S with
    | some (.list ys) => if xs.length + ys.length ≤ 16777216 then .ok (.d .none) (S.set c (.lst (xs ++ ys))) else .no
    | _ => .no
  | _, _ => .no
theorem sat_extend : SatM M rExtend extendS := by
  intro W σ Q g H S x o us vs r q1 q2 p
  unfold extendS at p
  split at p
  · rename_i c xs w e
    split at p
    · rename_i ys e2
      split at p
      · rename_i hz
        obtain ⟨a, ws, rfl, ha, hv, t, _⟩ := cellL_ok r q1 e
        cases q2 with
        | cons q2 q3 =>
          cases q3
          obtain ⟨b, zs, rfl, hb, t2, _⟩ := asD_list r q2 e2
          have hz' : (xs ++ ys).length ≤ 16777216 := by rw [List.length_append]; exact hz
          obtain ⟨r2, gr2⟩ := r.put ha hz' (t.append t2)
          exact ⟨a, b, ws, zs, rfl, rfl, hv, hb, by rw [t.len, t2.len]; exact hz, p .non g _ gr2 r2 .non⟩
      · exact p.elim
    · exact p.elim
  · exact p.elim
theorem d_append (hK : X.K = M.K) (ho : DE X M W o fo) {fe : EF} (he : DE X M W e fe)
    (hbase : attributeBase o "append" X.env (eval o X.env) = eval o X.env := by rfl)
    (hfew : ((backTo cpos (starEach [e] X.env)).all (fun x => !x.1) && (backToKw cpos (keywordEach [] X.env)).all (fun x => x.1.isSome)
      && decide ([e].length + ([] : List Keyword).length + (if ([] : List Keyword).isEmpty then 0 else 1) < 30)) = true := by rfl)
    (hline : (apos.endLine == cpos.line) = true := by rfl) (hs : starEach [e] X.env = (false, eval e X.env) :: starEach [] X.env := by rfl) (hplain : (backTo cpos (starEach [] X.env)).any (·.1) = false := by rfl) :
    DE X M W (.Call (.Attribute o "append" apos) [e] [] cpos) (eMeth appendS fo (aCons fe aNil)) :=
  d_bm hK PySem.F.slot_list_append PySem.F.type_list_append mt_append sat_append ho (da_cons he da_nil hs) hbase hfew hline hs hplain
theorem d_extend (hK : X.K = M.K) (ho : DE X M W o fo) {fe : EF} (he : DE X M W e fe)
    (hbase : attributeBase o "extend" X.env (eval o X.env) = eval o X.env := by rfl)
    (hfew : ((backTo cpos (starEach [e] X.env)).all (fun x => !x.1) && (backToKw cpos (keywordEach [] X.env)).all (fun x => x.1.isSome)
      && decide ([e].length + ([] : List Keyword).length + (if ([] : List Keyword).isEmpty then 0 else 1) < 30)) = true := by rfl)
    (hline : (apos.endLine == cpos.line) = true := by rfl) (hs : starEach [e] X.env = (false, eval e X.env) :: starEach [] X.env := by rfl) (hplain : (backTo cpos (starEach [] X.env)).any (·.1) = false := by rfl) :
    DE X M W (.Call (.Attribute o "extend" apos) [e] [] cpos) (eMeth extendS fo (aCons fe aNil)) :=
  d_bm hK PySem.F.slot_list_extend PySem.F.type_list_extend mt_extend sat_extend ho (da_cons he da_nil hs) hbase hfew hline hs hplain
theorem d_popAt (hK : X.K = M.K) (ho : DE X M W o fo) {fe : EF} (he : DE X M W e fe)
    (hbase : attributeBase o "pop" X.env (eval o X.env) = eval o X.env := by rfl)
    (hfew : ((backTo cpos (starEach [e] X.env)).all (fun x => !x.1) && (backToKw cpos (keywordEach [] X.env)).all (fun x => x.1.isSome)
      && decide ([e].length + ([] : List Keyword).length + (if ([] : List Keyword).isEmpty then 0 else 1) < 30)) = true := by rfl)
    (hline : (apos.endLine == cpos.line) = true := by rfl) (hs : starEach [e] X.env = (false, eval e X.env) :: starEach [] X.env := by rfl) (hplain : (backTo cpos (starEach [] X.env)).any (·.1) = false := by rfl) :
    DE X M W (.Call (.Attribute o "pop" apos) [e] [] cpos) (eMeth popAtS fo (aCons fe aNil)) :=
  d_bm hK PySem.F.slot_list_pop PySem.F.type_list_pop mt_popAt sat_popAt ho (da_cons he da_nil hs) hbase hfew hline hs hplain
theorem d_pop (hK : X.K = M.K) (ho : DE X M W o fo) (hbase : attributeBase o "pop" X.env (eval o X.env) = eval o X.env := by rfl) (hline : (apos.endLine == cpos.line) = true := by rfl) :
    DE X M W (.Call (.Attribute o "pop" apos) [] [] cpos) (eMeth popS fo aNil) :=
  d_bm0 hK PySem.F.slot_list_pop PySem.F.type_list_pop mt_pop sat_pop ho hbase hline
end
end DL
/-! D8: defs at their contexts, recursion, the end. -/
namespace DL
open PySem L2
abbrev wE (E : XK) : WX := fun cls d _ H => E cls d H
theorem _root_.L2.Room.u64 {k : Nat} {A : Around} (r : Room k A) : A.units + 64 < cLine := r.units
theorem _root_.L2.Room.u65 {k : Nat} {A : Around} (r : Room k A) : A.units + 65 < cLine := by have := r.un; omega
section
variable {P : Program} {w : World} {K : PySem.W.Frag} {mg : Str → Option Value} {base : Heap} {M : Mi}
theorem DefD.mono {j k n : Nat} {name : Str} {F : FD} (D : DefD P w K mg base M j name n F) (h : j ≤ k) : DefD P w K mg base M k name n F := by
  obtain ⟨f, fd, ps, h1, h2⟩ := D.ok
  exact ⟨f, fd, ps, h1.mono h, h2⟩
/-- THE RULE for a def, at its own context -/
theorem def_c {x qual : Str} {st : Stmt} {f : Addr} {fd : FuncData} {N ps : List Str} {n : Nat} {k : Nat} {body : SF} {hand : Nat → SV → Store → Out SV} (hh : HandOk M hand) (F : Fun K x qual st f fd) (S : FnScope N ps (defScope st)) (hn : ps.length = n)
    (h : ∀ (cdv : Value) (A : Around) (outer : List Env) (s : Shared) (H : Hp) (E : XK), Room k (A.deeper (PyProof.Rows.envOfC qual (defScope st) s.heap.objs.size f cdv)) → Takes (cxOf (L2.CX P w) P w K mg base N qual (defScope st) f cdv A outer s H E) (wE E) →
      PassesOwn (model P w) (A.deeper (PyProof.Rows.envOfC qual (defScope st) s.heap.objs.size f cdv)) (PyProof.Rows.envOfC qual (defScope st) s.heap.objs.size f cdv) (cxOf (L2.CX P w) P w K mg base N qual (defScope st) f cdv A outer s H E).xe →
      DSs (cxOf (L2.CX P w) P w K mg base N qual (defScope st) f cdv A outer s H E) M (wE E) (defBody st) body) :
    FnOk P w K mg base (L2.CX P w) (k + 1) f fd ps (spD M n (runD hand N.length body)) := by
  subst hn
  refine F.okX S (fun vs H Q E h => h.1) fun cdv A outer s H vs Q E hr hsp => ?_
  obtain ⟨hl, g, S0, ds, r, q, p⟩ := hsp
  refine ⟨_, h cdv A outer s H E hr (takes_of rfl rfl rfl rfl) (passes_of rfl), g, _, S0, r, start_vars q, ?_⟩
  unfold runD at p
  have hB : g.B.length = S0.length := r.len
  split at p
  · rename_i v S' e
    rw [e]
    exact fun u g' H' gr r' q' => hh _ _ _ _ _ _ _ _ _ _ _ hB gr r' q' p
  · rename_i Γ' S' e
    rw [e]
    intro σ' g' H' gr r' v'
    obtain ⟨r2, gr2, _⟩ := r'.cut gr _ hB
    exact p .non _ _ gr2 r2 .non
  · rename_i x Γ' S' e
    rw [e]
    intro cls d σ' g' H' gr r' v' q'
    obtain ⟨r2, gr2, _⟩ := r'.cut gr _ hB
    exact p cls d _ _ gr2 r2 q'
  · exact p.elim
theorem def_at {x qual : Str} {st : Stmt} {f : Addr} {fd : FuncData} {N ps : List Str} {n : Nat} {k : Nat} {body : SF} {hand : Nat → SV → Store → Out SV} (hh : HandOk M hand) (F : Fun K x qual st f fd) (S : FnScope N ps (defScope st)) (hm : mg x = some (.ref f)) (hb : Binds K fd ps []) (hn : ps.length = n)
    (h : ∀ (cdv : Value) (A : Around) (outer : List Env) (s : Shared) (H : Hp) (E : XK), Room k (A.deeper (PyProof.Rows.envOfC qual (defScope st) s.heap.objs.size f cdv)) → Takes (cxOf (L2.CX P w) P w K mg base N qual (defScope st) f cdv A outer s H E) (wE E) →
      PassesOwn (model P w) (A.deeper (PyProof.Rows.envOfC qual (defScope st) s.heap.objs.size f cdv)) (PyProof.Rows.envOfC qual (defScope st) s.heap.objs.size f cdv) (cxOf (L2.CX P w) P w K mg base N qual (defScope st) f cdv A outer s H E).xe →
      DSs (cxOf (L2.CX P w) P w K mg base N qual (defScope st) f cdv A outer s H E) M (wE E) (defBody st) body) :
    DefD P w K mg base M (k + 1) x n (runD hand N.length body) :=
  ⟨f, fd, ps, def_c hh F S hn h, hm, F.kp, hb⟩
/-- a def of which nothing is said -/
theorem def_no {x qual : Str} {st : Stmt} {f : Addr} {fd : FuncData} {ps : List Str} {n k : Nat} (F : Fun K x qual st f fd) (hm : mg x = some (.ref f)) (hb : Binds K fd ps []) (hn : ps.length = n) : DefD P w K mg base M k x n (fun _ _ => .no) := by
  subst hn
  exact ⟨f, fd, ps, ⟨fun vs H Q E h => h.1, fun A outer s H args us vs Q E hr e0 hbt r h => h.2.elim fun _ h => h.elim fun _ h => h.elim fun _ h => h.2.2.elim⟩, hm, F.kp, hb⟩
/-- what stands behind the top of a def -/
structure FnX (K : PySem.W.Frag) (mg : Str → Option Value) (x : Str) (st : Stmt) (ps : List Str) : Prop where
  ok : ∃ f fd, Fun K x x st f fd ∧ mg x = some (.ref f) ∧ Binds K fd ps []
theorem FnX.at {x : Str} {st : Stmt} {N ps : List Str} {n k : Nat} {body : SF} {hand : Nat → SV → Store → Out SV} (G : FnX K mg x st ps) (hh : HandOk M hand) (S : FnScope N ps (defScope st)) (hn : ps.length = n)
    (h : ∀ (f : Addr) (cdv : Value) (A : Around) (outer : List Env) (s : Shared) (H : Hp) (E : XK), Room k (A.deeper (PyProof.Rows.envOfC x (defScope st) s.heap.objs.size f cdv)) → Takes (cxOf (L2.CX P w) P w K mg base N x (defScope st) f cdv A outer s H E) (wE E) →
      PassesOwn (model P w) (A.deeper (PyProof.Rows.envOfC x (defScope st) s.heap.objs.size f cdv)) (PyProof.Rows.envOfC x (defScope st) s.heap.objs.size f cdv) (cxOf (L2.CX P w) P w K mg base N x (defScope st) f cdv A outer s H E).xe →
      DSs (cxOf (L2.CX P w) P w K mg base N x (defScope st) f cdv A outer s H E) M (wE E) (defBody st) body) :
    DefD P w K mg base M (k + 1) x n (runD hand N.length body) := by
  obtain ⟨f, fd, F, hm, hb⟩ := G.ok
  exact def_at hh F S hm hb hn (h f)
theorem FnX.no {x : Str} {st : Stmt} {ps : List Str} {n k : Nat} (G : FnX K mg x st ps) (hn : ps.length = n) : DefD P w K mg base M k x n (fun _ _ => .no) := by
  obtain ⟨f, fd, F, hm, hb⟩ := G.ok
  exact def_no F hm hb hn
theorem FnX.mk' {x : Str} {st : Stmt} {f : Addr} {ps : List Str} {oc : Value} {od an : Option Addr} {osl : Array (Option Value)} {kV doc pm cdv ct : Value} (l : K.lookup f = some ⟨oc, od, .func (PySem.W.fnOf x x (defArgs st) (defBody st) (defScope st) .none kV doc pm an cdv ct), osl⟩)
    (c : PySem.W.codeIn K cdv x = true) (k : PySem.W.keepIn K (.ref f) = true) (hm : mg x = some (.ref f))
    (h : ∀ (kV doc pm : Value) (an : Option Addr) (cdv ct : Value) (us : List Value), us.length = ps.length → bindArgs (PySem.W.fnOf x x (defArgs st) (defBody st) (defScope st) .none kV doc pm an cdv ct) ⟨us, []⟩ = pure (ps.zip us)) : FnX K mg x st ps :=
  ⟨f, _, fun_mk l c k, hm, (fun_mk l c k).binds h⟩
end

/-- f() of a def that raises nothing -/
def eCall0 (F : FD) : EF := fun _ S => match F [] S with
  | .ok v S' => .ok v S'
  | _ => .no
theorem d_call0 {X : Cx} {M : Mi} {W : WX} {k : Nat} {F : FD} {x : Str} {p pos : Pos} (D : DefD X.prog X.w X.K X.mg X.base M k x 0 F) (hr : Room k X.A) (hg : Gl X x) (hdb : (x == ("__debug__" : Str)) = false := by decide) : DE X M W (.Call (.Name x p) [] [] pos) (eCall0 F) := by
  obtain ⟨f, fd, ps, hF, hm, hk, hb⟩ := D.ok
  refine (pe_call0 (E := E0) hF hr hg hm hk hb .nil passL hdb).weak fun σ H Q h => ?_
  obtain ⟨g, Γ, S, r, v, p⟩ := h
  refine ⟨rfl, g, S, [], r, .nil, ?_⟩
  unfold eCall0 at p
  split at p
  · rename_i v' S' e
    rw [e]
    exact p
  · exact p.elim

/-- a constant of the module -/
theorem d_globD {X : Cx} {M : Mi} {W : WX} {x : Str} {d : PyData} {pos : Pos} (hg : Gl X x) (h : ∃ (u : Value) (v : V), X.mg x = some u ∧ RelV v u ∧ ∀ F, Rp M.K F v d) (hdb : (x == ("__debug__" : Str)) = false := by decide) : DE X M W (.Name x pos) (eC d) := by
  obtain ⟨u, v, h1, h2, h3⟩ := h
  exact d_glob hg h1 h2 h3 hdb

/-! ### the end -/
/-- the law's promise: True at every script -/
def spLaw (K : PySem.W.Frag) : Sp := fun vs H Q _ => ∃ (a : Addr) (ns : List Int), vs = [.ref a] ∧ SqL K H a (ns.map V.int) ∧ ns.length ≤ 63 ∧ ∀ H', Q (.bl true) H'
theorem law_sp {P : Program} {w : World} {K : PySem.W.Frag} {mg : Str → Option Value} {base : Heap} {M : Mi} {k : Nat} {f : Addr} {fd : FuncData} {ps : List Str} {F : FD} (hK : M.K = K) (h : FnOk P w K mg base (L2.CX P w) k f fd ps (spD M 1 F))
    (law : ∀ ns : List Int, ns.length ≤ 63 → F [.scr ns] [] = .ok (.d (.bool true)) []) : FnOk P w K mg base (L2.CX P w) k f fd ps (spLaw K) := by
  subst hK
  refine h.imp fun vs H Q E ⟨a, ns, e, hs, hl, hq⟩ => ?_
  subst e
  refine ⟨rfl, ⟨[], H⟩, [], [.scr ns], ⟨fun _ _ h => h, List.nodup_nil, (fun b hb => absurd (show b ∈ ([] : List Addr) from hb) List.not_mem_nil), rfl, fun i a m h => ?_⟩, .cons ⟨a, rfl, hs⟩ .nil, ?_⟩
  · simp at h
  · rw [law ns hl]
    intro u g' H' _ _ q
    cases q
    exact hq H'
theorem law_end {l : PySem.W.OpenLaw} {k : Nat} {q : Program} {loose : List Str} {XP : (Str → Option Value) → Heap → Prop} {YP : World → Heap → Prop} {d : DefRec} {K : Params → PySem.W.Frag} (hr : Room k callerA) (hn : l.most = some 63) (hdf : d.params.defaults = [])
    (hY : ∀ (w : World) (h : Heap), YP w h → (K w.params).In h)
    (F : ∀ (w : World) (mg : Str → Option Value) (fa : Addr) (h : Heap), (K w.params).In h → h.Ns mainGlobals mg → mg d.name = some (.ref fa) →
      ∃ fd : FuncData, (∀ (s : Shared) (u : Value), BindsTo s fd ⟨[u], []⟩ [("script", u)]) ∧ ∀ base : Heap, (K w.params).In base → base.Ns mainGlobals mg → FnOk l.prog w (K w.params) mg base (L2.CX l.prog w) k fa fd ["script"] (spLaw (K w.params))) :
    PySem.W.WalkO q loose XP YP l.row.toRowW d [] (fun f vs => PySem.call f vs) :=
  L2.walk_of (n := 63) (k := k) (x := "script") (CX := fun w => L2.CX l.prog w) (sp := fun w => spLaw (K w.params)) hn (by decide) hdf hr hY F (fun _ _ a ns hl _ hS => ⟨a, ns, rfl, hS, hl, fun _ => rfl⟩) fun w H s e s' z => by
    obtain ⟨_, _, _, _, _, _, _, _, _, _, _, _, z⟩ := z
    exact z.elim
theorem FnX.of {h : Heap} {K : PySem.W.Frag} {mg : Str → Option Value} {x : Str} {st : Stmt} {f : Addr} {ps : List Str} {oc : Value} {od an : Option Addr} {osl : Array (Option Value)} {kV doc pm cdv ct : Value} (X : K.In h) (G : h.Ns mainGlobals mg) (a : PySem.W.nsIn K mainGlobals x = some (some (.ref f)))
    (l : K.lookup f = some ⟨oc, od, .func (PySem.W.fnOf x x (defArgs st) (defBody st) (defScope st) .none kV doc pm an cdv ct), osl⟩)
    (c : PySem.W.codeIn K cdv x = true) (k : PySem.W.keepIn K (.ref f) = true)
    (hb : ∀ (kV doc pm : Value) (an : Option Addr) (cdv ct : Value) (us : List Value), us.length = ps.length → bindArgs (PySem.W.fnOf x x (defArgs st) (defBody st) (defScope st) .none kV doc pm an cdv ct) ⟨us, []⟩ = pure (ps.zip us)) : FnX K mg x st ps :=
  .mk' l c k (PySem.W.mg_of X G a) hb
/-- the law's own def -/
structure LawX (K : PySem.W.Frag) (mg : Str → Option Value) (st : Stmt) : Prop where
  ok : ∃ f fd, Fun K "law" "law" st f fd ∧ mg "law" = some (.ref f) ∧ ∀ (s : Shared) (u : Value), BindsTo s fd ⟨[u], []⟩ [("script", u)]
theorem LawX.of {h : Heap} {K : PySem.W.Frag} {mg : Str → Option Value} {st : Stmt} {f : Addr} {oc : Value} {od an : Option Addr} {osl : Array (Option Value)} {kV doc pm cdv ct : Value} (X : K.In h) (G : h.Ns mainGlobals mg) (a : PySem.W.nsIn K mainGlobals "law" = some (some (.ref f)))
    (l : K.lookup f = some ⟨oc, od, .func (PySem.W.fnOf "law" "law" (defArgs st) (defBody st) (defScope st) .none kV doc pm an cdv ct), osl⟩)
    (c : PySem.W.codeIn K cdv "law" = true) (k : PySem.W.keepIn K (.ref f) = true)
    (hb : ∀ (kV doc pm : Value) (an : Option Addr) (cdv ct : Value) (u : Value), bindArgs (PySem.W.fnOf "law" "law" (defArgs st) (defBody st) (defScope st) .none kV doc pm an cdv ct) ⟨[u], []⟩ = pure ([("script", u)] : List (Str × Value))) : LawX K mg st :=
  ⟨f, _, fun_mk l c k, PySem.W.mg_of X G a, fun s u => .of_eq (hb ..)⟩
theorem law_fin {l : PySem.W.OpenLaw} (mi : PySem.W.Frag → (Str → Option Value) → Mi) (hmi : ∀ K mg, (mi K mg).K = K) {k : Nat} {q : Program} {loose : List Str} {XP : (Str → Option Value) → Heap → Prop} {YP : World → Heap → Prop} {d : DefRec} {K : Params → PySem.W.Frag} {st : Stmt} {F : FD} (Txt : PySem.W.Frag → (Str → Option Value) → Prop) (hr : Room k callerA) (hn : l.most = some 63) (hdf : d.params.defaults = []) (hd : d.name = "law")
    (hY : ∀ (w : World) (h : Heap), YP w h → (K w.params).In h)
    (D : ∀ {P : Program} {w : World} {K : PySem.W.Frag} {mg : Str → Option Value} {base : Heap} {f : Addr} {fd : FuncData}, Txt K mg → Fun K "law" "law" st f fd → FnOk P w K mg base (L2.CX P w) k f fd ["script"] (spD (mi K mg) 1 F))
    (law : ∀ ns : List Int, ns.length ≤ 63 → F [.scr ns] [] = .ok (.d (.bool true)) [])
    (T : ∀ (w : World) (mg : Str → Option Value) (h : Heap), (K w.params).In h → h.Ns mainGlobals mg → Txt (K w.params) mg ∧ LawX (K w.params) mg st) :
    PySem.W.WalkO q loose XP YP l.row.toRowW d [] (fun f vs => PySem.call f vs) := by
  refine law_end (k := k) hr hn hdf hY fun w mg fa h KX G hmg => ?_
  obtain ⟨t, f, fd, Fn, hm, hb⟩ := T w mg h KX G
  rw [hd, hm] at hmg
  cases hmg
  exact ⟨fd, hb, fun base _ _ => law_sp (hmi _ _) (D t Fn) law⟩
end DL
/-! D9: the module's constants, read in the kernel. -/
namespace DL
open PySem L2
def tupOf : Option Obj → Option (List Value)
  | some ⟨.type "tuple", _, .seq its _, _⟩ => if its.size ≤ sizeLine then some its.toList else none
  | _ => none
def rdAll (f : Value → Option PyData) : List Value → Option (List PyData)
  | [] => some []
  | u :: us => (f u).bind fun d => (rdAll f us).bind fun ds => some (d :: ds)
def rdK (K : PySem.W.Frag) : Nat → Value → Option PyData
  | 0, _ => none
  | n + 1, u => match u with
    | .none => some .none
    | .bool b => some (.bool b)
    | .int i _ => some (.int i)
    | .str x _ => some (.str x)
    | .ref a => (tupOf (K.lookup a)).bind fun us => (rdAll (rdK K n) us).map .tuple
    | _ => none
theorem rdAll_ok {K : PySem.W.Frag} {f : Value → Option PyData} (hf : ∀ u d, f u = some d → ∃ v, RelV v u ∧ ∀ F, Rp K F v d) : ∀ us ds, rdAll f us = some ds → ∃ vs, Vals vs us ∧ ∀ F, RpAll K F vs ds
  | [], ds, e => by
    cases e
    exact ⟨[], .nil, fun _ => .nil⟩
  | u :: us, ds, e => by
    unfold rdAll at e
    cases h1 : f u with
    | none => rw [h1] at e; cases e
    | some d =>
      rw [h1] at e
      cases h2 : rdAll f us with
      | none => rw [h2] at e; cases e
      | some ds' =>
        rw [h2] at e
        cases e
        obtain ⟨v, r, hv⟩ := hf u d h1
        obtain ⟨vs, rs, hvs⟩ := rdAll_ok hf us ds' h2
        exact ⟨v :: vs, .cons r rs, fun F => .cons (hv F) (hvs F)⟩
theorem rdAll_len {f : Value → Option PyData} : ∀ us ds, rdAll f us = some ds → ds.length = us.length
  | [], ds, e => by cases e; rfl
  | u :: us, ds, e => by
    unfold rdAll at e
    cases h1 : f u with
    | none => rw [h1] at e; cases e
    | some d =>
      rw [h1] at e
      cases h2 : rdAll f us with
      | none => rw [h2] at e; cases e
      | some ds' =>
        rw [h2] at e
        cases e
        simp [rdAll_len us ds' h2]
theorem tupOf_ok {o : Option Obj} {us : List Value} (h : tupOf o = some us) : ∃ (o' : Obj) (its : Array Value) (n : Nat), o = some o' ∧ o'.cls = .type "tuple" ∧ o'.data = .seq its n ∧ its.size ≤ sizeLine ∧ its.toList = us := by
  unfold tupOf at h
  split at h
  · rename_i dd its n sl
    split at h
    · rename_i hz
      cases h
      exact ⟨_, its, n, rfl, rfl, rfl, hz, rfl⟩
    · cases h
  · cases h
theorem rdK_ok {K : PySem.W.Frag} : ∀ n u d, rdK K n u = some d → ∃ v, RelV v u ∧ ∀ F, Rp K F v d
  | 0, u, d, e => by cases e
  | n + 1, u, d, e => by
    unfold rdK at e
    split at e
    · cases e; exact ⟨.non, rfl, fun _ => .non⟩
    · cases e; exact ⟨.bl _, rfl, fun _ => .bl _⟩
    · cases e; exact ⟨.int _, ⟨_, rfl⟩, fun _ => .int _⟩
    · cases e; exact ⟨.str _, ⟨_, rfl⟩, fun _ => .str _⟩
    · rename_i a
      cases h : tupOf (K.lookup a) with
      | none => rw [h] at e; cases e
      | some us =>
        rw [h] at e
        cases h2 : rdAll (rdK K n) us with
        | none => simp [h2] at e
        | some ds =>
          simp [h2] at e
          subst e
          obtain ⟨vs, rs, hvs⟩ := rdAll_ok (rdK_ok n) us ds h2
          obtain ⟨o, its, m, e1, e2, e3, e4, e5⟩ := tupOf_ok h
          refine ⟨.ref a, rfl, fun F => .tup (.inr ⟨o, its, m, e1, e2, e3, e4, e5 ▸ rs⟩) ?_ (hvs F)⟩
          rw [rdAll_len us ds h2, ← e5]
          exact Nat.le_trans (by simp) (Nat.le_trans e4 (by decide))
    · cases e
theorem konst {h : Heap} {K : PySem.W.Frag} {mg : Str → Option Value} {x : Str} {u : Value} {d : PyData} (n : Nat) (X : K.In h) (G : h.Ns mainGlobals mg) (a : PySem.W.nsIn K mainGlobals x = some (some u)) (r : rdK K n u = some d) :
    ∃ (u : Value) (v : V), mg x = some u ∧ RelV v u ∧ ∀ F, Rp K F v d := by
  obtain ⟨v, e, hv⟩ := rdK_ok n u d r
  exact ⟨u, v, PySem.W.mg_of X G a, e, hv⟩
end DL
/-! D10: raise, try. -/
namespace DL
open PySem L2
/-- an own exception class over ValueError without an __init__ -/
structure ExF (K : PySem.W.Frag) (C : Addr) : Prop where
  q : PySem.W.excIn K C [.type "ValueError", .type "Exception", .type "BaseException", .type "object"] "ValueError.__new__" = true
  kp : PySem.W.keepIn K (.ref C) = true
  sb : PySem.W.subIn K (.ref C) (.type "BaseException") = some true
  ty : PySem.W.typeIn K (.ref C) = some (.type "type")
structure ExX (K : PySem.W.Frag) (mg : Str → Option Value) (cn : Str → Option Addr) (x : Str) : Prop where
  ok : ∃ C, cn x = some C ∧ mg x = some (.ref C) ∧ ExF K C
def cnOf (mg : Str → Option Value) : Str → Option Addr := fun x => match mg x with
  | some (.ref C) => some C
  | _ => none
theorem cnOf_ok {mg : Str → Option Value} {x : Str} {C : Addr} (h : mg x = some (.ref C)) : cnOf mg x = some C := by
  unfold cnOf
  rw [h]
def fRaise (c : Str) : SF := fun Γ S => .ok (.xc ⟨c, []⟩ Γ) S
theorem s_raise {X : Cx} {M : Mi} {W : WX} {x m : Str} {j : Nat} {p p2 pos pos' : Pos} (hc : X.calm = true) (tk : Takes X W) (E : ExX X.K X.mg M.cn x) (hg : Gl X x) (hdb : (x == ("__debug__" : Str)) = false := by decide) :
    DS X M W (.Raise (some (.Call (.Name x p) [.Constant (.str m) j p2] [] pos)) none pos') (fRaise x) := by
  obtain ⟨C, e1, e2, F⟩ := E.ok
  exact (ps_raise hc tk (pmk_own PySem.F.excBase_ValueError F.q e2 F.kp (raises_own F.sb F.ty) hg hdb)).weak fun D σ H ⟨g, Γ, S, r, v, p⟩ => p _ _ σ g H (Grow.refl _ _) r v ⟨C, e1, rfl, .inl ⟨rfl, rfl⟩⟩
/-- except X: which of the program's classes it catches -/
structure CatchX (K : PySem.W.Frag) (mg : Str → Option Value) (cn : Str → Option Addr) (x : Str) (ok : Str → Option Bool) : Prop where
  ok : ∃ C, mg x = some (.ref C) ∧ ∀ c b, ok c = some b → ∀ D, cn c = some D → PySem.W.exmOne K (.ref D) (.ref C) = some b
def endF (o : Out Fl) : Out Fl := match o with
  | .ok (.xc _ _) _ => .no
  | o => o
def fTry (ok : Str → Option Bool) (body suite : SF) : SF := fun Γ S => match body Γ S with
  | .ok (.xc x Γ') S' => match ok x.cls with
    | some true => endF (suite Γ' S')
    | some false => .ok (.xc x Γ') S'
    | none => .no
  | o => o
theorem PostS.end {M : Mi} {W W' : WX} {D : Ends} {g : Gh} {H : Hp} {o : Out Fl} (h : PostS M W D g H (endF o)) : PostS M W' D g H o := by
  cases o with
  | ok f S => cases f with
    | xc x Γ => exact h.elim
    | _ => exact h
  | ex x S => exact h
  | no => exact h
theorem s_try {X : Cx} {M : Mi} {Wout : WX} {x : Str} {body suite : List Stmt} {b₀ : Stmt} {np pos pos' : Pos} {ok : Str → Option Bool} {b su : SF} (hs : X.stack = X.env :: X.outer) (hf : X.env.frame = some X.env.locals) (hK : X.K = M.K) (E : CatchX X.K X.mg M.cn x ok) (hg : Gl X x) (tk : Takes X Wout)
    (hb : ∀ (W : WX) (pn : List (Addr × Obj)) (xe : Value → Shared → Prop), Takes (X.tr pn xe) W → PassesOwn (model X.prog X.w) X.A X.env xe → DSs (X.tr pn xe) M W body b)
    (hsu : ∀ (a : Addr) (oe : Obj) (cls : Value) (d : Option Addr) (pn : List (Addr × Obj)), Zc cls d oe → (∃ vs, oe.data = .fields vs) → DSs (X.suite a ((a, oe) :: pn)) M W0 (b₀ :: suite) su) (hdb : (x == ("__debug__" : Str)) = false := by decide) :
    DS X M Wout (.Try body [.ExceptHandler (some (.Name x np)) none (b₀ :: suite) pos'] [] [] pos) (fTry ok b su) := by
  obtain ⟨C, e1, e2⟩ := E.ok
  refine (ps_try_only (c := .ref C) (ts := fun _ _ _ => tS M W0 su) hs hf ⟨hg, hdb, .inl e1⟩ tk hb hsu).weak fun D σ H ⟨g, Γ, S, r, v, p⟩ => ⟨g, Γ, S, r, v, ?_⟩
  unfold fTry at p
  cases hbo : b Γ S with
  | no => rw [hbo] at p; exact p
  | ex y S' => rw [hbo] at p; exact p
  | ok f S' =>
    rw [hbo] at p
    cases f with
    | nx Γ' => exact p
    | rt w => exact p
    | bk Γ' => exact p
    | ct Γ' => exact p
    | xc y Γ' =>
      simp only at p
      intro cls d σ' g' H' gr r' v' q'
      obtain ⟨B, n1, rfl, q2⟩ := id q'
      cases ho : ok y.cls with
      | none => rw [ho] at p; exact p.elim
      | some t =>
        rw [ho] at p
        refine ⟨t, e2 _ _ ho _ n1, fun ht a na => ?_, fun ht => ?_⟩
        · subst ht
          exact ⟨g', Γ', S', r', v', (PostS.grow r' gr p).end⟩
        · subst ht
          exact p _ _ σ' g' H' gr r' v' q'
end DL
/-! D11: except X as n: return e. -/
namespace DL
open PySem L2
theorem RepX.sub {F F' : Hp} {K : PySem.W.Frag} (h : Sub F F') {fs : List (Str × PyData)} {d : Option Addr} (r : RepX F K fs d) : RepX F' K fs d := by
  rcases r with ⟨h1, h2⟩ | ⟨h0, dx, vs, h1, h2, h3⟩
  · exact .inl ⟨h1, h2⟩
  · refine .inr ⟨h0, dx, vs, h1, h _ _ h2, ?_⟩
    clear h2 h0
    induction h3 with
    | nil => exact .nil
    | cons a b ih => exact .cons ⟨a.1, Rp.sub h _ _ a.2⟩ ih
theorem Vars.hide {K : PySem.W.Frag} {g : Gh} {σ : St} {Γ : Ev} (h : Vars K g σ Γ) (i : Nat) (o : Option V) : Vars K g (σ.set i o) (Γ.set i none) := by
  refine ⟨by rw [List.length_set, List.length_set, h.len], fun j y e => ?_⟩
  by_cases hj : i = j
  · subst hj
    rw [List.getElem?_set] at e
    simp at e
  · rw [List.getElem?_set_ne hj] at e ⊢
    exact h.at_ j y e
/-- slot i holds the exception that the suite holds -/
structure HeldX (M : Mi) (i : Nat) (a : Addr) (cls : Value) (d : Option Addr) (x : Exc) (g : Gh) (σ : St) : Prop where
  slot : σ[i]? = some (some (.ref a))
  rep : XRep M g.F x cls d
theorem HeldX.grow {M : Mi} {i : Nat} {a : Addr} {cls : Value} {d : Option Addr} {x : Exc} {g g' : Gh} {H H' : Hp} {σ : St} (h : HeldX M i a cls d x g σ) (gr : Grow g H g' H') : HeldX M i a cls d x g' σ := by
  obtain ⟨C, h1, h2, h3⟩ := h.rep
  exact ⟨h.slot, C, h1, h2, RepX.sub gr.sub h3⟩
section
variable {X : Cx} {M : Mi} {i : Nat} {a : Addr} {cls : Value} {d : Option Addr} {x : Exc}
def tI2 {α β : Type} (M : Mi) (i : Nat) (a : Addr) (cls : Value) (d : Option Addr) (x : Exc) (R : Gh → β → α → Prop) (f : Ev → Store → Out α) : St → Hp → (β → Hp → Prop) → Prop := fun σ H Q =>
  ∃ g Γ S, Rel M.K g H S ∧ Vars M.K g σ Γ ∧ HeldX M i a cls d x g σ ∧ Post M W0 σ R Q g H (f Γ S)
abbrev DEi (X : Cx) (M : Mi) (i : Nat) (a : Addr) (cls : Value) (d : Option Addr) (x : Exc) (e : Expr) (f : EF) : Prop := PE X e (tI2 M i a cls d x (rS M) f)
abbrev DTi (X : Cx) (M : Mi) (i : Nat) (a : Addr) (cls : Value) (d : Option Addr) (x : Exc) (e : Expr) (f : TF) : Prop := PT X e (tI2 M i a cls d x rB f)
abbrev DAi (X : Cx) (M : Mi) (i : Nat) (a : Addr) (cls : Value) (d : Option Addr) (x : Exc) (e : List Expr) (f : AF) : Prop := PA X e (tI2 M i a cls d x (rA M) f)
theorem di_lift {e : Expr} {f : EF} (h : DE X M W0 e f) : DEi X M i a cls d x e f := h.weak fun σ H Q ⟨g, Γ, S, r, v, _, p⟩ => ⟨g, Γ, S, r, v, p⟩
theorem stepI {α β γ δ : Type} {R : Gh → β → α → Prop} {R2 : Gh → δ → γ → Prop} {f : Ev → Store → Out α} {k : α → Store → Out γ} {Q2 : δ → Hp → Prop} {Q : β → Hp → Prop} {σ : St} {H : Hp} {g : Gh} {Γ : Ev} {S : Store} (r : Rel M.K g H S) (v : Vars M.K g σ Γ) (hx : HeldX M i a cls d x g σ)
    (p : Post M W0 σ R2 Q2 g H ((f Γ S).bind k)) (h : ∀ u H1 g1 S1 b, Grow g H g1 H1 → Rel M.K g1 H1 S1 → Vars M.K g1 σ Γ → HeldX M i a cls d x g1 σ → R g1 u b → Post M W0 σ R2 Q2 g1 H1 (k b S1) → Q u H1) : tI2 M i a cls d x R f σ H Q :=
  ⟨g, Γ, S, r, v, hx, (Post.bind (R := R) p).imp fun u H1 ⟨g1, S1, b, gr, r1, q1, p1⟩ => h u H1 g1 S1 b gr r1 (gr.vars v) (hx.grow gr) q1 p1⟩
theorem dai_nil : DAi X M i a cls d x [] aNil := pa_nil.weak fun σ H Q h => by
  obtain ⟨g, Γ, S, r0, v0, _, p⟩ := h
  exact Post.now p r0 .nil
theorem dai_cons {e : Expr} {es : List Expr} {f : EF} {r : AF} (he : DEi X M i a cls d x e f) (hr : DAi X M i a cls d x es r) (hs : starEach (e :: es) X.env = (false, eval e X.env) :: starEach es X.env := by rfl) : DAi X M i a cls d x (e :: es) (aCons f r) :=
  (pa_cons he hr hs).weak fun σ H Q h => by
    obtain ⟨g, Γ, S, r0, v0, x0, p⟩ := h
    refine stepI r0 v0 x0 p fun u H1 g1 S1 v gr r1 v1 x1 q1 p1 => stepI r1 v1 x1 p1 fun us H2 g2 S2 vs gr2 r2 v2 x2 q2 p2 => ?_
    exact p2.now r2 (.cons (gr2.rep q1) q2)
theorem di_tup {es : List Expr} {k : Nat} {pos : Pos} {f : AF} (h : DAi X M i a cls d x es f) : DEi X M i a cls d x (.Tuple es k pos) (eTup f) :=
  (pe_tup h).weak fun σ H Q h => by
    obtain ⟨g, Γ, S, r0, v0, x0, p⟩ := h
    refine stepI r0 v0 x0 p fun us H1 g1 S1 vs gr r1 v1 x1 q1 p1 => ?_
    split at p1
    · rename_i ds e
      split at p1
      · rename_i hz
        have t := allD_ok q1 e
        exact ⟨by rw [t.len]; exact hz, lay_tup r1 hz t p1⟩
      · exact p1.elim
    · exact p1.elim
theorem di_if {c e1 e2 : Expr} {pos : Pos} {t : TF} {f1 f2 : EF} (hc : DTi X M i a cls d x c t) (h1 : DEi X M i a cls d x e1 f1) (h2 : DEi X M i a cls d x e2 f2) : DEi X M i a cls d x (.IfExp c e1 e2 pos) (eIf t f1 f2) :=
  (pe_ifExp hc h1 h2).weak fun σ H Q h => by
    obtain ⟨g, Γ, S, r0, v0, x0, p⟩ := h
    refine stepI r0 v0 x0 p fun u H1 g1 S1 v gr r1 v1 x1 q1 p1 => ?_
    cases q1
    cases u with
    | true => exact ⟨g1, Γ, S1, r1, v1, x1, p1⟩
    | false => exact ⟨g1, Γ, S1, r1, v1, x1, p1⟩
theorem ti_tru (hK : X.K = M.K) {e : Expr} {f : EF} (ha : DEi X M i a cls d x e f) (he : ∀ whole, isTrue e X.env whole = (do let v ← whole; standAt e.pos; holding [v] (truthy v)) := by intro _; rfl) : DTi X M i a cls d x e (tru f) :=
  (pt_truth ha he).weak fun σ H Q h => by
    obtain ⟨g, Γ, S, r0, v0, x0, p⟩ := h
    refine stepI r0 v0 x0 p fun u H1 g1 S1 v gr r1 v1 x1 q1 p1 => ?_
    split at p1
    · rename_i k e
      exact ⟨k, by rw [hK]; exact truS_ok r1 q1 e, p1.now r1 rfl⟩
    · exact p1.elim
/-- n.f -/
def eXf (x : Exc) (f : Str) : EF := fun Γ S => match x.fs.lookup f with
  | some y => .ok (.d y) S
  | none => .no
theorem lookup_pair {K : PySem.W.Frag} {F : Hp} {n : Str} : ∀ {vs : List (Str × V)} {fs : List (Str × PyData)} {y : PyData}, Paired (fun (p : Str × V) (q : Str × PyData) => p.1 = q.1 ∧ Rp K F p.2 q.2) vs fs → fs.lookup n = some y → ∃ v, vs.lookup n = some v ∧ Rp K F v y
  | _, _, _, .nil, e => by cases e
  | (k, v) :: vs, (k', y') :: fs, y, .cons h t, e => by
    obtain ⟨h1, h2⟩ := h
    simp only at h1 h2
    subst h1
    rw [List.lookup_cons] at e ⊢
    cases hb : n == k with
    | true =>
      rw [hb] at e
      cases e
      exact ⟨v, rfl, h2⟩
    | false =>
      rw [hb] at e
      exact lookup_pair t e
end
/-- the classes whose instances' fields may be read: f is no attribute of the class -/
structure FieldX (K : PySem.W.Frag) (cn : Str → Option Addr) (c f : Str) : Prop where
  ok : ∀ C, cn c = some C → XfC K C ∧ PySem.W.findIn K (.ref C) f = some none
theorem di_xf {X : Cx} {M : Mi} {i : Nat} {a : Addr} {cls : Value} {d : Option Addr} {x : Exc} {oe : Obj} {pn : List (Addr × Obj)} {n f : Str} {p pos : Pos} (hK : X.K = M.K) (T : FieldX X.K M.cn x.cls f) (hz : Zc cls d oe) (hf : ∃ vs, oe.data = .fields vs)
    (hv : PE (X.suite a ((a, oe) :: pn)) (.Name n p) (tVar i)) (hb : attributeBase (.Name n p) f X.env (eval (.Name n p) X.env) = eval (.Name n p) X.env := by rfl) :
    DEi (X.suite a ((a, oe) :: pn)) M i a cls d x (.Attribute (.Name n p) f pos) (eXf x f) := by
  refine ⟨fun pins s σ H Q I h => ?_⟩
  obtain ⟨g, Γ, S, r, v, hx, p⟩ := h
  obtain ⟨C, e1, e2, e3⟩ := hx.rep
  obtain ⟨T1, T2⟩ := T.ok C e1
  refine (pe_xf T1 T2 hz hf hv hb).run pins s σ H Q I ?_
  refine ⟨.ref a, hx.slot, rfl, e2, ?_⟩
  unfold eXf at p
  cases hl : x.fs.lookup f with
  | none => rw [hl] at p; exact p.elim
  | some y =>
    rw [hl] at p
    rcases e3 with ⟨h1, _⟩ | ⟨_, dx, vs, h1, h2, h3⟩
    · rw [h1] at hl; cases hl
    · obtain ⟨w, hw, rw'⟩ := lookup_pair h3 hl
      exact ⟨dx, vs, w, h1, r.sub _ _ h2, hw, p.now r rw'⟩
/-- isinstance(n, C) -/
structure IsX (K : PySem.W.Frag) (mg : Str → Option Value) (cn : Str → Option Addr) (x : Str) (ok : Str → Option Bool) : Prop where
  ok : ∃ C, mg x = some (.ref C) ∧ ∀ c b, ok c = some b → ∀ D, cn c = some D → ExcC K D ∧ PySem.W.kitOne K (.ref D) (.ref C) = some b
def eIsX (x : Exc) (ok : Str → Option Bool) : EF := fun Γ S => match x.fs, ok x.cls with
  | [], some b => .ok (.d (.bool b)) S
  | _, _ => .no
theorem di_isx {X : Cx} {M : Mi} {i : Nat} {a : Addr} {cls : Value} {d : Option Addr} {x : Exc} {oe : Obj} {pn : List (Addr × Obj)} {n c : Str} {p p2 p3 pos : Pos} {ok : Str → Option Bool} (hK : X.K = M.K) (T : IsX X.K X.mg M.cn c ok) (hz : Zc cls d oe) (hf : ∃ vs, oe.data = .fields vs) (hg : Gl X "isinstance") (hm : X.mg "isinstance" = none) (hc : Gl X c) (hdb : (c == ("__debug__" : Str)) = false)
    (hv : PE (X.suite a ((a, oe) :: pn)) (.Name n p) (tVar i)) (he : starEach [.Name n p, .Name c p2] X.env = (false, eval (.Name n p) X.env) :: starEach [.Name c p2] X.env := by rfl) (he2 : starEach [.Name c p2] X.env = (false, eval (.Name c p2) X.env) :: starEach [] X.env := by rfl) (hpl : (backTo pos (starEach [.Name c p2] X.env)).any (·.1) = false := by rfl) :
    DEi (X.suite a ((a, oe) :: pn)) M i a cls d x (.Call (.Name "isinstance" p3) [.Name n p, .Name c p2] [] pos) (eIsX x ok) := by
  refine ⟨fun pins s σ H Q I h => ?_⟩
  obtain ⟨g, Γ, S, r, v, hx, q⟩ := h
  obtain ⟨D, e1, e2, e3⟩ := hx.rep
  obtain ⟨C, c1, c2⟩ := T.ok
  unfold eIsX at q
  split at q
  · rename_i b h1 h2
    have ed : d = none := by
      rcases e3 with ⟨_, h⟩ | ⟨h, _⟩
      · exact h
      · exact absurd h1 h
    subst ed
    subst e2
    obtain ⟨k1, k2⟩ := c2 _ _ h2 _ e1
    refine (pe_callB (X := X.suite a ((a, oe) :: pn)) (r := rIsE X.K D a) (call_isE k1 hz hf) hg hm (by decide +kernel) (pa_cons hv (pa_cons (pe_glob (X := X.suite a ((a, oe) :: pn)) (v := .ref C) hc c1 rfl hdb) pa_nil he2) he) (by decide) (by decide) he hpl).run pins s σ H Q I ?_
    exact ⟨.ref a, hx.slot, .ref C, .ref C, b, rfl, fun u hu => hu, k2, q.now r (.bl _)⟩
  · exact q.elim
/-- try: body / except X as n: return e -/
def fTryRet (ok : Str → Option Bool) (i : Nat) (body : SF) (su : Exc → EF) : SF := fun Γ S => match body Γ S with
  | .ok (.xc x Γ') S' => match ok x.cls with
    | some true => if i < Γ'.length then (match su x (Γ'.set i none) S' with
      | .ok v S'' => .ok (.rt v) S''
      | _ => .no) else .no
    | some false => .ok (.xc x Γ') S'
    | none => .no
  | o => o
theorem s_tryRet {X : Cx} {M : Mi} {Wout : WX} {i : Nat} {x n : Str} {body : List Stmt} {e : Expr} {np rp pos pos' : Pos} {ok : Str → Option Bool} {b : SF} {su : Exc → EF} (hs : X.stack = X.env :: X.outer) (hf : X.env.frame = some X.env.locals) (hN : X.N.Nodup) (hi : X.N[i]? = some n) (hln : X.env.kindOf n = some .local) (hK : X.K = M.K) (E : CatchX X.K X.mg M.cn x ok) (hg : Gl X x) (tk : Takes X Wout)
    (hb : ∀ (W : WX) (pn : List (Addr × Obj)) (xe : Value → Shared → Prop), Takes (X.tr pn xe) W → PassesOwn (model X.prog X.w) X.A X.env xe → DSs (X.tr pn xe) M W body b)
    (hsu : ∀ (a : Addr) (oe : Obj) (cls : Value) (d : Option Addr) (pn : List (Addr × Obj)) (x : Exc), Zc cls d oe → (∃ vs, oe.data = .fields vs) → DEi (X.suite a ((a, oe) :: pn)) M i a cls d x e (su x)) (hdb : (x == ("__debug__" : Str)) = false := by decide) :
    DS X M Wout (.Try body [.ExceptHandler (some (.Name x np)) (some n) [.Return (some e) rp] pos'] [] [] pos) (fTryRet ok i b su) := by
  obtain ⟨C, e1, e2⟩ := E.ok
  refine (ps_try_as (c := .ref C) (i := i) (ts := fun a cls d D σ H => ∃ x, tI2 M i a cls d x (rS M) (su x) σ H fun u H' => D.rt u H') hs hf hN hi hln ⟨hg, hdb, .inl e1⟩ tk hb (fun a oe cls d pn hz hf => ?_)).weak fun D σ H ⟨g, Γ, S, r, v, p⟩ => ⟨g, Γ, S, r, v, ?_⟩
  · refine ⟨fun pins s σ H D I h => ?_⟩
    obtain ⟨x, h⟩ := h
    exact (pss_one (ps_ret (hsu a oe cls d pn x hz hf))).run pins s σ H D I h
  unfold fTryRet at p
  cases hbo : b Γ S with
  | no => rw [hbo] at p; exact p
  | ex y S' => rw [hbo] at p; exact p
  | ok f S' =>
    rw [hbo] at p
    cases f with
    | nx Γ' => exact p
    | rt w => exact p
    | bk Γ' => exact p
    | ct Γ' => exact p
    | xc y Γ' =>
      simp only at p
      intro cls d σ' g' H' gr r' v' q'
      obtain ⟨B, n1, rfl, q2⟩ := id q'
      cases ho : ok y.cls with
      | none => rw [ho] at p; exact p.elim
      | some t =>
        rw [ho] at p
        refine ⟨t, e2 _ _ ho _ n1, fun ht a na => ?_, fun ht => ?_⟩
        · subst ht
          simp only at p
          by_cases hiΓ : i < Γ'.length
          case neg => rw [if_neg hiΓ] at p; exact p.elim
          rw [if_pos hiΓ] at p
          cases hsx : su y (Γ'.set i none) S' with
          | no => rw [hsx] at p; exact p.elim
          | ex z S2 => rw [hsx] at p; exact p.elim
          | ok w S2 =>
            rw [hsx] at p
            have hl : i < σ'.length := by rw [v'.len]; exact hiΓ
            refine ⟨y, g', Γ'.set i none, S', r', ?_, ⟨List.getElem?_set_self hl, B, n1, rfl, q2⟩, ?_⟩
            · exact v'.hide i _
            · rw [hsx]
              exact fun u g2 H2 gr2 r2 q3 => p u g2 H2 (gr.trans r' gr2) r2 q3
        · subst ht
          exact p _ _ σ' g' H' gr r' v' q'
end DL
/-! D12: the facts of exception classes, at the end. -/
namespace DL
open PySem L2
def miX (K : PySem.W.Frag) (mg : Str → Option Value) : Mi := ⟨K, cnOf mg⟩
def okL (l : List (Str × Bool)) : Str → Option Bool := fun c => l.lookup c
def AllC (mg : Str → Option Value) (f : Addr → Bool → Prop) : List (Str × Bool) → Prop
  | [] => True
  | (c, b) :: r => (∃ D, mg c = some (.ref D) ∧ f D b) ∧ AllC mg f r
theorem AllC.at {mg : Str → Option Value} {f : Addr → Bool → Prop} : ∀ {l : List (Str × Bool)}, AllC mg f l → ∀ c b, okL l c = some b → ∀ D, cnOf mg c = some D → f D b
  | [], _, c, b, h, _, _ => by cases h
  | (c', b') :: r, h, c, b, e, D, eD => by
    obtain ⟨⟨D', m', f'⟩, hr⟩ := h
    unfold okL at e
    rw [List.lookup_cons] at e
    cases hb : c == c' with
    | true =>
      rw [hb] at e
      cases e
      have := eq_of_beq hb
      subst this
      rw [cnOf_ok m'] at eD
      cases eD
      exact f'
    | false =>
      rw [hb] at e
      exact AllC.at hr c b e D eD
theorem ExX.of {K : PySem.W.Frag} {h : Heap} {mg : Str → Option Value} {x : Str} {C : Addr} (X : K.In h) (G : h.Ns mainGlobals mg) (a : PySem.W.nsIn K mainGlobals x = some (some (.ref C)))
    (q : PySem.W.excIn K C [.type "ValueError", .type "Exception", .type "BaseException", .type "object"] "ValueError.__new__" = true) (kp : PySem.W.keepIn K (.ref C) = true) (sb : PySem.W.subIn K (.ref C) (.type "BaseException") = some true) (ty : PySem.W.typeIn K (.ref C) = some (.type "type")) : ExX K mg (cnOf mg) x :=
  ⟨C, cnOf_ok (PySem.W.mg_of X G a), PySem.W.mg_of X G a, q, kp, sb, ty⟩
theorem CatchX.of {K : PySem.W.Frag} {h : Heap} {mg : Str → Option Value} {x : Str} {C : Addr} {l : List (Str × Bool)} (X : K.In h) (G : h.Ns mainGlobals mg) (a : PySem.W.nsIn K mainGlobals x = some (some (.ref C))) (sb : PySem.W.subIn K (.ref C) (.type "BaseException") = some true) (hd : PySem.W.hasDictIn K C = true) (ty : PySem.W.typeIn K (.ref C) = some (.type "type"))
    (al : AllC mg (fun D b => PySem.W.subIn K (.ref D) (.ref C) = some b) l) : CatchX K mg (cnOf mg) x (okL l) :=
  ⟨C, PySem.W.mg_of X G a, fun c b e D eD => PySem.W.exm_ref sb hd ty (al.at c b e D eD)⟩
theorem IsX.of {K : PySem.W.Frag} {h : Heap} {mg : Str → Option Value} {x : Str} {C : Addr} {l : List (Str × Bool)} (X : K.In h) (G : h.Ns mainGlobals mg) (a : PySem.W.nsIn K mainGlobals x = some (some (.ref C)))
    (al : AllC mg (fun D b => ExcC K D ∧ PySem.W.kitOne K (.ref D) (.ref C) = some b) l) : IsX K mg (cnOf mg) x (okL l) :=
  ⟨C, PySem.W.mg_of X G a, fun c b e D eD => al.at c b e D eD⟩
end DL
/-! D13: comprehensions with two generators. -/
namespace DL
open PySem L2
def lc2L (ok : Store → Bool) (gf : GF) (tf : TF) (f1 : IF) (gf1 : GF) (tf1 : TF) (ef : EF) (vs vs1 : List Nat) (Γ : Ev) : List PyData → Store → Out (List PyData)
  | [], S => if ok S then .ok [] S else .no
  | d :: ds, S => if ok S then (match gf (.d d) (wipeE Γ vs) S with
    | .ok Γ1 S1 => match tf Γ1 S1 with
      | .ok true S2 => match f1 Γ1 S2 with
        | .ok s1 S3 => (lcL s1.ok gf1 tf1 ef vs1 Γ1 s1.items S3).bind fun xs S4 => (lc2L ok gf tf f1 gf1 tf1 ef vs vs1 Γ ds S4).bind fun ys S => .ok (xs ++ ys) S
        | _ => .no
      | .ok false S2 => lc2L ok gf tf f1 gf1 tf1 ef vs vs1 Γ ds S2
      | _ => .no
    | _ => .no) else .no
def finZ (fin : List PyData → Store → Out SV) : List PyData → Store → Out SV := fun xs S => if xs.length ≤ 16777216 then fin xs S else .no
def eLc2 (fin : List PyData → Store → Out SV) (f : IF) (gf : GF) (tf : TF) (f1 : IF) (gf1 : GF) (tf1 : TF) (ef : EF) (vs vs1 : List Nat) : EF := fun Γ S => (f Γ S).bind fun s S => match lc2L s.ok gf tf f1 gf1 tf1 ef vs vs1 Γ s.items S with
  | .ok xs S => finZ fin xs S
  | _ => .no
section
variable {X : Cx} {M : Mi} {W : WX} {T T1 : List Nat} {tg iter tg1 iter1 elt : Expr} {ifs ifs1 : List Expr} {f f1 : IF} {gf gf1 : GF} {tf tf1 : TF} {ef : EF} {pos : Pos} {scope : Scope} {own : List (Str × Nat)} {vs1 : List Nat}
theorem keepD {K : PySem.W.Frag} {D : Addr} {ga gb : Gh} {Ha Hb : Hp} {Sa : Store} (ra : Rel K ga Ha Sa) (gb' : Grow ga Ha gb Hb) (k1 : ga.F D = none) (k2 : D ∉ ga.B) (k3 : ∃ vs, Ha D = some (.lst vs)) : gb.F D = none ∧ D ∉ gb.B ∧ Hb D = Ha D := by
  obtain ⟨ws, k3⟩ := k3
  refine ⟨?_, fun hm => ?_, by rw [gb'.frm D _ k3 k2, k3]⟩
  · cases q : gb.F D with
    | none => rfl
    | some o =>
      rcases gb'.newF D o q with z | z
      · rw [k1] at z; cases z
      · rw [k3] at z; cases z
  · rcases gb'.newB D hm with z | z
    · exact k2 z
    · rw [k3] at z; cases z
/-- the list that is made: where it stands, what it holds -/
structure Making (M : Mi) (D : Addr) (g1 : Gh) (H1 : Hp) (g : Gh) (H : Hp) (S : Store) (acc : List PyData) : Prop where
  r : Rel M.K g H S
  gr : Grow g1 H1 g H
  hF : g.F D = none
  hB : D ∉ g.B
  vs : ∃ vs, H D = some (.lst vs) ∧ RpAll M.K g.F vs acc
theorem Making.step {D : Addr} {g1 g g' : Gh} {H1 H H' : Hp} {S S' : Store} {acc : List PyData} (m : Making M D g1 H1 g H S acc) (gr : Grow g H g' H') (r' : Rel M.K g' H' S') : Making M D g1 H1 g' H' S' acc := by
  obtain ⟨vs, hD, t⟩ := m.vs
  obtain ⟨a1, a2, a3⟩ := keepD m.r gr m.hF m.hB ⟨vs, hD⟩
  exact ⟨r', m.gr.trans m.r gr, a1, a2, vs, by rw [a3]; exact hD, RpAll.sub gr.sub _ _ t⟩
theorem Making.put {D : Addr} {g1 g : Gh} {H1 H : Hp} {S : Store} {acc : List PyData} (m : Making M D g1 H1 g H S acc) (hD0 : H1 D = none) {y : V} {x : PyData} (q : Rp M.K g.F y x) : ∃ vs, H D = some (.lst vs) ∧ vs.length = acc.length ∧ Making M D g1 H1 g (upd H D (.lst (vs ++ [y]))) S (acc ++ [x]) := by
  obtain ⟨vs, hD, t⟩ := m.vs
  have ne : ∀ b ∈ g.B, b ≠ D := fun b hb e => m.hB (e ▸ hb)
  refine ⟨vs, hD, t.len, ⟨fun b o e => ?_, m.r.nd, m.r.dis, m.r.len, fun j b mm e1 e2 => ?_⟩, ⟨m.gr.pre, m.gr.sub, fun b o e hb => ?_, m.gr.newB, m.gr.newF⟩, m.hF, m.hB, _, upd_same, t.append (.cons q .nil)⟩
  · rw [upd_ne (fun z => by rw [z, m.hF] at e; cases e)]; exact m.r.sub _ _ e
  · rw [upd_ne (ne b (List.mem_of_getElem? e1))]; exact m.r.at_ j b mm e1 e2
  · rw [upd_ne (ne_of_none e hD0)]; exact m.gr.frm b o e hb
theorem lcL_ok {ok : Store → Bool} {ds : List PyData} {vs : List Nat} {Γ : Ev} {S : Store} {xs : List PyData} {S' : Store} (h : lcL ok gf tf ef vs Γ ds S = .ok xs S') : ok S = true := by
  cases ds with
  | nil =>
    unfold lcL at h
    cases ho : ok S with
    | true => rfl
    | false => rw [ho] at h; cases h
  | cons d ds =>
    unfold lcL at h
    cases ho : ok S with
    | true => rfl
    | false => rw [ho] at h; cases h
theorem lc2L_ok {ok : Store → Bool} {ds : List PyData} {vs : List Nat} {Γ : Ev} {S : Store} {xs : List PyData} {S' : Store} (h : lc2L ok gf tf f1 gf1 tf1 ef vs vs1 Γ ds S = .ok xs S') : ok S = true := by
  cases ds with
  | nil =>
    unfold lc2L at h
    cases ho : ok S with
    | true => rfl
    | false => rw [ho] at h; cases h
  | cons d ds =>
    unfold lc2L at h
    cases ho : ok S with
    | true => rfl
    | false => rw [ho] at h; cases h
theorem lc2_of {fin : List PyData → Store → Out SV} (hf : Fin M fin) (hT : ∀ j ∈ T, j ∈ own.map (·.2)) (hT1 : ∀ j ∈ T1, j ∈ vs1) {σ : St} {H : Hp} {Q : VK} (h : tE M W (eLc2 fin f gf tf f1 gf1 tf1 ef (own.map (·.2)) vs1) σ H Q) :
    tLc2 (tI M W f) (tT1 M T gf) (tT M W0 tf) (tI M W0 f1) (tT1 M T1 gf1) (tT M W0 tf1) (tE M W0 ef) (own.map (·.2)) vs1 σ H Q := by
  obtain ⟨g0, Γ, S0, r0, v0, p0⟩ := h
  unfold eLc2 at p0
  refine DL.step r0 v0 p0 fun J H1 g1 S1 s gr1 r1 v1 q1 p1 => ?_
  obtain ⟨hz, hit⟩ := q1
  intro D hD
  obtain ⟨hFD, hBD⟩ := r1.free hD
  obtain ⟨rD, grD⟩ := Rel.lay r1 hD (.lst [])
  obtain ⟨xs, S', hl, p1⟩ : ∃ xs S', lc2L s.ok gf tf f1 gf1 tf1 ef (own.map (·.2)) vs1 Γ s.items S1 = .ok xs S' ∧ Post M W σ (rS M) Q g1 H1 (finZ fin xs S') := by
    cases hl : lc2L s.ok gf tf f1 gf1 tf1 ef (own.map (·.2)) vs1 Γ s.items S1 with
    | ok xs S' => rw [hl] at p1; exact ⟨xs, S', rfl, p1⟩
    | ex y S' => rw [hl] at p1; exact p1.elim
    | no => rw [hl] at p1; exact p1.elim
  refine ⟨fun i m H => m = s.items.length - i ∧ i ≤ s.items.length ∧ ∃ g S acc xs S', Making M D g1 H1 g H S acc ∧ lc2L s.ok gf tf f1 gf1 tf1 ef (own.map (·.2)) vs1 Γ (s.items.drop i) S = .ok xs S' ∧ Post M W σ (rS M) Q g1 H1 (finZ fin (acc ++ xs) S'),
    ⟨_, rfl, Nat.zero_le _, g1, S1, [], xs, S', ⟨rD, grD, hFD, hBD, [], upd_same, .nil⟩, by rw [List.drop_zero]; exact hl, p1⟩, ?_⟩
  rintro i m H2 ⟨rfl, hi, g, S, acc, xs, S', mk, hl, p⟩
  have hok := lc2L_ok hl
  obtain ⟨hst, hgo⟩ := hit g H2 S mk.r mk.gr.pre mk.gr.sub hok
  by_cases hlt : i < s.items.length
  · have e : s.items[i]? = some s.items[i] := List.getElem?_eq_getElem hlt
    obtain ⟨go, yl⟩ := hgo i _ e
    rw [List.drop_eq_getElem_cons hlt] at hl
    unfold lc2L at hl
    rw [if_pos hok] at hl
    refine .inr ⟨go, fun H' => ∃ g S acc xs S', Making M D g1 H1 g H' S acc ∧ lc2L s.ok gf tf f1 gf1 tf1 ef (own.map (·.2)) vs1 Γ (s.items.drop (i + 1)) S = .ok xs S' ∧ Post M W σ (rS M) Q g1 H1 (finZ fin (acc ++ xs) S'), fun H' h => ⟨s.items.length - (i + 1), by omega, rfl, hlt, h⟩, fun x H' y => ?_⟩
    obtain ⟨g', gr', r', rp⟩ := yl x H' y
    have mk' := mk.step gr' r'
    have vσ : Vars M.K g' (wipe σ (own.map (·.2))) (wipeE Γ (own.map (·.2))) := mk'.gr.vars v1 |>.wipe _
    refine ⟨g', _, S, .d s.items[i], r', vσ, rp, ?_⟩
    cases h1 : gf (.d s.items[i]) (wipeE Γ (own.map (·.2))) S with
    | ex x S' => rw [h1] at hl; cases hl
    | no => rw [h1] at hl; cases hl
    | ok Γ1 S1' =>
      rw [h1] at hl
      intro σ2 g2 H3 t2 gr2 r2 v2
      refine ⟨wipe_only t2 hT, ?_⟩
      have mk2 := mk'.step gr2 r2
      refine ⟨g2, Γ1, S1', r2, v2, ?_⟩
      cases h2 : tf Γ1 S1' with
      | ex x S' => simp only [h2] at hl; cases hl
      | no => simp only [h2] at hl; cases hl
      | ok b S2 =>
        intro u g3 H4 gr3 r3 q3
        obtain rfl : u = b := q3
        have mk3 := mk2.step gr3 r3
        cases u with
        | false =>
          simp only [h2] at hl
          exact iteF ⟨g3, S2, acc, xs, S', mk3, hl, p⟩
        | true =>
          simp only [h2] at hl
          refine iteT ⟨g3, Γ1, S2, r3, gr3.vars v2, ?_⟩
          cases h3 : f1 Γ1 S2 with
          | ex x S' => rw [h3] at hl; cases hl
          | no => rw [h3] at hl; cases hl
          | ok s1 S3 =>
            rw [h3] at hl
            intro J1 g4 H5 gr4 r4 q4
            obtain ⟨hz1, hit1⟩ := q4
            have mk4 := mk3.step gr4 r4
            have v4 := gr4.vars (gr3.vars v2)
            obtain ⟨zs, S4, ys, S5, hl1, hl2, rfl, rfl⟩ : ∃ zs S4 ys S5, lcL s1.ok gf1 tf1 ef vs1 Γ1 s1.items S3 = .ok zs S4 ∧ lc2L s.ok gf tf f1 gf1 tf1 ef (own.map (·.2)) vs1 Γ (s.items.drop (i + 1)) S4 = .ok ys S5 ∧ xs = zs ++ ys ∧ S' = S5 := by
              cases ha : lcL s1.ok gf1 tf1 ef vs1 Γ1 s1.items S3 with
              | ex x S' => simp only [ha, Out.bind] at hl; cases hl
              | no => simp only [ha, Out.bind] at hl; cases hl
              | ok zs S4 =>
                cases hb : lc2L s.ok gf tf f1 gf1 tf1 ef (own.map (·.2)) vs1 Γ (s.items.drop (i + 1)) S4 with
                | ex x S' => simp only [ha, hb, Out.bind] at hl; cases hl
                | no => simp only [ha, hb, Out.bind] at hl; cases hl
                | ok ys S5 =>
                  simp only [ha, hb, Out.bind] at hl
                  injection hl with h1 h2
                  exact ⟨zs, S4, ys, S5, rfl, hb, h1.symm, h2.symm⟩
            refine ⟨fun j k H => k = s1.items.length - j ∧ j ≤ s1.items.length ∧ ∃ g S acc zs S4 ys S5, Making M D g1 H1 g H S acc ∧ Vars M.K g σ2 Γ1 ∧ (∃ C, g.B = g4.B ++ C) ∧ Sub g4.F g.F ∧ lcL s1.ok gf1 tf1 ef vs1 Γ1 (s1.items.drop j) S = .ok zs S4 ∧
                lc2L s.ok gf tf f1 gf1 tf1 ef (own.map (·.2)) vs1 Γ (s.items.drop (i + 1)) S4 = .ok ys S5 ∧ Post M W σ (rS M) Q g1 H1 (finZ fin (acc ++ (zs ++ ys)) S5),
              ⟨_, rfl, Nat.zero_le _, g4, S3, acc, zs, S4, ys, S', mk4, v4, ⟨[], by simp⟩, fun _ _ h => h, by rw [List.drop_zero]; exact hl1, hl2, p⟩, ?_⟩
            rintro j k H6 ⟨rfl, hj, g, S, acc, zs, S4, ys, S5, mk, v, hpre, hsub, hl1, hl2, p⟩
            have hok1 := lcL_ok hl1
            obtain ⟨hst1, hgo1⟩ := hit1 g H6 S mk.r hpre hsub hok1
            by_cases hlt1 : j < s1.items.length
            · have e1 : s1.items[j]? = some s1.items[j] := List.getElem?_eq_getElem hlt1
              obtain ⟨go1, yl1⟩ := hgo1 j _ e1
              rw [List.drop_eq_getElem_cons hlt1] at hl1
              unfold lcL at hl1
              rw [if_pos hok1] at hl1
              refine .inr ⟨go1, fun H' => ∃ g S acc zs S4 ys S5, Making M D g1 H1 g H' S acc ∧ Vars M.K g σ2 Γ1 ∧ (∃ C, g.B = g4.B ++ C) ∧ Sub g4.F g.F ∧ lcL s1.ok gf1 tf1 ef vs1 Γ1 (s1.items.drop (j + 1)) S = .ok zs S4 ∧
                lc2L s.ok gf tf f1 gf1 tf1 ef (own.map (·.2)) vs1 Γ (s.items.drop (i + 1)) S4 = .ok ys S5 ∧ Post M W σ (rS M) Q g1 H1 (finZ fin (acc ++ (zs ++ ys)) S5), fun H' h => ⟨s1.items.length - (j + 1), by omega, rfl, hlt1, h⟩, fun x H' y => ?_⟩
              obtain ⟨g5, gr5, r5, rp5⟩ := yl1 x H' y
              have ext : ∀ {ga gb : Gh} {Ha Hb : Hp}, Grow ga Ha gb Hb → (∃ C, ga.B = g4.B ++ C) → Sub g4.F ga.F → (∃ C, gb.B = g4.B ++ C) ∧ Sub g4.F gb.F := fun {ga gb Ha Hb} gr ⟨C, h1⟩ h2 => by
                obtain ⟨C', h3⟩ := gr.pre
                exact ⟨⟨C ++ C', by rw [h3, h1, List.append_assoc]⟩, fun b o e => gr.sub _ _ (h2 _ _ e)⟩
              have mk5 := mk.step gr5 r5
              obtain ⟨pre5, sub5⟩ := ext gr5 hpre hsub
              have v5 := gr5.vars v
              refine ⟨g5, _, S, .d s1.items[j], r5, v5.wipe _, rp5, ?_⟩
              cases k1 : gf1 (.d s1.items[j]) (wipeE Γ1 vs1) S with
              | ex x S' => rw [k1] at hl1; cases hl1
              | no => rw [k1] at hl1; cases hl1
              | ok Γ2 S2' =>
                rw [k1] at hl1
                intro σ3 g6 H7 t6 gr6 r6 v6
                refine ⟨wipe_only t6 hT1, ?_⟩
                have mk6 := mk5.step gr6 r6
                obtain ⟨pre6, sub6⟩ := ext gr6 pre5 sub5
                refine ⟨g6, Γ2, S2', r6, v6, ?_⟩
                cases k2 : tf1 Γ2 S2' with
                | ex x S' => simp only [k2] at hl1; cases hl1
                | no => simp only [k2] at hl1; cases hl1
                | ok b S7 =>
                  intro u g7 H8 gr7 r7 q7
                  obtain rfl : u = b := q7
                  have mk7 := mk6.step gr7 r7
                  obtain ⟨pre7, sub7⟩ := ext gr7 pre6 sub6
                  have v7 := gr7.vars (gr6.vars v5)
                  cases u with
                  | false =>
                    simp only [k2] at hl1
                    exact iteF ⟨g7, S7, acc, zs, S4, ys, S5, mk7, v7, pre7, sub7, hl1, hl2, p⟩
                  | true =>
                    simp only [k2] at hl1
                    refine iteT ⟨g7, Γ2, S7, r7, gr7.vars v6, ?_⟩
                    cases k3 : ef Γ2 S7 with
                    | ex x S' => rw [k3] at hl1; cases hl1
                    | no => rw [k3] at hl1; cases hl1
                    | ok z S8 =>
                      cases z with
                      | cell _ => rw [k3] at hl1; cases hl1
                      | scr _ => rw [k3] at hl1; cases hl1
                      | d w =>
                        rw [k3] at hl1
                        intro y2 g8 H9 gr8 r8 q8
                        have mk8 := mk7.step gr8 r8
                        obtain ⟨pre8, sub8⟩ := ext gr8 pre7 sub7
                        obtain ⟨vs, hDv, hlen, mk9⟩ := mk8.put hD q8
                        obtain ⟨zs', hl3, rfl⟩ : ∃ zs', lcL s1.ok gf1 tf1 ef vs1 Γ1 (s1.items.drop (j + 1)) S8 = .ok zs' S4 ∧ zs = w :: zs' := by
                          cases ha : lcL s1.ok gf1 tf1 ef vs1 Γ1 (s1.items.drop (j + 1)) S8 with
                          | ex x S' => simp only [ha, Out.bind] at hl1; cases hl1
                          | no => simp only [ha, Out.bind] at hl1; cases hl1
                          | ok zs' S9 =>
                            simp only [ha, Out.bind] at hl1
                            injection hl1 with h1 h2
                            subst h2
                            exact ⟨zs', rfl, h1.symm⟩
                        have hbound : acc.length < 16777216 := by
                          unfold finZ at p
                          split at p
                          · rename_i h
                            simp only [List.length_append, List.length_cons] at h
                            omega
                          · exact p.elim
                        refine ⟨vs, hDv, by rw [hlen, sizeLine_eq]; exact hbound, g8, S8, acc ++ [w], zs', S4, ys, S5, mk9, gr8.vars v7, pre8, sub8, hl3, hl2, ?_⟩
                        have e9 : acc ++ [w] ++ (zs' ++ ys) = acc ++ (w :: zs' ++ ys) := by simp
                        rw [e9]
                        exact p
            · have e1 : j = s1.items.length := by omega
              subst e1
              rw [List.drop_length] at hl1
              unfold lcL at hl1
              rw [if_pos hok1] at hl1
              cases hl1
              refine .inl ⟨hst1, g, _, acc, ys, S5, mk, hl2, ?_⟩
              exact p
  · have e : i = s.items.length := by omega
    subst e
    rw [List.drop_length] at hl
    unfold lc2L at hl
    rw [if_pos hok] at hl
    cases hl
    refine .inl ⟨hst, ?_⟩
    rw [List.append_nil] at p
    unfold finZ at p
    split at p
    · rename_i hz2
      obtain ⟨vs, hDv, t⟩ := mk.vs
      exact hf W σ Q g1 H1 g H2 S D vs acc mk.r mk.gr hD hDv mk.hF mk.hB hz2 t p
    · exact p.elim
theorem d_lc2 {fin : List PyData → Store → Out SV} (hf : Fin M fin) (hT : ∀ j ∈ T, j ∈ own.map (·.2)) (hT1 : ∀ j ∈ T1, j ∈ vs1) (hv : ∀ i ∈ vs1, i ∈ own.map (·.2)) (hc : X.calm = true) (hN : X.N.Nodup) (hi : DI X M W tg iter f) (ok : BlkOk X.N X.env.scope scope own)
    (hg : ∀ (s : Shared) (H : Hp) (C : Addr) (cl : List (Str × Addr)) (fp : List Addr), DG (X.blk s H scope (compEnvC scope cl C X.env) fp) M T tg gf) (ht : ∀ (s : Shared) (H : Hp) (C : Addr) (cl : List (Str × Addr)) (fp : List Addr), PTs (X.blk s H scope (compEnvC scope cl C X.env) fp) ifs (tT M W0 tf))
    (hi1 : ∀ (s : Shared) (H : Hp) (C : Addr) (cl : List (Str × Addr)) (fp : List Addr), DI (X.blk s H scope (compEnvC scope cl C X.env) fp) M W0 tg1 iter1 f1)
    (hg1 : ∀ (s : Shared) (H : Hp) (C : Addr) (cl : List (Str × Addr)) (fp : List Addr), DG (X.blk s H scope (compEnvC scope cl C X.env) fp) M T1 tg1 gf1) (ht1 : ∀ (s : Shared) (H : Hp) (C : Addr) (cl : List (Str × Addr)) (fp : List Addr), PTs (X.blk s H scope (compEnvC scope cl C X.env) fp) ifs1 (tT M W0 tf1))
    (he : ∀ (s : Shared) (H : Hp) (C : Addr) (cl : List (Str × Addr)) (fp : List Addr), DE (X.blk s H scope (compEnvC scope cl C X.env) fp) M W0 elt ef) (hs : ∀ x, foldedSetIterable iter X.env x = pure x := by intro _; rfl) (hs1 : ∀ env x, foldedSetIterable iter1 env x = pure x := by intro _ _; rfl) :
    DE X M W (.ListComp elt [⟨tg, iter, ifs, 0⟩, ⟨tg1, iter1, ifs1, 0⟩] scope pos) (eLc2 fin f gf tf f1 gf1 tf1 ef (own.map (·.2)) vs1) := (pe_lc2 hc hN hi ok hv hg ht hi1 hg1 ht1 he hs hs1).weak fun _ _ _ h => lc2_of hf hT hT1 h
theorem s_setLc2 {fin : List PyData → Store → Out SV} (hf : Fin M fin) {i : Nat} {y : Str} {py spos : Pos} (hT : ∀ j ∈ T, j ∈ own.map (·.2)) (hT1 : ∀ j ∈ T1, j ∈ vs1) (hv : ∀ i ∈ vs1, i ∈ own.map (·.2)) (hc : X.calm = true) (hN : X.N.Nodup) (hy : X.N[i]? = some y) (hyl : X.env.scope.names.lookup y = some .local)
    (hsw : swapsWith (.ListComp elt [⟨tg, iter, ifs, 0⟩, ⟨tg1, iter1, ifs1, 0⟩] scope pos) (some (.Name y py)) spos.line X.env = pure true) (hi : DI X M W tg iter f) (ok : BlkOk X.N X.env.scope scope own)
    (hg : ∀ (s : Shared) (H : Hp) (C : Addr) (cl : List (Str × Addr)) (fp : List Addr), DG (X.blk s H scope (compEnvC scope cl C X.env) fp) M T tg gf) (ht : ∀ (s : Shared) (H : Hp) (C : Addr) (cl : List (Str × Addr)) (fp : List Addr), PTs (X.blk s H scope (compEnvC scope cl C X.env) fp) ifs (tT M W0 tf))
    (hi1 : ∀ (s : Shared) (H : Hp) (C : Addr) (cl : List (Str × Addr)) (fp : List Addr), DI (X.blk s H scope (compEnvC scope cl C X.env) fp) M W0 tg1 iter1 f1)
    (hg1 : ∀ (s : Shared) (H : Hp) (C : Addr) (cl : List (Str × Addr)) (fp : List Addr), DG (X.blk s H scope (compEnvC scope cl C X.env) fp) M T1 tg1 gf1) (ht1 : ∀ (s : Shared) (H : Hp) (C : Addr) (cl : List (Str × Addr)) (fp : List Addr), PTs (X.blk s H scope (compEnvC scope cl C X.env) fp) ifs1 (tT M W0 tf1))
    (he : ∀ (s : Shared) (H : Hp) (C : Addr) (cl : List (Str × Addr)) (fp : List Addr), DE (X.blk s H scope (compEnvC scope cl C X.env) fp) M W0 elt ef) (hs : ∀ x, foldedSetIterable iter X.env x = pure x := by intro _; rfl) (hs1 : ∀ env x, foldedSetIterable iter1 env x = pure x := by intro _ _; rfl) :
    DS X M W (.Assign [.Name y py] (.ListComp elt [⟨tg, iter, ifs, 0⟩, ⟨tg1, iter1, ifs1, 0⟩] scope pos) spos) (fSet i (eLc2 fin f gf tf f1 gf1 tf1 ef (own.map (·.2)) vs1)) := (ps_setLc2 hc hN hy hyl hsw hi ok hv hg ht hi1 hg1 ht1 he hs hs1).weak fun _ _ _ h => set_of (fun _ _ _ h => lc2_of hf hT hT1 h) h
end
end DL
/-! D14: sorted. -/
namespace DL
open PySem L2 PySem.Calls PyProof.Rows PySem.W
section
variable {prog : Program} {w : World} {A : Around} {E : Value → Shared → Prop} {s : Shared}
theorem collect_tup {l : Addr} {vs : List Value} {o : Obj} {n : Nat} {Q : List Value → Shared → Prop} (ho : s.heap.get? l = some o) (hc : o.cls = .type "tuple") (hd : o.data = .seq vs.toArray n)
    (h : Q vs { s with heap := (s.heap.push (seqObj "list" #[] 0)).update s.heap.objs.size (Obj.mapSeq (· ++ vs.toArray)) }) (hsz : vs.length ≤ sizeLine) :
    wpAny (model prog w) A (collect (.ref l)) Q E s := by
  unfold collect
  refine wpAny_bind (wpAny_runValue (codeAny_builtin entry_proto_collect' ?_))
  show wpAny _ _ (do again (.builtin "list.__iadd__" ⟨[← newList [], .ref l], []⟩)) _ _ s
  refine wpAny_bind (wpAny_newList (wpAny_pure ⟨Code.quiet_builtin _ (by decide +kernel), codeAny_builtin entry_list_iadd' ?_⟩))
  show wpAny _ _ (Builtin.List.listExtendWith (.ref s.heap.objs.size) (.ref l) (.ref s.heap.objs.size)) _ _ { s with heap := s.heap.push (seqObj "list" #[] 0) }
  unfold Builtin.List.listExtendWith
  have ho' : (s.heap.push (seqObj "list" #[] 0)).get? l = some o := Heap.get?_push_of_some _ ho
  refine wpAny_bind (wpAny_typeOf (T := "tuple") ⟨o, ho', hc⟩ ?_)
  have ht : (Value.type "tuple" == Value.type "tuple") = true := by rfl
  rw [if_pos (by rw [ht]; simp)]
  refine wpAny_bind (listItems_at ho' hd ?_)
  refine wpAny_bind (listItems_at (xs := #[]) (n := 0) (Heap.get?_push_size _ rfl) rfl ?_)
  rw [if_neg (by simp)]
  refine wpAny_bind (listUpdate_at (xs := #[]) (n := 0) (Heap.get?_push_size _ rfl) rfl ?_ (Nat.zero_le _) (by show (#[] ++ vs.toArray).size ≤ sizeLine + 1; simp only [Array.size_append, List.size_toArray, List.length_nil]; omega))
  refine wpAny_pure ?_
  show wpAny (model prog w) A (do
      let o ← load s.heap.objs.size
      match o.data with
      | .seq xs _ => pure xs.toList
      | _ => unsupported "internal:collect") Q E { s with heap := (s.heap.push (seqObj "list" #[] 0)).update s.heap.objs.size (Obj.mapSeq (· ++ vs.toArray)) }
  refine wpAny_bind (wpAny_load (get?_update_seq (Heap.get?_push_size _ rfl) _) ?_)
  show wpAny _ _ (pure ((#[] : Array Value) ++ vs.toArray).toList) Q E _
  rw [show ((#[] : Array Value) ++ vs.toArray).toList = vs by simp]
  exact wpAny_pure h
/-- sorted(a tuple) is list.sort of a new list of its items -/
theorem sorted_of_tup {l : Addr} {vs : List Value} {o : Obj} {n : Nat} {Q : Value → Shared → Prop} (ho : s.heap.get? l = some o) (hc : o.cls = .type "tuple") (hd : o.data = .seq vs.toArray n) (hL : vs.length ≤ sizeLine)
    (body : ∀ E' : Value → Shared → Prop, wpAny (model prog w) A.in1.in1 (Builtin.«list.sort» ⟨[.ref (s.heap.objs.size + 1)], []⟩) (fun f s' => f = .done (.ret .none) ∧ Q (.ref (s.heap.objs.size + 1)) s') E' { s with heap := copyHeap s.heap vs }) :
    wpAny (model prog w) A (call (.builtin "sorted") [.ref l]) Q E s := by
  refine call_function_entry_kw kind_sorted plain_sorted entry_sorted (args_sorted1 _) ?_
  unfold Builtin.«sorted»
  refine wpAny_bind (m := checkCount "sorted" 1 1 _) (wpAny_pure ?_)
  refine wpAny_bind (collect_tup ho hc hd ?_ hL)
  refine wpAny_bind (wpAny_newList ?_ hL)
  have hsz : ((s.heap.push (seqObj "list" #[] 0)).update s.heap.objs.size (Obj.mapSeq (· ++ vs.toArray))).objs.size = s.heap.objs.size + 1 := by
    rw [Heap.size_update, size_push']
  show wpAny _ _ _ _ _ { s with heap := copyHeap s.heap vs }
  rw [hsz]
  refine wpAny_bind (wpAny_holding (wpAny_call_entry_kw slot_list_sort ⟨_, copyHeap_at s.heap vs, rfl⟩ entry_list_sort ?body (args_list_sort _)))
  case body =>
    show wpAny (model prog w) A.in1.in1 (Builtin.«list.sort» ⟨[.ref (s.heap.objs.size + 1)], []⟩) _ _ _
    refine wpAny_mono (body _) (fun f s' hf => ?_) fun _ _ e => e
    obtain ⟨rfl, hq⟩ := hf
    exact ⟨_, rfl, wpAny_pure ⟨_, rfl, hq⟩⟩
theorem sorted_tup_data {l : Addr} {o : Obj} {n : Nat} {vs : List Value} {bs : List PyData} {R : Value → PyData → Prop} {Q : Value → Shared → Prop} (ho : s.heap.get? l = some o) (hc : o.cls = .type "tuple") (hd : o.data = .seq vs.toArray n) (e : EachIs R vs bs) (er : EachIs (fun v b => ∃ as, Reads s.heap v (id b) as) vs bs) (hal : AllAlike (bs.map id)) (hk : Sortable (bs.map id)) (hL : bs.length ≤ sizeLine)
    (hu : ∀ b, b ∈ bs → A.units + 2 + (id b).depth < cLine) (h : ∀ out, out.length = bs.length → EachIs R out (bs.mergeSort (dataLe false id)) → Q (.ref (s.heap.objs.size + 1)) { s with heap := sortedAll s.heap vs (List.toArray out) }) :
    wpAny (model prog w) A (call (.builtin "sorted") [.ref l]) Q E s := by
  have er' : EachIs (fun v b => ∃ as, Reads (sortingHeap (copyHeap s.heap vs) (s.heap.objs.size + 1) vs) v (id b) as) vs bs := er.mono fun _ _ ⟨as, r⟩ => ⟨as, PyProof.Rows.Reads.keeps (fun _ _ => sorting_copy_old) r⟩
  have hL' : vs.length ≤ sizeLine := by rw [e.length]; exact hL
  exact sorted_of_tup ho hc hd hL' fun _ => list_sort_vals (s := { s with heap := copyHeap s.heap vs }) (copyHeap_at s.heap vs) (SortsAt.data (s := { s with heap := sortingHeap (copyHeap s.heap vs) (s.heap.objs.size + 1) vs }) (each_map (R := fun v d => ∃ as, Reads (sortingHeap (copyHeap s.heap vs) (s.heap.objs.size + 1) vs) v d as) id er') hal hk (bound_map hu)) hL'
    ⟨rfl, h _ (by rw [sortVals_length false rfl]; exact e.length) (sortVals_data false e er' hal)⟩
end
theorem each_of {R : V → PyData → Prop} : ∀ {vs : List V} {us : List Value} {ds : List PyData}, Vals vs us → Paired R vs ds → EachIs (fun u d => ∃ v, RelV v u ∧ R v d) us ds
  | _, _, _, .nil, .nil => .nil
  | _, _, _, .cons a b, .cons c d => .cons ⟨_, a, c⟩ (each_of b d)
theorem each_back {R : V → PyData → Prop} : ∀ {us : List Value} {ds : List PyData}, EachIs (fun u d => ∃ v, RelV v u ∧ R v d) us ds → ∃ vs, Vals vs us ∧ Paired R vs ds
  | _, _, .nil => ⟨[], .nil, .nil⟩
  | _, _, .cons ⟨v, a, c⟩ d => by
    obtain ⟨vs, h1, h2⟩ := each_back d
    exact ⟨v :: vs, .cons a h1, .cons c h2⟩
theorem each_reads {h : Heap} : ∀ {us : List Value} {ds : List PyData} {as : List Addr}, ReadsAll h us ds as → EachIs (fun v b => ∃ as, Reads h v (id b) as) us ds
  | _, _, _, .nil => .nil
  | _, _, _, .cons a b => .cons ⟨_, a⟩ (each_reads b)
def rSortD (K : PySem.W.Frag) : List V → Hp → VK → Prop := fun us H Q => ∃ (a : Addr) (vs : List V) (ds : List PyData) (R : V → PyData → Prop), us = [.ref a] ∧ (SqL K H a vs ∨ SqT K H a vs) ∧ DpAll K H vs ds ∧ Paired R vs ds ∧ AllAlike ds ∧ Sortable ds ∧ (∀ d ∈ ds, d.depth ≤ 62) ∧
  ∀ p vs', H p = none → Paired R vs' (ds.mergeSort (dataLe false id)) → Q (.ref p) (upd H p (.lst vs'))
theorem cr_sortedD {X : Cx} (hu : X.A.units + 65 < cLine) : CallR X (.builtin "sorted") (rSortD X.K) := by
  intro pins s σ H xs us Q I r h
  obtain ⟨a, vs, ds, R, rfl, hs, hd, hp, hal, hk, hdep, q⟩ := h
  rw [Vals.ref1 r]
  have fin : ∀ (its : List Value), Vals vs its → its.length ≤ sizeLine → ∀ out : List Value, out.length = ds.length → EachIs (fun u d => ∃ v, RelV v u ∧ R v d) out (ds.mergeSort (dataLe false id)) → EP X pins σ Q (.ref (s.heap.objs.size + 1)) { s with heap := sortedAll s.heap its (List.toArray out) } := by
    intro its rv hz out ho he
    obtain ⟨vs', h1, h2⟩ := each_back he
    obtain ⟨ep, he'⟩ := PyProof.Rows.sortedAll_at s.heap its out.toArray
    have hlen : vs'.length ≤ sizeLine := by
      rw [h1.length, ho, ← hp.length, rv.length]
      exact hz
    exact ⟨.ref _, upd H (s.heap.objs.size + 1) (.lst vs'), I.laid (t' := s.toks) (fun _ _ => PyProof.Rows.sortedAll_old) (Nat.le_succ _) ⟨hlen, out, ep, h1, he'⟩, rfl, q _ _ (I.hok.fresh (Nat.le_succ _)) h2⟩
  rcases hs with hs | hs
  · obtain ⟨its, rv, ⟨o, n, ho, hc', hd', hdt⟩, hz⟩ := I.list hs
    obtain ⟨as, hr⟩ := Dp.readsAll I ds _ its hd rv
    have hlen : ds.length ≤ sizeLine := by rw [← hp.length]; exact hz
    refine PySem.W.sorted_data (enc := id) (PlainL.isList ⟨o, n, ho, hc', hd', by simpa using hdt⟩) (each_of rv hp) (each_reads hr) (by rw [List.map_id]; exact hal) (by rw [List.map_id]; exact hk) hlen (fun b hb => ?_) fun out h1 h2 => fin its rv (by rw [← rv.length, hp.length]; exact hlen) out h1 h2
    have := hdep b hb
    show X.A.units + 2 + b.depth < cLine
    omega
  · obtain ⟨its, rv, ⟨o, ho, hc', n, hd'⟩, hz⟩ := I.tuple hs
    obtain ⟨as, hr⟩ := Dp.readsAll I ds _ its hd rv
    have hlen : ds.length ≤ sizeLine := by rw [← hp.length]; exact hz
    refine sorted_tup_data ho hc' hd' (each_of rv hp) (each_reads hr) (by rw [List.map_id]; exact hal) (by rw [List.map_id]; exact hk) hlen (fun b hb => ?_) fun out h1 h2 => fin its rv (by rw [← rv.length, hp.length]; exact hlen) out h1 h2
    have := hdep b hb
    show X.A.units + 2 + b.depth < cLine
    omega
/-- all are whole numbers, or all are tuples of whole numbers with an item at least -/
def isInt : PyData → Bool
  | .int _ => true
  | _ => false
def isRow : PyData → Bool
  | .tuple (x :: xs) => isInt x && xs.all isInt
  | _ => false
def sortC (ds : List PyData) : Bool := ds.all isInt || ds.all isRow
theorem isInt_ok {d : PyData} (h : isInt d = true) : ∃ i, d = .int i := by
  cases d <;> simp [isInt] at h ⊢
theorem alike_ints : ∀ {xs ys : List PyData}, xs.all isInt = true → ys.all isInt = true → alikeAll xs ys = true
  | [], _, _, _ => by simp [alikeAll]
  | _ :: _, [], _, _ => by simp [alikeAll]
  | x :: xs, y :: ys, h1, h2 => by
    rw [List.all_cons, Bool.and_eq_true] at h1 h2
    obtain ⟨i, rfl⟩ := isInt_ok h1.1
    obtain ⟨j, rfl⟩ := isInt_ok h2.1
    simp only [alikeAll, alike, Bool.true_and]
    exact alike_ints h1.2 h2.2
theorem isRow_ok {d : PyData} (h : isRow d = true) : ∃ x xs, d = .tuple (x :: xs) ∧ (x :: xs).all isInt = true := by
  cases d with
  | tuple ys =>
    cases ys with
    | nil => simp [isRow] at h
    | cons x xs => exact ⟨x, xs, rfl, by simpa [isRow] using h⟩
  | _ => simp [isRow] at h
theorem sortC_ok {ds : List PyData} (h : sortC ds = true) : AllAlike ds ∧ Sortable ds := by
  unfold sortC at h
  rcases Bool.or_eq_true_iff.mp h with h | h
  · have k := List.all_eq_true.mp h
    refine ⟨fun d hd d' hd' => ?_, .inr fun d hd => ?_⟩
    · obtain ⟨i, rfl⟩ := isInt_ok (k d hd)
      obtain ⟨j, rfl⟩ := isInt_ok (k d' hd')
      simp [alike]
    · obtain ⟨i, rfl⟩ := isInt_ok (k d hd)
      exact ⟨(fun z => by cases z), fun _ z => by cases z⟩
  · have k := List.all_eq_true.mp h
    refine ⟨fun d hd d' hd' => ?_, .inl fun d hd => ?_⟩
    · obtain ⟨x, xs, rfl, e⟩ := isRow_ok (k d hd)
      obtain ⟨y, ys, rfl, e'⟩ := isRow_ok (k d' hd')
      simp only [alike]
      exact alike_ints e e'
    · obtain ⟨x, xs, rfl, e⟩ := isRow_ok (k d hd)
      exact ⟨x, xs, rfl⟩
theorem plain_ints : ∀ {xs : List PyData}, xs.all isInt = true → PyData.plainAll xs = true
  | [], _ => by simp [PyData.plainAll]
  | x :: xs, h => by
    rw [List.all_cons, Bool.and_eq_true] at h
    obtain ⟨i, rfl⟩ := isInt_ok h.1
    simp [PyData.plainAll, PyData.plain, plain_ints h.2]
theorem plain_rows : ∀ {xs : List PyData}, xs.all isRow = true → PyData.plainAll xs = true
  | [], _ => by simp [PyData.plainAll]
  | x :: xs, h => by
    rw [List.all_cons, Bool.and_eq_true] at h
    obtain ⟨y, ys, rfl, e⟩ := isRow_ok h.1
    rw [PyData.plainAll, PyData.plain, plain_ints e, plain_rows h.2, Bool.and_self]
theorem sortC_plain {ds : List PyData} (h : sortC ds = true) : PyData.plainAll ds = true := by
  unfold sortC at h
  rcases Bool.or_eq_true_iff.mp h with h | h
  · exact plain_ints h
  · exact plain_rows h
def srtD (ds : List PyData) : List PyData := ds.mergeSort (dataLe false id)
def sortS (fin : List PyData → Store → Out SV) : List SV → Store → Out SV := fun vs S => match vs with
  | [v] => match asD v S with
    | some (.list xs) => if sortC xs && xs.all (fun d => decide (d.depth ≤ 62)) then fin (srtD xs) S else .no
    | some (.tuple xs) => if sortC xs && xs.all (fun d => decide (d.depth ≤ 62)) then fin (srtD xs) S else .no
    | _ => .no
  | _ => .no
theorem paired_of {K : PySem.W.Frag} {F : Hp} : ∀ {vs : List V} {ds : List PyData}, RpAll K F vs ds → Paired (Rp K F) vs ds
  | _, _, .nil => .nil
  | _, _, .cons a b => .cons a (paired_of b)
theorem of_paired {K : PySem.W.Frag} {F : Hp} : ∀ {vs : List V} {ds : List PyData}, Paired (Rp K F) vs ds → RpAll K F vs ds
  | _, _, .nil => .nil
  | _, _, .cons a b => .cons a (of_paired b)
theorem sat_sort {M : Mi} {fin : List PyData → Store → Out SV} (hf : Fin M fin) : SatA M (rSortD M.K) (sortS fin) := by
  intro W σ Q g H S us vs r q p
  unfold sortS at p
  split at p
  · cases q with
    | cons q1 q2 =>
      cases q2
      split at p
      · rename_i xs e1
        split at p
        · rename_i hc
          obtain ⟨h1, h2⟩ := Bool.and_eq_true_iff.mp hc
          obtain ⟨k1, k2⟩ := sortC_ok h1
          obtain ⟨a, ws, rfl, hl, t1, hz⟩ := asD_list r q1 e1
          exact ⟨a, ws, xs, Rp M.K g.F, rfl, .inl (SqL.of hl), RpAll.dp r.sub _ _ (sortC_plain h1) t1, paired_of t1, k1, k2, fun d hd => of_decide_eq_true (List.all_eq_true.mp h2 d hd), fun p' vs' hp' h' => hf.lay r (by rw [List.length_mergeSort]; exact hz) (of_paired h') p p' hp'⟩
        · exact p.elim
      · rename_i xs e1
        split at p
        · rename_i hc
          obtain ⟨h1, h2⟩ := Bool.and_eq_true_iff.mp hc
          obtain ⟨k1, k2⟩ := sortC_ok h1
          obtain ⟨a, ws, rfl, hl, t1, _, hz⟩ := asD_tup q1 e1
          exact ⟨a, ws, xs, Rp M.K g.F, rfl, .inr (SqT.sub r.sub hl), RpAll.dp r.sub _ _ (sortC_plain h1) t1, paired_of t1, k1, k2, fun d hd => of_decide_eq_true (List.all_eq_true.mp h2 d hd), fun p' vs' hp' h' => hf.lay r (by rw [List.length_mergeSort]; exact hz) (of_paired h') p p' hp'⟩
        · exact p.elim
      · exact p.elim
  · exact p.elim
theorem d_sorted {X : Cx} {M : Mi} {W : WX} {a : Expr} {fa : EF} {p pos : Pos} (hK : X.K = M.K) (hu : X.A.units + 65 < cLine) {fin : List PyData → Store → Out SV} (hf : Fin M fin) (hg : Gl X "sorted") (hm : X.mg "sorted" = none) (ha : DE X M W a fa) (he : starEach [a] X.env = (false, eval a X.env) :: starEach [] X.env := by rfl) (hpl : (backTo pos (starEach [] X.env)).any (·.1) = false := by rfl) :
    DE X M W (.Call (.Name "sorted" p) [a] [] pos) (eCall (sortS fin) (aCons fa aNil)) :=
  d_callB (by rw [← hK]; exact cr_sortedD hu) (sat_sort hf) hg hm (by decide +kernel) (da_cons ha da_nil he) (by decide) (by decide) he hpl
end DL
/-! D15: sum. -/
namespace DL
open PySem L2
def intsD : List PyData → Option (List Int)
  | [] => some []
  | .int i :: r => (intsD r).map (i :: ·)
  | _ :: _ => none
theorem intsD_ok : ∀ {ds : List PyData} {ns : List Int}, intsD ds = some ns → ds = ns.map .int
  | [], _, h => by cases h; rfl
  | d :: ds, ns, h => by
    cases d with
    | int i =>
      unfold intsD at h
      cases h2 : intsD ds with
      | none => rw [h2] at h; cases h
      | some ms =>
        rw [h2] at h
        cases h
        rw [intsD_ok h2]
        rfl
    | _ => cases h
theorem intsV : ∀ {K : PySem.W.Frag} {F : Hp} {vs : List V} {ns : List Int}, RpAll K F vs (ns.map .int) → vs = ns.map V.int
  | _, _, _, [], .nil => rfl
  | _, _, _, n :: ns, .cons a b => by
    cases a
    rw [intsV b]
    rfl
def sumS : List SV → Store → Out SV := fun vs S => match vs with
  | [v] => match asD v S with
    | some (.list xs) => match intsD xs with
      | some ns => .ok (.d (.int ns.sum)) S
      | none => .no
    | _ => .no
  | _ => .no
theorem sat_sum {M : Mi} : SatA M (rSum M.K) sumS := by
  intro W σ Q g H S us vs r q p
  unfold sumS at p
  split at p
  · cases q with
    | cons q1 q2 =>
      cases q2
      split at p
      · rename_i xs e1
        split at p
        · rename_i ns hn
          obtain rfl := intsD_ok hn
          obtain ⟨a, ws, rfl, hl, t1, hz⟩ := asD_list r q1 e1
          obtain rfl := intsV t1
          exact ⟨a, ns, rfl, SqL.of hl, p.now r (.int _)⟩
        · exact p.elim
      · exact p.elim
  · exact p.elim
theorem d_sum {X : Cx} {M : Mi} {W : WX} {a : Expr} {fa : EF} {p pos : Pos} (hK : X.K = M.K) (hc : X.calm = true) (hg : Gl X "sum") (hm : X.mg "sum" = none) (ha : DE X M W a fa) (he : starEach [a] X.env = (false, eval a X.env) :: starEach [] X.env := by rfl) (hpl : (backTo pos (starEach [] X.env)).any (·.1) = false := by rfl) :
    DE X M W (.Call (.Name "sum" p) [a] [] pos) (eCall sumS (aCons fa aNil)) :=
  d_callB (by rw [← hK]; exact cr_sum hc) sat_sum hg hm (by decide +kernel) (da_cons ha da_nil he) (by decide) (by decide) he hpl
end DL
/-! D16: the empty dict; errors with a field: super().__init__(n); self.f = n. -/
namespace DL
open PySem L2
theorem d_dict0 {X : Cx} {M : Mi} {W : WX} {pos : Pos} : DE X M W (.Dict [] [] pos) (eC (.dict [])) := pe_dnewK.weak fun σ H Q h => by
  obtain ⟨g, Γ, S, r, v, p⟩ := h
  intro q hq
  obtain ⟨r', gr⟩ := r.frz hq (.dK [])
  exact p _ _ _ gr r' (Rp.dct upd_same)

/-! ### the __init__ -/
abbrev initB (n f : Str) (p0 p1 p2 p3 p4 p5 p6 p7 p8 p9 : Pos) : List Stmt :=
  [.Expr (.Call (.Attribute (.Call (.Name "super" p0) [] [] p1) "__init__" p2) [.Name n p3] [] p4) p5, .Assign [.Attribute (.Name "self" p6) f p7] (.Name n p8) p9]
theorem ns_keep {h h' : Heap} {L : Addr} {m : Str → Option Value} (n : h.Ns L m) (k : ∀ o, h.get? L = some o → h'.get? L = some o) : h'.Ns L m := let ⟨o, es, ep, e, r⟩ := n; ⟨o, es, ep, k o e, r⟩
def mwo (x : Addr) : Obj := PySem.W.kxs_mw "ValueError.__init__" x
section
open PySem.W PySem.Calls PyProof.Rows
theorem call_mw {prog : Program} {w : World} {A : Around} {E : Value → Shared → Prop} {h : Heap} {g : Array GenState} {d : Drawn} {t : Nat} {os : OsState}
    {nm q : Str} {C N : Addr} {bs bm : List Value} {hdct : Bool} {sn : List Str} {sub : List Value} {ab : Bool} {col : Option Bool} {dd : Option Addr} {k0 k1 k2 k3 k5 : Option Value}
    {u e t0 : Addr} {rest : List Value} {Q : Value → Shared → Prop}
    (hC : h.get? C = some (excClassObj nm q C N bs bm hdct sn sub ab col dd k0 k1 k2 k3 k5 "ValueError.__new__")) (he : h.get? e = some (excRec (.ref C) t0 none .none .none (.bool false))) (hu : h.get? u = some (mwo e)) (hrest : rest.length ≤ sizeLine)
    (hq : ∀ h' t1, (∀ b o, b ≠ e → h.get? b = some o → h'.get? b = some o) → h'.get? e = some (excRec (.ref C) t1 none .none .none (.bool false)) → Q .none ⟨h', g, d, t, os⟩) :
    wpAny (model prog w) A (call (.ref u) rest) Q E ⟨h, g, d, t, os⟩ := by
  refine wpAny_call (codeAny_of_tree ?_)
  show wpAny _ A.in1 (callAny (.ref u) ⟨rest, []⟩) _ _ _
  simp only [callAny]
  refine wpAny_bind (wpAny_load hu ?_)
  simp only [mwo, kxs_mw, show (Value.type "method-wrapper" == Value.type "method" || Value.type "method-wrapper" == Value.type "builtin_function_or_method" || Value.type "method-wrapper" == Value.type "method-wrapper") = true by decide, if_true]
  refine KFB.if_so (by decide) ?_
  refine wpAny_bind (check_bound_init PySem.F.excBase_ValueError.toExcCallFacts hC he rfl ?_)
  refine wpAny_bind (wpAny_pure (wpAny_pure ?_))
  refine ⟨plainId_quiet PySem.F.excBase_ValueError.init.plain _, codeAny_builtin PySem.F.excBase_ValueError.initEntry ?_⟩
  exact exc_init_tree (cls := .ref C) (t0 := t0) (dv := none) (c2 := .none) (c3 := .none) (b4 := .bool false) he hrest fun h' k e' _ => hq h' _ k e'
theorem callWith_mw {M : Model} {A : Around} {E : Value → Shared → Prop} {s : Shared} {pos : Pos} {env : Env} {e : Expr} {rest : List Expr} {u x : Addr} {Q : Value → Shared → Prop}
    (h : wpAny M A (spliced (backTo pos (starEach (e :: rest) env))) (fun vs s₁ => s₁.heap.get? u = some (mwo x) ∧ wpAny M A (call (.ref u) vs) Q E s₁) E s)
    (he : starEach (e :: rest) env = (false, eval e env) :: starEach rest env := by rfl) (hplain : (backTo pos (starEach rest env)).any (·.1) = false := by rfl) :
    wpAny M A (callWith pos (.ref u) [] (backTo pos (starEach (e :: rest) env)) []) Q E s := by
  rw [he] at h ⊢
  refine kxs_callWith (i := "ValueError.__init__") (x := x) (by show (false || (backTo pos (starEach rest env)).any (·.1)) = false; rw [hplain]; rfl) ?_
  exact evalArgs_plain h
end

/-- what the __init__ of such a class leaves -/
def spInit (C : Addr) (f : Str) : Sp := fun vs H Q _ => ∃ (a : Addr) (y : V), vs = [.ref a, y] ∧ H a = some (exo a C none) ∧ ∀ dx, H dx = none → dx ≠ a → Q .non (upd (upd H dx (exd dx [(f, y)])) a (exo a C (some dx)))
/-- the facts of such a class -/
structure InK (K : PySem.W.Frag) (C cc cda : Addr) (f : Str) : Prop where
  T : OexC K C
  fs : PySem.W.findIn K (.ref C) f = some none
  cell : ∃ cl cld csl, K.lookup cc = some ⟨cl, cld, .cell (some (.ref C)), csl⟩
  code : ∃ ccl cdd vs ccs file tf, K.lookup cda = some ⟨ccl, cdd, .fields vs, ccs⟩ ∧ vs[2]? = some (.str file tf) ∧ (PySem.Str.ofString "/claim/cut.py" == file) = true
  th : PySem.W.nsIn K cStatics "thirdparty.any" = some none
  sp : PySem.W.nsIn K mainGlobals "super" = some none
  up : PySem.W.ks_superIn K C C "__init__" = some (some (.builtin "ValueError.__init__"))
  ve : PySem.W.subIn K (.ref C) (.type "ValueError") = some true
  me : PySem.W.mroIn K C (.ref C) = some true
structure InP (P : Program) : Prop where
  file : P.main.file = PySem.Str.ofString "/claim/cut.py"
  top : (P.main.scope.names.lookup ("super" : Str)).isSome = false
structure InS (n : Str) (params : Arguments) (sc : Scope) : Prop where
  kind : sc.kind = .function
  co : sc.isCoroutine = false
  gen : sc.isGenerator = false
  cel : ∀ x ∈ sc.names, x.2 ≠ .cell
  kself : sc.names.lookup ("self" : Str) = some .local
  kn : sc.names.lookup n = some .local
  ksup : sc.names.lookup ("super" : Str) = some .globalImplicit
  kcls : sc.names.lookup ("__class__" : Str) = some .free
  ar : ∃ ar, (params.posonlyargs ++ params.args).head? = some ar ∧ ar.arg = "self"
  ne : (("self" : Str) == n) = false
section
open PySem.W PySem.Calls PyProof.Rows
theorem call_init_eq {p0 p1 p2 p3 p4 : Pos} {n : Str} (env : Env) (hp : (p2.endLine == p4.line) = true) : ∃ pl, eval (.Call (.Attribute (.Call (.Name "super" p0) [] [] p1) "__init__" p2) [.Name n p3] [] p4) env = (do
      let ov ← attributeBase (.Call (.Name "super" p0) [] [] p1) "__init__" env (eval (.Call (.Name "super" p0) [] [] p1) env)
      standAt p2.atName
      let (f, first) ← holding [ov] (getMethod ov "__init__" pl)
      callWith p4 f first (backTo p4 (starEach [.Name n p3] env)) []) := by
  refine ⟨(do return (← importBound (.Call (.Name "super" p0) [] [] p1) env).getD true), ?_⟩
  have e : methodCallPos true (.Call (.Name "super" p0) [] [] p1) env p2 p4 = pure p4 := by
    unfold methodCallPos
    rw [hp]
    rfl
  have e2 : eval (.Call (.Attribute (.Call (.Name "super" p0) [] [] p1) "__init__" p2) [.Name n p3] [] p4) env = (do
    let ov ← attributeBase (.Call (.Name "super" p0) [] [] p1) "__init__" env (eval (.Call (.Name "super" p0) [] [] p1) env)
    standAt p2.atName
    let (f, first) ← holding [ov] (calleeOf true (.Call (.Name "super" p0) [] [] p1) env ov "__init__")
    let callPos ← methodCallPos true (.Call (.Name "super" p0) [] [] p1) env p2 p4
    callWith callPos f first (backTo p4 (starEach [.Name n p3] env)) []) := by rfl
  rw [e2, e]
  rfl
theorem init_ok {P : Program} {w : World} {K : Frag} {mg : Str → Option Value} {base : Heap} {CX : CXT} {k : Nat} {fI C cc cda : Addr} {name qual n f : Str} {params : Arguments} {body : List Stmt} {scope : Scope} {dV kV doc pm ct oc : Value} {an od : Option Addr}
    {osl : Array (Option Value)} {p0 p1 p2 p3 p4 p5 p6 p7 p8 p9 : Pos} (IK : InK K C cc cda f) (IP : InP P) (S : InS n params scope) (hbd : body = initB n f p0 p1 p2 p3 p4 p5 p6 p7 p8 p9) (hpos : (p2.endLine == p4.line) = true) (hdn : (n == ("__debug__" : Str)) = false)
    (lk : K.lookup fI = some ⟨oc, od, .func (ksFn name qual params body scope dV kV doc pm an (.ref cda) ct cc), osl⟩) (hcd : codeIn K (.ref cda) qual = true) :
    FnOk P w K mg base CX (k + 1) fI (ksFn name qual params body scope dV kV doc pm an (.ref cda) ct cc) ["self", n] (spInit C f) := by
  subst hbd
  refine ⟨fun vs H Q E h => (by obtain ⟨a, y, rfl, _⟩ := h; rfl), fun A outer s H args us vs Q E hr e0 hb r hsp => ?_⟩
  obtain ⟨a, y, rfl, ea, hq⟩ := hsp
  obtain ⟨hh, g, dr, tk, os⟩ := s
  have KX : K.In hh := e0.mod.kin.keeps fun b o e => (e0.bs b o e).1
  have lim : hh.NoLimit := e0.mod.nolimit.keeps fun b o e => (e0.bs b o e).1
  have bk : ∀ b o, base.get? b = some o → hh.get? b = some o := fun b o e => (e0.bs b o e).1
  obtain ⟨nm, q, N, bs, bm, sn, sub, ab, col, dd, k0, k1, k2, k3, k5, hC, hbm⟩ := IK.T.cls
  have hcl : clsIn K C = some { name := nm, bases := bs, mro := .ref C :: bm, ns := N, qualname := q, hasDict := true, slotNames := sn, subclasses := sub, abstract := ab, collection := col, hasDel := false } := by unfold clsIn; rw [hC] <;> rfl
  obtain ⟨t1, hx⟩ := exo_at e0.hok ea
  cases r with
  | @cons _ u0 _ ur ra rr =>
  cases rr with
  | @cons _ u1 _ ur2 ry rr2 =>
  cases rr2
  obtain rfl : u0 = Value.ref a := ra
  have xC : a ≠ C := ks_ne KX (ox := { cls := .ref C, dict := none, data := .fields #[.ref t1, .none, .none, .none, .bool false, .none] }) (odx := none) ⟨hx, rfl, rfl, trivial⟩ hcl
  refine ks_codeAny_call_defAt (fd := ksFn name qual params _ scope dV kV doc pm an (.ref cda) ct cc) (body := initB n f p0 p1 p2 p3 p4 p5 p6 p7 p8 p9) (binds := [("self", .ref a), (n, u1)]) hr.depth (KX _ _ lk) rfl lim (codeRec_of KX hcd) rfl hb S.cel
    (fun x hx => ?_) (fun h₀ hns hk => ?_) S.co S.gen S.kind
  · rcases List.mem_cons.mp hx with rfl | hx
    · exact S.kself
    · rcases List.mem_cons.mp hx with rfl | hx
      · exact S.kn
      · cases hx
  have hself : ([("self", Value.ref a), (n, u1)] : List (Str × Value)).reverse.lookup ("self" : Str) = some (.ref a) := by
    show List.lookup ("self" : Str) [(n, u1), ("self", Value.ref a)] = _
    rw [List.lookup_cons, S.ne]; rfl
  have hn : ([("self", Value.ref a), (n, u1)] : List (Str × Value)).reverse.lookup n = some u1 := by
    show List.lookup n [(n, u1), ("self", Value.ref a)] = _
    rw [List.lookup_cons, beq_self_eq_true]
  obtain ⟨cl, cld, csl, hcell⟩ := IK.cell
  obtain ⟨ccl, cdd, cvs, ccs, file, tf, hcode, hvs, hfile⟩ := IK.code
  obtain ⟨ar, har, hself'⟩ := S.ar
  obtain ⟨mb, hmb, hmb2⟩ := e0.mod.blt
  have X0 : K.In h₀ := KX.keeps hk
  have hx0 := hk _ _ hx
  have hbase : ∀ b o, base.get? b = some o → h₀.get? b = some o := fun b o e => hk _ _ (bk _ _ e)
  have hLa : hh.objs.size ≠ a := Nat.ne_of_gt (Heap.lt_size hx)
  obtain ⟨pl, hpl⟩ := call_init_eq (p0 := p0) (p1 := p1) (p3 := p3) (n := n) (ksEnv qual scope hh.objs.size fI (.ref cda) cc) hpos
  refine ks_wpAt_execs_cons (ks_wpAt_Expr_any (ks_wpAt_MethodCall ?_ hpl) (by show (scope.kind == ScopeKind.module && _) = false; rw [S.kind]; rfl) (by rfl))
  refine ks_wpAt_super_base (env := ksEnv qual scope hh.objs.size fI (.ref cda) cc) S.ksup S.kcls (by decide) rfl (X0 _ _ lk) rfl har rfl (X0 _ _ hcode) rfl hvs (by rw [IP.file]; exact hfile) IP.top ?_
  refine ks_loadName_global S.kind S.ksup (loadGlobal_builtin (env := ksEnv qual scope hh.objs.size fI (.ref cda) cc) (e0.mod.glob.keeps hbase) (mg_none_of e0.mod.kin e0.mod.glob IK.sp) (hmb.keeps hbase) ((hmb2 _ (by decide)).trans (by decide +kernel)) ⟨rfl, ?_⟩)
  refine wpAny_loadName_free S.kind S.kcls rfl ⟨_, X0 _ _ hcell, rfl⟩ ?_
  refine wpAny_loadName_local S.kind (by rw [hself']; exact S.kself) hns (by rw [hself']; exact hself) ?_
  have hC0 := X0 _ _ hC
  refine ks_wpAny_isType_cls hC0 rfl ⟨rfl, ?_⟩
  refine ks_wpAny_call_super hC0 rfl hx0 rfl (fun c e => by cases e) (looks_mroIn X0 IK.me) (fun h1 e1 k1 => ?_)
  have X1 : K.In h1 := X0.keeps k1
  have hx1 := k1 _ _ hx0
  have I1 : InstAt h1 a { cls := .ref C, dict := none, data := .fields #[.ref t1, .none, .none, .none, .bool false, .none] } C none := ⟨hx1, rfl, rfl, trivial⟩
  have hup := IK.up
  unfold ks_superIn at hup
  rw [hcl] at hup
  refine kxs_getMethod kxs_ValueError e1 (looks_opaque X1 IK.th) (l₀ := .ref C :: bm) (fun A Q E s k q => wpAny_bind ((looks_clsIn X1 hcl) A _ E s k (wpAny_pure q))) rfl X1 hup (I1.type.andThen (looks_subIn X1 IK.ve)) xC (by decide) ?_
  have k2 : ∀ b o, h1.get? b = some o → (h1.push (kxs_mw "ValueError.__init__" a)).get? b = some o := fun b o e => Heap.get?_push_of_some _ e
  have hx2 := k2 _ _ hx1
  have hu2 : (h1.push (kxs_mw "ValueError.__init__" a)).get? h1.objs.size = some (mwo a) := Heap.get?_push_at rfl rfl
  have hns2 := ns_keep hns (fun o e => k2 _ _ (k1 _ _ e))
  refine callWith_mw (x := a) ?_
  refine spliced_cons (ESX.ldL hns2 hn (spliced_nil ⟨hu2, ?_⟩) S.kind S.kn hdn)
  refine call_mw ((X1.keeps k2) _ _ hC) hx2 hu2 (by show 1 ≤ sizeLine; decide) (fun h3 t3 k3 hx3 => ?_)
  have hns3 := ns_keep hns2 (fun o e => k3 _ _ hLa e)
  refine ks_wpAt_execs_cons (ks_wpAt_Assign_Attr (wpAt_of_wpAny (ESX.ldL hns3 hn (ESX.ldL hns3 hself ?_ S.kind S.kself) S.kind S.kn hdn)) (by rfl))
  have X3 : K.In h3 := fun b o hb => k3 b o (fun z => by
    have := (e0.bs b o (e0.mod.kin b o hb)).2
    rw [z, ea] at this
    cases this) ((X1.keeps k2) b o hb)
  refine set_plain X3 (ox := { cls := .ref C, dict := none, data := .fields #[.ref t3, .none, .none, .none, .bool false, .none] }) (od := none) ⟨hx3, rfl, rfl, trivial⟩ IK.T.sa ?_
  refine PySem.HandSPX.exc_osa X3 hx3 hcl (show PySem.HandSPX.refsVE (.ref C :: bm) = true from hbm) rfl IK.fs (fun h4 tk4 dx k4 hdx dne hx4 hn4 => ?_)
  refine wpAt_of_wpAny (wpAny_execs_nil ?_)
  have dn : hh.objs.size ≤ dx := Nat.le_trans (Nat.le_of_lt hns3.lt) hdx
  have k : ∀ b o, b ≠ a → hh.get? b = some o → h4.get? b = some o := fun b o n e => k4 b o n (k3 b o n (k2 _ _ (k1 _ _ (hk _ _ e))))
  have hnd : H dx = none := e0.hok.fresh dn
  have nd : ∀ {b : Addr} {o : Obj}, hh.get? b = some o → b ≠ dx := fun {b o} q => Nat.ne_of_lt (Nat.lt_of_lt_of_le (Heap.lt_size q) dn)
  have na : ∀ {b : Addr}, H b = none → b ≠ a := fun {b} n z => by
    rw [z, ea] at n
    cases n
  have Un1 : Un (frs outer) [] H (upd (upd H dx (exd dx [(f, y)])) a (exo a C (some dx))) hh h4 := {
    keep := fun b o q n _ _ => k b o (na n) q
    slot := fun b o q n _ _ => ⟨o.slots, k b o (na n) q⟩
    free := fun b o q n _ => by rw [upd_ne (na n), upd_ne (nd q)]; exact n
    there := fun b o q _ => by
      by_cases hb : b = a
      · exact ⟨_, by rw [hb]; exact hx4⟩
      · exact ⟨o, k b o hb q⟩
    tups := fun b xs q => by rw [upd_ne (at_ne ea q exo_tup), upd_ne (ne_of_none q hnd)]; exact q
    frzs := fun b o v q => by rw [upd_ne (at_ne ea q exo_frz), upd_ne (ne_of_none q hnd)]; exact q
    tbls := fun b ps q => ⟨#[], by rw [upd_ne (at_ne ea q exo_tbl), upd_ne (ne_of_none q hnd), q]; simp⟩ }
  show CE outer P w H _ Q .none _
  refine ⟨.non, _, rfl, e0.bare, Un1, fun b o q => ?_, rfl, hq dx hnd dne⟩
  by_cases hb : b = a
  · subst hb
    rw [upd_same] at q
    cases q
    exact exo_ok hx4
  · rw [upd_ne hb] at q
    by_cases hd : b = dx
    · subst hd
      rw [upd_same] at q
      cases q
      exact exd_ok hn4 (relO_put (fs := []) ry fun g => True.intro)
    · rw [upd_ne hd] at q
      exact (e0.hok b o q).stay (fun c v hc z => k c v (by
          rcases hc with hc | hc
          · rw [hc]
            exact hb
          · exact at_ne ea hc exo_own) z)
        (fun c hc => by rw [upd_ne (at_ne ea hc exo_own), upd_ne (ne_of_none hc hnd)]; exact hc) (fun c xs hc => by rw [upd_ne (at_ne ea hc exo_tup), upd_ne (ne_of_none hc hnd)]; exact hc)
end
/-- an own exception class with such an __init__ -/
structure ExI (P : Program) (K : PySem.W.Frag) (mg : Str → Option Value) (cn : Str → Option Addr) (x f : Str) : Prop where
  ok : ∃ (C fI : Addr) (fd : FuncData) (n : Str), cn x = some C ∧ mg x = some (.ref C) ∧ OexC K C ∧ PySem.W.findIn K (.ref C) "__init__" = some (some (.ref fI)) ∧ PySem.W.typeIn K (.ref fI) = some (.type "function") ∧ Binds K fd ["self", n] [] ∧
    ∀ (w : World) (base : Heap), FnOk P w K mg base (L2.CX P w) 1 fI fd ["self", n] (spInit C f)
def fRaiseF (c f : Str) (fe : EF) : SF := fun Γ S => sB ((aCons fe aNil) Γ S) Γ fun vs S => match vs with
  | [.d y] => .ok (.xc ⟨c, [(f, y)]⟩ Γ) S
  | _ => .no
theorem s_raiseF {X : Cx} {M : Mi} {W : WX} {x f : Str} {e : Expr} {fe : EF} {k : Nat} {p pos pos' : Pos} (hK : X.K = M.K) (hc : X.calm = true) (tk : Takes X W) (E : ExI X.prog X.K X.mg M.cn x f) (hr : Room k X.A) (hk : 2 ≤ k) (hg : Gl X x) (he : DE X M W e fe)
    (hdb : (x == ("__debug__" : Str)) = false := by decide) (hs : starEach [e] X.env = (false, eval e X.env) :: starEach [] X.env := by rfl) (hpl : (backTo pos (starEach [] X.env)).any (·.1) = false := by rfl) :
    DS X M W (.Raise (some (.Call (.Name x p) [e] [] pos)) none pos') (fRaiseF x f fe) := by
  obtain ⟨C, fI, fd, n, e1, e2, T, iC, tI, hb, F⟩ := E.ok
  refine (ps_raise hc tk (pmk_oex T iC tI (F X.w X.base) (hr.mono hk) hb .nil passL hg e2 (da_cons he da_nil hs) hdb hs hpl)).weak fun D σ H ⟨g, Γ, S, r, v, p⟩ => stepS r v p fun us H1 g1 S1 vs gr r1 v1 q1 p1 => ?_
  split at p1
  · rename_i y
    cases q1 with
    | @cons u _ _ _ qa qb =>
    cases qb
    refine ⟨(by show 1 ≤ 1000; decide), fun a ha => ⟨a, u, rfl, upd_same, fun dx hd hne => ⟨rfl, dx, _, upd_same, (by rw [upd_ne hne, upd_same]), ?_, ?_⟩⟩⟩
    · rw [upd_ne hne] at hd; exact hd
    · rw [upd_ne hne] at hd
      have eH : upd (del (upd (upd (upd H1 a (exo a C none)) dx (exd dx [(f, u)])) a (exo a C (some dx))) a) dx (.xd [(f, u)]) = upd H1 dx (.xd [(f, u)]) := by
        funext b
        by_cases hb : b = dx
        · rw [hb, upd_same, upd_same]
        · rw [upd_ne hb, upd_ne hb]
          by_cases hba : b = a
          · rw [hba, del_same, ha]
          · rw [del_ne hba, upd_ne hba, upd_ne hb, upd_ne hba]
      rw [eH]
      obtain ⟨r2, gr2⟩ := r1.frz hd (.xd [(f, u)])
      obtain ⟨hF, _⟩ := r1.free hd
      exact p1 _ _ σ _ _ gr2 r2 (gr2.vars v1) ⟨C, e1, rfl, .inr ⟨by simp, dx, [(f, u)], rfl, upd_same, .cons ⟨rfl, Rp.sub (sub_upd hF) _ _ qa⟩ .nil⟩⟩
  · exact p1.elim
end DL
/-! D17: isinstance of the error that the suite holds, with a field or without. -/
namespace DL
open PySem L2
section
open PySem.W PySem.Spec PySem.Calls PyProof.Rows
variable {prog : Program} {w : World} {A : Around} {E : Value → Shared → Prop} {s : Shared} {K : Frag} {x D : Addr} {ox : Obj} {od : Option Obj}
theorem clsOf_hd (e : ExcC K D) : ∃ cd, clsIn K D = some cd := by
  obtain ⟨cd, hc, _⟩ := any_some e.hd
  exact ⟨cd, hc⟩
theorem find_cls (e : ExcC K D) : findObj K D od "__class__" = some (.bind (.builtin "getset_descriptor.__get__") (.builtin "object.__class__")) := by
  obtain ⟨cd, hc⟩ := clsOf_hd e
  unfold findObj
  rw [hc, Option.bind_some, e.ha, Option.bind_some]
  simp [e.hn, e.ht]
theorem cls_of_inst {Q : Option Value → Shared → Prop} (e : ExcC K D) (X : K.In s.heap) (I : InstAt s.heap x ox D od) (h : Q (some (.ref D)) { s with toks := s.toks + 1 }) : wpAny (model prog w) A (getAttr? (.ref x) "__class__") Q E s := by
  obtain ⟨hp, g, d, t, os⟩ := s
  have q0 := I.type (M := model prog w)
  have q1 := looks_findIn (M := model prog w) X e.hg
  have q2 := looks_findIn (M := model prog w) X e.hk
  have q3 := looks_find (M := model prog w) X I (find_cls e)
  have q4 : Looks (model prog w) hp (isInstance (.ref x) (.type "BaseException")) true := q0.andThen (looks_subIn X e.hs)
  have n2 : (Value.builtin "BaseException.__getattribute__" == Value.builtin "object.__getattribute__") = false := by decide +kernel
  have n1 : (onTheHeap (Value.ref D) && Value.builtin "BaseException.__getattribute__" == Value.builtin "object.__getattribute__") = false := by rw [n2]; rfl
  unfold getAttr? getAttrBy? getAttrBy
  refine wpAny_bind (wpAny_mkText (wpAny_bind (wpAny_attempt (wpAny_holding (wpAny_bind (q0.at (wpAny_bind (q1.at ?_))))))))
  show wpAny _ _ (if (onTheHeap (Value.ref D) && Value.builtin "BaseException.__getattribute__" == Value.builtin "object.__getattribute__") = true then _ else _) _ _ _
  rw [n1, if_neg Bool.false_ne_true]
  unfold getAttrByItsOwn hookBefore
  refine wpAny_bind ?_
  rw [if_pos (show onTheHeap (Value.ref D) = true from rfl)]
  refine q2.at (wpAny_bind (wpAny_attempt (wpAny_holding ?_)))
  unfold callGetattribute
  rw [show (false && onTheHeap (Value.builtin "BaseException.__getattribute__")) = false from rfl, if_neg Bool.false_ne_true]
  unfold boundAndCalled
  rw [PySem.F.excAttr_ValueError.ga.bind (.ref x)]
  refine wpAny_bind (wpAny_pure ?_)
  show wpAny _ _ (call (.builtin "BaseException.__getattribute__") [.ref x, .str "__class__" t]) _ _ _
  refine wpAny_call (codeAny_call_builtin PySem.F.excAttr_ValueError.ga.plain PySem.F.entry_bexc_ga ?_)
  refine @check_slot (model prog w) _ _ ⟨hp, g, d, t + 1, os⟩ "BaseException.__getattribute__" "BaseException" "__getattribute__" (.ref x) [.str "__class__" t] [] _ (by decide +kernel) (by decide +kernel) q4 (PySem.F.args_bexc_ga (.ref x) (.str "__class__" t)) ?_
  unfold Builtin.«object.__getattribute__»
  refine wpAny_bind (wpAny_of_eq (a := ((Value.ref x : Value), [Value.str "__class__" t])) (by first | rfl | (simp only [slotArgs]; rfl)) ?_)
  refine wpAny_bind (wpAny_pure (wpAny_bind (q0.at (wpAny_bind (q3.at ?_)))))
  show wpAny _ _ (holding [Value.builtin "object.__class__"] (call (.builtin "getset_descriptor.__get__") [.builtin "object.__class__", .ref x, .ref D]) >>= ret) _ _ _
  refine wpAny_bind (wpAny_holding (wpAny_call (class_get (s := ⟨hp, g, d, t + 1, os⟩) (ox := ox) (od := od) X I e.hm ?_)))
  refine wpAny_pure ?_
  show wpAny _ _ (handedOut (.ref D)) _ _ _
  rw [handedOut_of (v := .ref D) rfl]
  first
    | exact wpAny_pure (wpAny_pure h)
    | exact wpAny_pure h
    | exact wpAny_pure (wpAny_bind (wpAny_pure (wpAny_pure h)))
theorem kitx_e (e : ExcC K D) : KitX K (.ref x) (.ref D) (fun h => InstAt h x ox D od) where
  ty := fun _ _ _ I => I.type
  it := fun _ _ X _ => by
    obtain ⟨cdD, hcD⟩ := clsOf_hd e
    unfold clsIn at hcD
    split at hcD
    · rename_i c' d' cd' sl' ho
      intro A' Q' E' s' k q
      unfold isType loadHead
      exact wpAny_bind (wpAny_loadPart (k _ _ (X _ _ ho)) (wpAny_pure q))
    · cases hcD
  ne := fun h tp dd its n sl X htp => by
    obtain ⟨cdD, hcD⟩ := clsOf_hd e
    refine Bool.eq_false_iff.mpr fun q => ?_
    have e' : D = tp := Value.ref.inj (beq_iff_eq.mp q)
    subst e'
    unfold clsIn at hcD
    split at hcD
    · rename_i c' d' cd' sl' ho
      cases (X _ _ ho).symm.trans htp
    · cases hcD
  ca := fun X I k => cls_of_inst e X I k
end
theorem call_isF {X : Cx} {a D dx : Addr} {oe : Obj} {pn : List (Addr × Obj)} {fs : List (Str × V)} (C : ExcC X.K D) (hz : Zc (.ref D) (some dx) oe) (hf : ∃ vs, oe.data = .fields vs) : CallR (X.suite a ((a, oe) :: pn)) (.builtin "isinstance")
    (fun xs H Q => rIsE X.K D a xs H Q ∧ H dx = some (.xd fs)) := by
  intro pins s σ H xs us Q I r h
  obtain ⟨⟨c, cv, b, rfl, hcv, e, q⟩, hd⟩ := h
  cases r with
  | cons rx rr =>
    cases rr with
    | cons rt rr =>
      cases rr
      cases rx
      have ec := hcv _ rt
      subst ec
      obtain ⟨hget, _⟩ := I.pin (a, oe) (List.mem_append.mpr (.inl List.mem_cons_self))
      obtain ⟨vs, hv⟩ := hf
      obtain ⟨mA, hns, _⟩ := (show ObjOk X.prog X.w H s.heap dx (.xd fs) from I.hok dx _ hd)
      obtain ⟨oD, _, _, hoD, _⟩ := hns
      have J : PySem.W.InstAt s.heap a oe D (some oD) := by
        obtain ⟨oc, od, oda, osl⟩ := oe
        obtain ⟨h1, h2⟩ := hz
        dsimp only at h1 h2 hv
        subst h1 h2 hv
        exact ⟨hget, rfl, rfl, hoD⟩
      exact PySem.W.kia_one (kitx_e C) I.kIn J e (fun z => nomatch z) fun tk => ⟨.bl b, H, I.kept (t' := tk) fun _ _ z => z, rfl, q⟩
/-- isinstance(n, C), n held with a field or without -/
def eIsF (x : Exc) (ok : Str → Option Bool) : EF := fun Γ S => match ok x.cls with
  | some b => .ok (.d (.bool b)) S
  | _ => .no
theorem di_isF {X : Cx} {M : Mi} {i : Nat} {a : Addr} {cls : Value} {d : Option Addr} {x : Exc} {oe : Obj} {pn : List (Addr × Obj)} {n c : Str} {p p2 p3 pos : Pos} {ok : Str → Option Bool} (hK : X.K = M.K) (T : IsX X.K X.mg M.cn c ok) (hz : Zc cls d oe) (hf : ∃ vs, oe.data = .fields vs) (hg : Gl X "isinstance") (hm : X.mg "isinstance" = none) (hc : Gl X c) (hdb : (c == ("__debug__" : Str)) = false)
    (hv : PE (X.suite a ((a, oe) :: pn)) (.Name n p) (tVar i)) (he : starEach [.Name n p, .Name c p2] X.env = (false, eval (.Name n p) X.env) :: starEach [.Name c p2] X.env := by rfl) (he2 : starEach [.Name c p2] X.env = (false, eval (.Name c p2) X.env) :: starEach [] X.env := by rfl) (hpl : (backTo pos (starEach [.Name c p2] X.env)).any (·.1) = false := by rfl) :
    DEi (X.suite a ((a, oe) :: pn)) M i a cls d x (.Call (.Name "isinstance" p3) [.Name n p, .Name c p2] [] pos) (eIsF x ok) := by
  refine ⟨fun pins s σ H Q I h => ?_⟩
  obtain ⟨g, Γ, S, r, v, hx, q⟩ := h
  obtain ⟨D, e1, e2, e3⟩ := hx.rep
  obtain ⟨C, c1, c2⟩ := T.ok
  unfold eIsF at q
  split at q
  · rename_i b h2
    subst e2
    obtain ⟨k1, k2⟩ := c2 _ _ h2 _ e1
    have pa := pa_cons (X := X.suite a ((a, oe) :: pn)) hv (pa_cons (pe_glob (X := X.suite a ((a, oe) :: pn)) (v := .ref C) hc c1 rfl hdb) pa_nil he2) he
    cases d with
    | none =>
      refine (pe_callB (X := X.suite a ((a, oe) :: pn)) (r := rIsE X.K D a) (call_isE k1 hz hf) hg hm (by decide +kernel) pa (by decide) (by decide) he hpl).run pins s σ H Q I ?_
      exact ⟨.ref a, hx.slot, .ref C, .ref C, b, rfl, fun u hu => hu, k2, q.now r (.bl _)⟩
    | some dx =>
      rcases e3 with ⟨_, h⟩ | ⟨_, dx', vs, h1, h3, _⟩
      · cases h
      · cases h1
        refine (pe_callB (X := X.suite a ((a, oe) :: pn)) (call_isF (fs := vs) k1 hz hf) hg hm (by decide +kernel) pa (by decide) (by decide) he hpl).run pins s σ H Q I ?_
        exact ⟨.ref a, hx.slot, ⟨.ref C, .ref C, b, rfl, fun u hu => hu, k2, q.now r (.bl _)⟩, r.sub _ _ h3⟩
  · exact q.elim
end DL
/-! D18: len(set(a)), a a list or tuple of whole numbers. -/
namespace DL
open PySem PySem.Spec PyProof.Rows L2
/-- how many different numbers -/
def distN : List Int → Nat
  | [] => 0
  | n :: ns => if ns.elem n then distN ns else distN ns + 1
def ddN : List Int → List Int
  | [] => []
  | n :: ns => if ns.elem n then ddN ns else n :: ddN ns
theorem ddN_len : ∀ ns, (ddN ns).length = distN ns
  | [] => rfl
  | n :: ns => by
    rw [ddN, distN]
    split
    · exact ddN_len ns
    · rw [List.length_cons, ddN_len ns]
theorem ddN_mem (k : Int) : ∀ ns, k ∈ ddN ns ↔ k ∈ ns
  | [] => Iff.rfl
  | n :: ns => by
    rw [ddN]
    split
    · rename_i h
      rw [ddN_mem k ns, List.mem_cons]
      refine ⟨.inr, fun h' => h'.elim (fun e => ?_) id⟩
      rw [e]; exact List.elem_iff.mp h
    · rw [List.mem_cons, List.mem_cons, ddN_mem k ns]
theorem ddN_nodup : ∀ ns, (ddN ns).Nodup
  | [] => List.nodup_nil
  | n :: ns => by
    rw [ddN]
    split
    · exact ddN_nodup ns
    · rename_i h
      rw [List.nodup_cons, ddN_mem]
      exact ⟨fun z => h (List.elem_iff.mpr z), ddN_nodup ns⟩
theorem len_le_of {α : Type} [DecidableEq α] : ∀ {l1 l2 : List α}, l1.Nodup → (∀ x ∈ l1, x ∈ l2) → l1.length ≤ l2.length
  | [], _, _, _ => Nat.zero_le _
  | x :: l1, l2, h, hs => by
    rw [List.nodup_cons] at h
    have hx := hs x List.mem_cons_self
    have := len_le_of (l2 := l2.erase x) h.2 fun y hy => (List.mem_erase_of_ne (show y ≠ x from fun e => h.1 (e ▸ hy))).mpr (hs y (List.mem_cons_of_mem _ hy))
    rw [List.length_erase_of_mem hx] at this
    have := List.length_pos_of_mem hx
    rw [List.length_cons]
    omega
theorem len_eq_of {α : Type} [DecidableEq α] {l1 l2 : List α} (h1 : l1.Nodup) (h2 : l2.Nodup) (h : ∀ x, x ∈ l1 ↔ x ∈ l2) : l1.length = l2.length :=
  Nat.le_antisymm (len_le_of h1 fun x hx => (h x).mp hx) (len_le_of h2 fun x hx => (h x).mpr hx)
theorem dist_of {l ns : List Int} (h1 : l.Nodup) (h : ∀ x, x ∈ l ↔ x ∈ ns) : l.length = distN ns := by
  rw [← ddN_len]
  exact len_eq_of h1 (ddN_nodup ns) fun x => (h x).trans (ddN_mem x ns).symm
theorem fold_dd : ∀ (ns acc : List Int), acc.Nodup → (ns.foldl PyProof.Rows.step_dedup acc).Nodup ∧ ∀ k, k ∈ ns.foldl PyProof.Rows.step_dedup acc ↔ k ∈ acc ∨ k ∈ ns
  | [], acc, h => ⟨h, fun k => by simp⟩
  | n :: ns, acc, h => by
    rw [List.foldl_cons]
    unfold PyProof.Rows.step_dedup
    by_cases hn : (acc.any fun x => x == n) = true
    · have hm : n ∈ acc := by
        obtain ⟨x, hx, e⟩ := List.any_eq_true.mp hn
        rw [← eq_of_beq e]; exact hx
      have e : (if acc.any (· == n) then acc else acc ++ [n]) = acc := if_pos hn
      rw [e]
      obtain ⟨h1, h2⟩ := fold_dd ns acc h
      refine ⟨h1, fun k => (h2 k).trans ?_⟩
      rw [List.mem_cons]
      exact ⟨fun z => z.elim .inl fun z => .inr (.inr z), fun z => z.elim .inl fun z => z.elim (fun e => .inl (e ▸ hm)) .inr⟩
    · have hm : n ∉ acc := fun z => hn (List.any_eq_true.mpr ⟨n, z, beq_self_eq_true n⟩)
      have e : (if acc.any (· == n) then acc else acc ++ [n]) = acc ++ [n] := if_neg hn
      rw [e]
      obtain ⟨h1, h2⟩ := fold_dd ns (acc ++ [n]) (by
        rw [List.nodup_append]
        exact ⟨h, by simp, fun a ha b hb => by simp at hb; subst hb; exact fun z => hm (z ▸ ha)⟩)
      refine ⟨h1, fun k => (h2 k).trans ?_⟩
      rw [List.mem_append, List.mem_singleton, List.mem_cons]
      exact or_assoc
theorem first_dist (ns : List Int) : (PyProof.Rows.firstMet (fun i => ns.getD i 0) ns.length).length = distN ns := by
  unfold PyProof.Rows.firstMet
  have e : (List.range ns.length).map (fun i => ns.getD i 0) = ns := by
    refine List.ext_getElem? fun i => ?_
    by_cases hi : i < ns.length
    · rw [List.getElem?_map, List.getElem?_range hi, Option.map_some, List.getD_eq_getElem?_getD, List.getElem?_eq_getElem hi]; rfl
    · rw [List.getElem?_eq_none (by simpa using hi), List.getElem?_eq_none (by simpa using hi)]
  rw [e]
  obtain ⟨h1, h2⟩ := fold_dd ns [] List.nodup_nil
  exact dist_of h1 fun k => (h2 k).trans (by simp)
def tLenDist (K : PySem.W.Frag) (ta : TE) : TE := fun σ H Q => ta σ H fun x H1 => ∃ (l : Addr) (ns : List Int), x = .ref l ∧ (SqL K H1 l (ns.map V.int) ∨ SqT K H1 l (ns.map V.int)) ∧ ns.length ≤ 4000 ∧ Q (.int (distN ns : Nat)) H1
theorem pe_lenDist {X : Cx} {a : Expr} {ta : TE} {p p2 q pos : Pos} (hg : Gl X "len") (hm : X.mg "len" = none) (hg2 : Gl X "set") (hm2 : X.mg "set" = none) (ha : PE X a ta) (hc : X.calm = true := by rfl)
    (na : starEach [a] X.env = (false, eval a X.env) :: starEach [] X.env := by rfl) : PE X (.Call (.Name "len" p) [.Call (.Name "set" p2) [a] [] q] [] pos) (tLenDist X.K ta) := by
  refine ⟨fun pins s σ H Q I h => ?_⟩
  refine Call_ (ld_blt I hg hm boot_len ?_)
  refine PyProof.Rows.callWith_builtin1 (PyProof.Rows.args_cons ?_ rfl) rfl rfl
  refine Call_ (ld_blt I hg2 hm2 boot_set ?_)
  refine PyProof.Rows.callWith_type1 (PyProof.Rows.args_cons (thn (ha.run pins s σ H _ I h) fun v s1 ⟨x, H1, I1, r1, q1⟩ => PyProof.Rows.args_nil ?_) na) na rfl
  obtain ⟨l, ns, rfl, hq, hl, q1⟩ := q1
  cases r1
  rcases hq with hq | hq
  · obtain ⟨its, r, pl, hz⟩ := I1.list hq
    have hlen : its.toArray.size = ns.length := by rw [List.size_toArray, ← r.length, List.length_map]
    refine call_set_list (I1.ok.hd hc) pl.isList (by simpa using RZ.intsAre_vals r) (by rw [hlen]; unfold scanBound; omega) fun h' tk hS hk => ?_
    refine PyProof.Rows.args_nil ?_
    rw [hlen, first_dist] at hS
    obtain ⟨o, es, ep, t, ho, hex, hd, _, _, _, hf, hn⟩ := hS
    have I2 : Inv X pins σ H1 { s1 with heap := h', toks := tk } := I1.kept fun b o e => hk b o (Heap.lt_size e) e
    have hdl : distN ns ≤ ns.length := by rw [← ddN_len]; exact len_le_of (ddN_nodup ns) fun x hx => (ddN_mem x ns).mp hx
    exact call_len_set ho hex hd hf (by rw [hn]; omega) ⟨.int (distN ns : Nat), H1, I2.tok _, ⟨_, by rw [hn]⟩, q1⟩
  · obtain ⟨its, r, pl, hz⟩ := I1.tuple hq
    have hdl : distN ns ≤ ns.length := by rw [← ddN_len]; exact len_le_of (ddN_nodup ns) fun x hx => (ddN_mem x ns).mp hx
    refine call_set_tupI ns (I1.ok.hd hc) (show s1.heap.IsTuple l its.toArray from pl) (by simpa using RZ.intsAre_vals r) (by unfold scanBound; omega) fun h' tk c hS hcl hk => ?_
    refine PyProof.Rows.args_nil ?_
    obtain ⟨o, es, ep, t, ho, hex, hd, _, hnd, hmem, _, hf, hn, _⟩ := hS
    have hc' : c = distN ns := by
      rw [← hn, ← dist_of hnd (fun x => ((hmem x).symm.trans decide_eq_true_iff)), List.length_map, Array.length_toList]
    subst hc'
    have I2 : Inv X pins σ H1 { s1 with heap := h', toks := tk } := I1.kept hk
    exact call_len_set ho hex hd hf (by rw [hn]; omega) ⟨.int (distN ns : Nat), H1, I2.tok _, ⟨_, by rw [hn]⟩, q1⟩
def intOf : PyData → Int
  | .int i => i
  | _ => 0
theorem ints_of : ∀ {ds : List PyData}, ds.all isInt = true → ds = (ds.map intOf).map .int
  | [], _ => rfl
  | d :: ds, h => by
    rw [List.all_cons, Bool.and_eq_true] at h
    obtain ⟨i, rfl⟩ := isInt_ok h.1
    rw [List.map_cons, List.map_cons, ← ints_of h.2]; rfl
def dstS : SV → Store → Out SV := fun v S => match asD v S with
  | some (.list ds) => if ds.all isInt && decide (ds.length ≤ 4000) then .ok (.d (.int (distN (ds.map intOf) : Nat))) S else .no
  | some (.tuple ds) => if ds.all isInt && decide (ds.length ≤ 4000) then .ok (.d (.int (distN (ds.map intOf) : Nat))) S else .no
  | _ => .no
def eLenSet (fa : EF) : EF := fun Γ S => (fa Γ S).bind dstS
theorem d_lenSet {X : Cx} {M : Mi} {W : WX} {a : Expr} {fa : EF} {p p2 q pos : Pos} (hK : X.K = M.K) (hc : X.calm = true) (hg : Gl X "len") (hm : X.mg "len" = none) (hg2 : Gl X "set") (hm2 : X.mg "set" = none) (ha : DE X M W a fa) (na : starEach [a] X.env = (false, eval a X.env) :: starEach [] X.env := by rfl) :
    DE X M W (.Call (.Name "len" p) [.Call (.Name "set" p2) [a] [] q] [] pos) (eLenSet fa) :=
  (pe_lenDist hg hm hg2 hm2 ha hc na).weak fun σ H Q h => by
    obtain ⟨g, Γ, S, r0, v0, p⟩ := h
    refine step r0 v0 p fun u H1 g1 S1 v gr r1 v1 q1 p1 => ?_
    unfold dstS at p1
    split at p1
    · rename_i ds e
      split at p1
      · rename_i hz
        rw [Bool.and_eq_true, decide_eq_true_iff] at hz
        obtain ⟨l, vs, rfl, h1, t1, _⟩ := asD_list r1 q1 e
        rw [ints_of hz.1] at t1
        rw [t1.ints] at h1
        exact ⟨l, _, rfl, .inl (by rw [hK]; exact SqL.of h1), by rw [List.length_map]; exact hz.2, p1.now r1 (.int _)⟩
      · exact p1.elim
    · rename_i ds e
      split at p1
      · rename_i hz
        rw [Bool.and_eq_true, decide_eq_true_iff] at hz
        obtain ⟨l, vs, rfl, h1, t1, _, _⟩ := asD_tup q1 e
        rw [ints_of hz.1] at t1
        rw [t1.ints] at h1
        exact ⟨l, _, rfl, .inr (by rw [hK]; exact SqT.sub r1.sub h1), by rw [List.length_map]; exact hz.2, p1.now r1 (.int _)⟩
      · exact p1.elim
    · exact p1.elim
end DL
/-! D19: fields of errors by a table; the facts of such classes at the end. -/
namespace DL
open PySem L2
structure FieldT (K : PySem.W.Frag) (cn : Str → Option Addr) (f : Str) (ok : Str → Option Bool) : Prop where
  ok : ∀ c, ok c = some true → ∀ C, cn c = some C → XfC K C ∧ PySem.W.findIn K (.ref C) f = some none
def eXg (ok : Str → Option Bool) (x : Exc) (f : Str) : EF := fun Γ S => match ok x.cls with
  | some true => eXf x f Γ S
  | _ => .no
theorem di_xg {X : Cx} {M : Mi} {i : Nat} {a : Addr} {cls : Value} {d : Option Addr} {x : Exc} {oe : Obj} {pn : List (Addr × Obj)} {n f : Str} {p pos : Pos} {ok : Str → Option Bool} (hK : X.K = M.K) (T : FieldT X.K M.cn f ok) (hz : Zc cls d oe) (hf : ∃ vs, oe.data = .fields vs)
    (hv : PE (X.suite a ((a, oe) :: pn)) (.Name n p) (tVar i)) (hb : attributeBase (.Name n p) f X.env (eval (.Name n p) X.env) = eval (.Name n p) X.env := by rfl) :
    DEi (X.suite a ((a, oe) :: pn)) M i a cls d x (.Attribute (.Name n p) f pos) (eXg ok x f) := by
  refine ⟨fun pins s σ H Q I h => ?_⟩
  obtain ⟨g, Γ, S, r, v, hx, q⟩ := h
  unfold eXg at q
  split at q
  · rename_i e
    exact (di_xf hK ⟨T.ok _ e⟩ hz hf hv hb).run pins s σ H Q I ⟨g, Γ, S, r, v, hx, q⟩
  · exact q.elim
theorem FieldT.of {K : PySem.W.Frag} {mg : Str → Option Value} {f : Str} {l : List (Str × Bool)} (al : AllC mg (fun D b => b = true → XfC K D ∧ PySem.W.findIn K (.ref D) f = some none) l) : FieldT K (cnOf mg) f (okL l) :=
  ⟨fun c e D eD => al.at c true e D eD rfl⟩
def clsBody (s : Stmt) : List Stmt := match s with
  | .ClassDef (body := b) .. => b
  | _ => []
theorem AllC.cons' {mg : Str → Option Value} {f : Addr → Bool → Prop} {c : Str} {b : Bool} {r : List (Str × Bool)} {D : Addr} (m : mg c = some (.ref D)) (h : f D b) (t : AllC mg f r) : AllC mg f ((c, b) :: r) := ⟨⟨D, m, h⟩, t⟩
theorem InK.of {K : PySem.W.Frag} {C cc cda : Addr} {f nm q : Str} {N : Addr} {bs bm : List Value} {sn : List Str} {sub : List Value} {ab : Bool} {col : Option Bool} {dd : Option Addr} {k0 k1 k2 k3 k5 : Option Value} {cl ccl : Value} {cld cdd : Option Addr} {csl ccs : Array (Option Value)} {vs : Array Value} {file : Str} {tf : Tok}
    (c1 : K.lookup C = some (excClassObj nm q C N bs bm true sn sub ab col dd k0 k1 k2 k3 k5 "ValueError.__new__")) (c2 : PySem.HandSPX.refsVE bm = true) (sa : PySem.W.findIn K (.ref C) "__setattr__" = some (some (.builtin "object.__setattr__"))) (ec : PySem.W.subIn K (.ref C) (.type "BaseException") = some true)
    (ty : PySem.W.typeIn K (.ref C) = some (.type "type")) (kc : PySem.W.keepIn K (.ref C) = true) (fs : PySem.W.findIn K (.ref C) f = some none) (ce : K.lookup cc = some ⟨cl, cld, .cell (some (.ref C)), csl⟩) (co : K.lookup cda = some ⟨ccl, cdd, .fields vs, ccs⟩) (c3 : vs[2]? = some (.str file tf)) (c4 : (PySem.Str.ofString "/claim/cut.py" == file) = true)
    (th : PySem.W.nsIn K cStatics "thirdparty.any" = some none) (sp : PySem.W.nsIn K mainGlobals "super" = some none) (up : PySem.W.ks_superIn K C C "__init__" = some (some (.builtin "ValueError.__init__"))) (ve : PySem.W.subIn K (.ref C) (.type "ValueError") = some true) (me : PySem.W.mroIn K C (.ref C) = some true) : InK K C cc cda f :=
  ⟨⟨⟨nm, q, N, bs, bm, sn, sub, ab, col, dd, k0, k1, k2, k3, k5, c1, c2⟩, sa, ec, ty, kc⟩, fs, ⟨cl, cld, csl, ce⟩, ⟨ccl, cdd, vs, ccs, file, tf, co, c3, c4⟩, th, sp, up, ve, me⟩
structure InB (n f : Str) (body : List Stmt) : Prop where
  ok : ∃ p0 p1 p2 p3 p4 p5 p6 p7 p8 p9, body = initB n f p0 p1 p2 p3 p4 p5 p6 p7 p8 p9 ∧ (p2.endLine == p4.line) = true
open PySem.W in
theorem ExI.of {P : Program} {K : Frag} {h : Heap} {mg : Str → Option Value} {x f n qual : Str} {C fI cc cda : Addr} {st : Stmt} {oc : Value} {od an : Option Addr} {osl : Array (Option Value)} {dV kV doc pm ct : Value} (IP : InP P) (X : K.In h) (G : h.Ns mainGlobals mg) (a : nsIn K mainGlobals x = some (some (.ref C)))
    (l : K.lookup fI = some ⟨oc, od, .func (ksFn "__init__" qual (defArgs st) (defBody st) (defScope st) dV kV doc pm an (.ref cda) ct cc), osl⟩) (c : codeIn K (.ref cda) qual = true) (S : InS n (defArgs st) (defScope st)) (hdn : (n == ("__debug__" : Str)) = false) (B : InB n f (defBody st))
    (iC : findIn K (.ref C) "__init__" = some (some (.ref fI))) (tI : typeIn K (.ref fI) = some (.type "function")) (IK : InK K C cc cda f)
    (hb : ∀ us : List Value, us.length = 2 → bindArgs (ksFn "__init__" qual (defArgs st) (defBody st) (defScope st) dV kV doc pm an (.ref cda) ct cc) ⟨us, []⟩ = pure ((["self", n] : List Str).zip us)) : ExI P K mg (cnOf mg) x f := by
  obtain ⟨p0, p1, p2, p3, p4, p5, p6, p7, p8, p9, e, hp⟩ := B.ok
  have m := mg_of X G a
  exact ⟨C, fI, _, n, cnOf_ok m, m, IK.T, iC, tI, .all hb, fun w base => init_ok (k := 0) IK IP S e hp hdn l c⟩
theorem law_finP {l : PySem.W.OpenLaw} (mi : PySem.W.Frag → (Str → Option Value) → Mi) (hmi : ∀ K mg, (mi K mg).K = K) {k : Nat} {q : Program} {loose : List Str} {XP : (Str → Option Value) → Heap → Prop} {YP : World → Heap → Prop} {d : DefRec} {K : Params → PySem.W.Frag} {st : Stmt} {F : FD} (Txt : Program → PySem.W.Frag → (Str → Option Value) → Prop) (hr : Room k callerA) (hn : l.most = some 63) (hdf : d.params.defaults = []) (hd : d.name = "law")
    (hY : ∀ (w : World) (h : Heap), YP w h → (K w.params).In h)
    (D : ∀ {P : Program} {w : World} {K : PySem.W.Frag} {mg : Str → Option Value} {base : Heap} {f : Addr} {fd : FuncData}, Txt P K mg → Fun K "law" "law" st f fd → FnOk P w K mg base (L2.CX P w) k f fd ["script"] (spD (mi K mg) 1 F))
    (law : ∀ ns : List Int, ns.length ≤ 63 → F [.scr ns] [] = .ok (.d (.bool true)) [])
    (T : ∀ (w : World) (mg : Str → Option Value) (h : Heap), (K w.params).In h → h.Ns mainGlobals mg → Txt l.prog (K w.params) mg ∧ LawX (K w.params) mg st) :
    PySem.W.WalkO q loose XP YP l.row.toRowW d [] (fun f vs => PySem.call f vs) := by
  refine law_end (k := k) hr hn hdf hY fun w mg fa h KX G hmg => ?_
  obtain ⟨t, f, fd, Fn, hm, hb⟩ := T w mg h KX G
  rw [hd, hm] at hmg
  cases hmg
  exact ⟨fd, hb, fun base _ _ => law_sp (hmi _ _) (D t Fn) law⟩
end DL
/-! E0: how the layer's meanings are reckoned: equations for simp, and what is told of an outcome. -/
namespace DL
open PySem L2
section
variable {α β : Type}
theorem bind_ok (a : α) (S : Store) (k : α → Store → Out β) : (Out.ok a S).bind k = k a S := rfl
theorem sB_ok (a : α) (S : Store) (Γ : Ev) (k : α → Store → Out Fl) : sB (.ok a S) Γ k = k a S := rfl
/-- the outcome is .ok, and P holds of it -/
structure Out.Ret (o : Out α) (P : α → Store → Prop) : Prop where
  ok : ∃ a S, o = .ok a S ∧ P a S
theorem Out.Ret.of {o : Out α} {a : α} {S : Store} {P : α → Store → Prop} (e : o = .ok a S) (h : P a S) : o.Ret P := ⟨a, S, e, h⟩
theorem Ret_ok (a : α) (S : Store) (P : α → Store → Prop) : (Out.ok a S).Ret P = P a S := propext ⟨fun ⟨_, _, e, h⟩ => by cases e; exact h, fun h => ⟨_, _, rfl, h⟩⟩
theorem Out.Ret.imp {o : Out α} {P Q : α → Store → Prop} (h : o.Ret P) (k : ∀ a S, P a S → Q a S) : o.Ret Q := by
  obtain ⟨a, S, rfl, h⟩ := h
  exact .of rfl (k a S h)
theorem Out.Ret.bind {o : Out α} {f : α → Store → Out β} {P : α → Store → Prop} {Q : β → Store → Prop} (h : o.Ret P) (k : ∀ a S, P a S → (f a S).Ret Q) : (o.bind f).Ret Q := by
  obtain ⟨a, S, rfl, h⟩ := h
  exact k a S h
theorem Out.Ret.sB {o : Out α} {Γ : Ev} {f : α → Store → Out Fl} {P : α → Store → Prop} {Q : Fl → Store → Prop} (h : o.Ret P) (k : ∀ a S, P a S → (f a S).Ret Q) : (DL.sB o Γ f).Ret Q := by
  obtain ⟨a, S, rfl, h⟩ := h
  exact k a S h
end
/-! ### equations -/
theorem eVar_at {i : Nat} {Γ : Ev} {S : Store} {x : SV} (h : Γ[i]? = some (some x)) : eVar i Γ S = .ok x S := by unfold eVar; rw [h]
theorem eVar_0 (a : SV) (Γ : Ev) (S : Store) : eVar 0 (some a :: Γ) S = .ok a S := rfl
theorem eVar_s (i : Nat) (o : Option SV) (Γ : Ev) (S : Store) : eVar (i + 1) (o :: Γ) S = eVar i Γ S := rfl
theorem eC_eq (x : PyData) (Γ : Ev) (S : Store) : eC x Γ S = .ok (.d x) S := rfl
theorem eBin_eq (op : SV → SV → Store → Out SV) (f g : EF) (Γ : Ev) (S : Store) : eBin op f g Γ S = (f Γ S).bind fun v S => (g Γ S).bind fun w S => op v w S := rfl
theorem eUn_eq (op : SV → Store → Out SV) (f : EF) (Γ : Ev) (S : Store) : eUn op f Γ S = (f Γ S).bind fun v S => op v S := rfl
theorem iOp_eq (C : Int → Int → Bool) (f : Int → Int → Int) (i j : Int) (S : Store) (h : C i j = true) : iOp C f (.d (.int i)) (.d (.int j)) S = .ok (.d (.int (f i j))) S := by
  show (if C i j then _ else _) = _
  rw [if_pos h]
theorem iOp0_eq (f : Int → Int → Int) (i j : Int) (S : Store) : iOp0 f (.d (.int i)) (.d (.int j)) S = .ok (.d (.int (f i j))) S := rfl
theorem iCmp_eq (f : Int → Int → Bool) (i j : Int) (S : Store) : iCmp f (.d (.int i)) (.d (.int j)) S = .ok (.d (.bool (f i j))) S := rfl
theorem tst_eq (f : EF) (Γ : Ev) (S : Store) : tst f Γ S = (f Γ S).bind fun v S => match v with
  | .d (.bool b) => .ok b S
  | _ => .no := rfl
theorem addI (fin : List PyData → Store → Out SV) (i j : Int) (S : Store) : addS fin (.d (.int i)) (.d (.int j)) S = .ok (.d (.int (i + j))) S := rfl
theorem mulI (fin : List PyData → Store → Out SV) {i j : Int} (S : Store) (h : mulC i j = true) : mulS fin (.d (.int i)) (.d (.int j)) S = .ok (.d (.int (i * j))) S := by
  show (if mulC i j then _ else _) = _
  rw [if_pos h]
theorem negI (i : Int) (S : Store) : negS (.d (.int i)) S = .ok (.d (.int (-i))) S := rfl
theorem fmod_pos {i j : Int} (h : 0 ≤ j) : Int.fmod i j = i % j := Int.fmod_eq_emod_of_nonneg i h
theorem fdiv_pos {i j : Int} (h : 0 ≤ j) : Int.fdiv i j = i / j := Int.fdiv_eq_ediv_of_nonneg i h
theorem modC_of {i j : Int} (h : j ≠ 0) : modC i j = true := decide_eq_true h
theorem divC_of {i j : Int} (h : j ≠ 0) (h2 : j.natAbs < 1073741824) : divC i j = true := by
  unfold divC
  rw [decide_eq_true (p := j ≠ 0 ∧ j.natAbs < 1073741824) ⟨h, h2⟩]
  rfl
theorem divC_big {i j : Int} (h : 0 < j) (h2 : j.natAbs.log2 < 9000) : divC i j = true := by
  unfold divC
  rw [decide_eq_true (p := 0 < j ∧ j.natAbs.log2 < 9000) ⟨h, h2⟩, Bool.or_true]
theorem mulC_l {i j : Int} (h1 : -(2 ^ 64) < i) (h2 : i < 2 ^ 64) : mulC i j = true := by
  unfold mulC
  rw [decide_eq_true (p := (-(2 ^ 64) < i ∧ i < 2 ^ 64) ∨ (-(2 ^ 64) < j ∧ j < 2 ^ 64)) (.inl ⟨h1, h2⟩)]
  rfl
theorem mulC_r {i j : Int} (h1 : -(2 ^ 64) < j) (h2 : j < 2 ^ 64) : mulC i j = true := by
  unfold mulC
  rw [decide_eq_true (p := (-(2 ^ 64) < i ∧ i < 2 ^ 64) ∨ (-(2 ^ 64) < j ∧ j < 2 ^ 64)) (.inr ⟨h1, h2⟩)]
  rfl
theorem log2_le {a k : Nat} (h : a < 2 ^ k) : a.log2 ≤ k := by
  by_cases e : a = 0
  · subst e; simp
  · exact Nat.le_of_lt ((Nat.log2_lt e).mpr h)
theorem mulC_big {i j : Int} (a b : Nat) (h1 : i.natAbs < 2 ^ a) (h2 : j.natAbs < 2 ^ b) (h : a + b < 1000000) : mulC i j = true := by
  unfold mulC
  have u1 := log2_le h1
  have u2 := log2_le h2
  rw [decide_eq_true (p := i.natAbs.log2 + j.natAbs.log2 < 1000000) (by omega), Bool.or_true]
theorem eAdd_eq (fin : List PyData → Store → Out SV) (f g : EF) (Γ : Ev) (S : Store) : eAddF fin f g Γ S = (f Γ S).bind fun v S => (g Γ S).bind fun w S => addS fin v w S := rfl
theorem eSub_eq (f g : EF) (Γ : Ev) (S : Store) : eSub f g Γ S = (f Γ S).bind fun v S => (g Γ S).bind fun w S => iOp0 (fun i j => i - j) v w S := rfl
theorem eMul_eq (fin : List PyData → Store → Out SV) (f g : EF) (Γ : Ev) (S : Store) : eMulF fin f g Γ S = (f Γ S).bind fun v S => (g Γ S).bind fun w S => mulS fin v w S := rfl
theorem eDiv_eq (f g : EF) (Γ : Ev) (S : Store) : eDiv f g Γ S = (f Γ S).bind fun v S => (g Γ S).bind fun w S => iOp divC Int.fdiv v w S := rfl
theorem eMod_eq (f g : EF) (Γ : Ev) (S : Store) : eMod f g Γ S = (f Γ S).bind fun v S => (g Γ S).bind fun w S => iOp modC Int.fmod v w S := rfl
theorem ePow_eq (f g : EF) (Γ : Ev) (S : Store) : ePow f g Γ S = (f Γ S).bind fun v S => (g Γ S).bind fun w S => iOp powC (fun i j => i ^ j.toNat) v w S := rfl
theorem eXor_eq (f g : EF) (Γ : Ev) (S : Store) : eXor f g Γ S = (f Γ S).bind fun v S => (g Γ S).bind fun w S => iOp0 Builtin.bitXor v w S := rfl
theorem eNeg_eq (f : EF) (Γ : Ev) (S : Store) : eNeg f Γ S = (f Γ S).bind fun v S => negS v S := rfl
theorem eIx_eq (f g : EF) (Γ : Ev) (S : Store) : eIx f g Γ S = (f Γ S).bind fun v S => (g Γ S).bind fun w S => ixS v w S := rfl
theorem eqI_t (i j : Int) (S : Store) : eqS false (.d (.int i)) (.d (.int j)) S = .ok (.d (.bool (decide (i = j)))) S := rfl
theorem eqI_f (i j : Int) (S : Store) : eqS true (.d (.int i)) (.d (.int j)) S = .ok (.d (.bool (decide (i ≠ j)))) S := by
  have e : eqS true (.d (.int i)) (.d (.int j)) S = .ok (.d (.bool (!decide (i = j)))) S := rfl
  rw [e]
  congr 3
  by_cases h : i = j <;> simp [h]
theorem tNot_eq (t : TF) (Γ : Ev) (S : Store) : tNotF t Γ S = (t Γ S).bind fun k S => .ok (!k) S := rfl
theorem tAnd_eq (ta tb : TF) (Γ : Ev) (S : Store) : tAndF ta tb Γ S = (ta Γ S).bind fun k S => if k = true then tb Γ S else .ok false S := rfl
theorem tOr_eq (ta tb : TF) (Γ : Ev) (S : Store) : tOrF ta tb Γ S = (ta Γ S).bind fun k S => if k = true then .ok true S else tb Γ S := rfl
theorem tru_eq (f : EF) (Γ : Ev) (S : Store) : tru f Γ S = (f Γ S).bind fun v S => match truS v S with
  | some k => .ok k S
  | none => .no := rfl
theorem tru_bool (b : Bool) (S : Store) : truS (.d (.bool b)) S = some b := rfl
theorem tru_int (i : Int) (S : Store) : truS (.d (.int i)) S = some (i != 0) := rfl
theorem tru_list (xs : List PyData) (S : Store) : truS (.d (.list xs)) S = some (!xs.isEmpty) := rfl
theorem eAnd_eq (f g : EF) (Γ : Ev) (S : Store) : eAndF f g Γ S = (f Γ S).bind fun v S => match truS v S with
  | some k => if k = true then g Γ S else .ok v S
  | none => .no := by
  unfold eAndF
  congr
  funext v S
  cases truS v S with
  | none => rfl
  | some k => cases k <;> rfl
theorem isi_eq (T : String) (f : EF) (Γ : Ev) (S : Store) : eIsi T f Γ S = (f Γ S).bind fun v S => match asD v S with
  | some d => .ok (.d (.bool (isiB (tyN d) T))) S
  | none => .no := rfl
theorem asD_d (x : PyData) (S : Store) : asD (.d x) S = some x := rfl
theorem eNot_eq (f : EF) (Γ : Ev) (S : Store) : eNotF f Γ S = (f Γ S).bind fun v S => match truS v S with
  | some k => .ok (.d (.bool (!k))) S
  | none => .no := rfl
/-! statements -/
theorem fSet_eq (i : Nat) (f : EF) (Γ : Ev) (S : Store) : fSet i f Γ S = sB (f Γ S) Γ fun v S => .ok (.nx (Γ.set i (some v))) S := rfl
theorem fRet_eq (f : EF) (Γ : Ev) (S : Store) : fRet f Γ S = sB (f Γ S) Γ fun v S => .ok (.rt v) S := rfl
theorem fExpr_eq (f : EF) (Γ : Ev) (S : Store) : fExpr f Γ S = sB (f Γ S) Γ fun v S => .ok (.nx Γ) S := rfl
theorem fIf_eq (t : TF) (f h : SF) (Γ : Ev) (S : Store) : fIf t f h Γ S = sB (t Γ S) Γ fun b S => if b = true then f Γ S else h Γ S := rfl
theorem fAsg_eq (f : EF) (gf : GF) (Γ : Ev) (S : Store) : fAsg f gf Γ S = sB (f Γ S) Γ fun v S => match gf v Γ S with
  | .ok Γ' S' => .ok (.nx Γ') S'
  | _ => .no := rfl
theorem fPar_eq (i j : Nat) (af : AF) (Γ : Ev) (S : Store) : fPar i j af Γ S = sB (af Γ S) Γ fun vs S => match vs with
  | [v, w] => .ok (.nx ((Γ.set i (some v)).set j (some w))) S
  | _ => .no := rfl
/-- what follows a statement -/
def seqK (h : SF) (o : Out Fl) : Out Fl := match o with
  | .ok (.nx Γ) S => h Γ S
  | o => o
theorem fSeq_eq (f h : SF) (Γ : Ev) (S : Store) : fSeq f h Γ S = seqK h (f Γ S) := rfl
theorem seqK_nx (h : SF) (Γ : Ev) (S : Store) : seqK h (.ok (.nx Γ) S) = h Γ S := rfl
theorem seqK_rt (h : SF) (v : SV) (S : Store) : seqK h (.ok (.rt v) S) = .ok (.rt v) S := rfl
theorem seqK_bk (h : SF) (Γ : Ev) (S : Store) : seqK h (.ok (.bk Γ) S) = .ok (.bk Γ) S := rfl
theorem seqK_ct (h : SF) (Γ : Ev) (S : Store) : seqK h (.ok (.ct Γ) S) = .ok (.ct Γ) S := rfl
theorem seqK_ite (h : SF) (c : Prop) [Decidable c] (a b : Out Fl) : seqK h (if c then a else b) = if c then seqK h a else seqK h b := by split <;> rfl
theorem fNil_eq (Γ : Ev) (S : Store) : fNil Γ S = .ok (.nx Γ) S := rfl
theorem fBreak_eq (Γ : Ev) (S : Store) : fBreak Γ S = .ok (.bk Γ) S := rfl
theorem fCont_eq (Γ : Ev) (S : Store) : fCont Γ S = .ok (.ct Γ) S := rfl
theorem gNm_eq (i : Nat) (v : SV) (Γ : Ev) (S : Store) : gNm i v Γ S = .ok (Γ.set i (some v)) S := rfl
theorem gsNil_eq (Γ : Ev) (S : Store) : gsNil [] Γ S = .ok Γ S := rfl
theorem gsCons_eq (gf : GF) (gr : List PyData → Ev → Store → Out Ev) (d : PyData) (ds : List PyData) (Γ : Ev) (S : Store) : gsCons gf gr (d :: ds) Γ S = (gf (.d d) Γ S).bind fun Γ S => gr ds Γ S := rfl
theorem gTup_eq (n : Nat) (gf : List PyData → Ev → Store → Out Ev) (ds : List PyData) (Γ : Ev) (S : Store) (h : ds.length = n) : gTupF n gf (.d (.tuple ds)) Γ S = gf ds Γ S := by
  show (if ds.length = n then _ else _) = _
  rw [if_pos h]
/-! calls -/
theorem aNil_eq (Γ : Ev) (S : Store) : aNil Γ S = .ok [] S := rfl
theorem aCons_eq (f : EF) (r : AF) (Γ : Ev) (S : Store) : aCons f r Γ S = (f Γ S).bind fun v S => (r Γ S).bind fun vs S => .ok (v :: vs) S := rfl
theorem eCall_eq (op : List SV → Store → Out SV) (f : AF) (Γ : Ev) (S : Store) : eCall op f Γ S = (f Γ S).bind fun vs S => op vs S := rfl
theorem eCallD_eq (n : Nat) (F : FD) (f : AF) (Γ : Ev) (S : Store) : eCallD n F f Γ S = (f Γ S).bind fun vs S => if vs.length = n then F vs S else .no := rfl
theorem intS_eq (i : Int) (S : Store) : intS [.d (.int i)] S = .ok (.d (.int i)) S := rfl
theorem absS_eq (i : Int) (S : Store) : absS [.d (.int i)] S = .ok (.d (.int (if i < 0 then -i else i))) S := rfl
theorem mmS_eq (f : Int → Int → Int) (i j : Int) (S : Store) : mmS f [.d (.int i), .d (.int j)] S = .ok (.d (.int (f i j))) S := rfl
theorem len_l (xs : List PyData) (S : Store) : lenS [.d (.list xs)] S = .ok (.d (.int xs.length)) S := rfl
theorem len_t (xs : List PyData) (S : Store) : lenS [.d (.tuple xs)] S = .ok (.d (.int xs.length)) S := rfl
theorem len_c {c : Nat} {xs : List PyData} {S : Store} (h : S[c]? = some (.lst xs)) : lenS [.cell c] S = .ok (.d (.int xs.length)) S := by
  simp only [lenS, asD, h]
theorem all_l {a : Bool} {xs : List PyData} (S : Store) (h : xs.all scaD = true) : allS a [.d (.list xs)] S = .ok (.d (.bool (if a then xs.any trB else xs.all trB))) S := by
  show (if xs.all scaD then _ else _) = _
  rw [if_pos h]
theorem all_t {a : Bool} {xs : List PyData} (S : Store) (h : xs.all scaD = true) : allS a [.d (.tuple xs)] S = .ok (.d (.bool (if a then xs.any trB else xs.all trB))) S := by
  show (if xs.all scaD then _ else _) = _
  rw [if_pos h]
theorem list_l (fin : List PyData → Store → Out SV) (xs : List PyData) (S : Store) : listS fin [.d (.list xs)] S = fin xs S := rfl
theorem list_t (fin : List PyData → Store → Out SV) (xs : List PyData) (S : Store) : listS fin [.d (.tuple xs)] S = fin xs S := rfl
theorem tup_l (xs : List PyData) (S : Store) : tupS [.d (.list xs)] S = .ok (.d (.tuple xs)) S := rfl
theorem tup_t (xs : List PyData) (S : Store) : tupS [.d (.tuple xs)] S = .ok (.d (.tuple xs)) S := rfl
theorem finF_eq (xs : List PyData) (S : Store) : finF xs S = .ok (.d (.list xs)) S := rfl
theorem finC_eq (xs : List PyData) (S : Store) : finC xs S = .ok (.cell S.length) (S ++ [.lst xs]) := rfl
theorem allD_nil (S : Store) : allD [] S = some [] := rfl
theorem allD_cons (x : PyData) (r : List SV) (S : Store) : allD (.d x :: r) S = (allD r S).map (x :: ·) := rfl
theorem eTup_eq (f : AF) (Γ : Ev) (S : Store) : eTup f Γ S = (f Γ S).bind fun vs S => match allD vs S with
  | some ds => if ds.length ≤ 16777216 then .ok (.d (.tuple ds)) S else .no
  | none => .no := rfl
theorem eLst_eq (fin : List PyData → Store → Out SV) (f : AF) (Γ : Ev) (S : Store) : eLst fin f Γ S = (f Γ S).bind fun vs S => match allD vs S with
  | some ds => if ds.length ≤ 16777216 then fin ds S else .no
  | none => .no := rfl
theorem eIf_eq (t : TF) (f g : EF) (Γ : Ev) (S : Store) : eIf t f g Γ S = (t Γ S).bind fun k S => if k = true then f Γ S else g Γ S := rfl
theorem ix_l {xs : List PyData} {i : Int} {x : PyData} (S : Store) (h : atI xs i = some x) : ixS (.d (.list xs)) (.d (.int i)) S = .ok (.d x) S := by
  show (match atI xs i with | some d => _ | none => _) = _
  rw [h]
theorem ix_t {xs : List PyData} {i : Int} {x : PyData} (S : Store) (h : atI xs i = some x) : ixS (.d (.tuple xs)) (.d (.int i)) S = .ok (.d x) S := by
  show (match atI xs i with | some d => _ | none => _) = _
  rw [h]
theorem ix_c {c : Nat} {xs : List PyData} {i : Int} {x : PyData} {S : Store} (hc : S[c]? = some (.lst xs)) (h : atI xs i = some x) : ixS (.cell c) (.d (.int i)) S = .ok (.d x) S := by
  unfold ixS asD
  simp only [hc, h]
theorem ix_nat {α : Type} {xs : List α} {i : Nat} {x : α} (h : xs[i]? = some x) : atI xs (i : Int) = some x := by
  have hl : i < xs.length := by
    rcases Nat.lt_or_ge i xs.length with q | q
    · exact q
    · rw [List.getElem?_eq_none q] at h; cases h
  unfold atI ixN
  rw [if_pos (by omega), if_pos (by omega), Int.toNat_natCast]
  exact h
/-! defs -/
def hand (h : Nat → SV → Store → Out SV) (n : Nat) (o : Out Fl) : Out SV := match o with
  | .ok (.rt v) S' => h n v S'
  | .ok (.nx _) S' => .ok (.d .none) (S'.take n)
  | .ok (.xc x _) S' => .ex x (S'.take n)
  | _ => .no
theorem runD_eq (h : Nat → SV → Store → Out SV) (nN : Nat) (f : SF) (ds : List SV) (S : Store) : runD h nN f ds S = hand h S.length (f (ds.map some ++ List.replicate (nN - ds.length) none) S) := rfl
theorem hand_rt (h : Nat → SV → Store → Out SV) (n : Nat) (v : SV) (S : Store) : hand h n (.ok (.rt v) S) = h n v S := rfl
theorem handF_d (n : Nat) (x : PyData) (S : Store) : handF n (.d x) S = .ok (.d x) (S.take n) := rfl
theorem handF_new {n i : Nat} {xs : List PyData} {S : Store} (h1 : n ≤ i) (h2 : S[i]? = some (.lst xs)) : handF n (.cell i) S = .ok (.d (.list xs)) (S.take n) := by
  unfold handF
  simp only [h2]
  rw [if_neg (by omega)]
theorem take_self (S : Store) : S.take S.length = S := List.take_length
/-! loops -/
theorem srcS_l (xs : List PyData) (S : Store) : srcS (.d (.list xs)) S = .ok ⟨xs, fun _ => true⟩ S := rfl
theorem srcS_t (xs : List PyData) (S : Store) : srcS (.d (.tuple xs)) S = .ok ⟨xs, fun _ => true⟩ S := rfl
theorem iSrc_eq (f : EF) (Γ : Ev) (S : Store) : iSrc f Γ S = (f Γ S).bind fun v S => srcS v S := rfl
theorem iZip_eq (f g : EF) (Γ : Ev) (S : Store) : iZip f g Γ S = (f Γ S).bind fun v S => (g Γ S).bind fun w S => zipS v w S := rfl
theorem zip_l (xs ys : List PyData) (S : Store) : zipS (.d (.list xs)) (.d (.list ys)) S = .ok ⟨pairD xs ys, fun _ => true⟩ S := rfl
theorem iEnm_eq (f : EF) (Γ : Ev) (S : Store) : iEnm f Γ S = (f Γ S).bind fun v S => enumS v S := rfl
theorem enum_l (xs : List PyData) (S : Store) : enumS (.d (.list xs)) S = .ok ⟨enumD xs, fun _ => true⟩ S := rfl
theorem iRg_eq (f : RF) (Γ : Ev) (S : Store) : iRg f Γ S = (f Γ S).bind rgSrc := rfl
theorem rg1_eq (f : EF) (Γ : Ev) (S : Store) : rg1 f Γ S = (f Γ S).bind fun v S => match v with
  | .d (.int i) => .ok ((0 : Int), i) S
  | _ => .no := rfl
theorem rgSrc_eq {a b : Int} (S : Store) (h : rgC a b = true) : rgSrc (a, b) S = .ok ⟨rgD a b, fun _ => true⟩ S := by
  show (if rgC a b then _ else _) = _
  rw [if_pos h]
theorem rgC_of {a b : Int} (h1 : 0 ≤ a) (h2 : a ≤ 16777216) (h3 : b ≤ 16777216) (h4 : 0 ≤ b) : rgC a b = true := by
  unfold rgC
  refine decide_eq_true ?_
  omega
theorem rgC_nat (n : Nat) (h : n ≤ 1000000) : rgC 0 (n : Int) = true := by
  have h2 : (n : Int) ≤ 16777216 := by omega
  have h3 : (0 : Int) ≤ n := by omega
  have h1 : (0 : Int) ≤ 16777216 := by omega
  exact rgC_of (Int.le_refl 0) h1 h2 h3
theorem iRg_ok {f : EF} {Γ : Ev} {S S' : Store} {n : Nat} (h : f Γ S = .ok (.d (.int n)) S') (hn : n ≤ 1000000) : iRg (rg1 f) Γ S = .ok ⟨rgD 0 n, fun _ => true⟩ S' := by
  have e : rg1 f Γ S = .ok (0, (n : Int)) S' := by
    rw [rg1_eq, h, bind_ok]
  rw [iRg_eq, e, bind_ok, rgSrc_eq _ (rgC_nat n hn)]
/-- range(n) of a number -/
theorem rgD_nat (n : Nat) : rgD 0 (n : Int) = (List.range n).map fun (i : Nat) => PyData.int i := by
  unfold rgD
  rw [Int.sub_zero, Int.toNat_natCast]
  refine List.map_congr_left fun i _ => ?_
  rw [Int.zero_add]
/-- a comprehension whose tests and words leave the store as it is -/
theorem lcL_pure {ok : Store → Bool} {gf : GF} {tf : TF} {ef : EF} {vs : List Nat} {Γ : Ev} {S : Store} (c : PyData → Bool) (h : PyData → PyData) (hok : ok S = true) : ∀ xs : List PyData,
    (∀ d ∈ xs, ∃ Γ1, gf (.d d) (wipeE Γ vs) S = .ok Γ1 S ∧ tf Γ1 S = .ok (c d) S ∧ (c d = true → ef Γ1 S = .ok (.d (h d)) S)) → lcL ok gf tf ef vs Γ xs S = .ok ((xs.filter c).map h) S
  | [], _ => by unfold lcL; rw [if_pos hok]; rfl
  | d :: ds, k => by
    obtain ⟨Γ1, h1, h2, h3⟩ := k d (List.mem_cons_self ..)
    have ih := lcL_pure (tf := tf) (ef := ef) c h hok ds fun d' m => k d' (List.mem_cons_of_mem _ m)
    unfold lcL
    rw [if_pos hok]
    simp only [h1, h2]
    cases hc : c d with
    | false =>
      simp only []
      rw [ih, List.filter_cons, hc]
      rfl
    | true =>
      simp only [h3 hc]
      rw [ih, List.filter_cons, hc]
      rfl
theorem tYes_eq (Γ : Ev) (S : Store) : tYesF Γ S = .ok true S := rfl
theorem lcL_map {ok : Store → Bool} {gf : GF} {ef : EF} {vs : List Nat} {Γ : Ev} {S : Store} (h : PyData → PyData) (hok : ok S = true) (xs : List PyData)
    (k : ∀ d ∈ xs, ∃ Γ1, gf (.d d) (wipeE Γ vs) S = .ok Γ1 S ∧ ef Γ1 S = .ok (.d (h d)) S) : lcL ok gf tYesF ef vs Γ xs S = .ok (xs.map h) S := by
  rw [lcL_pure (fun _ => true) h hok xs fun d m => ?_, List.filter_eq_self.mpr (fun _ _ => rfl)]
  obtain ⟨Γ1, h1, h2⟩ := k d m
  exact ⟨Γ1, h1, rfl, fun _ => h2⟩
theorem eLc_eq {fin : List PyData → Store → Out SV} {f : IF} {gf : GF} {tf : TF} {ef : EF} {vs : List Nat} {Γ : Ev} {S S1 : Store} {s : Src} (h : f Γ S = .ok s S1) : eLc fin f gf tf ef vs Γ S = (lcL s.ok gf tf ef vs Γ s.items S1).bind fun xs S => fin xs S := by
  unfold eLc
  rw [h]
  rfl
/-- a comprehension whose words change the store -/
theorem lcL_ret {ok : Store → Bool} {gf : GF} {ef : EF} {vs : List Nat} {Γ : Ev} (I : Store → Prop) (P : PyData → Prop) (hok : ∀ S, I S → ok S = true) : ∀ (xs : List PyData) (S : Store), I S →
    (∀ d ∈ xs, ∀ S, I S → (gf (.d d) (wipeE Γ vs) S).Ret fun Γ1 S1 => (ef Γ1 S1).Ret fun v S2 => (∃ x, v = .d x ∧ P x) ∧ I S2) →
    (lcL ok gf tYesF ef vs Γ xs S).Ret fun ys S' => ys.length = xs.length ∧ (∀ y ∈ ys, P y) ∧ I S'
  | [], S, i, _ => by
    unfold lcL
    rw [if_pos (hok S i), Ret_ok]
    exact ⟨rfl, fun y h => (List.not_mem_nil h).elim, i⟩
  | d :: ds, S, i, k => by
    unfold lcL
    rw [if_pos (hok S i)]
    obtain ⟨Γ1, S1, e1, h1⟩ := (k d (List.mem_cons_self ..) S i).ok
    obtain ⟨v, S2, e2, ⟨x, hx, hP⟩, i2⟩ := h1.ok
    subst hx
    simp only [e1, tYes_eq, e2]
    obtain ⟨ys, S3, e3, h3, h4, i3⟩ := (lcL_ret I P hok ds S2 i2 fun d' m => k d' (List.mem_cons_of_mem _ m)).ok
    rw [e3]
    refine .of rfl ⟨by simp [h3], fun y m => ?_, i3⟩
    rcases List.mem_cons.mp m with e | m
    · exact e ▸ hP
    · exact h4 y m
theorem fFor_eq {f : IF} {gf : GF} {b : SF} {Γ : Ev} {S S1 : Store} {s : Src} (h : f Γ S = .ok s S1) : fFor f gf b Γ S = forL s.ok gf b s.items Γ S1 := by
  unfold fFor
  rw [h]
  rfl
/-- a for loop: what holds of the items that are left, the locals and the store; it ends at the end, or by break, or by return -/
theorem forL_ret {ok : Store → Bool} {gf : GF} {b : SF} (I : List PyData → Ev → Store → Prop) (Q : Fl → Store → Prop) (hok : ∀ ds Γ S, I ds Γ S → ok S = true) (hend : ∀ Γ S, I [] Γ S → Q (.nx Γ) S)
    (hstep : ∀ d ds Γ S, I (d :: ds) Γ S → (gf (.d d) Γ S).Ret fun Γ1 S1 => (b Γ1 S1).Ret fun fl S2 => match fl with
      | .nx Γ2 => I ds Γ2 S2
      | .ct Γ2 => I ds Γ2 S2
      | .bk Γ2 => Q (.nx Γ2) S2
      | .rt v => Q (.rt v) S2
      | .xc x Γ2 => Q (.xc x Γ2) S2) : ∀ (ds : List PyData) (Γ : Ev) (S : Store), I ds Γ S → (forL ok gf b ds Γ S).Ret Q
  | [], Γ, S, i => by
    unfold forL
    rw [if_pos (hok _ _ _ i)]
    exact .of rfl (hend Γ S i)
  | d :: ds, Γ, S, i => by
    unfold forL
    rw [if_pos (hok _ _ _ i)]
    obtain ⟨Γ1, S1, e1, h1⟩ := (hstep d ds Γ S i).ok
    obtain ⟨fl, S2, e2, h2⟩ := h1.ok
    simp only [e1, e2]
    cases fl with
    | nx Γ2 => exact forL_ret I Q hok hend hstep ds Γ2 S2 h2
    | ct Γ2 => exact forL_ret I Q hok hend hstep ds Γ2 S2 h2
    | bk Γ2 => exact .of rfl h2
    | rt v => exact .of rfl h2
    | xc x Γ2 => exact .of rfl h2
/-- a while loop with what is left to do -/
theorem whF_ret {t : TF} {b : SF} (I : Nat → Ev → Store → Prop) (Q : Fl → Store → Prop)
    (hstep : ∀ n Γ S, I n Γ S → (t Γ S).Ret fun k S1 => if k = true then 0 < n ∧ (b Γ S1).Ret fun fl S2 => match fl with
      | .nx Γ2 => I (n - 1) Γ2 S2
      | .ct Γ2 => I (n - 1) Γ2 S2
      | .bk Γ2 => Q (.nx Γ2) S2
      | .rt v => Q (.rt v) S2
      | .xc x Γ2 => Q (.xc x Γ2) S2 else Q (.nx Γ) S1) : ∀ (m n : Nat) (Γ : Ev) (S : Store), n < m → I n Γ S → (whF t b m Γ S).Ret Q
  | 0, n, Γ, S, h, _ => (Nat.not_lt_zero _ h).elim
  | m + 1, n, Γ, S, h, i => by
    unfold whF
    obtain ⟨k, S1, e1, h1⟩ := (hstep n Γ S i).ok
    rw [e1]
    cases k with
    | false => exact .of rfl h1
    | true =>
      obtain ⟨hn, h2⟩ := h1
      obtain ⟨fl, S2, e2, h3⟩ := h2.ok
      simp only [sB_ok, if_true, e2]
      cases fl with
      | nx Γ2 => exact whF_ret I Q hstep m (n - 1) Γ2 S2 (by omega) h3
      | ct Γ2 => exact whF_ret I Q hstep m (n - 1) Γ2 S2 (by omega) h3
      | bk Γ2 => exact .of rfl h3
      | rt v => exact .of rfl h3
      | xc x Γ2 => exact .of rfl h3
/-! the pool: cell 0 with four items -/
theorem pix0 (a b c d : PyData) (R : Store) : ixS (.cell 0) (.d (.int 0)) (.lst [a, b, c, d] :: R) = .ok (.d a) (.lst [a, b, c, d] :: R) := rfl
theorem pix1 (a b c d : PyData) (R : Store) : ixS (.cell 0) (.d (.int 1)) (.lst [a, b, c, d] :: R) = .ok (.d b) (.lst [a, b, c, d] :: R) := rfl
theorem pix2 (a b c d : PyData) (R : Store) : ixS (.cell 0) (.d (.int 2)) (.lst [a, b, c, d] :: R) = .ok (.d c) (.lst [a, b, c, d] :: R) := rfl
theorem pix3 (a b c d : PyData) (R : Store) : ixS (.cell 0) (.d (.int 3)) (.lst [a, b, c, d] :: R) = .ok (.d d) (.lst [a, b, c, d] :: R) := rfl
theorem pset1 (a b c d x : PyData) (R : Store) : setS (.cell 0) (.d (.int 1)) (.d x) (.lst [a, b, c, d] :: R) = .ok () (.lst [a, x, c, d] :: R) := rfl
theorem pset2 (a b c d x : PyData) (R : Store) : setS (.cell 0) (.d (.int 2)) (.d x) (.lst [a, b, c, d] :: R) = .ok () (.lst [a, b, x, d] :: R) := rfl
theorem pset3 (a b c d x : PyData) (R : Store) : setS (.cell 0) (.d (.int 3)) (.d x) (.lst [a, b, c, d] :: R) = .ok () (.lst [a, b, c, x] :: R) := rfl
theorem gSub_eq (fo fi : EF) (v : SV) (Γ : Ev) (S : Store) : gSubF fo fi v Γ S = (fo Γ S).bind fun o S => (fi Γ S).bind fun w S => (setS o w v S).bind fun _ S => .ok Γ S := rfl
/-- the digits' pool -/
def PoolOk (m : MO) : Prop := ∃ (cells : List Int) (at_ rest seed : Int), m = .lst [.list (cells.map .int), .int at_, .int rest, .int seed] ∧ 0 ≤ at_
theorem tk1 {α : Type} (P : α) (R : List α) : (P :: R).take (R.length + 1) = P :: R := by rw [List.take_succ_cons, List.take_length]
end DL
/-! E1: comprehensions over lists of whole numbers. -/
namespace DL
open PySem L2
/-- a list of whole numbers -/
abbrev lst (xs : List Int) : PyData := .list (xs.map .int)
theorem zip_comp {Γ : Ev} {S : Store} {fa fb ef : EF} {gf : GF} {vs : List Nat} {row lead : List Int} (f : Int → Int → Int) (ha : fa Γ S = .ok (.d (lst row)) S) (hb : fb Γ S = .ok (.d (lst lead)) S)
    (h : ∀ p m : Int, p ∈ row → m ∈ lead → ∃ Γ1, gf (.d (.tuple [.int p, .int m])) (wipeE Γ vs) S = .ok Γ1 S ∧ ef Γ1 S = .ok (.d (.int (f p m))) S) : eLc finF (iZip fa fb) gf tYesF ef vs Γ S = .ok (.d (lst (List.zipWith f row lead))) S := by
  let hh : PyData → PyData := fun d => match d with
    | .tuple [.int p, .int m] => .int (f p m)
    | _ => .none
  have e0 : iZip fa fb Γ S = .ok ⟨pairD (row.map .int) (lead.map .int), fun _ => true⟩ S := by
    rw [iZip_eq, ha, bind_ok, hb, bind_ok, zip_l]
  rw [eLc_eq e0, lcL_map hh rfl]
  · rw [bind_ok, finF_eq]
    have : ∀ row lead : List Int, (pairD (row.map PyData.int) (lead.map PyData.int)).map hh = (List.zipWith f row lead).map PyData.int := by
      intro row
      induction row with
      | nil => intro lead; rfl
      | cons p row ih =>
        intro lead
        cases lead with
        | nil => rfl
        | cons m lead =>
          have := ih lead
          simp only [pairD, List.map_cons, List.zip_cons_cons, List.zipWith_cons_cons] at this ⊢
          rw [this]
    rw [this]
  · intro d m
    unfold pairD at m
    obtain ⟨⟨x, y⟩, mz, rfl⟩ := List.mem_map.mp m
    have := List.of_mem_zip mz
    obtain ⟨p, mp, rfl⟩ := List.mem_map.mp this.1
    obtain ⟨q, mq, rfl⟩ := List.mem_map.mp this.2
    exact h p q mp mq
theorem src_comp {Γ : Ev} {S : Store} {fa ef : EF} {gf : GF} {vs : List Nat} {row : List Int} (f : Int → Int) (ha : fa Γ S = .ok (.d (lst row)) S)
    (h : ∀ p : Int, p ∈ row → ∃ Γ1, gf (.d (.int p)) (wipeE Γ vs) S = .ok Γ1 S ∧ ef Γ1 S = .ok (.d (.int (f p))) S) : eLc finF (iSrc fa) gf tYesF ef vs Γ S = .ok (.d (lst (row.map f))) S := by
  let hh : PyData → PyData := fun d => match d with
    | .int p => .int (f p)
    | _ => .none
  have e0 : iSrc fa Γ S = .ok ⟨row.map .int, fun _ => true⟩ S := by
    rw [iSrc_eq, ha, bind_ok, srcS_l]
  rw [eLc_eq e0, lcL_map hh rfl]
  · rw [bind_ok, finF_eq, List.map_map]
    show _ = Out.ok (SV.d (.list ((row.map f).map PyData.int))) S
    rw [List.map_map]
    rfl
  · intro d m
    obtain ⟨p, mp, rfl⟩ := List.mem_map.mp m
    exact h p mp
theorem rg_comp {Γ : Ev} {S : Store} {fa ef : EF} {gf : GF} {vs : List Nat} {n : Nat} (f : Nat → Int) (ha : fa Γ S = .ok (.d (.int n)) S) (hn : n ≤ 1000000)
    (h : ∀ k : Nat, k < n → ∃ Γ1, gf (.d (.int k)) (wipeE Γ vs) S = .ok Γ1 S ∧ ef Γ1 S = .ok (.d (.int (f k))) S) : eLc finF (iRg (rg1 fa)) gf tYesF ef vs Γ S = .ok (.d (lst ((List.range n).map f))) S := by
  let hh : PyData → PyData := fun d => match d with
    | .int p => .int (f p.toNat)
    | _ => .none
  rw [eLc_eq (iRg_ok ha hn), lcL_map hh rfl]
  · rw [bind_ok, finF_eq, rgD_nat, List.map_map]
    show _ = Out.ok (SV.d (.list (((List.range n).map f).map PyData.int))) S
    rw [List.map_map]
    rfl
  · intro d m
    simp only [rgD_nat] at m
    obtain ⟨k, mk, rfl⟩ := List.mem_map.mp m
    exact h k (List.mem_range.mp mk)
theorem getD_zipWith (f : Int → Int → Int) (h0 : f 0 0 = 0) : ∀ (row lead : List Int), row.length = lead.length → ∀ i, (List.zipWith f row lead).getD i 0 = f (row.getD i 0) (lead.getD i 0)
  | [], [], _, i => by simp [h0]
  | x :: row, y :: lead, h, 0 => by simp
  | x :: row, y :: lead, h, i + 1 => by
    have := getD_zipWith f h0 row lead (by simpa using h) i
    simpa using this
theorem getD_map (f : Int → Int) (h0 : f 0 = 0) (row : List Int) (i : Nat) : (row.map f).getD i 0 = f (row.getD i 0) := by
  rcases Nat.lt_or_ge i row.length with h | h
  · simp [List.getD, h]
  · simp [List.getD, h, h0]
theorem eqPs_refl : ∀ {xs : List PyData}, (∀ x ∈ xs, eqP x x = true) → eqPs xs xs = true
  | [], _ => by simp [eqPs]
  | x :: xs, h => by
    simp only [eqPs, Bool.and_eq_true]
    exact ⟨h x (List.mem_cons_self ..), eqPs_refl fun y m => h y (List.mem_cons_of_mem _ m)⟩
theorem eqP_int (i : Int) : eqP (.int i) (.int i) = true := by simp [eqP]
theorem eqP_list {xs : List PyData} (h : ∀ x ∈ xs, eqP x x = true) : eqP (.list xs) (.list xs) = true := by
  simp only [eqP]
  exact eqPs_refl h
theorem eqP_tuple {xs : List PyData} (h : ∀ x ∈ xs, eqP x x = true) : eqP (.tuple xs) (.tuple xs) = true := by
  simp only [eqP]
  exact eqPs_refl h
theorem eqP_lst (xs : List Int) : eqP (lst xs) (lst xs) = true := eqP_list fun x m => by
  obtain ⟨i, _, rfl⟩ := List.mem_map.mp m
  exact eqP_int i
theorem srcS_c {c : Nat} {S : Store} {xs : List PyData} (h : S[c]? = some (.lst xs)) : ∃ ok, srcS (.cell c) S = .ok ⟨xs, ok⟩ S ∧ ∀ S' : Store, S'[c]? = some (.lst xs) → eqPs xs xs = true → ok S' = true := by
  refine ⟨_, by simp only [srcS, h]; exact rfl, fun S' h1 h2 => ?_⟩
  simp only [h1, h2]
end DL
/-! E2: comprehensions over rows of whole numbers. -/
namespace DL
open PySem L2
/-- two lists, each item of each with a partner -/
def Both {α β : Type} (R : α → β → Prop) (xs : List α) (ys : List β) : Prop := xs.length = ys.length ∧ (∀ x ∈ xs, ∃ y ∈ ys, R x y) ∧ ∀ y ∈ ys, ∃ x ∈ xs, R x y
theorem rows_map {ok : Store → Bool} {gf : GF} {ef : EF} {vs : List Nat} {Γ : Ev} {S : Store} (R : List Int → List Int → Prop) (hok : ok S = true) : ∀ (xs : List (List Int)),
    (∀ row ∈ xs, ∃ Γ1, gf (.d (lst row)) (wipeE Γ vs) S = .ok Γ1 S ∧ ∃ r2, ef Γ1 S = .ok (.d (lst r2)) S ∧ R row r2) → ∃ ys : List (List Int), lcL ok gf tYesF ef vs Γ (xs.map lst) S = .ok (ys.map lst) S ∧ Both R xs ys
  | [], _ => by
    refine ⟨[], ?_, rfl, fun x m => (List.not_mem_nil m).elim, fun x m => (List.not_mem_nil m).elim⟩
    show lcL ok gf tYesF ef vs Γ [] S = _
    unfold lcL
    rw [if_pos hok]
    rfl
  | x :: xs, k => by
    obtain ⟨Γ1, h1, r2, h2, h3⟩ := k x (List.mem_cons_self ..)
    obtain ⟨ys, e, hl, ha, hb⟩ := rows_map R hok xs fun r m => k r (List.mem_cons_of_mem _ m)
    refine ⟨r2 :: ys, ?_, by simp [hl], fun r m => ?_, fun r m => ?_⟩
    · show lcL ok gf tYesF ef vs Γ (lst x :: xs.map lst) S = _
      unfold lcL
      rw [if_pos hok]
      simp only [h1, h2, tYes_eq, e, bind_ok]
      rfl
    · rcases List.mem_cons.mp m with rfl | m
      · exact ⟨r2, List.mem_cons_self .., h3⟩
      · obtain ⟨y, my, hy⟩ := ha r m
        exact ⟨y, List.mem_cons_of_mem _ my, hy⟩
    · rcases List.mem_cons.mp m with rfl | m
      · exact ⟨x, List.mem_cons_self .., h3⟩
      · obtain ⟨y, my, hy⟩ := hb r m
        exact ⟨y, List.mem_cons_of_mem _ my, hy⟩
/-- any(row) -/
def nzr (xs : List Int) : Bool := xs.any fun x => x != 0
theorem sca_lst (xs : List Int) : (xs.map PyData.int).all scaD = true := List.all_eq_true.mpr fun x m => by
  obtain ⟨i, _, rfl⟩ := List.mem_map.mp m
  rfl
theorem any_lst (xs : List Int) : (xs.map PyData.int).any trB = nzr xs := by
  rw [List.any_map]
  rfl
theorem rows_filter {ok : Store → Bool} {gf : GF} {tf : TF} {ef : EF} {vs : List Nat} {Γ : Ev} {S : Store} (hok : ok S = true) (xs : List (List Int))
    (k : ∀ row ∈ xs, ∃ Γ1, gf (.d (lst row)) (wipeE Γ vs) S = .ok Γ1 S ∧ tf Γ1 S = .ok (nzr row) S ∧ ef Γ1 S = .ok (.d (lst row)) S) : lcL ok gf tf ef vs Γ (xs.map lst) S = .ok ((xs.filter nzr).map lst) S := by
  let c : PyData → Bool := fun d => match d with
    | .list ds => ds.any trB
    | _ => false
  rw [lcL_pure c id hok]
  · rw [List.map_id, List.filter_map]
    congr 2
    refine congrArg (fun p => List.filter p xs) ?_
    funext row
    exact any_lst row
  · intro d m
    obtain ⟨row, mr, rfl⟩ := List.mem_map.mp m
    obtain ⟨Γ1, h1, h2, h3⟩ := k row mr
    refine ⟨Γ1, h1, ?_, fun _ => h3⟩
    rw [h2]
    congr 1
    exact (any_lst row).symm
/-- the first place that is not 0 -/
theorem first_ok {c : PyData → Bool} {row : List Int} {n : Nat} (hn : row.length = n) (hc : ∀ k : Nat, c (.int k) = decide (row.getD k 0 ≠ 0)) (hz : nzr row = true) : ∃ (t : Nat) (rest : List PyData), (rgD 0 (n : Int)).filter c = .int t :: rest ∧ t < n ∧ row.getD t 0 ≠ 0 := by
  obtain ⟨x, mx, hx⟩ := List.any_eq_true.mp hz
  obtain ⟨i, hi, rfl⟩ := List.getElem_of_mem mx
  have e : row.getD i 0 = row[i] := by simp [List.getD, hi]
  have hx' : row[i] ≠ 0 := bne_iff_ne.mp hx
  have m1 : PyData.int (i : Int) ∈ (rgD 0 (n : Int)).filter c := by
    refine List.mem_filter.mpr ⟨?_, ?_⟩
    · rw [rgD_nat]
      exact List.mem_map.mpr ⟨i, List.mem_range.mpr (by omega), rfl⟩
    · rw [hc, e]
      exact decide_eq_true hx'
  cases hl : (rgD 0 (n : Int)).filter c with
  | nil => rw [hl] at m1; cases m1
  | cons d rest =>
    have md : d ∈ (rgD 0 (n : Int)).filter c := by rw [hl]; exact List.mem_cons_self ..
    obtain ⟨mr, hd⟩ := List.mem_filter.mp md
    rw [rgD_nat] at mr
    obtain ⟨t, mt, rfl⟩ := List.mem_map.mp mr
    rw [hc] at hd
    exact ⟨t, rest, rfl, List.mem_range.mp mt, of_decide_eq_true hd⟩
theorem sl_l (fin : List PyData → Store → Out SV) (xs : List PyData) (lo hi : Option Int) (S : Store) : slS fin (.d (.list xs)) lo hi S = fin (cutD xs lo hi) S := rfl
theorem eSl_eq (fin : List PyData → Store → Out SV) (fa : EF) (fl fh : OF) (Γ : Ev) (S : Store) : eSl fin fa fl fh Γ S = (fa Γ S).bind fun v S => (fl Γ S).bind fun lo S => (fh Γ S).bind fun hi S => slS fin v lo hi S := rfl
theorem oNone_eq (Γ : Ev) (S : Store) : oNone Γ S = .ok none S := rfl
theorem oSome_eq (f : EF) (Γ : Ev) (S : Store) : oSome f Γ S = (f Γ S).bind fun v S => match v with
  | .d (.int i) => .ok (some i) S
  | _ => .no := rfl
theorem cut_tail (x : PyData) (xs : List PyData) : cutD (x :: xs) (some 1) none = xs := by
  have e1 : HT.sIx (x :: xs).length 0 (some ((1 : Nat) : Int)) = 1 := by
    rw [HT.sIx_nat, List.length_cons]
    omega
  have e2 : HT.sIx (x :: xs).length (x :: xs).length none = xs.length + 1 := rfl
  show (List.drop (HT.sIx (x :: xs).length 0 (some ((1 : Nat) : Int))) (x :: xs)).take (HT.sIx (x :: xs).length (x :: xs).length none - HT.sIx (x :: xs).length 0 (some ((1 : Nat) : Int))) = xs
  rw [e1, e2, List.drop_succ_cons, List.drop_zero, Nat.add_sub_cancel, List.take_length]
end DL
namespace G85
open PySem L2 DL

def top (i : Nat) : Stmt := PySem.Challenge.pw_matroidproved_k85_structures.main.body.getD i (.Pass ⟨0, 0, 0, 0⟩)
def k_MOST_PEOPLE : PyData := (.int 8)
def k_MOST_SETS : PyData := (.int 70)
def ok_BadPeople : Str → Option Bool := okL [("BadPeople", true), ("BadStructure", false)]
def ok_BadStructure : Str → Option Bool := okL [("BadPeople", false), ("BadStructure", true)]
def ok_MatroidError : Str → Option Bool := okL [("BadPeople", true), ("BadStructure", true)]
def okf_reason : Str → Option Bool := okL [("BadStructure", true)]
abbrev i_BadStructure : Stmt := (clsBody (top 9)).getD 0 (.Pass ⟨0, 0, 0, 0⟩)
abbrev s_is_whole : Stmt := top 3
def N_is_whole : List Str := ["value"]
def b_is_whole : SF :=
  (fRet (eAndF (eIsi "int" (eVar 0)) (eNotF (eIsi "bool" (eVar 0)))))
def F_is_whole : FD := runD handF 1 b_is_whole
abbrev s_is_row : Stmt := top 4
def N_is_row : List Str := ["value"]
def b_is_row : SF :=
  (fRet (eIsi2 "tuple" "list" (eVar 0)))
def F_is_row : FD := runD handF 1 b_is_row
abbrev s_sets_of : Stmt := top 5
def E_sets_of_1 : EF :=
  (eAddF finF (eVar 5) (eTup (aCons (eVar 7) aNil)))
def C_sets_of_1 : EF :=
  (eLc finF (iRg (rg2 (eVar 6) (eVar 0))) (gNm 7) tYesF E_sets_of_1 [7])
def B_sets_of_1 : SF :=
  (fSeq (fSet 6 (eIf (tru (eVar 5)) (eAddF finF (eIx (eVar 5) (eNeg (eC (.int 1)))) (eC (.int 1))) (eC (.int 0))))
  (fSet 4 (eAddF finF (eVar 4) C_sets_of_1)))
def L_sets_of_1 : SF :=
  (fFor (iSrc (eVar 2)) (gNm 5) B_sets_of_1)
def B_sets_of_2 : SF :=
  (fSeq (fSet 4 (eLst finF aNil))
  (fSeq L_sets_of_1
  (fSet 2 (eCall (listS finF) (aCons (eVar 4) aNil)))))
def L_sets_of_2 : SF :=
  (fFor (iRg (rg1 (eVar 1))) (gNm 3) B_sets_of_2)
def N_sets_of : List Str := ["n", "r", "rows", "_", "longer", "row", "first", "e"]
def b_sets_of : SF :=
  (fSeq (fSet 2 (eLst finF (aCons (eTup aNil) aNil)))
  (fSeq L_sets_of_2
  (fRet (eVar 2))))
def F_sets_of : FD := runD handF 8 b_sets_of
abbrev s_is_within : Stmt := top 11
def E_is_within_1 : EF :=
  (eBin (inS false) (eVar 2) (eVar 1))
def C_is_within_1 : EF :=
  (eLc finF (iSrc (eVar 0)) (gNm 2) tYesF E_is_within_1 [2])
def N_is_within : List Str := ["one", "other", "e"]
def b_is_within : SF :=
  (fRet (eCall (allS false) (aCons C_is_within_1 aNil)))
def F_is_within : FD := runD handF 3 b_is_within
abbrev s_is_joined_told : Stmt := top 20
def E_is_joined_told_1 : EF :=
  (eBin (inS false) (eVar 3) (eVar 2))
def C_is_joined_told_1 : EF :=
  (eLc finF (iSrc (eVar 1)) (gNm 2) tYesF E_is_joined_told_1 [2])
def E_is_joined_told_2 : EF :=
  (eCall (allS true) (aCons C_is_joined_told_1 aNil))
def C_is_joined_told_2 : EF :=
  (eLc finF (iRg (rg1 (eVar 0))) (gNm 3) tYesF E_is_joined_told_2 [3])
def N_is_joined_told : List Str := ["m", "told", "some", "e"]
def b_is_joined_told : SF :=
  (fRet (eCall (allS false) (aCons C_is_joined_told_2 aNil)))
def F_is_joined_told : FD := runD handF 4 b_is_joined_told
abbrev s__law_pool : Stmt := top 23
def E__law_pool_1 : EF :=
  (eIf (tst (eBin (iCmp fun i j => decide (j ≤ i)) (eVar 1) (eC (.int 0)))) (eMulF finF (eC (.int 2)) (eVar 1)) (eSub (eMulF finF (eNeg (eC (.int 2))) (eVar 1)) (eC (.int 1))))
def C__law_pool_1 : EF :=
  (eLc finF (iSrc (eVar 0)) (gNm 1) tYesF E__law_pool_1 [1])
def N__law_pool : List Str := ["script", "cell"]
def b__law_pool : SF :=
  (fRet (eLst finC (aCons C__law_pool_1 (aCons (eC (.int 0)) (aCons (eC (.int 0)) (aCons (eC (.int 17)) aNil))))))
def F__law_pool : FD := runD handC 2 b__law_pool
abbrev s__law_is_integer : Stmt := top 26
def N__law_is_integer : List Str := ["actual"]
def b__law_is_integer : SF :=
  (fRet (eAndF (eIsi "int" (eVar 0)) (eNotF (eIsi "bool" (eVar 0)))))
def F__law_is_integer : FD := runD handF 1 b__law_is_integer
abbrev s__law_sets : Stmt := top 30
def E__law_sets_1 : EF :=
  (eAddF finF (eVar 5) (eTup (aCons (eVar 6) aNil)))
def C__law_sets_1 : EF :=
  (eLc finF (iRg (rg2 (eIf (tru (eVar 5)) (eAddF finF (eIx (eVar 5) (eNeg (eC (.int 1)))) (eC (.int 1))) (eC (.int 0))) (eVar 0))) (gNm 6) tYesF E__law_sets_1 [6])
def B__law_sets_1 : SF :=
  (fSet 4 (eAddF finF (eVar 4) C__law_sets_1))
def L__law_sets_1 : SF :=
  (fFor (iSrc (eVar 2)) (gNm 5) B__law_sets_1)
def B__law_sets_2 : SF :=
  (fSeq (fSet 4 (eLst finF aNil))
  (fSeq L__law_sets_1
  (fSet 2 (eVar 4))))
def L__law_sets_2 : SF :=
  (fFor (iRg (rg1 (eVar 1))) (gNm 3) B__law_sets_2)
def N__law_sets : List Str := ["n", "r", "found", "step", "longer", "row", "e"]
def b__law_sets : SF :=
  (fSeq (fSet 2 (eLst finF (aCons (eTup aNil) aNil)))
  (fSeq L__law_sets_2
  (fRet (eVar 2))))
def F__law_sets : FD := runD handF 7 b__law_sets
abbrev s__law_knows : Stmt := top 33
def E__law_knows_1 : EF :=
  (eBin (inS false) (eVar 2) (eVar 1))
def C__law_knows_1 : EF :=
  (eLc finF (iSrc (eVar 3)) (gNm 2) tYesF E__law_knows_1 [2])
def E__law_knows_2 : EF :=
  (eCall (allS false) (aCons C__law_knows_1 aNil))
def C__law_knows_2 : EF :=
  (eLc finF (iSrc (eVar 0)) (gNm 3) tYesF E__law_knows_2 [3])
def N__law_knows : List Str := ["least", "people", "e", "some"]
def b__law_knows : SF :=
  (fRet (eCall (allS true) (aCons C__law_knows_2 aNil)))
def F__law_knows : FD := runD handF 4 b__law_knows
abbrev s__law_is_joined : Stmt := top 35
def E__law_is_joined_1 : EF :=
  (eBin (inS false) (eVar 3) (eVar 2))
def C__law_is_joined_1 : EF :=
  (eLc finF (iSrc (eVar 1)) (gNm 2) tYesF E__law_is_joined_1 [2])
def E__law_is_joined_2 : EF :=
  (eCall (allS true) (aCons C__law_is_joined_1 aNil))
def C__law_is_joined_2 : EF :=
  (eLc finF (iRg (rg1 (eVar 0))) (gNm 3) tYesF E__law_is_joined_2 [3])
def N__law_is_joined : List Str := ["m", "least", "some", "e"]
def b__law_is_joined : SF :=
  (fRet (eCall (allS false) (aCons C__law_is_joined_2 aNil)))
def F__law_is_joined : FD := runD handF 4 b__law_is_joined
abbrev s_are_people : Stmt := top 12
def E_are_people_1 : EF :=
  (eAndF (eCallD 1 F_is_whole (aCons (eVar 2) aNil)) (eChain (iCmp fun i j => decide (i ≤ j)) (iCmp fun i j => decide (i < j)) (eC (.int 0)) (eVar 2) (eVar 1)))
def C_are_people_1 : EF :=
  (eLc finF (iSrc (eVar 0)) (gNm 2) tYesF E_are_people_1 [2])
def N_are_people : List Str := ["value", "m", "e"]
def b_are_people : SF :=
  (fSeq (fIf (tOrF (tNotF (tru (eCallD 1 F_is_row (aCons (eVar 0) aNil)))) (tNotF (tru (eCall (allS false) (aCons C_are_people_1 aNil))))) (fRet (eC (.bool false))) fNil)
  (fRet (eBin (eqS false) (eLenSet (eVar 0)) (eCall lenS (aCons (eVar 0) aNil)))))
def F_are_people : FD := runD handF 3 b_are_people
abbrev s_knows : Stmt := top 15
def E_knows_1 : EF :=
  (eCallD 2 F_is_within (aCons (eVar 2) (aCons (eVar 1) aNil)))
def C_knows_1 : EF :=
  (eLc finF (iSrc (eVar 0)) (gNm 2) tYesF E_knows_1 [2])
def N_knows : List Str := ["told", "people", "some"]
def b_knows : SF :=
  (fRet (eCall (allS true) (aCons C_knows_1 aNil)))
def F_knows : FD := runD handF 3 b_knows
abbrev s_all_people : Stmt := top 17
def I_all_people_1 : IF :=
  (iSrc (eCallD 2 F_sets_of (aCons (eVar 0) (aCons (eVar 1) aNil))))
def E_all_people_1 : EF :=
  (eVar 2)
def C_all_people_1 : EF :=
  (eLc2 finF (iRg (rg1 (eAddF finF (eVar 0) (eC (.int 1))))) (gNm 1) tYesF I_all_people_1 (gNm 2) tYesF E_all_people_1 [1, 2] [2])
def N_all_people : List Str := ["m", "many", "some"]
def b_all_people : SF :=
  (fRet C_all_people_1)
def F_all_people : FD := runD handF 3 b_all_people
abbrev s__law_all_sets : Stmt := top 31
def B__law_all_sets_1 : SF :=
  (fSet 1 (eAddF finF (eVar 1) (eCallD 2 F__law_sets (aCons (eVar 0) (aCons (eVar 2) aNil)))))
def L__law_all_sets_1 : SF :=
  (fFor (iRg (rg1 (eAddF finF (eVar 0) (eC (.int 1))))) (gNm 2) B__law_all_sets_1)
def N__law_all_sets : List Str := ["n", "found", "r"]
def b__law_all_sets : SF :=
  (fSeq (fSet 1 (eLst finF aNil))
  (fSeq L__law_all_sets_1
  (fRet (eVar 1))))
def F__law_all_sets : FD := runD handF 3 b__law_all_sets
abbrev s_told_sets : Stmt := top 13
def E_told_sets_1 : EF :=
  (eAndF (eCallD 2 F_are_people (aCons (eVar 2) (aCons (eVar 0) aNil))) (eBin (iCmp fun i j => decide (j < i)) (eCall lenS (aCons (eVar 2) aNil)) (eC (.int 0))))
def C_told_sets_1 : EF :=
  (eLc finF (iSrc (eVar 1)) (gNm 2) tYesF E_told_sets_1 [2])
def E_told_sets_2 : EF :=
  (eCall tupS (aCons (eCall (sortS finF) (aCons (eVar 2) aNil)) aNil))
def C_told_sets_2 : EF :=
  (eLc finF (iSrc (eVar 1)) (gNm 2) tYesF E_told_sets_2 [2])
def E_told_sets_3 : EF :=
  (eCallD 2 F_is_within (aCons (eVar 2) (aCons (eVar 6) aNil)))
def T_told_sets_1 : TF :=
  (tst (eBin (eqS true) (eVar 5) (eVar 4)))
def C_told_sets_3 : EF :=
  (eLc finF (iEnm (eVar 3)) (gTupF 2 (gsCons (gNm 5) (gsCons (gNm 6) gsNil))) T_told_sets_1 E_told_sets_3 [5, 6])
def B_told_sets_1 : SF :=
  (fIf (tru (eCall (allS true) (aCons C_told_sets_3 aNil))) (fRaiseF "BadStructure" "reason" (eC (.str "within"))) fNil)
def L_told_sets_1 : SF :=
  (fFor (iEnm (eVar 3)) (gTupF 2 (gsCons (gNm 4) (gsCons (gNm 2) gsNil))) B_told_sets_1)
def N_told_sets : List Str := ["m", "sets", "some", "found", "at", "far", "other"]
def b_told_sets : SF :=
  (fSeq (fIf (tOrF (tNotF (tru (eCallD 1 F_is_whole (aCons (eVar 0) aNil)))) (tNotF (tst (eChain (iCmp fun i j => decide (i ≤ j)) (iCmp fun i j => decide (i ≤ j)) (eC (.int 1)) (eVar 0) (eC k_MOST_PEOPLE))))) (fRaiseF "BadStructure" "reason" (eC (.str "people"))) fNil)
  (fSeq (fIf (tOrF (tNotF (tru (eCallD 1 F_is_row (aCons (eVar 1) aNil)))) (tNotF (tst (eChain (iCmp fun i j => decide (i ≤ j)) (iCmp fun i j => decide (i ≤ j)) (eC (.int 1)) (eCall lenS (aCons (eVar 1) aNil)) (eC k_MOST_SETS))))) (fRaiseF "BadStructure" "reason" (eC (.str "sets"))) fNil)
  (fSeq (fIf (tNotF (tru (eCall (allS false) (aCons C_told_sets_1 aNil)))) (fRaiseF "BadStructure" "reason" (eC (.str "sets"))) fNil)
  (fSeq (fSet 3 C_told_sets_2)
  (fSeq L_told_sets_1
  (fRet (eCall (sortS finF) (aCons (eVar 3) aNil))))))))
def F_told_sets : FD := runD handF 7 b_told_sets
abbrev s_dual_of : Stmt := top 18
def E_dual_of_1 : EF :=
  (eBin (inS false) (eVar 5) (eVar 3))
def C_dual_of_1 : EF :=
  (eLc finF (iSrc (eVar 6)) (gNm 5) tYesF E_dual_of_1 [5])
def E_dual_of_2 : EF :=
  (eCall (allS true) (aCons C_dual_of_1 aNil))
def C_dual_of_2 : EF :=
  (eLc finF (iSrc (eVar 1)) (gNm 6) tYesF E_dual_of_2 [6])
def E_dual_of_3 : EF :=
  (eCallD 2 F_is_within (aCons (eVar 7) (aCons (eVar 3) aNil)))
def C_dual_of_3 : EF :=
  (eLc finF (iSrc (eVar 2)) (gNm 7) tYesF E_dual_of_3 [7])
def B_dual_of_1 : SF :=
  (fSeq (fSet 4 (eCall (allS false) (aCons C_dual_of_2 aNil)))
  (fIf (tAndF (tru (eVar 4)) (tNotF (tru (eCall (allS true) (aCons C_dual_of_3 aNil))))) (fExpr (eMeth appendS (eVar 2) (aCons (eVar 3) aNil))) fNil))
def L_dual_of_1 : SF :=
  (fFor (iSrc (eCallD 1 F_all_people (aCons (eVar 0) aNil))) (gNm 3) B_dual_of_1)
def N_dual_of : List Str := ["m", "told", "found", "some", "meets", "e", "other", "less"]
def b_dual_of : SF :=
  (fSeq (fSet 2 (eLst finC aNil))
  (fSeq L_dual_of_1
  (fRet (eCall (sortS finF) (aCons (eVar 2) aNil)))))
def F_dual_of : FD := runD handF 8 b_dual_of
abbrev s__law_dual_sets : Stmt := top 34
def E__law_dual_sets_1 : EF :=
  (eBin (inS false) (eVar 5) (eVar 3))
def C__law_dual_sets_1 : EF :=
  (eLc finF (iSrc (eVar 6)) (gNm 5) tYesF E__law_dual_sets_1 [5])
def E__law_dual_sets_2 : EF :=
  (eCall (allS true) (aCons C__law_dual_sets_1 aNil))
def C__law_dual_sets_2 : EF :=
  (eLc finF (iSrc (eVar 1)) (gNm 6) tYesF E__law_dual_sets_2 [6])
def E__law_dual_sets_3 : EF :=
  (eBin (inS false) (eVar 5) (eVar 3))
def C__law_dual_sets_3 : EF :=
  (eLc finF (iSrc (eVar 7)) (gNm 5) tYesF E__law_dual_sets_3 [5])
def E__law_dual_sets_4 : EF :=
  (eCall (allS false) (aCons C__law_dual_sets_3 aNil))
def C__law_dual_sets_4 : EF :=
  (eLc finF (iSrc (eVar 2)) (gNm 7) tYesF E__law_dual_sets_4 [7])
def B__law_dual_sets_1 : SF :=
  (fSeq (fSet 4 (eCall (allS false) (aCons C__law_dual_sets_2 aNil)))
  (fIf (tAndF (tru (eVar 4)) (tNotF (tru (eCall (allS true) (aCons C__law_dual_sets_4 aNil))))) (fExpr (eMeth appendS (eVar 2) (aCons (eVar 3) aNil))) fNil))
def L__law_dual_sets_1 : SF :=
  (fFor (iSrc (eCallD 1 F__law_all_sets (aCons (eVar 0) aNil))) (gNm 3) B__law_dual_sets_1)
def N__law_dual_sets : List Str := ["m", "least", "found", "some", "meets", "e", "other", "less"]
def b__law_dual_sets : SF :=
  (fSeq (fSet 2 (eLst finC aNil))
  (fSeq L__law_dual_sets_1
  (fRet (eCall (sortS finF) (aCons (eVar 2) aNil)))))
def F__law_dual_sets : FD := runD handF 8 b__law_dual_sets
abbrev s_least_sets : Stmt := top 14
def N_least_sets : List Str := ["m", "sets"]
def b_least_sets : SF :=
  (fRet (eCall tupS (aCons (eCallD 2 F_told_sets (aCons (eVar 0) (aCons (eVar 1) aNil))) aNil)))
def F_least_sets : FD := runD handF 2 b_least_sets
abbrev s_may_know : Stmt := top 16
def N_may_know : List Str := ["m", "sets", "people", "told"]
def b_may_know : SF :=
  (fSeq (fSet 3 (eCallD 2 F_told_sets (aCons (eVar 0) (aCons (eVar 1) aNil))))
  (fSeq (fIf (tNotF (tru (eCallD 2 F_are_people (aCons (eVar 2) (aCons (eVar 0) aNil))))) (fRaise "BadPeople") fNil)
  (fRet (eCallD 2 F_knows (aCons (eVar 3) (aCons (eVar 2) aNil))))))
def F_may_know : FD := runD handF 4 b_may_know
abbrev s_dual_sets : Stmt := top 19
def N_dual_sets : List Str := ["m", "sets"]
def b_dual_sets : SF :=
  (fRet (eCall tupS (aCons (eCallD 2 F_dual_of (aCons (eVar 0) (aCons (eCallD 2 F_told_sets (aCons (eVar 0) (aCons (eVar 1) aNil))) aNil))) aNil)))
def F_dual_sets : FD := runD handF 2 b_dual_sets
abbrev s_is_joined : Stmt := top 21
def N_is_joined : List Str := ["m", "sets"]
def b_is_joined : SF :=
  (fRet (eCallD 2 F_is_joined_told (aCons (eVar 0) (aCons (eCallD 2 F_told_sets (aCons (eVar 0) (aCons (eVar 1) aNil))) aNil))))
def F_is_joined : FD := runD handF 2 b_is_joined
abbrev s__law_take : Stmt := top 24
def N__law_take : List Str := ["pool", "many", "digit", "cell", "mixed"]
def b__law_take (F : FD) : SF :=
  (fSeq (fIf (tst (eBin (iCmp fun i j => decide (j < i)) (eIx (eVar 0) (eC (.int 2))) (eC (.int 0)))) (fSeq (fSet 2 (eMod (eCall intS (aCons (eIx (eVar 0) (eC (.int 2))) aNil)) (eVar 1)))
  (fSeq (fAsg (eDiv (eIx (eVar 0) (eC (.int 2))) (eVar 1)) (gSubF (eVar 0) (eC (.int 2))))
  (fRet (eVar 2)))) fNil)
  (fSeq (fSet 3 (eC (.int 0)))
  (fSeq (fIf (tst (eBin (iCmp fun i j => decide (i < j)) (eIx (eVar 0) (eC (.int 1))) (eCall lenS (aCons (eIx (eVar 0) (eC (.int 0))) aNil)))) (fSet 3 (eIx (eIx (eVar 0) (eC (.int 0))) (eIx (eVar 0) (eC (.int 1))))) fNil)
  (fSeq (fAsg (eAddF finF (eIx (eVar 0) (eC (.int 1))) (eC (.int 1))) (gSubF (eVar 0) (eC (.int 1))))
  (fSeq (fIf (tst (eBin (iCmp fun i j => decide (j ≤ i)) (eVar 3) (ePow (eC (.int 10)) (eC (.int 18))))) (fSeq (fAsg (eDiv (eVar 3) (eC (.int 2))) (gSubF (eVar 0) (eC (.int 2))))
  (fRet (eCallD 2 F (aCons (eVar 0) (aCons (eVar 1) aNil))))) fNil)
  (fSeq (fAsg (eMod (eCall intS (aCons (eAddF finF (eAddF finF (eMulF finF (eIx (eVar 0) (eC (.int 3))) (eC (.int 48271))) (eMulF finF (eVar 3) (eC (.int 69621)))) (eMulF finF (eIx (eVar 0) (eC (.int 1))) (eC (.int 613)))) aNil)) (eC (.int 2147483647))) (gSubF (eVar 0) (eC (.int 3))))
  (fSeq (fSet 4 (eMod (eCall intS (aCons (eAddF finF (eAddF finF (eMulF finF (eIx (eVar 0) (eC (.int 3))) (eIx (eVar 0) (eC (.int 3)))) (eMulF finF (eIx (eVar 0) (eC (.int 3))) (eC (.int 7919)))) (eC (.int 104729))) aNil)) (eC (.int 1000000007))))
  (fRet (eMod (eCall intS (aCons (eDiv (eVar 4) (eC (.int 3))) aNil)) (eVar 1))))))))))
def F__law_take_at : Nat → FD
  | 0 => fun _ _ => .no
  | n + 1 => runD handF 5 (b__law_take (F__law_take_at n))
def F__law_take : FD := F__law_take_at 3
abbrev s__law_pick : Stmt := top 25
def N__law_pick : List Str := ["pool", "rows"]
def b__law_pick : SF :=
  (fRet (eIx (eVar 1) (eCallD 2 F__law_take (aCons (eVar 0) (aCons (eCall lenS (aCons (eVar 1) aNil)) aNil)))))
def F__law_pick : FD := runD handF 2 b__law_pick
abbrev s__law_order : Stmt := top 28
def B__law_order_1 : SF :=
  (fSet 3 (eAddF finF (eVar 3) (eTup (aCons (eMeth popAtS (eVar 2) (aCons (eCallD 2 F__law_take (aCons (eVar 0) (aCons (eCall lenS (aCons (eVar 2) aNil)) aNil))) aNil)) aNil))))
def L__law_order_1 : SF :=
  (fFor (iRg (rg1 (eVar 1))) (gNm 4) B__law_order_1)
def N__law_order : List Str := ["pool", "many", "left", "found", "k"]
def b__law_order : SF :=
  (fSeq (fSet 2 (eLstRg finC (rg1 (eVar 1))))
  (fSeq (fSet 3 (eTup aNil))
  (fSeq L__law_order_1
  (fRet (eVar 3)))))
def F__law_order : FD := runD handF 5 b__law_order
abbrev s__law_given : Stmt := top 29
def N__law_given : List Str := ["pool", "row"]
def b__law_given : SF :=
  (fRet (eIf (tst (eBin (eqS false) (eCallD 2 F__law_take (aCons (eVar 0) (aCons (eC (.int 2)) aNil))) (eC (.int 0)))) (eCall (listS finF) (aCons (eVar 1) aNil)) (eCall tupS (aCons (eVar 1) aNil))))
def F__law_given : FD := runD handF 2 b__law_given
abbrev s__law_told : Stmt := top 36
def N__law_told : List Str := ["m", "sets", "wrong"]
def b__law_told : SF :=
  (fSeq (fTryRet ok_BadStructure 2 (fExpr (eCallD 2 F_least_sets (aCons (eVar 0) (aCons (eVar 1) aNil)))) (fun x => (eTup (aCons (eC (.str "refused")) (aCons (eXg okf_reason x "reason") (aCons (eIsF x ok_MatroidError) aNil))))))
  (fRet (eTup (aCons (eC (.str "told")) (aCons (eC .none) (aCons (eC (.bool true)) aNil))))))
def F__law_told : FD := runD handF 3 b__law_told
abbrev s__law_refuses : Stmt := top 37
def N__law_refuses : List Str := ["m", "sets", "people"]
def b__law_refuses : SF :=
  (fSeq (fTry ok_BadPeople (fExpr (eCallD 3 F_may_know (aCons (eVar 0) (aCons (eVar 1) (aCons (eVar 2) aNil))))) (fRet (eC (.bool true))))
  (fRet (eC (.bool false))))
def F__law_refuses : FD := runD handF 3 b__law_refuses
abbrev s__law_structure : Stmt := top 32
def E__law_structure_1 : EF :=
  (eBin (inS false) (eVar 6) (eVar 7))
def C__law_structure_1 : EF :=
  (eLc finF (iSrc (eVar 5)) (gNm 6) tYesF E__law_structure_1 [6])
def E__law_structure_2 : EF :=
  (eBin (inS false) (eVar 6) (eVar 5))
def C__law_structure_2 : EF :=
  (eLc finF (iSrc (eVar 7)) (gNm 6) tYesF E__law_structure_2 [6])
def E__law_structure_3 : EF :=
  (eOrF (eCall (allS false) (aCons C__law_structure_1 aNil)) (eCall (allS false) (aCons C__law_structure_2 aNil)))
def C__law_structure_3 : EF :=
  (eLc finF (iSrc (eVar 3)) (gNm 7) tYesF E__law_structure_3 [7])
def B__law_structure_1 : SF :=
  (fSeq (fSet 5 (eCallD 2 F__law_pick (aCons (eVar 0) (aCons (eVar 2) aNil))))
  (fIf (tNotF (tru (eCall (allS true) (aCons C__law_structure_3 aNil)))) (fExpr (eMeth appendS (eVar 3) (aCons (eVar 5) aNil))) fNil))
def L__law_structure_1 : SF :=
  (fFor (iRg (rg1 (eAddF finF (eC (.int 1)) (eCallD 2 F__law_take (aCons (eVar 0) (aCons (eC (.int 6)) aNil)))))) (gNm 4) B__law_structure_1)
def N__law_structure : List Str := ["pool", "m", "rows", "found", "turn", "some", "e", "other"]
def b__law_structure : SF :=
  (fSeq (fSet 2 (eSl finF (eCallD 1 F__law_all_sets (aCons (eVar 1) aNil)) (oSome (eC (.int 1))) oNone))
  (fSeq (fSet 3 (eLst finC aNil))
  (fSeq L__law_structure_1
  (fRet (eCall (sortS finF) (aCons (eVar 3) aNil))))))
def F__law_structure : FD := runD handF 8 b__law_structure
abbrev s__law_same : Stmt := top 27
def E__law_same_1 (F : FD) : EF :=
  (eCallD 2 F (aCons (eIx (eVar 0) (eVar 2)) (aCons (eIx (eVar 1) (eVar 2)) aNil)))
def C__law_same_1 (F : FD) : EF :=
  (eLc finF (iRg (rg1 (eCall lenS (aCons (eVar 1) aNil)))) (gNm 2) tYesF (E__law_same_1 F) [2])
def E__law_same_2 (F : FD) : EF :=
  (eCallD 2 F (aCons (eIx (eVar 0) (eVar 2)) (aCons (eIx (eVar 1) (eVar 2)) aNil)))
def C__law_same_2 (F : FD) : EF :=
  (eLc finF (iRg (rg1 (eCall lenS (aCons (eVar 1) aNil)))) (gNm 2) tYesF (E__law_same_2 F) [2])
def N__law_same : List Str := ["actual", "due", "k"]
def b__law_same (F : FD) : SF :=
  (fSeq (fIf (tru (eIsi "tuple" (eVar 1))) (fSeq (fIf (tOrF (tNotF (tru (eIsi "tuple" (eVar 0)))) (tst (eBin (eqS true) (eCall lenS (aCons (eVar 0) aNil)) (eCall lenS (aCons (eVar 1) aNil))))) (fRet (eC (.bool false))) fNil)
  (fRet (eCall (allS false) (aCons (C__law_same_1 F) aNil)))) fNil)
  (fSeq (fIf (tru (eIsi "list" (eVar 1))) (fSeq (fIf (tOrF (tNotF (tru (eIsi "list" (eVar 0)))) (tst (eBin (eqS true) (eCall lenS (aCons (eVar 0) aNil)) (eCall lenS (aCons (eVar 1) aNil))))) (fRet (eC (.bool false))) fNil)
  (fRet (eCall (allS false) (aCons (C__law_same_2 F) aNil)))) fNil)
  (fSeq (fIf (tst (eBin (isNS false) (eVar 1) (eC .none))) (fRet (eBin (isNS false) (eVar 0) (eC .none))) fNil)
  (fSeq (fIf (tru (eIsi "bool" (eVar 1))) (fRet (eAndF (eIsi "bool" (eVar 0)) (eBin (eqS false) (eVar 0) (eVar 1)))) fNil)
  (fSeq (fIf (tru (eIsi "str" (eVar 1))) (fRet (eAndF (eIsi "str" (eVar 0)) (eBin (eqS false) (eVar 0) (eVar 1)))) fNil)
  (fRet (eAndF (eCallD 1 F__law_is_integer (aCons (eVar 0) aNil)) (eBin (eqS false) (eVar 0) (eVar 1)))))))))
def F__law_same_at : Nat → FD
  | 0 => fun _ _ => .no
  | n + 1 => runD handF 3 (b__law_same (F__law_same_at n))
def F__law_same : FD := F__law_same_at 6
abbrev s__law_always : Stmt := top 38
def E__law_always_1 : EF :=
  (eVar 3)
def C__law_always_1 : EF :=
  (eLc finF (iSrc (eVar 1)) (gTupF 3 (gsCons (gNm 2) (gsCons (gNm 3) (gsCons (gNm 4) gsNil)))) tYesF E__law_always_1 [2, 3, 4])
def N__law_always : List Str := ["path", "wrong", "word", "reason", "kind"]
def b__law_always : SF :=
  (fSeq (fSet 0 (eLst finF (aCons (eTup (aCons (eC (.int 2)) (aCons (eC (.int 3)) aNil))) (aCons (eTup (aCons (eC (.int 1)) (aCons (eC (.int 0)) aNil))) (aCons (eTup (aCons (eC (.int 1)) (aCons (eC (.int 2)) aNil))) aNil)))))
  (fSeq (fIf (tNotF (tru (eCallD 2 F__law_same (aCons (eTup (aCons (eCallD 2 F_least_sets (aCons (eC (.int 4)) (aCons (eVar 0) aNil))) (aCons (eCallD 2 F_dual_sets (aCons (eC (.int 4)) (aCons (eVar 0) aNil))) (aCons (eCallD 2 F_dual_sets (aCons (eC (.int 3)) (aCons (eLst finF (aCons (eTup (aCons (eC (.int 0)) (aCons (eC (.int 1)) aNil))) (aCons (eTup (aCons (eC (.int 0)) (aCons (eC (.int 2)) aNil))) (aCons (eTup (aCons (eC (.int 1)) (aCons (eC (.int 2)) aNil))) aNil)))) aNil))) aNil)))) (aCons (eTup (aCons (eTup (aCons (eTup (aCons (eC (.int 0)) (aCons (eC (.int 1)) aNil))) (aCons (eTup (aCons (eC (.int 1)) (aCons (eC (.int 2)) aNil))) (aCons (eTup (aCons (eC (.int 2)) (aCons (eC (.int 3)) aNil))) aNil)))) (aCons (eTup (aCons (eTup (aCons (eC (.int 0)) (aCons (eC (.int 2)) aNil))) (aCons (eTup (aCons (eC (.int 1)) (aCons (eC (.int 2)) aNil))) (aCons (eTup (aCons (eC (.int 1)) (aCons (eC (.int 3)) aNil))) aNil)))) (aCons (eTup (aCons (eTup (aCons (eC (.int 0)) (aCons (eC (.int 1)) aNil))) (aCons (eTup (aCons (eC (.int 0)) (aCons (eC (.int 2)) aNil))) (aCons (eTup (aCons (eC (.int 1)) (aCons (eC (.int 2)) aNil))) aNil)))) aNil)))) aNil))))) (fRet (eC (.bool false))) fNil)
  (fSeq (fIf (tNotF (tru (eCallD 2 F__law_same (aCons (eTup (aCons (eCallD 3 F_may_know (aCons (eC (.int 4)) (aCons (eVar 0) (aCons (eLst finF (aCons (eC (.int 3)) (aCons (eC (.int 2)) (aCons (eC (.int 0)) aNil)))) aNil)))) (aCons (eCallD 3 F_may_know (aCons (eC (.int 4)) (aCons (eVar 0) (aCons (eTup (aCons (eC (.int 0)) (aCons (eC (.int 2)) aNil))) aNil)))) (aCons (eCallD 2 F_is_joined (aCons (eC (.int 4)) (aCons (eVar 0) aNil))) (aCons (eCallD 2 F_is_joined (aCons (eC (.int 5)) (aCons (eVar 0) aNil))) (aCons (eCallD 3 F_may_know (aCons (eC (.int 1)) (aCons (eLst finF (aCons (eTup (aCons (eC (.int 0)) aNil)) aNil)) (aCons (eTup aNil) aNil)))) aNil)))))) (aCons (eTup (aCons (eC (.bool true)) (aCons (eC (.bool false)) (aCons (eC (.bool true)) (aCons (eC (.bool false)) (aCons (eC (.bool false)) aNil)))))) aNil))))) (fRet (eC (.bool false))) fNil)
  (fSeq (fSet 1 (eLst finF (aCons (eCallD 2 F__law_told (aCons (eC (.int 3)) (aCons (eLst finF (aCons (eTup (aCons (eC (.int 0)) (aCons (eC (.int 1)) aNil))) (aCons (eTup (aCons (eC (.int 1)) aNil)) aNil))) aNil))) (aCons (eCallD 2 F__law_told (aCons (eC (.int 3)) (aCons (eLst finF (aCons (eTup (aCons (eC (.int 0)) (aCons (eC (.int 1)) aNil))) (aCons (eTup (aCons (eC (.int 1)) (aCons (eC (.int 0)) aNil))) aNil))) aNil))) (aCons (eCallD 2 F__law_told (aCons (eC (.int 9)) (aCons (eLst finF (aCons (eTup (aCons (eC (.int 0)) aNil)) aNil)) aNil))) (aCons (eCallD 2 F__law_told (aCons (eC (.int 3)) (aCons (eLst finF (aCons (eTup aNil) aNil)) aNil))) (aCons (eCallD 2 F__law_told (aCons (eC (.int 3)) (aCons (eLst finF (aCons (eTup (aCons (eC (.int 0)) (aCons (eC (.int 0)) aNil))) aNil)) aNil))) (aCons (eCallD 2 F__law_told (aCons (eC (.int 8)) (aCons (eMulF finF (eLst finF (aCons (eTup (aCons (eC (.int 0)) aNil)) aNil)) (eC (.int 71))) aNil))) aNil))))))))
  (fRet (eAndF (eCallD 2 F__law_same (aCons C__law_always_1 (aCons (eLst finF (aCons (eC (.str "within")) (aCons (eC (.str "within")) (aCons (eC (.str "people")) (aCons (eC (.str "sets")) (aCons (eC (.str "sets")) (aCons (eC (.str "sets")) aNil))))))) aNil))) (eCallD 3 F__law_refuses (aCons (eC (.int 2)) (aCons (eLst finF (aCons (eTup (aCons (eC (.int 0)) (aCons (eC (.int 1)) aNil))) aNil)) (aCons (eTup (aCons (eC (.int 0)) (aCons (eC (.int 0)) aNil))) aNil))))))))))
def F__law_always : FD := runD handF 5 b__law_always
abbrev s_law : Stmt := top 39
def E_law_1 : EF :=
  (eIx (eVar 4) (eVar 6))
def C_law_1 : EF :=
  (eLc finF (iSrc (eCallD 2 F__law_order (aCons (eVar 1) (aCons (eCall lenS (aCons (eVar 4) aNil)) aNil)))) (gNm 6) tYesF E_law_1 [6])
def E_law_2 : EF :=
  (eIx (eVar 7) (eVar 6))
def C_law_2 : EF :=
  (eLc finF (iSrc (eCallD 2 F__law_order (aCons (eVar 1) (aCons (eCall lenS (aCons (eVar 7) aNil)) aNil)))) (gNm 6) tYesF E_law_2 [6])
def E_law_3 : EF :=
  (eCallD 2 F__law_given (aCons (eVar 1) (aCons C_law_2 aNil)))
def C_law_3 : EF :=
  (eLc finF (iSrc C_law_1) (gNm 7) tYesF E_law_3 [7])
def E_law_4 : EF :=
  (eVar 13)
def T_law_1 : TF :=
  (tst (eBin (inS true) (eVar 13) (eVar 11)))
def C_law_4 : EF :=
  (eLc finF (iRg (rg1 (eVar 3))) (gNm 13) T_law_1 E_law_4 [13])
def B_law_1 : SF :=
  (fSeq (fSet 11 (eSl finF (eCallD 2 F__law_order (aCons (eVar 1) (aCons (eVar 3) aNil))) oNone (oSome (eCallD 2 F__law_take (aCons (eVar 1) (aCons (eAddF finF (eVar 3) (eC (.int 1))) aNil))))))
  (fSeq (fIf (tNotF (tru (eCallD 2 F__law_same (aCons (eCallD 3 F_may_know (aCons (eVar 3) (aCons (eVar 5) (aCons (eCallD 2 F__law_given (aCons (eVar 1) (aCons (eVar 11) aNil))) aNil)))) (aCons (eCallD 2 F__law_knows (aCons (eVar 4) (aCons (eVar 11) aNil))) aNil))))) (fRet (eC (.bool false))) fNil)
  (fSeq (fSet 12 C_law_4)
  (fIf (tst (eBin (eqS false) (eCallD 3 F_may_know (aCons (eVar 3) (aCons (eVar 8) (aCons (eVar 12) aNil)))) (eCallD 3 F_may_know (aCons (eVar 3) (aCons (eVar 4) (aCons (eVar 11) aNil)))))) (fRet (eC (.bool false))) fNil))))
def L_law_1 : SF :=
  (fFor (iRg (rg1 (eC (.int 4)))) (gNm 10) B_law_1)
def B_law_2 : SF :=
  (fSeq (fSet 3 (eAddF finF (eC (.int 1)) (eCallD 2 F__law_take (aCons (eVar 1) (aCons (eCallD 2 F__law_pick (aCons (eVar 1) (aCons (eLst finF (aCons (eC (.int 3)) (aCons (eC (.int 6)) (aCons (eC (.int 8)) aNil)))) aNil))) aNil)))))
  (fSeq (fSet 4 (eCallD 2 F__law_structure (aCons (eVar 1) (aCons (eVar 3) aNil))))
  (fSeq (fSet 5 C_law_3)
  (fSeq (fSet 5 (eCallD 2 F__law_given (aCons (eVar 1) (aCons (eVar 5) aNil))))
  (fSeq (fSet 8 (eCallD 2 F__law_dual_sets (aCons (eVar 3) (aCons (eVar 4) aNil))))
  (fSeq (fSet 9 (eTup (aCons (eCallD 2 F_least_sets (aCons (eVar 3) (aCons (eVar 5) aNil))) (aCons (eCallD 2 F_dual_sets (aCons (eVar 3) (aCons (eVar 5) aNil))) (aCons (eCallD 2 F_dual_sets (aCons (eVar 3) (aCons (eVar 8) aNil))) (aCons (eCallD 2 F_is_joined (aCons (eVar 3) (aCons (eVar 5) aNil))) aNil))))))
  (fSeq (fIf (tNotF (tru (eCallD 2 F__law_same (aCons (eVar 9) (aCons (eTup (aCons (eCall tupS (aCons (eVar 4) aNil)) (aCons (eCall tupS (aCons (eVar 8) aNil)) (aCons (eCall tupS (aCons (eVar 4) aNil)) (aCons (eCallD 2 F__law_is_joined (aCons (eVar 3) (aCons (eVar 4) aNil))) aNil))))) aNil))))) (fRet (eC (.bool false))) fNil)
  (fSeq L_law_1
  (fSeq (fSet 14 (eCallD 2 F__law_pick (aCons (eVar 1) (aCons (eLst finF (aCons (eC (.int 0)) (aCons (eC (.int 9)) (aCons (eC .none) (aCons (eC (.bool true)) (aCons (eC (.str "3")) (aCons (eNeg (eC (.int 1))) aNil))))))) aNil))))
  (fSeq (fSet 15 (eCallD 2 F__law_pick (aCons (eVar 1) (aCons (eLst finF (aCons (eC .none) (aCons (eTup aNil) (aCons (eC (.int 5)) (aCons (eLst finF (aCons (eC .none) aNil)) (aCons (eLst finF (aCons (eTup aNil) aNil)) (aCons (eLst finF (aCons (eTup (aCons (eVar 3) aNil)) aNil)) (aCons (eLst finF (aCons (eTup (aCons (eC (.int 0)) (aCons (eC (.bool true)) aNil))) aNil)) (aCons (eLst finF (aCons (eTup (aCons (eNeg (eC (.int 1))) aNil)) aNil)) (aCons (eLst finF (aCons (eC (.str "0")) aNil)) (aCons (eC (.dict [])) aNil))))))))))) aNil))))
  (fSeq (fIf (tNotF (tru (eCallD 2 F__law_same (aCons (eTup (aCons (eCallD 2 F__law_told (aCons (eVar 14) (aCons (eC .none) aNil))) (aCons (eCallD 2 F__law_told (aCons (eVar 3) (aCons (eVar 15) aNil))) aNil))) (aCons (eTup (aCons (eTup (aCons (eC (.str "refused")) (aCons (eC (.str "people")) (aCons (eC (.bool true)) aNil)))) (aCons (eTup (aCons (eC (.str "refused")) (aCons (eC (.str "sets")) (aCons (eC (.bool true)) aNil)))) aNil))) aNil))))) (fRet (eC (.bool false))) fNil)
  (fSeq (fSet 16 (eAddF finF (eVar 4) (eLst finF (aCons (eCallD 2 F__law_pick (aCons (eVar 1) (aCons (eVar 4) aNil))) aNil))))
  (fIf (tOrF (tNotF (tru (eCallD 2 F__law_same (aCons (eCallD 2 F__law_told (aCons (eVar 3) (aCons (eVar 16) aNil))) (aCons (eTup (aCons (eC (.str "refused")) (aCons (eC (.str "within")) (aCons (eC (.bool true)) aNil)))) aNil))))) (tNotF (tru (eCallD 3 F__law_refuses (aCons (eVar 3) (aCons (eVar 4) (aCons (eCallD 2 F__law_pick (aCons (eVar 1) (aCons (eLst finF (aCons (eC .none) (aCons (eTup (aCons (eVar 3) aNil)) (aCons (eTup (aCons (eNeg (eC (.int 1))) aNil)) (aCons (eTup (aCons (eC (.bool true)) aNil)) (aCons (eC (.str "0")) (aCons (eTup (aCons (eC .none) aNil)) (aCons (eC (.int 5)) aNil)))))))) aNil))) aNil))))))) (fRet (eC (.bool false))) fNil)))))))))))))
def L_law_2 : SF :=
  (fFor (iRg (rg1 (eC (.int 3)))) (gNm 2) B_law_2)
def N_law : List Str := ["script", "pool", "turn", "m", "least", "handed", "k", "some", "far", "told", "step", "people", "others", "e", "odd", "rows", "again"]
def b_law : SF :=
  (fSeq (fSet 1 (eCallD 1 F__law_pool (aCons (eVar 0) aNil)))
  (fSeq (fIf (tNotF (tru (eCall0 F__law_always))) (fRet (eC (.bool false))) fNil)
  (fSeq L_law_2
  (fRet (eC (.bool true))))))
def F_law : FD := runD handF 17 b_law
end G85
namespace G85
open PySem L2 DL
structure Txt (P : Program) (K : PySem.W.Frag) (mg : Str → Option Value) : Prop where
  b_all : mg "all" = none
  b_any : mg "any" = none
  b_bool : mg "bool" = none
  b_enumerate : mg "enumerate" = none
  b_int : mg "int" = none
  b_isinstance : mg "isinstance" = none
  b_len : mg "len" = none
  b_list : mg "list" = none
  b_range : mg "range" = none
  b_set : mg "set" = none
  b_sorted : mg "sorted" = none
  b_str : mg "str" = none
  b_tuple : mg "tuple" = none
  k_MOST_PEOPLE : ∃ (u : Value) (v : V), mg "MOST_PEOPLE" = some u ∧ RelV v u ∧ ∀ F, Rp K F v k_MOST_PEOPLE
  k_MOST_SETS : ∃ (u : Value) (v : V), mg "MOST_SETS" = some u ∧ RelV v u ∧ ∀ F, Rp K F v k_MOST_SETS
  x_is_whole : FnX K mg "is_whole" s_is_whole ["value"]
  x_is_row : FnX K mg "is_row" s_is_row ["value"]
  x_sets_of : FnX K mg "sets_of" s_sets_of ["n", "r"]
  x_is_within : FnX K mg "is_within" s_is_within ["one", "other"]
  x_is_joined_told : FnX K mg "is_joined_told" s_is_joined_told ["m", "told"]
  x__law_pool : FnX K mg "_law_pool" s__law_pool ["script"]
  x__law_is_integer : FnX K mg "_law_is_integer" s__law_is_integer ["actual"]
  x__law_sets : FnX K mg "_law_sets" s__law_sets ["n", "r"]
  x__law_knows : FnX K mg "_law_knows" s__law_knows ["least", "people"]
  x__law_is_joined : FnX K mg "_law_is_joined" s__law_is_joined ["m", "least"]
  x_are_people : FnX K mg "are_people" s_are_people ["value", "m"]
  x_knows : FnX K mg "knows" s_knows ["told", "people"]
  x_all_people : FnX K mg "all_people" s_all_people ["m"]
  x__law_all_sets : FnX K mg "_law_all_sets" s__law_all_sets ["n"]
  x_told_sets : FnX K mg "told_sets" s_told_sets ["m", "sets"]
  x_dual_of : FnX K mg "dual_of" s_dual_of ["m", "told"]
  x__law_dual_sets : FnX K mg "_law_dual_sets" s__law_dual_sets ["m", "least"]
  x_least_sets : FnX K mg "least_sets" s_least_sets ["m", "sets"]
  x_may_know : FnX K mg "may_know" s_may_know ["m", "sets", "people"]
  x_dual_sets : FnX K mg "dual_sets" s_dual_sets ["m", "sets"]
  x_is_joined : FnX K mg "is_joined" s_is_joined ["m", "sets"]
  x__law_take : FnX K mg "_law_take" s__law_take ["pool", "many"]
  x__law_pick : FnX K mg "_law_pick" s__law_pick ["pool", "rows"]
  x__law_order : FnX K mg "_law_order" s__law_order ["pool", "many"]
  x__law_given : FnX K mg "_law_given" s__law_given ["pool", "row"]
  x__law_told : FnX K mg "_law_told" s__law_told ["m", "sets"]
  x__law_refuses : FnX K mg "_law_refuses" s__law_refuses ["m", "sets", "people"]
  x__law_structure : FnX K mg "_law_structure" s__law_structure ["pool", "m"]
  x__law_same : FnX K mg "_law_same" s__law_same ["actual", "due"]
  x__law_always : FnX K mg "_law_always" s__law_always []
  e_BadPeople : ExX K mg (cnOf mg) "BadPeople"
  e_BadStructure : ExI P K mg (cnOf mg) "BadStructure" "reason"
  c_BadPeople : CatchX K mg (cnOf mg) "BadPeople" ok_BadPeople
  c_BadStructure : CatchX K mg (cnOf mg) "BadStructure" ok_BadStructure
  i_MatroidError : IsX K mg (cnOf mg) "MatroidError" ok_MatroidError
  f_reason : FieldT K (cnOf mg) "reason" okf_reason
section
variable {P : Program} {w : World} {K : PySem.W.Frag} {mg : Str → Option Value} {base : Heap}
theorem sc_is_whole : FnScope N_is_whole ["value"] (defScope s_is_whole) := ⟨rfl, rfl, rfl, by decide +kernel, rfl, by decide +kernel, by decide +kernel⟩
theorem D_is_whole (T : Txt P K mg) : DefD P w K mg base (miX K mg) 1 "is_whole" 1 F_is_whole :=
  FnX.at (n := 1) T.x_is_whole hand_f sc_is_whole rfl fun f cdv A outer s H E hr tk hp =>
    have sc := sc_is_whole
    (ss_one (s_ret (d_andv rfl (d_isi (T' := "int") rfl (by decide +kernel) (by rfl) T.b_isinstance (dv 0 (pv 0)) (pe_bltn (by rfl) T.b_int (by decide +kernel) rfl)) (d_one (d_notv rfl (d_isi (T' := "bool") rfl (by decide +kernel) (by rfl) T.b_isinstance (dv 0 (pv 0)) (pe_bltn (by rfl) T.b_bool (by decide +kernel) rfl)))))))
theorem sc_is_row : FnScope N_is_row ["value"] (defScope s_is_row) := ⟨rfl, rfl, rfl, by decide +kernel, rfl, by decide +kernel, by decide +kernel⟩
theorem D_is_row (T : Txt P K mg) : DefD P w K mg base (miX K mg) 1 "is_row" 1 F_is_row :=
  FnX.at (n := 1) T.x_is_row hand_f sc_is_row rfl fun f cdv A outer s H E hr tk hp =>
    have sc := sc_is_row
    (ss_one (s_ret (d_isi2 (T1 := "tuple") (T2 := "list") rfl (by decide +kernel) (by decide +kernel) (by rfl) T.b_isinstance (dv 0 (pv 0)) (pe_bltn (by rfl) T.b_tuple (by decide +kernel) rfl) (pe_bltn (by rfl) T.b_list (by decide +kernel) rfl))))
theorem sc_sets_of : FnScope N_sets_of ["n", "r"] (defScope s_sets_of) := ⟨rfl, rfl, rfl, by decide +kernel, rfl, by decide +kernel, by decide +kernel⟩
theorem D_sets_of (T : Txt P K mg) : DefD P w K mg base (miX K mg) 1 "sets_of" 2 F_sets_of :=
  FnX.at (n := 2) T.x_sets_of hand_f sc_sets_of rfl fun f cdv A outer s H E hr tk hp =>
    have sc := sc_sets_of
    (ss_cons (s_set (i := 2) sc.nd rfl (by first | exact Or.inl rfl | exact Or.inr rfl) (d_lst fin_f (da_cons (d_tup da_nil) da_nil)))
  (ss_cons (s_for hp rfl (i_rg1 (by rfl) T.b_range (dv 1 (pv 1))) (g_nm (i := 3) sc.nd rfl (by first | exact Or.inl rfl | exact Or.inr rfl)) (ss_cons (s_set (i := 4) sc.nd rfl (by first | exact Or.inl rfl | exact Or.inr rfl) (d_lst fin_f da_nil))
  (ss_cons (s_for hp rfl (i_src rfl (dv 2 (pv 2))) (g_nm (i := 5) sc.nd rfl (by first | exact Or.inl rfl | exact Or.inr rfl)) (ss_cons (s_set (i := 6) sc.nd rfl (by first | exact Or.inl rfl | exact Or.inr rfl) (d_if (t_tru rfl (dv 5 (pv 5))) (d_add rfl fin_f (d_ix rfl (dv 5 (pv 5)) (d_neg d_int)) d_int) d_int))
  (ss_one (s_set (i := 4) sc.nd rfl (by first | exact Or.inl rfl | exact Or.inr rfl) (d_add rfl fin_f (dv 4 (pv 4)) (d_lc fin_f (own := ([("e", 7)] : List (Str × Nat))) (by decide) rfl sc.nd (i_rg2 (by rfl) T.b_range (dv 6 (pv 6)) (dv 0 (pv 0))) (blkOk_by (by kernel_rfl)) (fun _ _ _ _ _ => (g_nm (i := 7) sc.nd rfl (by first | exact Or.inl rfl | exact Or.inr rfl))) (fun _ _ _ _ _ => ts_nil) (fun _ _ _ _ _ => (d_add rfl fin_f (dv 5 (pv 5)) (d_tup (da_cons (dv 7 (pv 7)) da_nil))))))))))
  (ss_one (s_set (i := 2) sc.nd rfl (by first | exact Or.inl rfl | exact Or.inr rfl) (d_list rfl fin_f (by rfl) T.b_list (dv 4 (pv 4))))))))
  (ss_one (s_ret (dv 2 (pv 2))))))
theorem sc_is_within : FnScope N_is_within ["one", "other"] (defScope s_is_within) := ⟨rfl, rfl, rfl, by decide +kernel, rfl, by decide +kernel, by decide +kernel⟩
theorem D_is_within (T : Txt P K mg) : DefD P w K mg base (miX K mg) 1 "is_within" 2 F_is_within :=
  FnX.at (n := 2) T.x_is_within hand_f sc_is_within rfl fun f cdv A outer s H E hr tk hp =>
    have sc := sc_is_within
    (ss_one (s_ret (d_all rfl rfl (by rfl) T.b_all (d_lc fin_f (own := ([("e", 2)] : List (Str × Nat))) (by decide) rfl sc.nd (i_src rfl (dv 0 (pv 0))) (blkOk_by (by kernel_rfl)) (fun _ _ _ _ _ => (g_nm (i := 2) sc.nd rfl (by first | exact Or.inl rfl | exact Or.inr rfl))) (fun _ _ _ _ _ => ts_nil) (fun _ _ _ _ _ => (d_c (c_in rfl hr.u65) (dv 2 (pv 2)) (dv 1 (pv 1))))))))
theorem sc_is_joined_told : FnScope N_is_joined_told ["m", "told"] (defScope s_is_joined_told) := ⟨rfl, rfl, rfl, by decide +kernel, rfl, by decide +kernel, by decide +kernel⟩
theorem D_is_joined_told (T : Txt P K mg) : DefD P w K mg base (miX K mg) 1 "is_joined_told" 2 F_is_joined_told :=
  FnX.at (n := 2) T.x_is_joined_told hand_f sc_is_joined_told rfl fun f cdv A outer s H E hr tk hp =>
    have sc := sc_is_joined_told
    (ss_one (s_ret (d_all rfl rfl (by rfl) T.b_all (d_lc fin_f (own := ([("e", 3)] : List (Str × Nat))) (by decide) rfl sc.nd (i_rg1 (by rfl) T.b_range (dv 0 (pv 0))) (blkOk_by (by kernel_rfl)) (fun _ _ _ _ _ => (g_nm (i := 3) sc.nd rfl (by first | exact Or.inl rfl | exact Or.inr rfl))) (fun _ _ _ _ _ => ts_nil) (fun _ _ _ _ _ => (d_any rfl rfl (by rfl) T.b_any (d_lc fin_f (own := ([("some", 2)] : List (Str × Nat))) (by decide) rfl sc.nd (i_src rfl (dv 1 (pv 1))) (blkOk_by (by kernel_rfl)) (fun _ _ _ _ _ => (g_nm (i := 2) sc.nd rfl (by first | exact Or.inl rfl | exact Or.inr rfl))) (fun _ _ _ _ _ => ts_nil) (fun _ _ _ _ _ => (d_c (c_in rfl hr.u65) (dv 3 (pv 3)) (dv 2 (pv 2)))))))))))
theorem sc__law_pool : FnScope N__law_pool ["script"] (defScope s__law_pool) := ⟨rfl, rfl, rfl, by decide +kernel, rfl, by decide +kernel, by decide +kernel⟩
theorem D__law_pool (T : Txt P K mg) : DefD P w K mg base (miX K mg) 1 "_law_pool" 1 F__law_pool :=
  FnX.at (n := 1) T.x__law_pool hand_c sc__law_pool rfl fun f cdv A outer s H E hr tk hp =>
    have sc := sc__law_pool
    (ss_one (s_ret (d_lst fin_c (da_cons (d_lc fin_f (own := ([("cell", 1)] : List (Str × Nat))) (by decide) rfl sc.nd (i_src rfl (dv 0 (pv 0))) (blkOk_by (by kernel_rfl)) (fun _ _ _ _ _ => (g_nm (i := 1) sc.nd rfl (by first | exact Or.inl rfl | exact Or.inr rfl))) (fun _ _ _ _ _ => ts_nil) (fun _ _ _ _ _ => (d_if (t_c c_ge (dv 1 (pv 1)) d_int) (d_mul fin_f d_int (dv 1 (pv 1))) (d_sub (d_mul fin_f (d_neg d_int) (dv 1 (pv 1))) d_int)))) (da_cons d_int (da_cons d_int (da_cons d_int da_nil)))))))
theorem sc__law_is_integer : FnScope N__law_is_integer ["actual"] (defScope s__law_is_integer) := ⟨rfl, rfl, rfl, by decide +kernel, rfl, by decide +kernel, by decide +kernel⟩
theorem D__law_is_integer (T : Txt P K mg) : DefD P w K mg base (miX K mg) 1 "_law_is_integer" 1 F__law_is_integer :=
  FnX.at (n := 1) T.x__law_is_integer hand_f sc__law_is_integer rfl fun f cdv A outer s H E hr tk hp =>
    have sc := sc__law_is_integer
    (ss_one (s_ret (d_andv rfl (d_isi (T' := "int") rfl (by decide +kernel) (by rfl) T.b_isinstance (dv 0 (pv 0)) (pe_bltn (by rfl) T.b_int (by decide +kernel) rfl)) (d_one (d_notv rfl (d_isi (T' := "bool") rfl (by decide +kernel) (by rfl) T.b_isinstance (dv 0 (pv 0)) (pe_bltn (by rfl) T.b_bool (by decide +kernel) rfl)))))))
theorem sc__law_sets : FnScope N__law_sets ["n", "r"] (defScope s__law_sets) := ⟨rfl, rfl, rfl, by decide +kernel, rfl, by decide +kernel, by decide +kernel⟩
theorem D__law_sets (T : Txt P K mg) : DefD P w K mg base (miX K mg) 1 "_law_sets" 2 F__law_sets :=
  FnX.at (n := 2) T.x__law_sets hand_f sc__law_sets rfl fun f cdv A outer s H E hr tk hp =>
    have sc := sc__law_sets
    (ss_cons (s_set (i := 2) sc.nd rfl (by first | exact Or.inl rfl | exact Or.inr rfl) (d_lst fin_f (da_cons (d_tup da_nil) da_nil)))
  (ss_cons (s_for hp rfl (i_rg1 (by rfl) T.b_range (dv 1 (pv 1))) (g_nm (i := 3) sc.nd rfl (by first | exact Or.inl rfl | exact Or.inr rfl)) (ss_cons (s_set (i := 4) sc.nd rfl (by first | exact Or.inl rfl | exact Or.inr rfl) (d_lst fin_f da_nil))
  (ss_cons (s_for hp rfl (i_src rfl (dv 2 (pv 2))) (g_nm (i := 5) sc.nd rfl (by first | exact Or.inl rfl | exact Or.inr rfl)) (ss_one (s_set (i := 4) sc.nd rfl (by first | exact Or.inl rfl | exact Or.inr rfl) (d_add rfl fin_f (dv 4 (pv 4)) (d_lc fin_f (own := ([("e", 6)] : List (Str × Nat))) (by decide) rfl sc.nd (i_rg2 (by rfl) T.b_range (d_if (t_tru rfl (dv 5 (pv 5))) (d_add rfl fin_f (d_ix rfl (dv 5 (pv 5)) (d_neg d_int)) d_int) d_int) (dv 0 (pv 0))) (blkOk_by (by kernel_rfl)) (fun _ _ _ _ _ => (g_nm (i := 6) sc.nd rfl (by first | exact Or.inl rfl | exact Or.inr rfl))) (fun _ _ _ _ _ => ts_nil) (fun _ _ _ _ _ => (d_add rfl fin_f (dv 5 (pv 5)) (d_tup (da_cons (dv 6 (pv 6)) da_nil)))))))))
  (ss_one (s_set (i := 2) sc.nd rfl (by first | exact Or.inl rfl | exact Or.inr rfl) (dv 4 (pv 4)))))))
  (ss_one (s_ret (dv 2 (pv 2))))))
theorem sc__law_knows : FnScope N__law_knows ["least", "people"] (defScope s__law_knows) := ⟨rfl, rfl, rfl, by decide +kernel, rfl, by decide +kernel, by decide +kernel⟩
theorem D__law_knows (T : Txt P K mg) : DefD P w K mg base (miX K mg) 1 "_law_knows" 2 F__law_knows :=
  FnX.at (n := 2) T.x__law_knows hand_f sc__law_knows rfl fun f cdv A outer s H E hr tk hp =>
    have sc := sc__law_knows
    (ss_one (s_ret (d_any rfl rfl (by rfl) T.b_any (d_lc fin_f (own := ([("some", 3)] : List (Str × Nat))) (by decide) rfl sc.nd (i_src rfl (dv 0 (pv 0))) (blkOk_by (by kernel_rfl)) (fun _ _ _ _ _ => (g_nm (i := 3) sc.nd rfl (by first | exact Or.inl rfl | exact Or.inr rfl))) (fun _ _ _ _ _ => ts_nil) (fun _ _ _ _ _ => (d_all rfl rfl (by rfl) T.b_all (d_lc fin_f (own := ([("e", 2)] : List (Str × Nat))) (by decide) rfl sc.nd (i_src rfl (dv 3 (pv 3))) (blkOk_by (by kernel_rfl)) (fun _ _ _ _ _ => (g_nm (i := 2) sc.nd rfl (by first | exact Or.inl rfl | exact Or.inr rfl))) (fun _ _ _ _ _ => ts_nil) (fun _ _ _ _ _ => (d_c (c_in rfl hr.u65) (dv 2 (pv 2)) (dv 1 (pv 1)))))))))))
theorem sc__law_is_joined : FnScope N__law_is_joined ["m", "least"] (defScope s__law_is_joined) := ⟨rfl, rfl, rfl, by decide +kernel, rfl, by decide +kernel, by decide +kernel⟩
theorem D__law_is_joined (T : Txt P K mg) : DefD P w K mg base (miX K mg) 1 "_law_is_joined" 2 F__law_is_joined :=
  FnX.at (n := 2) T.x__law_is_joined hand_f sc__law_is_joined rfl fun f cdv A outer s H E hr tk hp =>
    have sc := sc__law_is_joined
    (ss_one (s_ret (d_all rfl rfl (by rfl) T.b_all (d_lc fin_f (own := ([("e", 3)] : List (Str × Nat))) (by decide) rfl sc.nd (i_rg1 (by rfl) T.b_range (dv 0 (pv 0))) (blkOk_by (by kernel_rfl)) (fun _ _ _ _ _ => (g_nm (i := 3) sc.nd rfl (by first | exact Or.inl rfl | exact Or.inr rfl))) (fun _ _ _ _ _ => ts_nil) (fun _ _ _ _ _ => (d_any rfl rfl (by rfl) T.b_any (d_lc fin_f (own := ([("some", 2)] : List (Str × Nat))) (by decide) rfl sc.nd (i_src rfl (dv 1 (pv 1))) (blkOk_by (by kernel_rfl)) (fun _ _ _ _ _ => (g_nm (i := 2) sc.nd rfl (by first | exact Or.inl rfl | exact Or.inr rfl))) (fun _ _ _ _ _ => ts_nil) (fun _ _ _ _ _ => (d_c (c_in rfl hr.u65) (dv 3 (pv 3)) (dv 2 (pv 2)))))))))))
theorem sc_are_people : FnScope N_are_people ["value", "m"] (defScope s_are_people) := ⟨rfl, rfl, rfl, by decide +kernel, rfl, by decide +kernel, by decide +kernel⟩
theorem D_are_people (T : Txt P K mg) : DefD P w K mg base (miX K mg) 2 "are_people" 2 F_are_people :=
  FnX.at (n := 2) T.x_are_people hand_f sc_are_people rfl fun f cdv A outer s H E hr tk hp =>
    have sc := sc_are_people
    (ss_cons (s_if (t_w (w_or (t_not (t_tru rfl (d_call (D_is_row T) (hr.mono (by first | omega | (simp only [Nat.add_eq]; omega))) tk (by rfl) (da_cons (dv 0 (pv 0)) da_nil)))) (w_or1 (t_not (t_tru rfl (d_all rfl rfl (by rfl) T.b_all (d_lc fin_f (own := ([("e", 2)] : List (Str × Nat))) (by decide) rfl sc.nd (i_src rfl (dv 0 (pv 0))) (blkOk_by (by kernel_rfl)) (fun _ _ _ _ _ => (g_nm (i := 2) sc.nd rfl (by first | exact Or.inl rfl | exact Or.inr rfl))) (fun _ _ _ _ _ => ts_nil) (fun _ _ _ _ _ => (d_andv rfl (d_call (D_is_whole T) (hr.mono (by first | omega | (simp only [Nat.add_eq]; omega))) takes0 (by rfl) (da_cons (dv 2 (pv 2)) da_nil)) (d_one (d_chain c_le c_lt d_int (dv 2 (pv 2)) (dv 1 (pv 1))))))))))))) (ss_one (s_ret d_bl)) ss_nil)
  (ss_one (s_ret (d_c (c_eq rfl hr.u64) (d_lenSet rfl rfl (by rfl) T.b_len (by rfl) T.b_set (dv 0 (pv 0))) (d_len rfl (by rfl) T.b_len (dv 0 (pv 0)))))))
theorem sc_knows : FnScope N_knows ["told", "people"] (defScope s_knows) := ⟨rfl, rfl, rfl, by decide +kernel, rfl, by decide +kernel, by decide +kernel⟩
theorem D_knows (T : Txt P K mg) : DefD P w K mg base (miX K mg) 2 "knows" 2 F_knows :=
  FnX.at (n := 2) T.x_knows hand_f sc_knows rfl fun f cdv A outer s H E hr tk hp =>
    have sc := sc_knows
    (ss_one (s_ret (d_any rfl rfl (by rfl) T.b_any (d_lc fin_f (own := ([("some", 2)] : List (Str × Nat))) (by decide) rfl sc.nd (i_src rfl (dv 0 (pv 0))) (blkOk_by (by kernel_rfl)) (fun _ _ _ _ _ => (g_nm (i := 2) sc.nd rfl (by first | exact Or.inl rfl | exact Or.inr rfl))) (fun _ _ _ _ _ => ts_nil) (fun _ _ _ _ _ => (d_call (D_is_within T) (hr.mono (by first | omega | (simp only [Nat.add_eq]; omega))) takes0 (by rfl) (da_cons (dv 2 (pv 2)) (da_cons (dv 1 (pv 1)) da_nil))))))))
theorem sc_all_people : FnScope N_all_people ["m"] (defScope s_all_people) := ⟨rfl, rfl, rfl, by decide +kernel, rfl, by decide +kernel, by decide +kernel⟩
theorem D_all_people (T : Txt P K mg) : DefD P w K mg base (miX K mg) 2 "all_people" 1 F_all_people :=
  FnX.at (n := 1) T.x_all_people hand_f sc_all_people rfl fun f cdv A outer s H E hr tk hp =>
    have sc := sc_all_people
    (ss_one (s_ret (d_lc2 fin_f (own := ([("many", 1), ("some", 2)] : List (Str × Nat))) (vs1 := ([2] : List Nat)) (by decide) (by decide) (by decide) rfl sc.nd (i_rg1 (by rfl) T.b_range (d_add rfl fin_f (dv 0 (pv 0)) d_int)) (blkOk_by (by kernel_rfl)) (fun _ _ _ _ _ => (g_nm (i := 1) sc.nd rfl (by first | exact Or.inl rfl | exact Or.inr rfl))) (fun _ _ _ _ _ => ts_nil) (fun _ _ _ _ _ => (i_src rfl (d_call (D_sets_of T) (hr.mono (by first | omega | (simp only [Nat.add_eq]; omega))) takes0 (by rfl) (da_cons (dv 0 (pv 0)) (da_cons (dv 1 (pv 1)) da_nil))))) (fun _ _ _ _ _ => (g_nm (i := 2) sc.nd rfl (by first | exact Or.inl rfl | exact Or.inr rfl))) (fun _ _ _ _ _ => ts_nil) (fun _ _ _ _ _ => (dv 2 (pv 2))))))
theorem sc__law_all_sets : FnScope N__law_all_sets ["n"] (defScope s__law_all_sets) := ⟨rfl, rfl, rfl, by decide +kernel, rfl, by decide +kernel, by decide +kernel⟩
theorem D__law_all_sets (T : Txt P K mg) : DefD P w K mg base (miX K mg) 2 "_law_all_sets" 1 F__law_all_sets :=
  FnX.at (n := 1) T.x__law_all_sets hand_f sc__law_all_sets rfl fun f cdv A outer s H E hr tk hp =>
    have sc := sc__law_all_sets
    (ss_cons (s_set (i := 1) sc.nd rfl (by first | exact Or.inl rfl | exact Or.inr rfl) (d_lst fin_f da_nil))
  (ss_cons (s_for hp rfl (i_rg1 (by rfl) T.b_range (d_add rfl fin_f (dv 0 (pv 0)) d_int)) (g_nm (i := 2) sc.nd rfl (by first | exact Or.inl rfl | exact Or.inr rfl)) (ss_one (s_set (i := 1) sc.nd rfl (by first | exact Or.inl rfl | exact Or.inr rfl) (d_add rfl fin_f (dv 1 (pv 1)) (d_call (D__law_sets T) (hr.mono (by first | omega | (simp only [Nat.add_eq]; omega))) tk (by rfl) (da_cons (dv 0 (pv 0)) (da_cons (dv 2 (pv 2)) da_nil)))))))
  (ss_one (s_ret (dv 1 (pv 1))))))
theorem sc_told_sets : FnScope N_told_sets ["m", "sets"] (defScope s_told_sets) := ⟨rfl, rfl, rfl, by decide +kernel, rfl, by decide +kernel, by decide +kernel⟩
theorem D_told_sets (T : Txt P K mg) : DefD P w K mg base (miX K mg) 3 "told_sets" 2 F_told_sets :=
  FnX.at (n := 2) T.x_told_sets hand_f sc_told_sets rfl fun f cdv A outer s H E hr tk hp =>
    have sc := sc_told_sets
    (ss_cons (s_if (t_w (w_or (t_not (t_tru rfl (d_call (D_is_whole T) (hr.mono (by first | omega | (simp only [Nat.add_eq]; omega))) tk (by rfl) (da_cons (dv 0 (pv 0)) da_nil)))) (w_or1 (t_not (t_chain c_le c_le d_int (dv 0 (pv 0)) (d_globD (by rfl) T.k_MOST_PEOPLE)))))) (ss_one (s_raiseF rfl rfl tk T.e_BadStructure hr (by first | decide | omega | (simp only [Nat.add_eq]; omega)) (by rfl) d_str)) ss_nil)
  (ss_cons (s_if (t_w (w_or (t_not (t_tru rfl (d_call (D_is_row T) (hr.mono (by first | omega | (simp only [Nat.add_eq]; omega))) tk (by rfl) (da_cons (dv 1 (pv 1)) da_nil)))) (w_or1 (t_not (t_chain c_le c_le d_int (d_len rfl (by rfl) T.b_len (dv 1 (pv 1))) (d_globD (by rfl) T.k_MOST_SETS)))))) (ss_one (s_raiseF rfl rfl tk T.e_BadStructure hr (by first | decide | omega | (simp only [Nat.add_eq]; omega)) (by rfl) d_str)) ss_nil)
  (ss_cons (s_if (t_not (t_tru rfl (d_all rfl rfl (by rfl) T.b_all (d_lc fin_f (own := ([("some", 2)] : List (Str × Nat))) (by decide) rfl sc.nd (i_src rfl (dv 1 (pv 1))) (blkOk_by (by kernel_rfl)) (fun _ _ _ _ _ => (g_nm (i := 2) sc.nd rfl (by first | exact Or.inl rfl | exact Or.inr rfl))) (fun _ _ _ _ _ => ts_nil) (fun _ _ _ _ _ => (d_andv rfl (d_call (D_are_people T) (hr.mono (by first | omega | (simp only [Nat.add_eq]; omega))) takes0 (by rfl) (da_cons (dv 2 (pv 2)) (da_cons (dv 0 (pv 0)) da_nil))) (d_one (d_c c_gt (d_len rfl (by rfl) T.b_len (dv 2 (pv 2))) d_int)))))))) (ss_one (s_raiseF rfl rfl tk T.e_BadStructure hr (by first | decide | omega | (simp only [Nat.add_eq]; omega)) (by rfl) d_str)) ss_nil)
  (ss_cons (s_setLc fin_f (i := 3) (own := ([("some", 2)] : List (Str × Nat))) (by decide) rfl sc.nd rfl rfl (sw_true rfl rfl rfl (by kernel_rfl)) (i_src rfl (dv 1 (pv 1))) (blkOk_by (by kernel_rfl)) (fun _ _ _ _ _ => (g_nm (i := 2) sc.nd rfl (by first | exact Or.inl rfl | exact Or.inr rfl))) (fun _ _ _ _ _ => ts_nil) (fun _ _ _ _ _ => (d_tuple rfl (by rfl) T.b_tuple (d_sorted rfl hr.u65 fin_f (by rfl) T.b_sorted (dv 2 (pv 2))))))
  (ss_cons (s_for hp rfl (i_enum rfl (by rfl) T.b_enumerate (dv 3 (pv 3))) (g_tup rfl rfl (gs_cons (g_nm (i := 4) sc.nd rfl (by first | exact Or.inl rfl | exact Or.inr rfl)) (gs_cons (g_nm (i := 2) sc.nd rfl (by first | exact Or.inl rfl | exact Or.inr rfl)) gs_nil))) (ss_one (s_if (t_tru rfl (d_any rfl rfl (by rfl) T.b_any (d_lc fin_f (own := ([("far", 5), ("other", 6)] : List (Str × Nat))) (by decide) rfl sc.nd (i_enum rfl (by rfl) T.b_enumerate (dv 3 (pv 3))) (blkOk_by (by kernel_rfl)) (fun _ _ _ _ _ => (g_tup rfl rfl (gs_cons (g_nm (i := 5) sc.nd rfl (by first | exact Or.inl rfl | exact Or.inr rfl)) (gs_cons (g_nm (i := 6) sc.nd rfl (by first | exact Or.inl rfl | exact Or.inr rfl)) gs_nil)))) (fun _ _ _ _ _ => (ts_one (t_c (c_ne rfl hr.u64) (dv 5 (pv 5)) (dv 4 (pv 4))))) (fun _ _ _ _ _ => (d_call (D_is_within T) (hr.mono (by first | omega | (simp only [Nat.add_eq]; omega))) takes0 (by rfl) (da_cons (dv 2 (pv 2)) (da_cons (dv 6 (pv 6)) da_nil))))))) (ss_one (s_raiseF rfl rfl tk T.e_BadStructure hr (by first | decide | omega | (simp only [Nat.add_eq]; omega)) (by rfl) d_str)) ss_nil)))
  (ss_one (s_ret (d_sorted rfl hr.u65 fin_f (by rfl) T.b_sorted (dv 3 (pv 3))))))))))
theorem sc_dual_of : FnScope N_dual_of ["m", "told"] (defScope s_dual_of) := ⟨rfl, rfl, rfl, by decide +kernel, rfl, by decide +kernel, by decide +kernel⟩
theorem D_dual_of (T : Txt P K mg) : DefD P w K mg base (miX K mg) 3 "dual_of" 2 F_dual_of :=
  FnX.at (n := 2) T.x_dual_of hand_f sc_dual_of rfl fun f cdv A outer s H E hr tk hp =>
    have sc := sc_dual_of
    (ss_cons (s_set (i := 2) sc.nd rfl (by first | exact Or.inl rfl | exact Or.inr rfl) (d_lst fin_c da_nil))
  (ss_cons (s_for hp rfl (i_src rfl (d_call (D_all_people T) (hr.mono (by first | omega | (simp only [Nat.add_eq]; omega))) tk (by rfl) (da_cons (dv 0 (pv 0)) da_nil))) (g_nm (i := 3) sc.nd rfl (by first | exact Or.inl rfl | exact Or.inr rfl)) (ss_cons (s_set (i := 4) sc.nd rfl (by first | exact Or.inl rfl | exact Or.inr rfl) (d_all rfl rfl (by rfl) T.b_all (d_lc fin_f (own := ([("other", 6)] : List (Str × Nat))) (by decide) rfl sc.nd (i_src rfl (dv 1 (pv 1))) (blkOk_by (by kernel_rfl)) (fun _ _ _ _ _ => (g_nm (i := 6) sc.nd rfl (by first | exact Or.inl rfl | exact Or.inr rfl))) (fun _ _ _ _ _ => ts_nil) (fun _ _ _ _ _ => (d_any rfl rfl (by rfl) T.b_any (d_lc fin_f (own := ([("e", 5)] : List (Str × Nat))) (by decide) rfl sc.nd (i_src rfl (dv 6 (pv 6))) (blkOk_by (by kernel_rfl)) (fun _ _ _ _ _ => (g_nm (i := 5) sc.nd rfl (by first | exact Or.inl rfl | exact Or.inr rfl))) (fun _ _ _ _ _ => ts_nil) (fun _ _ _ _ _ => (d_c (c_in rfl hr.u65) (dv 5 (pv 5)) (dv 3 (pv 3))))))))))
  (ss_one (s_if (t_w (w_and (t_tru rfl (dv 4 (pv 4))) (w_and1 (t_not (t_tru rfl (d_any rfl rfl (by rfl) T.b_any (d_lc fin_f (own := ([("less", 7)] : List (Str × Nat))) (by decide) rfl sc.nd (i_src rfl (dv 2 (pv 2))) (blkOk_by (by kernel_rfl)) (fun _ _ _ _ _ => (g_nm (i := 7) sc.nd rfl (by first | exact Or.inl rfl | exact Or.inr rfl))) (fun _ _ _ _ _ => ts_nil) (fun _ _ _ _ _ => (d_call (D_is_within T) (hr.mono (by first | omega | (simp only [Nat.add_eq]; omega))) takes0 (by rfl) (da_cons (dv 7 (pv 7)) (da_cons (dv 3 (pv 3)) da_nil))))))))))) (ss_one (s_expr (d_append rfl (dv 2 (pv 2)) (dv 3 (pv 3))))) ss_nil))))
  (ss_one (s_ret (d_sorted rfl hr.u65 fin_f (by rfl) T.b_sorted (dv 2 (pv 2)))))))
theorem sc__law_dual_sets : FnScope N__law_dual_sets ["m", "least"] (defScope s__law_dual_sets) := ⟨rfl, rfl, rfl, by decide +kernel, rfl, by decide +kernel, by decide +kernel⟩
theorem D__law_dual_sets (T : Txt P K mg) : DefD P w K mg base (miX K mg) 3 "_law_dual_sets" 2 F__law_dual_sets :=
  FnX.at (n := 2) T.x__law_dual_sets hand_f sc__law_dual_sets rfl fun f cdv A outer s H E hr tk hp =>
    have sc := sc__law_dual_sets
    (ss_cons (s_set (i := 2) sc.nd rfl (by first | exact Or.inl rfl | exact Or.inr rfl) (d_lst fin_c da_nil))
  (ss_cons (s_for hp rfl (i_src rfl (d_call (D__law_all_sets T) (hr.mono (by first | omega | (simp only [Nat.add_eq]; omega))) tk (by rfl) (da_cons (dv 0 (pv 0)) da_nil))) (g_nm (i := 3) sc.nd rfl (by first | exact Or.inl rfl | exact Or.inr rfl)) (ss_cons (s_set (i := 4) sc.nd rfl (by first | exact Or.inl rfl | exact Or.inr rfl) (d_all rfl rfl (by rfl) T.b_all (d_lc fin_f (own := ([("other", 6)] : List (Str × Nat))) (by decide) rfl sc.nd (i_src rfl (dv 1 (pv 1))) (blkOk_by (by kernel_rfl)) (fun _ _ _ _ _ => (g_nm (i := 6) sc.nd rfl (by first | exact Or.inl rfl | exact Or.inr rfl))) (fun _ _ _ _ _ => ts_nil) (fun _ _ _ _ _ => (d_any rfl rfl (by rfl) T.b_any (d_lc fin_f (own := ([("e", 5)] : List (Str × Nat))) (by decide) rfl sc.nd (i_src rfl (dv 6 (pv 6))) (blkOk_by (by kernel_rfl)) (fun _ _ _ _ _ => (g_nm (i := 5) sc.nd rfl (by first | exact Or.inl rfl | exact Or.inr rfl))) (fun _ _ _ _ _ => ts_nil) (fun _ _ _ _ _ => (d_c (c_in rfl hr.u65) (dv 5 (pv 5)) (dv 3 (pv 3))))))))))
  (ss_one (s_if (t_w (w_and (t_tru rfl (dv 4 (pv 4))) (w_and1 (t_not (t_tru rfl (d_any rfl rfl (by rfl) T.b_any (d_lc fin_f (own := ([("less", 7)] : List (Str × Nat))) (by decide) rfl sc.nd (i_src rfl (dv 2 (pv 2))) (blkOk_by (by kernel_rfl)) (fun _ _ _ _ _ => (g_nm (i := 7) sc.nd rfl (by first | exact Or.inl rfl | exact Or.inr rfl))) (fun _ _ _ _ _ => ts_nil) (fun _ _ _ _ _ => (d_all rfl rfl (by rfl) T.b_all (d_lc fin_f (own := ([("e", 5)] : List (Str × Nat))) (by decide) rfl sc.nd (i_src rfl (dv 7 (pv 7))) (blkOk_by (by kernel_rfl)) (fun _ _ _ _ _ => (g_nm (i := 5) sc.nd rfl (by first | exact Or.inl rfl | exact Or.inr rfl))) (fun _ _ _ _ _ => ts_nil) (fun _ _ _ _ _ => (d_c (c_in rfl hr.u65) (dv 5 (pv 5)) (dv 3 (pv 3)))))))))))))) (ss_one (s_expr (d_append rfl (dv 2 (pv 2)) (dv 3 (pv 3))))) ss_nil))))
  (ss_one (s_ret (d_sorted rfl hr.u65 fin_f (by rfl) T.b_sorted (dv 2 (pv 2)))))))
theorem sc_least_sets : FnScope N_least_sets ["m", "sets"] (defScope s_least_sets) := ⟨rfl, rfl, rfl, by decide +kernel, rfl, by decide +kernel, by decide +kernel⟩
theorem D_least_sets (T : Txt P K mg) : DefD P w K mg base (miX K mg) 4 "least_sets" 2 F_least_sets :=
  FnX.at (n := 2) T.x_least_sets hand_f sc_least_sets rfl fun f cdv A outer s H E hr tk hp =>
    have sc := sc_least_sets
    (ss_one (s_ret (d_tuple rfl (by rfl) T.b_tuple (d_call (D_told_sets T) (hr.mono (by first | omega | (simp only [Nat.add_eq]; omega))) tk (by rfl) (da_cons (dv 0 (pv 0)) (da_cons (dv 1 (pv 1)) da_nil))))))
theorem sc_may_know : FnScope N_may_know ["m", "sets", "people"] (defScope s_may_know) := ⟨rfl, rfl, rfl, by decide +kernel, rfl, by decide +kernel, by decide +kernel⟩
theorem D_may_know (T : Txt P K mg) : DefD P w K mg base (miX K mg) 4 "may_know" 3 F_may_know :=
  FnX.at (n := 3) T.x_may_know hand_f sc_may_know rfl fun f cdv A outer s H E hr tk hp =>
    have sc := sc_may_know
    (ss_cons (s_set (i := 3) sc.nd rfl (by first | exact Or.inl rfl | exact Or.inr rfl) (d_call (D_told_sets T) (hr.mono (by first | omega | (simp only [Nat.add_eq]; omega))) tk (by rfl) (da_cons (dv 0 (pv 0)) (da_cons (dv 1 (pv 1)) da_nil))))
  (ss_cons (s_if (t_not (t_tru rfl (d_call (D_are_people T) (hr.mono (by first | omega | (simp only [Nat.add_eq]; omega))) tk (by rfl) (da_cons (dv 2 (pv 2)) (da_cons (dv 0 (pv 0)) da_nil))))) (ss_one (s_raise rfl tk T.e_BadPeople (by rfl))) ss_nil)
  (ss_one (s_ret (d_call (D_knows T) (hr.mono (by first | omega | (simp only [Nat.add_eq]; omega))) tk (by rfl) (da_cons (dv 3 (pv 3)) (da_cons (dv 2 (pv 2)) da_nil)))))))
theorem sc_dual_sets : FnScope N_dual_sets ["m", "sets"] (defScope s_dual_sets) := ⟨rfl, rfl, rfl, by decide +kernel, rfl, by decide +kernel, by decide +kernel⟩
theorem D_dual_sets (T : Txt P K mg) : DefD P w K mg base (miX K mg) 4 "dual_sets" 2 F_dual_sets :=
  FnX.at (n := 2) T.x_dual_sets hand_f sc_dual_sets rfl fun f cdv A outer s H E hr tk hp =>
    have sc := sc_dual_sets
    (ss_one (s_ret (d_tuple rfl (by rfl) T.b_tuple (d_call (D_dual_of T) (hr.mono (by first | omega | (simp only [Nat.add_eq]; omega))) tk (by rfl) (da_cons (dv 0 (pv 0)) (da_cons (d_call (D_told_sets T) (hr.mono (by first | omega | (simp only [Nat.add_eq]; omega))) tk (by rfl) (da_cons (dv 0 (pv 0)) (da_cons (dv 1 (pv 1)) da_nil))) da_nil))))))
theorem sc_is_joined : FnScope N_is_joined ["m", "sets"] (defScope s_is_joined) := ⟨rfl, rfl, rfl, by decide +kernel, rfl, by decide +kernel, by decide +kernel⟩
theorem D_is_joined (T : Txt P K mg) : DefD P w K mg base (miX K mg) 4 "is_joined" 2 F_is_joined :=
  FnX.at (n := 2) T.x_is_joined hand_f sc_is_joined rfl fun f cdv A outer s H E hr tk hp =>
    have sc := sc_is_joined
    (ss_one (s_ret (d_call (D_is_joined_told T) (hr.mono (by first | omega | (simp only [Nat.add_eq]; omega))) tk (by rfl) (da_cons (dv 0 (pv 0)) (da_cons (d_call (D_told_sets T) (hr.mono (by first | omega | (simp only [Nat.add_eq]; omega))) tk (by rfl) (da_cons (dv 0 (pv 0)) (da_cons (dv 1 (pv 1)) da_nil))) da_nil)))))
theorem sc__law_take : FnScope N__law_take ["pool", "many"] (defScope s__law_take) := ⟨rfl, rfl, rfl, by decide +kernel, rfl, by decide +kernel, by decide +kernel⟩
theorem D__law_take_at (T : Txt P K mg) : ∀ m : Nat, DefD P w K mg base (miX K mg) (1 + m) "_law_take" 2 (F__law_take_at m)
  | 0 => FnX.no T.x__law_take rfl
  | m + 1 => FnX.at (n := 2) T.x__law_take hand_f sc__law_take rfl fun f cdv A outer s H E hr tk hp =>
    have sc := sc__law_take
    have IH := D__law_take_at T m
    (ss_cons (s_if (t_c c_gt (d_ix rfl (dv 0 (pv 0)) d_int) d_int) (ss_cons (s_set (i := 2) sc.nd rfl (by first | exact Or.inl rfl | exact Or.inr rfl) (d_mod (d_int1 (by rfl) T.b_int (d_ix rfl (dv 0 (pv 0)) d_int)) (dv 1 (pv 1))))
  (ss_cons (s_asg (d_div (d_ix rfl (dv 0 (pv 0)) d_int) (dv 1 (pv 1))) (g_sub (W := DL.wE E) (dv 0 (pv 0)) d_int))
  (ss_one (s_ret (dv 2 (pv 2)))))) ss_nil)
  (ss_cons (s_set (i := 3) sc.nd rfl (by first | exact Or.inl rfl | exact Or.inr rfl) d_int)
  (ss_cons (s_if (t_c c_lt (d_ix rfl (dv 0 (pv 0)) d_int) (d_len rfl (by rfl) T.b_len (d_ix rfl (dv 0 (pv 0)) d_int))) (ss_one (s_set (i := 3) sc.nd rfl (by first | exact Or.inl rfl | exact Or.inr rfl) (d_ix rfl (d_ix rfl (dv 0 (pv 0)) d_int) (d_ix rfl (dv 0 (pv 0)) d_int)))) ss_nil)
  (ss_cons (s_asg (d_add rfl fin_f (d_ix rfl (dv 0 (pv 0)) d_int) d_int) (g_sub (W := DL.wE E) (dv 0 (pv 0)) d_int))
  (ss_cons (s_if (t_c c_ge (dv 3 (pv 3)) (d_pow d_int d_int)) (ss_cons (s_asg (d_div (dv 3 (pv 3)) d_int) (g_sub (W := DL.wE E) (dv 0 (pv 0)) d_int))
  (ss_one (s_ret (d_call IH (hr.mono (by first | omega | (simp only [Nat.add_eq]; omega))) tk (by rfl) (da_cons (dv 0 (pv 0)) (da_cons (dv 1 (pv 1)) da_nil)))))) ss_nil)
  (ss_cons (s_asg (d_mod (d_int1 (by rfl) T.b_int (d_add rfl fin_f (d_add rfl fin_f (d_mul fin_f (d_ix rfl (dv 0 (pv 0)) d_int) d_int) (d_mul fin_f (dv 3 (pv 3)) d_int)) (d_mul fin_f (d_ix rfl (dv 0 (pv 0)) d_int) d_int))) d_int) (g_sub (W := DL.wE E) (dv 0 (pv 0)) d_int))
  (ss_cons (s_set (i := 4) sc.nd rfl (by first | exact Or.inl rfl | exact Or.inr rfl) (d_mod (d_int1 (by rfl) T.b_int (d_add rfl fin_f (d_add rfl fin_f (d_mul fin_f (d_ix rfl (dv 0 (pv 0)) d_int) (d_ix rfl (dv 0 (pv 0)) d_int)) (d_mul fin_f (d_ix rfl (dv 0 (pv 0)) d_int) d_int)) d_int)) d_int))
  (ss_one (s_ret (d_mod (d_int1 (by rfl) T.b_int (d_div (dv 4 (pv 4)) d_int)) (dv 1 (pv 1))))))))))))
theorem D__law_take (T : Txt P K mg) : DefD P w K mg base (miX K mg) 4 "_law_take" 2 F__law_take := DefD.mono (j := 4) (D__law_take_at T 3) (by decide)
theorem sc__law_pick : FnScope N__law_pick ["pool", "rows"] (defScope s__law_pick) := ⟨rfl, rfl, rfl, by decide +kernel, rfl, by decide +kernel, by decide +kernel⟩
theorem D__law_pick (T : Txt P K mg) : DefD P w K mg base (miX K mg) 5 "_law_pick" 2 F__law_pick :=
  FnX.at (n := 2) T.x__law_pick hand_f sc__law_pick rfl fun f cdv A outer s H E hr tk hp =>
    have sc := sc__law_pick
    (ss_one (s_ret (d_ix rfl (dv 1 (pv 1)) (d_call (D__law_take T) (hr.mono (by first | omega | (simp only [Nat.add_eq]; omega))) tk (by rfl) (da_cons (dv 0 (pv 0)) (da_cons (d_len rfl (by rfl) T.b_len (dv 1 (pv 1))) da_nil))))))
theorem sc__law_order : FnScope N__law_order ["pool", "many"] (defScope s__law_order) := ⟨rfl, rfl, rfl, by decide +kernel, rfl, by decide +kernel, by decide +kernel⟩
theorem D__law_order (T : Txt P K mg) : DefD P w K mg base (miX K mg) 5 "_law_order" 2 F__law_order :=
  FnX.at (n := 2) T.x__law_order hand_f sc__law_order rfl fun f cdv A outer s H E hr tk hp =>
    have sc := sc__law_order
    (ss_cons (s_set (i := 2) sc.nd rfl (by first | exact Or.inl rfl | exact Or.inr rfl) (d_lstRg fin_c rfl (by rfl) T.b_list (drg1 (by rfl) T.b_range (dv 1 (pv 1)))))
  (ss_cons (s_set (i := 3) sc.nd rfl (by first | exact Or.inl rfl | exact Or.inr rfl) (d_tup da_nil))
  (ss_cons (s_for hp rfl (i_rg1 (by rfl) T.b_range (dv 1 (pv 1))) (g_nm (i := 4) sc.nd rfl (by first | exact Or.inl rfl | exact Or.inr rfl)) (ss_one (s_set (i := 3) sc.nd rfl (by first | exact Or.inl rfl | exact Or.inr rfl) (d_add rfl fin_f (dv 3 (pv 3)) (d_tup (da_cons (d_popAt rfl (dv 2 (pv 2)) (d_call (D__law_take T) (hr.mono (by first | omega | (simp only [Nat.add_eq]; omega))) tk (by rfl) (da_cons (dv 0 (pv 0)) (da_cons (d_len rfl (by rfl) T.b_len (dv 2 (pv 2))) da_nil)))) da_nil))))))
  (ss_one (s_ret (dv 3 (pv 3)))))))
theorem sc__law_given : FnScope N__law_given ["pool", "row"] (defScope s__law_given) := ⟨rfl, rfl, rfl, by decide +kernel, rfl, by decide +kernel, by decide +kernel⟩
theorem D__law_given (T : Txt P K mg) : DefD P w K mg base (miX K mg) 5 "_law_given" 2 F__law_given :=
  FnX.at (n := 2) T.x__law_given hand_f sc__law_given rfl fun f cdv A outer s H E hr tk hp =>
    have sc := sc__law_given
    (ss_one (s_ret (d_if (t_c (c_eq rfl hr.u64) (d_call (D__law_take T) (hr.mono (by first | omega | (simp only [Nat.add_eq]; omega))) tk (by rfl) (da_cons (dv 0 (pv 0)) (da_cons d_int da_nil))) d_int) (d_list rfl fin_f (by rfl) T.b_list (dv 1 (pv 1))) (d_tuple rfl (by rfl) T.b_tuple (dv 1 (pv 1))))))
theorem sc__law_told : FnScope N__law_told ["m", "sets"] (defScope s__law_told) := ⟨rfl, rfl, rfl, by decide +kernel, rfl, by decide +kernel, by decide +kernel⟩
theorem D__law_told (T : Txt P K mg) : DefD P w K mg base (miX K mg) 5 "_law_told" 2 F__law_told :=
  FnX.at (n := 2) T.x__law_told hand_f sc__law_told rfl fun f cdv A outer s H E hr tk hp =>
    have sc := sc__law_told
    (ss_cons (s_tryRet (i := 2) rfl rfl sc.nd rfl rfl rfl T.c_BadStructure (by rfl) tk (fun W1 pn1 xe1 tk1 hp1 => (ss_one (s_expr (d_call (D_least_sets T) (hr.mono (by first | omega | (simp only [Nat.add_eq]; omega))) tk1 (by rfl) (da_cons (dv 0 (pv 0)) (da_cons (dv 1 (pv 1)) da_nil)))))) (fun xa xoe xcls xd xpn x hz hf => (di_tup (dai_cons (di_lift d_str) (dai_cons (di_xg rfl T.f_reason hz hf (pv 2)) (dai_cons (di_isF rfl T.i_MatroidError hz hf (by rfl) T.b_isinstance (by rfl) (by decide) (pv 2)) dai_nil))))))
  (ss_one (s_ret (d_tup (da_cons d_str (da_cons d_non (da_cons d_bl da_nil)))))))
theorem sc__law_refuses : FnScope N__law_refuses ["m", "sets", "people"] (defScope s__law_refuses) := ⟨rfl, rfl, rfl, by decide +kernel, rfl, by decide +kernel, by decide +kernel⟩
theorem D__law_refuses (T : Txt P K mg) : DefD P w K mg base (miX K mg) 5 "_law_refuses" 3 F__law_refuses :=
  FnX.at (n := 3) T.x__law_refuses hand_f sc__law_refuses rfl fun f cdv A outer s H E hr tk hp =>
    have sc := sc__law_refuses
    (ss_cons (s_try rfl rfl rfl T.c_BadPeople (by rfl) tk (fun W2 pn2 xe2 tk2 hp2 => (ss_one (s_expr (d_call (D_may_know T) (hr.mono (by first | omega | (simp only [Nat.add_eq]; omega))) tk2 (by rfl) (da_cons (dv 0 (pv 0)) (da_cons (dv 1 (pv 1)) (da_cons (dv 2 (pv 2)) da_nil))))))) (fun xa xoe xcls xd xpn hz hf => (ss_one (s_ret d_bl))))
  (ss_one (s_ret d_bl)))
theorem sc__law_structure : FnScope N__law_structure ["pool", "m"] (defScope s__law_structure) := ⟨rfl, rfl, rfl, by decide +kernel, rfl, by decide +kernel, by decide +kernel⟩
theorem D__law_structure (T : Txt P K mg) : DefD P w K mg base (miX K mg) 6 "_law_structure" 2 F__law_structure :=
  FnX.at (n := 2) T.x__law_structure hand_f sc__law_structure rfl fun f cdv A outer s H E hr tk hp =>
    have sc := sc__law_structure
    (ss_cons (s_set (i := 2) sc.nd rfl (by first | exact Or.inl rfl | exact Or.inr rfl) (d_sl rfl fin_f (d_call (D__law_all_sets T) (hr.mono (by first | omega | (simp only [Nat.add_eq]; omega))) tk (by rfl) (da_cons (dv 1 (pv 1)) da_nil)) (do_some d_int) do_none))
  (ss_cons (s_set (i := 3) sc.nd rfl (by first | exact Or.inl rfl | exact Or.inr rfl) (d_lst fin_c da_nil))
  (ss_cons (s_for hp rfl (i_rg1 (by rfl) T.b_range (d_add rfl fin_f d_int (d_call (D__law_take T) (hr.mono (by first | omega | (simp only [Nat.add_eq]; omega))) tk (by rfl) (da_cons (dv 0 (pv 0)) (da_cons d_int da_nil))))) (g_nm (i := 4) sc.nd rfl (by first | exact Or.inl rfl | exact Or.inr rfl)) (ss_cons (s_set (i := 5) sc.nd rfl (by first | exact Or.inl rfl | exact Or.inr rfl) (d_call (D__law_pick T) (hr.mono (by first | omega | (simp only [Nat.add_eq]; omega))) tk (by rfl) (da_cons (dv 0 (pv 0)) (da_cons (dv 2 (pv 2)) da_nil))))
  (ss_one (s_if (t_not (t_tru rfl (d_any rfl rfl (by rfl) T.b_any (d_lc fin_f (own := ([("other", 7)] : List (Str × Nat))) (by decide) rfl sc.nd (i_src rfl (dv 3 (pv 3))) (blkOk_by (by kernel_rfl)) (fun _ _ _ _ _ => (g_nm (i := 7) sc.nd rfl (by first | exact Or.inl rfl | exact Or.inr rfl))) (fun _ _ _ _ _ => ts_nil) (fun _ _ _ _ _ => (d_orv rfl (d_all rfl rfl (by rfl) T.b_all (d_lc fin_f (own := ([("e", 6)] : List (Str × Nat))) (by decide) rfl sc.nd (i_src rfl (dv 5 (pv 5))) (blkOk_by (by kernel_rfl)) (fun _ _ _ _ _ => (g_nm (i := 6) sc.nd rfl (by first | exact Or.inl rfl | exact Or.inr rfl))) (fun _ _ _ _ _ => ts_nil) (fun _ _ _ _ _ => (d_c (c_in rfl hr.u65) (dv 6 (pv 6)) (dv 7 (pv 7)))))) (d_one (d_all rfl rfl (by rfl) T.b_all (d_lc fin_f (own := ([("e", 6)] : List (Str × Nat))) (by decide) rfl sc.nd (i_src rfl (dv 7 (pv 7))) (blkOk_by (by kernel_rfl)) (fun _ _ _ _ _ => (g_nm (i := 6) sc.nd rfl (by first | exact Or.inl rfl | exact Or.inr rfl))) (fun _ _ _ _ _ => ts_nil) (fun _ _ _ _ _ => (d_c (c_in rfl hr.u65) (dv 6 (pv 6)) (dv 5 (pv 5))))))))))))) (ss_one (s_expr (d_append rfl (dv 3 (pv 3)) (dv 5 (pv 5))))) ss_nil))))
  (ss_one (s_ret (d_sorted rfl hr.u65 fin_f (by rfl) T.b_sorted (dv 3 (pv 3))))))))
theorem sc__law_same : FnScope N__law_same ["actual", "due"] (defScope s__law_same) := ⟨rfl, rfl, rfl, by decide +kernel, rfl, by decide +kernel, by decide +kernel⟩
theorem D__law_same_at (T : Txt P K mg) : ∀ m : Nat, DefD P w K mg base (miX K mg) (2 + m) "_law_same" 2 (F__law_same_at m)
  | 0 => FnX.no T.x__law_same rfl
  | m + 1 => FnX.at (n := 2) T.x__law_same hand_f sc__law_same rfl fun f cdv A outer s H E hr tk hp =>
    have sc := sc__law_same
    have IH := D__law_same_at T m
    (ss_cons (s_if (t_tru rfl (d_isi (T' := "tuple") rfl (by decide +kernel) (by rfl) T.b_isinstance (dv 1 (pv 1)) (pe_bltn (by rfl) T.b_tuple (by decide +kernel) rfl))) (ss_cons (s_if (t_w (w_or (t_not (t_tru rfl (d_isi (T' := "tuple") rfl (by decide +kernel) (by rfl) T.b_isinstance (dv 0 (pv 0)) (pe_bltn (by rfl) T.b_tuple (by decide +kernel) rfl)))) (w_or1 (t_c (c_ne rfl hr.u64) (d_len rfl (by rfl) T.b_len (dv 0 (pv 0))) (d_len rfl (by rfl) T.b_len (dv 1 (pv 1))))))) (ss_one (s_ret d_bl)) ss_nil)
  (ss_one (s_ret (d_all rfl rfl (by rfl) T.b_all (d_lc fin_f (own := ([("k", 2)] : List (Str × Nat))) (by decide) rfl sc.nd (i_rg1 (by rfl) T.b_range (d_len rfl (by rfl) T.b_len (dv 1 (pv 1)))) (blkOk_by (by kernel_rfl)) (fun _ _ _ _ _ => (g_nm (i := 2) sc.nd rfl (by first | exact Or.inl rfl | exact Or.inr rfl))) (fun _ _ _ _ _ => ts_nil) (fun _ _ _ _ _ => (d_call IH (hr.mono (by first | omega | (simp only [Nat.add_eq]; omega))) takes0 (by rfl) (da_cons (d_ix rfl (dv 0 (pv 0)) (dv 2 (pv 2))) (da_cons (d_ix rfl (dv 1 (pv 1)) (dv 2 (pv 2))) da_nil))))))))) ss_nil)
  (ss_cons (s_if (t_tru rfl (d_isi (T' := "list") rfl (by decide +kernel) (by rfl) T.b_isinstance (dv 1 (pv 1)) (pe_bltn (by rfl) T.b_list (by decide +kernel) rfl))) (ss_cons (s_if (t_w (w_or (t_not (t_tru rfl (d_isi (T' := "list") rfl (by decide +kernel) (by rfl) T.b_isinstance (dv 0 (pv 0)) (pe_bltn (by rfl) T.b_list (by decide +kernel) rfl)))) (w_or1 (t_c (c_ne rfl hr.u64) (d_len rfl (by rfl) T.b_len (dv 0 (pv 0))) (d_len rfl (by rfl) T.b_len (dv 1 (pv 1))))))) (ss_one (s_ret d_bl)) ss_nil)
  (ss_one (s_ret (d_all rfl rfl (by rfl) T.b_all (d_lc fin_f (own := ([("k", 2)] : List (Str × Nat))) (by decide) rfl sc.nd (i_rg1 (by rfl) T.b_range (d_len rfl (by rfl) T.b_len (dv 1 (pv 1)))) (blkOk_by (by kernel_rfl)) (fun _ _ _ _ _ => (g_nm (i := 2) sc.nd rfl (by first | exact Or.inl rfl | exact Or.inr rfl))) (fun _ _ _ _ _ => ts_nil) (fun _ _ _ _ _ => (d_call IH (hr.mono (by first | omega | (simp only [Nat.add_eq]; omega))) takes0 (by rfl) (da_cons (d_ix rfl (dv 0 (pv 0)) (dv 2 (pv 2))) (da_cons (d_ix rfl (dv 1 (pv 1)) (dv 2 (pv 2))) da_nil))))))))) ss_nil)
  (ss_cons (s_if (t_c c_is (dv 1 (pv 1)) d_non) (ss_one (s_ret (d_c c_is (dv 0 (pv 0)) d_non))) ss_nil)
  (ss_cons (s_if (t_tru rfl (d_isi (T' := "bool") rfl (by decide +kernel) (by rfl) T.b_isinstance (dv 1 (pv 1)) (pe_bltn (by rfl) T.b_bool (by decide +kernel) rfl))) (ss_one (s_ret (d_andv rfl (d_isi (T' := "bool") rfl (by decide +kernel) (by rfl) T.b_isinstance (dv 0 (pv 0)) (pe_bltn (by rfl) T.b_bool (by decide +kernel) rfl)) (d_one (d_c (c_eq rfl hr.u64) (dv 0 (pv 0)) (dv 1 (pv 1))))))) ss_nil)
  (ss_cons (s_if (t_tru rfl (d_isi (T' := "str") rfl (by decide +kernel) (by rfl) T.b_isinstance (dv 1 (pv 1)) (pe_bltn (by rfl) T.b_str (by decide +kernel) rfl))) (ss_one (s_ret (d_andv rfl (d_isi (T' := "str") rfl (by decide +kernel) (by rfl) T.b_isinstance (dv 0 (pv 0)) (pe_bltn (by rfl) T.b_str (by decide +kernel) rfl)) (d_one (d_c (c_eq rfl hr.u64) (dv 0 (pv 0)) (dv 1 (pv 1))))))) ss_nil)
  (ss_one (s_ret (d_andv rfl (d_call (D__law_is_integer T) (hr.mono (by first | omega | (simp only [Nat.add_eq]; omega))) tk (by rfl) (da_cons (dv 0 (pv 0)) da_nil)) (d_one (d_c (c_eq rfl hr.u64) (dv 0 (pv 0)) (dv 1 (pv 1))))))))))))
theorem D__law_same (T : Txt P K mg) : DefD P w K mg base (miX K mg) 8 "_law_same" 2 F__law_same := DefD.mono (j := 8) (D__law_same_at T 6) (by decide)
theorem sc__law_always : FnScope N__law_always [] (defScope s__law_always) := ⟨rfl, rfl, rfl, by decide +kernel, rfl, by decide +kernel, by decide +kernel⟩
theorem D__law_always (T : Txt P K mg) : DefD P w K mg base (miX K mg) 9 "_law_always" 0 F__law_always :=
  FnX.at (n := 0) T.x__law_always hand_f sc__law_always rfl fun f cdv A outer s H E hr tk hp =>
    have sc := sc__law_always
    (ss_cons (s_set (i := 0) sc.nd rfl (by first | exact Or.inl rfl | exact Or.inr rfl) (d_lst fin_f (da_cons (d_tup (da_cons d_int (da_cons d_int da_nil))) (da_cons (d_tup (da_cons d_int (da_cons d_int da_nil))) (da_cons (d_tup (da_cons d_int (da_cons d_int da_nil))) da_nil)))))
  (ss_cons (s_if (t_not (t_tru rfl (d_call (D__law_same T) (hr.mono (by first | omega | (simp only [Nat.add_eq]; omega))) tk (by rfl) (da_cons (d_tup (da_cons (d_call (D_least_sets T) (hr.mono (by first | omega | (simp only [Nat.add_eq]; omega))) tk (by rfl) (da_cons d_int (da_cons (dv 0 (pv 0)) da_nil))) (da_cons (d_call (D_dual_sets T) (hr.mono (by first | omega | (simp only [Nat.add_eq]; omega))) tk (by rfl) (da_cons d_int (da_cons (dv 0 (pv 0)) da_nil))) (da_cons (d_call (D_dual_sets T) (hr.mono (by first | omega | (simp only [Nat.add_eq]; omega))) tk (by rfl) (da_cons d_int (da_cons (d_lst fin_f (da_cons (d_tup (da_cons d_int (da_cons d_int da_nil))) (da_cons (d_tup (da_cons d_int (da_cons d_int da_nil))) (da_cons (d_tup (da_cons d_int (da_cons d_int da_nil))) da_nil)))) da_nil))) da_nil)))) (da_cons (d_tup (da_cons (d_tup (da_cons (d_tup (da_cons d_int (da_cons d_int da_nil))) (da_cons (d_tup (da_cons d_int (da_cons d_int da_nil))) (da_cons (d_tup (da_cons d_int (da_cons d_int da_nil))) da_nil)))) (da_cons (d_tup (da_cons (d_tup (da_cons d_int (da_cons d_int da_nil))) (da_cons (d_tup (da_cons d_int (da_cons d_int da_nil))) (da_cons (d_tup (da_cons d_int (da_cons d_int da_nil))) da_nil)))) (da_cons (d_tup (da_cons (d_tup (da_cons d_int (da_cons d_int da_nil))) (da_cons (d_tup (da_cons d_int (da_cons d_int da_nil))) (da_cons (d_tup (da_cons d_int (da_cons d_int da_nil))) da_nil)))) da_nil)))) da_nil))))) (ss_one (s_ret d_bl)) ss_nil)
  (ss_cons (s_if (t_not (t_tru rfl (d_call (D__law_same T) (hr.mono (by first | omega | (simp only [Nat.add_eq]; omega))) tk (by rfl) (da_cons (d_tup (da_cons (d_call (D_may_know T) (hr.mono (by first | omega | (simp only [Nat.add_eq]; omega))) tk (by rfl) (da_cons d_int (da_cons (dv 0 (pv 0)) (da_cons (d_lst fin_f (da_cons d_int (da_cons d_int (da_cons d_int da_nil)))) da_nil)))) (da_cons (d_call (D_may_know T) (hr.mono (by first | omega | (simp only [Nat.add_eq]; omega))) tk (by rfl) (da_cons d_int (da_cons (dv 0 (pv 0)) (da_cons (d_tup (da_cons d_int (da_cons d_int da_nil))) da_nil)))) (da_cons (d_call (D_is_joined T) (hr.mono (by first | omega | (simp only [Nat.add_eq]; omega))) tk (by rfl) (da_cons d_int (da_cons (dv 0 (pv 0)) da_nil))) (da_cons (d_call (D_is_joined T) (hr.mono (by first | omega | (simp only [Nat.add_eq]; omega))) tk (by rfl) (da_cons d_int (da_cons (dv 0 (pv 0)) da_nil))) (da_cons (d_call (D_may_know T) (hr.mono (by first | omega | (simp only [Nat.add_eq]; omega))) tk (by rfl) (da_cons d_int (da_cons (d_lst fin_f (da_cons (d_tup (da_cons d_int da_nil)) da_nil)) (da_cons (d_tup da_nil) da_nil)))) da_nil)))))) (da_cons (d_tup (da_cons d_bl (da_cons d_bl (da_cons d_bl (da_cons d_bl (da_cons d_bl da_nil)))))) da_nil))))) (ss_one (s_ret d_bl)) ss_nil)
  (ss_cons (s_set (i := 1) sc.nd rfl (by first | exact Or.inl rfl | exact Or.inr rfl) (d_lst fin_f (da_cons (d_call (D__law_told T) (hr.mono (by first | omega | (simp only [Nat.add_eq]; omega))) tk (by rfl) (da_cons d_int (da_cons (d_lst fin_f (da_cons (d_tup (da_cons d_int (da_cons d_int da_nil))) (da_cons (d_tup (da_cons d_int da_nil)) da_nil))) da_nil))) (da_cons (d_call (D__law_told T) (hr.mono (by first | omega | (simp only [Nat.add_eq]; omega))) tk (by rfl) (da_cons d_int (da_cons (d_lst fin_f (da_cons (d_tup (da_cons d_int (da_cons d_int da_nil))) (da_cons (d_tup (da_cons d_int (da_cons d_int da_nil))) da_nil))) da_nil))) (da_cons (d_call (D__law_told T) (hr.mono (by first | omega | (simp only [Nat.add_eq]; omega))) tk (by rfl) (da_cons d_int (da_cons (d_lst fin_f (da_cons (d_tup (da_cons d_int da_nil)) da_nil)) da_nil))) (da_cons (d_call (D__law_told T) (hr.mono (by first | omega | (simp only [Nat.add_eq]; omega))) tk (by rfl) (da_cons d_int (da_cons (d_lst fin_f (da_cons (d_tup da_nil) da_nil)) da_nil))) (da_cons (d_call (D__law_told T) (hr.mono (by first | omega | (simp only [Nat.add_eq]; omega))) tk (by rfl) (da_cons d_int (da_cons (d_lst fin_f (da_cons (d_tup (da_cons d_int (da_cons d_int da_nil))) da_nil)) da_nil))) (da_cons (d_call (D__law_told T) (hr.mono (by first | omega | (simp only [Nat.add_eq]; omega))) tk (by rfl) (da_cons d_int (da_cons (d_mul fin_f (d_lst fin_f (da_cons (d_tup (da_cons d_int da_nil)) da_nil)) d_int) da_nil))) da_nil))))))))
  (ss_one (s_ret (d_andv rfl (d_call (D__law_same T) (hr.mono (by first | omega | (simp only [Nat.add_eq]; omega))) tk (by rfl) (da_cons (d_lc fin_f (own := ([("word", 2), ("reason", 3), ("kind", 4)] : List (Str × Nat))) (by decide) rfl sc.nd (i_src rfl (dv 1 (pv 1))) (blkOk_by (by kernel_rfl)) (fun _ _ _ _ _ => (g_tup rfl rfl (gs_cons (g_nm (i := 2) sc.nd rfl (by first | exact Or.inl rfl | exact Or.inr rfl)) (gs_cons (g_nm (i := 3) sc.nd rfl (by first | exact Or.inl rfl | exact Or.inr rfl)) (gs_cons (g_nm (i := 4) sc.nd rfl (by first | exact Or.inl rfl | exact Or.inr rfl)) gs_nil))))) (fun _ _ _ _ _ => ts_nil) (fun _ _ _ _ _ => (dv 3 (pv 3)))) (da_cons (d_lst fin_f (da_cons d_str (da_cons d_str (da_cons d_str (da_cons d_str (da_cons d_str (da_cons d_str da_nil))))))) da_nil))) (d_one (d_call (D__law_refuses T) (hr.mono (by first | omega | (simp only [Nat.add_eq]; omega))) tk (by rfl) (da_cons d_int (da_cons (d_lst fin_f (da_cons (d_tup (da_cons d_int (da_cons d_int da_nil))) da_nil)) (da_cons (d_tup (da_cons d_int (da_cons d_int da_nil))) da_nil))))))))))))
theorem sc_law : FnScope N_law ["script"] (defScope s_law) := ⟨rfl, rfl, rfl, by decide +kernel, rfl, by decide +kernel, by decide +kernel⟩
theorem D_law (T : Txt P K mg) {f : Addr} {fd : FuncData} (Fn : Fun K "law" "law" s_law f fd) : FnOk P w K mg base (L2.CX P w) 10 f fd ["script"] (spD (miX K mg) 1 F_law) :=
  def_c hand_f Fn sc_law rfl fun cdv A outer s H E hr tk hp =>
    have sc := sc_law
    (ss_cons (s_set (i := 1) sc.nd rfl (by first | exact Or.inl rfl | exact Or.inr rfl) (d_call (D__law_pool T) (hr.mono (by first | omega | (simp only [Nat.add_eq]; omega))) tk (by rfl) (da_cons (dv 0 (pv 0)) da_nil)))
  (ss_cons (s_if (t_not (t_tru rfl (d_call0 (D__law_always T) (hr.mono (by first | omega | (simp only [Nat.add_eq]; omega))) (by rfl)))) (ss_one (s_ret d_bl)) ss_nil)
  (ss_cons (s_for hp rfl (i_rg1 (by rfl) T.b_range d_int) (g_nm (i := 2) sc.nd rfl (by first | exact Or.inl rfl | exact Or.inr rfl)) (ss_cons (s_set (i := 3) sc.nd rfl (by first | exact Or.inl rfl | exact Or.inr rfl) (d_add rfl fin_f d_int (d_call (D__law_take T) (hr.mono (by first | omega | (simp only [Nat.add_eq]; omega))) tk (by rfl) (da_cons (dv 1 (pv 1)) (da_cons (d_call (D__law_pick T) (hr.mono (by first | omega | (simp only [Nat.add_eq]; omega))) tk (by rfl) (da_cons (dv 1 (pv 1)) (da_cons (d_lst fin_f (da_cons d_int (da_cons d_int (da_cons d_int da_nil)))) da_nil))) da_nil)))))
  (ss_cons (s_set (i := 4) sc.nd rfl (by first | exact Or.inl rfl | exact Or.inr rfl) (d_call (D__law_structure T) (hr.mono (by first | omega | (simp only [Nat.add_eq]; omega))) tk (by rfl) (da_cons (dv 1 (pv 1)) (da_cons (dv 3 (pv 3)) da_nil))))
  (ss_cons (s_setLc fin_f (i := 5) (own := ([("some", 7)] : List (Str × Nat))) (by decide) rfl sc.nd rfl rfl (sw_true rfl rfl rfl (by kernel_rfl)) (i_src rfl (d_lc fin_f (own := ([("k", 6)] : List (Str × Nat))) (by decide) rfl sc.nd (i_src rfl (d_call (D__law_order T) (hr.mono (by first | omega | (simp only [Nat.add_eq]; omega))) tk (by rfl) (da_cons (dv 1 (pv 1)) (da_cons (d_len rfl (by rfl) T.b_len (dv 4 (pv 4))) da_nil)))) (blkOk_by (by kernel_rfl)) (fun _ _ _ _ _ => (g_nm (i := 6) sc.nd rfl (by first | exact Or.inl rfl | exact Or.inr rfl))) (fun _ _ _ _ _ => ts_nil) (fun _ _ _ _ _ => (d_ix rfl (dv 4 (pv 4)) (dv 6 (pv 6)))))) (blkOk_by (by kernel_rfl)) (fun _ _ _ _ _ => (g_nm (i := 7) sc.nd rfl (by first | exact Or.inl rfl | exact Or.inr rfl))) (fun _ _ _ _ _ => ts_nil) (fun _ _ _ _ _ => (d_call (D__law_given T) (hr.mono (by first | omega | (simp only [Nat.add_eq]; omega))) takes0 (by rfl) (da_cons (dv 1 (pv 1)) (da_cons (d_lc fin_f (own := ([("k", 6)] : List (Str × Nat))) (by decide) rfl sc.nd (i_src rfl (d_call (D__law_order T) (hr.mono (by first | omega | (simp only [Nat.add_eq]; omega))) takes0 (by rfl) (da_cons (dv 1 (pv 1)) (da_cons (d_len rfl (by rfl) T.b_len (dv 7 (pv 7))) da_nil)))) (blkOk_by (by kernel_rfl)) (fun _ _ _ _ _ => (g_nm (i := 6) sc.nd rfl (by first | exact Or.inl rfl | exact Or.inr rfl))) (fun _ _ _ _ _ => ts_nil) (fun _ _ _ _ _ => (d_ix rfl (dv 7 (pv 7)) (dv 6 (pv 6))))) da_nil)))))
  (ss_cons (s_set (i := 5) sc.nd rfl (by first | exact Or.inl rfl | exact Or.inr rfl) (d_call (D__law_given T) (hr.mono (by first | omega | (simp only [Nat.add_eq]; omega))) tk (by rfl) (da_cons (dv 1 (pv 1)) (da_cons (dv 5 (pv 5)) da_nil))))
  (ss_cons (s_set (i := 8) sc.nd rfl (by first | exact Or.inl rfl | exact Or.inr rfl) (d_call (D__law_dual_sets T) (hr.mono (by first | omega | (simp only [Nat.add_eq]; omega))) tk (by rfl) (da_cons (dv 3 (pv 3)) (da_cons (dv 4 (pv 4)) da_nil))))
  (ss_cons (s_set (i := 9) sc.nd rfl (by first | exact Or.inl rfl | exact Or.inr rfl) (d_tup (da_cons (d_call (D_least_sets T) (hr.mono (by first | omega | (simp only [Nat.add_eq]; omega))) tk (by rfl) (da_cons (dv 3 (pv 3)) (da_cons (dv 5 (pv 5)) da_nil))) (da_cons (d_call (D_dual_sets T) (hr.mono (by first | omega | (simp only [Nat.add_eq]; omega))) tk (by rfl) (da_cons (dv 3 (pv 3)) (da_cons (dv 5 (pv 5)) da_nil))) (da_cons (d_call (D_dual_sets T) (hr.mono (by first | omega | (simp only [Nat.add_eq]; omega))) tk (by rfl) (da_cons (dv 3 (pv 3)) (da_cons (dv 8 (pv 8)) da_nil))) (da_cons (d_call (D_is_joined T) (hr.mono (by first | omega | (simp only [Nat.add_eq]; omega))) tk (by rfl) (da_cons (dv 3 (pv 3)) (da_cons (dv 5 (pv 5)) da_nil))) da_nil))))))
  (ss_cons (s_if (t_not (t_tru rfl (d_call (D__law_same T) (hr.mono (by first | omega | (simp only [Nat.add_eq]; omega))) tk (by rfl) (da_cons (dv 9 (pv 9)) (da_cons (d_tup (da_cons (d_tuple rfl (by rfl) T.b_tuple (dv 4 (pv 4))) (da_cons (d_tuple rfl (by rfl) T.b_tuple (dv 8 (pv 8))) (da_cons (d_tuple rfl (by rfl) T.b_tuple (dv 4 (pv 4))) (da_cons (d_call (D__law_is_joined T) (hr.mono (by first | omega | (simp only [Nat.add_eq]; omega))) tk (by rfl) (da_cons (dv 3 (pv 3)) (da_cons (dv 4 (pv 4)) da_nil))) da_nil))))) da_nil))))) (ss_one (s_ret d_bl)) ss_nil)
  (ss_cons (s_for hp rfl (i_rg1 (by rfl) T.b_range d_int) (g_nm (i := 10) sc.nd rfl (by first | exact Or.inl rfl | exact Or.inr rfl)) (ss_cons (s_set (i := 11) sc.nd rfl (by first | exact Or.inl rfl | exact Or.inr rfl) (d_sl rfl fin_f (d_call (D__law_order T) (hr.mono (by first | omega | (simp only [Nat.add_eq]; omega))) tk (by rfl) (da_cons (dv 1 (pv 1)) (da_cons (dv 3 (pv 3)) da_nil))) do_none (do_some (d_call (D__law_take T) (hr.mono (by first | omega | (simp only [Nat.add_eq]; omega))) tk (by rfl) (da_cons (dv 1 (pv 1)) (da_cons (d_add rfl fin_f (dv 3 (pv 3)) d_int) da_nil))))))
  (ss_cons (s_if (t_not (t_tru rfl (d_call (D__law_same T) (hr.mono (by first | omega | (simp only [Nat.add_eq]; omega))) tk (by rfl) (da_cons (d_call (D_may_know T) (hr.mono (by first | omega | (simp only [Nat.add_eq]; omega))) tk (by rfl) (da_cons (dv 3 (pv 3)) (da_cons (dv 5 (pv 5)) (da_cons (d_call (D__law_given T) (hr.mono (by first | omega | (simp only [Nat.add_eq]; omega))) tk (by rfl) (da_cons (dv 1 (pv 1)) (da_cons (dv 11 (pv 11)) da_nil))) da_nil)))) (da_cons (d_call (D__law_knows T) (hr.mono (by first | omega | (simp only [Nat.add_eq]; omega))) tk (by rfl) (da_cons (dv 4 (pv 4)) (da_cons (dv 11 (pv 11)) da_nil))) da_nil))))) (ss_one (s_ret d_bl)) ss_nil)
  (ss_cons (s_setLc fin_f (i := 12) (own := ([("e", 13)] : List (Str × Nat))) (by decide) rfl sc.nd rfl rfl (sw_true rfl rfl rfl (by kernel_rfl)) (i_rg1 (by rfl) T.b_range (dv 3 (pv 3))) (blkOk_by (by kernel_rfl)) (fun _ _ _ _ _ => (g_nm (i := 13) sc.nd rfl (by first | exact Or.inl rfl | exact Or.inr rfl))) (fun _ _ _ _ _ => (ts_one (t_c (c_notIn rfl hr.u65) (dv 13 (pv 13)) (dv 11 (pv 11))))) (fun _ _ _ _ _ => (dv 13 (pv 13))))
  (ss_one (s_if (t_c (c_eq rfl hr.u64) (d_call (D_may_know T) (hr.mono (by first | omega | (simp only [Nat.add_eq]; omega))) tk (by rfl) (da_cons (dv 3 (pv 3)) (da_cons (dv 8 (pv 8)) (da_cons (dv 12 (pv 12)) da_nil)))) (d_call (D_may_know T) (hr.mono (by first | omega | (simp only [Nat.add_eq]; omega))) tk (by rfl) (da_cons (dv 3 (pv 3)) (da_cons (dv 4 (pv 4)) (da_cons (dv 11 (pv 11)) da_nil))))) (ss_one (s_ret d_bl)) ss_nil))))))
  (ss_cons (s_set (i := 14) sc.nd rfl (by first | exact Or.inl rfl | exact Or.inr rfl) (d_call (D__law_pick T) (hr.mono (by first | omega | (simp only [Nat.add_eq]; omega))) tk (by rfl) (da_cons (dv 1 (pv 1)) (da_cons (d_lst fin_f (da_cons d_int (da_cons d_int (da_cons d_non (da_cons d_bl (da_cons d_str (da_cons (d_neg d_int) da_nil))))))) da_nil))))
  (ss_cons (s_set (i := 15) sc.nd rfl (by first | exact Or.inl rfl | exact Or.inr rfl) (d_call (D__law_pick T) (hr.mono (by first | omega | (simp only [Nat.add_eq]; omega))) tk (by rfl) (da_cons (dv 1 (pv 1)) (da_cons (d_lst fin_f (da_cons d_non (da_cons (d_tup da_nil) (da_cons d_int (da_cons (d_lst fin_f (da_cons d_non da_nil)) (da_cons (d_lst fin_f (da_cons (d_tup da_nil) da_nil)) (da_cons (d_lst fin_f (da_cons (d_tup (da_cons (dv 3 (pv 3)) da_nil)) da_nil)) (da_cons (d_lst fin_f (da_cons (d_tup (da_cons d_int (da_cons d_bl da_nil))) da_nil)) (da_cons (d_lst fin_f (da_cons (d_tup (da_cons (d_neg d_int) da_nil)) da_nil)) (da_cons (d_lst fin_f (da_cons d_str da_nil)) (da_cons d_dict0 da_nil))))))))))) da_nil))))
  (ss_cons (s_if (t_not (t_tru rfl (d_call (D__law_same T) (hr.mono (by first | omega | (simp only [Nat.add_eq]; omega))) tk (by rfl) (da_cons (d_tup (da_cons (d_call (D__law_told T) (hr.mono (by first | omega | (simp only [Nat.add_eq]; omega))) tk (by rfl) (da_cons (dv 14 (pv 14)) (da_cons d_non da_nil))) (da_cons (d_call (D__law_told T) (hr.mono (by first | omega | (simp only [Nat.add_eq]; omega))) tk (by rfl) (da_cons (dv 3 (pv 3)) (da_cons (dv 15 (pv 15)) da_nil))) da_nil))) (da_cons (d_tup (da_cons (d_tup (da_cons d_str (da_cons d_str (da_cons d_bl da_nil)))) (da_cons (d_tup (da_cons d_str (da_cons d_str (da_cons d_bl da_nil)))) da_nil))) da_nil))))) (ss_one (s_ret d_bl)) ss_nil)
  (ss_cons (s_set (i := 16) sc.nd rfl (by first | exact Or.inl rfl | exact Or.inr rfl) (d_add rfl fin_f (dv 4 (pv 4)) (d_lst fin_f (da_cons (d_call (D__law_pick T) (hr.mono (by first | omega | (simp only [Nat.add_eq]; omega))) tk (by rfl) (da_cons (dv 1 (pv 1)) (da_cons (dv 4 (pv 4)) da_nil))) da_nil))))
  (ss_one (s_if (t_w (w_or (t_not (t_tru rfl (d_call (D__law_same T) (hr.mono (by first | omega | (simp only [Nat.add_eq]; omega))) tk (by rfl) (da_cons (d_call (D__law_told T) (hr.mono (by first | omega | (simp only [Nat.add_eq]; omega))) tk (by rfl) (da_cons (dv 3 (pv 3)) (da_cons (dv 16 (pv 16)) da_nil))) (da_cons (d_tup (da_cons d_str (da_cons d_str (da_cons d_bl da_nil)))) da_nil))))) (w_or1 (t_not (t_tru rfl (d_call (D__law_refuses T) (hr.mono (by first | omega | (simp only [Nat.add_eq]; omega))) tk (by rfl) (da_cons (dv 3 (pv 3)) (da_cons (dv 4 (pv 4)) (da_cons (d_call (D__law_pick T) (hr.mono (by first | omega | (simp only [Nat.add_eq]; omega))) tk (by rfl) (da_cons (dv 1 (pv 1)) (da_cons (d_lst fin_f (da_cons d_non (da_cons (d_tup (da_cons (dv 3 (pv 3)) da_nil)) (da_cons (d_tup (da_cons (d_neg d_int) da_nil)) (da_cons (d_tup (da_cons d_bl da_nil)) (da_cons d_str (da_cons (d_tup (da_cons d_non da_nil)) (da_cons d_int da_nil)))))))) da_nil))) da_nil))))))))) (ss_one (s_ret d_bl)) ss_nil)))))))))))))))
  (ss_one (s_ret d_bl)))))
end
theorem walk (law : ∀ ns : List Int, ns.length ≤ 63 → F_law [.scr ns] [] = .ok (.d (.bool true)) []) {l : PySem.W.OpenLaw} {q : Program} {loose : List Str} {XP : (Str → Option Value) → Heap → Prop} {YP : World → Heap → Prop} {d : DefRec} {K : Params → PySem.W.Frag} (hn : l.most = some 63) (hdf : d.params.defaults = []) (hd : d.name = "law")
    (hY : ∀ (w : World) (h : Heap), YP w h → (K w.params).In h) (T : ∀ (w : World) (mg : Str → Option Value) (h : Heap), (K w.params).In h → h.Ns mainGlobals mg → Txt l.prog (K w.params) mg ∧ LawX (K w.params) mg s_law) :
    PySem.W.WalkO q loose XP YP l.row.toRowW d [] (fun f vs => PySem.call f vs) :=
  law_finP miX (fun _ _ => rfl) (k := 10) (st := s_law) (F := F_law) Txt ⟨rfl, by decide, by decide⟩ hn hdf hd hY (fun t F => D_law t F) law T
end G85
/-! S0: families of sets, their least meeting sets; sorting. -/
namespace StrA
open PySem DL
/-! ### sorting -/
theorem le_ints (a b : Int) : PySem.W.dataLe false id (.int a) (.int b) = decide (a ≤ b) := by
  show (!(decide (b < a) || (!decide (a < b) && false))) = _
  rw [Bool.and_false, Bool.or_false]
  by_cases h : b < a
  · simp [h, Int.not_le.mpr h]
  · simp [h, Int.not_lt.mp h]
theorem le_total : PySem.W.TotalLe (PySem.W.dataLe (β := PyData) false id) := PySem.W.sortLe_total _ _ _
theorem srt_pw (l : List PyData) : (srtD l).Pairwise fun a b => PySem.W.dataLe false id a b = true :=
  List.pairwise_mergeSort le_total.trans (fun a b => (Bool.or_eq_true _ _).mpr (le_total.total a b)) l
theorem srt_perm (l : List PyData) : (srtD l).Perm l := List.mergeSort_perm l _
theorem srt_idem (l : List PyData) : srtD (srtD l) = srtD l := List.mergeSort_of_pairwise (srt_pw l)
/-- a row -/
def row (xs : List Int) : PyData := .tuple (xs.map .int)
theorem row_inj {xs ys : List Int} (h : row xs = row ys) : xs = ys := by
  have : xs.map PyData.int = ys.map PyData.int := by
    unfold row at h
    exact PyData.tuple.inj h
  exact (List.map_inj_right (fun a b e => PyData.int.inj e)).mp this
theorem toks_inj : ∀ {xs ys : List Int}, PySem.W.keyToksAll (xs.map .int) = PySem.W.keyToksAll (ys.map .int) → xs = ys
  | [], [], _ => rfl
  | [], y :: ys, h => by
    simp only [List.map_nil, List.map_cons, PySem.W.keyToksAll] at h
    exact absurd h (by simp)
  | x :: xs, [], h => by
    simp only [List.map_nil, List.map_cons, PySem.W.keyToksAll] at h
    exact absurd h (by simp)
  | x :: xs, y :: ys, h => by
    simp only [List.map_cons, PySem.W.keyToksAll, PySem.W.keyToks, List.cons_append, List.nil_append, List.cons.injEq, Sum.inl.injEq, true_and] at h
    rw [h.1, toks_inj h.2]
theorem le_anti {a b : PyData} (h1 : PySem.W.dataLe false id a b = true) (h2 : PySem.W.dataLe false id b a = true) : PySem.W.keyToks a = PySem.W.keyToks b := by
  have e1 : (!PyProof.Rows.lexLt PyProof.Rows.itemOrd (PySem.W.keyToks b) (PySem.W.keyToks a)) = true := h1
  have e2 : (!PyProof.Rows.lexLt PyProof.Rows.itemOrd (PySem.W.keyToks a) (PySem.W.keyToks b)) = true := h2
  rw [Bool.not_eq_true'] at e1 e2
  exact PyProof.Rows.lex_total _ _ e2 e1
theorem rows_anti {a b : List Int} (h1 : PySem.W.dataLe false id (row a) (row b) = true) (h2 : PySem.W.dataLe false id (row b) (row a) = true) : a = b := by
  have := le_anti h1 h2
  unfold row at this
  simp only [PySem.W.keyToks] at this
  exact toks_inj this
/-- the sorted rows are the same if the rows are, in any order -/
theorem srt_rows {F G : List (List Int)} (h : F.Perm G) : srtD (F.map row) = srtD (G.map row) := by
  refine List.Perm.eq_of_pairwise (le := fun a b => PySem.W.dataLe false id a b = true) (fun a b ha hb h1 h2 => ?_) (srt_pw _) (srt_pw _) ((srt_perm _).trans ((h.map row).trans (srt_perm _).symm))
  obtain ⟨x, _, rfl⟩ := List.mem_map.mp ((srt_perm _).mem_iff.mp ha)
  obtain ⟨y, _, rfl⟩ := List.mem_map.mp ((srt_perm _).mem_iff.mp hb)
  rw [rows_anti h1 h2]
def unrow : PyData → List Int
  | .tuple xs => xs.map intOf
  | _ => []
/-- sorted rows are rows -/
theorem srt_is (F : List (List Int)) : ∃ G : List (List Int), G.Perm F ∧ srtD (F.map row) = G.map row := by
  have : ∀ l : List PyData, (∀ d ∈ l, ∃ x, d = row x) → ∃ G : List (List Int), l = G.map row := by
    intro l
    induction l with
    | nil => exact fun _ => ⟨[], rfl⟩
    | cons d l ih =>
      intro h
      obtain ⟨x, rfl⟩ := h d List.mem_cons_self
      obtain ⟨G, rfl⟩ := ih fun d' m => h d' (List.mem_cons_of_mem _ m)
      exact ⟨x :: G, rfl⟩
  obtain ⟨G, hG⟩ := this (srtD (F.map row)) fun d hd => by
    obtain ⟨x, _, rfl⟩ := List.mem_map.mp ((srt_perm _).mem_iff.mp hd)
    exact ⟨x, rfl⟩
  refine ⟨G, ?_, hG⟩
  have p := srt_perm (F.map row)
  rw [hG] at p
  have u : ∀ l : List (List Int), (l.map row).map unrow = l := fun l => by
    rw [List.map_map]
    refine (List.map_congr_left fun x _ => ?_).trans (List.map_id l)
    show (x.map PyData.int).map intOf = x
    rw [List.map_map]
    exact (List.map_congr_left fun y _ => rfl).trans (List.map_id x)
  have q := p.map unrow
  rwa [u, u] at q
/-! ### sets -/
abbrev Asc (xs : List Int) : Prop := xs.Pairwise (· < ·)
theorem Asc.nodup {xs : List Int} (h : Asc xs) : xs.Nodup := h.imp fun h => Int.ne_of_lt h
theorem srt_asc {xs ys : List Int} (h : xs.Perm ys) (a : Asc ys) : srtD (xs.map .int) = ys.map .int := by
  refine List.Perm.eq_of_pairwise (le := fun a b => PySem.W.dataLe false id a b = true) (fun a b ha hb h1 h2 => ?_) (srt_pw _) ?_ ((srt_perm _).trans (h.map _))
  · obtain ⟨x, _, rfl⟩ := List.mem_map.mp ((srt_perm _).mem_iff.mp ha)
    obtain ⟨y, _, rfl⟩ := List.mem_map.mp hb
    rw [le_ints, decide_eq_true_iff] at h1 h2
    rw [Int.le_antisymm h1 h2]
  · refine List.pairwise_map.mpr (a.imp fun {x y} h => ?_)
    rw [le_ints, decide_eq_true_iff]
    exact Int.le_of_lt h
def win (xs ys : List Int) : Bool := xs.all fun e => decide (e ∈ ys)
theorem win_iff {xs ys : List Int} : win xs ys = true ↔ ∀ e ∈ xs, e ∈ ys := by
  unfold win
  rw [List.all_eq_true]
  exact forall_congr' fun e => forall_congr' fun _ => decide_eq_true_iff
theorem win_refl (xs : List Int) : win xs xs = true := win_iff.mpr fun _ h => h
theorem win_trans {xs ys zs : List Int} (h1 : win xs ys = true) (h2 : win ys zs = true) : win xs zs = true := win_iff.mpr fun e h => win_iff.mp h2 e (win_iff.mp h1 e h)
theorem win_mem {xs ys xs' ys' : List Int} (h1 : ∀ e, e ∈ xs ↔ e ∈ xs') (h2 : ∀ e, e ∈ ys ↔ e ∈ ys') : win xs ys = win xs' ys' := by
  rw [Bool.eq_iff_iff, win_iff, win_iff]
  exact ⟨fun h e m => (h2 e).mp (h e ((h1 e).mpr m)), fun h e m => (h2 e).mpr (h e ((h1 e).mp m))⟩
theorem asc_ext : ∀ {xs ys : List Int}, Asc xs → Asc ys → (∀ e, e ∈ xs ↔ e ∈ ys) → xs = ys := fun {xs ys} h1 h2 h =>
  List.Perm.eq_of_pairwise (le := (· < ·)) (fun a b _ _ h1 h2 => absurd h1 (Int.not_lt.mpr (Int.le_of_lt h2))) h1 h2 ((List.perm_ext_iff_of_nodup h1.nodup h2.nodup).mpr h)
theorem win_asc {xs ys : List Int} (h1 : Asc xs) (h2 : Asc ys) (w1 : win xs ys = true) (w2 : win ys xs = true) : xs = ys :=
  asc_ext h1 h2 fun e => ⟨win_iff.mp w1 e, win_iff.mp w2 e⟩
theorem win_len {xs ys : List Int} (h1 : xs.Nodup) (w : win xs ys = true) (hl : ys.length ≤ xs.length) : win ys xs = true := by
  refine win_iff.mpr fun e he => Classical.byContradiction fun hn => ?_
  have := len_le_of (l1 := e :: xs) (l2 := ys) (List.nodup_cons.mpr ⟨hn, h1⟩) fun x hx => by
    rcases List.mem_cons.mp hx with rfl | hx
    · exact he
    · exact win_iff.mp w x hx
  rw [List.length_cons] at this
  omega
/-! ### all sets -/
def firstL (xs : List Int) : Int := match xs.getLast? with
  | some x => x + 1
  | none => 0
def rngI (a b : Int) : List Int := (List.range (b - a).toNat).map fun (i : Nat) => a + (i : Int)
theorem mem_rngI {a b e : Int} : e ∈ rngI a b ↔ a ≤ e ∧ e < b := by
  unfold rngI
  rw [List.mem_map]
  constructor
  · rintro ⟨i, hi, rfl⟩
    rw [List.mem_range] at hi
    omega
  · rintro ⟨h1, h2⟩
    exact ⟨(e - a).toNat, List.mem_range.mpr (by omega), by omega⟩
def nextL (n : Int) (rows : List (List Int)) : List (List Int) := rows.flatMap fun r => (rngI (firstL r) n).map fun e => r ++ [e]
def setsL (n : Int) : Nat → List (List Int)
  | 0 => [[]]
  | r + 1 => nextL n (setsL n r)
def allL (m : Nat) : List (List Int) := (List.range (m + 1)).flatMap fun r => setsL m r
theorem sets_full (n : Int) : ∀ (r : Nat) (xs : List Int), Asc xs → (∀ e ∈ xs, 0 ≤ e ∧ e < n) → xs.length = r → xs ∈ setsL n r
  | 0, xs, _, _, h => by
    rw [List.eq_nil_of_length_eq_zero h]
    exact List.mem_singleton_self _
  | r + 1, xs, ha, hb, h => by
    have hne : xs ≠ [] := fun e => by rw [e] at h; cases h
    have e := List.dropLast_concat_getLast hne
    have ih := sets_full n r xs.dropLast (ha.sublist (List.dropLast_sublist xs)) (fun e m => hb e (List.dropLast_subset xs m)) (by rw [List.length_dropLast]; omega)
    have hl := hb _ (List.getLast_mem hne)
    unfold setsL nextL
    rw [List.mem_flatMap]
    refine ⟨xs.dropLast, ih, List.mem_map.mpr ⟨xs.getLast hne, ?_, e⟩⟩
    rw [mem_rngI]
    refine ⟨?_, hl.2⟩
    unfold firstL
    split
    · rename_i x hx
      have hm : x ∈ xs.dropLast := List.mem_of_getLast? hx
      rw [← e] at ha
      have := (List.pairwise_append.mp ha).2.2 x hm _ (List.mem_singleton_self _)
      omega
    · exact hl.1
theorem all_full {m : Nat} {xs : List Int} (ha : Asc xs) (hb : ∀ e ∈ xs, 0 ≤ e ∧ e < (m : Int)) : xs ∈ allL m := by
  unfold allL
  rw [List.mem_flatMap]
  refine ⟨xs.length, List.mem_range.mpr ?_, sets_full _ _ _ ha hb rfl⟩
  have := len_le_of (l1 := xs) (l2 := rngI 0 m) ha.nodup fun e he => mem_rngI.mpr (hb e he)
  have e2 : (rngI 0 m).length = m := by simp [rngI]
  omega
structure AllOk (m : Nat) : Prop where
  asc : ∀ s ∈ allL m, Asc s ∧ ∀ e ∈ s, 0 ≤ e ∧ e < (m : Int)
  len : (allL m).Pairwise fun a b => a.length ≤ b.length
theorem sets_ok (n : Int) : ∀ (r : Nat), ∀ s ∈ setsL n r, Asc s ∧ (∀ e ∈ s, 0 ≤ e ∧ e < n) ∧ s.length = r
  | 0, s, h => by
    rw [List.mem_singleton.mp h]
    exact ⟨List.Pairwise.nil, fun e m => absurd m List.not_mem_nil, rfl⟩
  | r + 1, s, h => by
    unfold setsL nextL at h
    obtain ⟨t, ht, hs⟩ := List.mem_flatMap.mp h
    obtain ⟨e, he, rfl⟩ := List.mem_map.mp hs
    obtain ⟨h1, h2, h3⟩ := sets_ok n r t ht
    rw [mem_rngI] at he
    have key : 0 ≤ e ∧ ∀ x ∈ t, x < e := by
      unfold firstL at he
      split at he
      · rename_i x hx
        have hx0 := h2 x (List.mem_of_getLast? hx)
        refine ⟨by omega, fun y hy => ?_⟩
        obtain ⟨t', rfl⟩ := List.getLast?_eq_some_iff.mp hx
        rcases List.mem_append.mp hy with hy | hy
        · have := (List.pairwise_append.mp h1).2.2 y hy x (List.mem_singleton_self _)
          omega
        · rw [List.mem_singleton.mp hy]; omega
      · rename_i hx
        rw [List.getLast?_eq_none_iff] at hx
        subst hx
        exact ⟨he.1, fun x hx => absurd hx List.not_mem_nil⟩
    refine ⟨List.pairwise_append.mpr ⟨h1, List.pairwise_singleton _ _, fun x hx y hy => ?_⟩, fun x hx => ?_, by rw [List.length_append, h3]; rfl⟩
    · rw [List.mem_singleton.mp hy]; exact key.2 x hx
    · rcases List.mem_append.mp hx with hx | hx
      · exact h2 x hx
      · rw [List.mem_singleton.mp hx]; exact ⟨key.1, he.2⟩
theorem allOk (m : Nat) : AllOk m := by
  refine ⟨fun s hs => ?_, ?_⟩
  · unfold allL at hs
    obtain ⟨r, _, hr⟩ := List.mem_flatMap.mp hs
    obtain ⟨h1, h2, _⟩ := sets_ok _ _ _ hr
    exact ⟨h1, h2⟩
  · unfold allL
    refine List.pairwise_flatMap.mpr ⟨fun r _ => ?_, (List.pairwise_lt_range).imp fun {a b} h s hs t ht => ?_⟩
    · have : ∀ l : List (List Int), (∀ s ∈ l, s.length = r) → l.Pairwise fun a b => a.length ≤ b.length := by
        intro l
        induction l with
        | nil => exact fun _ => .nil
        | cons x l ih => exact fun h => .cons (fun y hy => by rw [h x List.mem_cons_self, h y (List.mem_cons_of_mem _ hy)]; exact Nat.le_refl _) (ih fun s hs => h s (List.mem_cons_of_mem _ hs))
      exact this _ fun s hs => (sets_ok _ _ _ hs).2.2
    · rw [(sets_ok _ _ _ hs).2.2, (sets_ok _ _ _ ht).2.2]
      omega
/-! ### least sets -/
def minScan (P : List Int → Bool) : List (List Int) → List (List Int) → List (List Int)
  | [], found => found
  | s :: L, found => if P s && !found.any (fun t => win t s) then minScan P L (found ++ [s]) else minScan P L found
structure ScanOk (P : List Int → Bool) (done found : List (List Int)) : Prop where
  sub : found.Sublist done
  all : ∀ t ∈ found, P t = true
  pw : found.Pairwise fun a b => win a b = false
  dom : ∀ s ∈ done, P s = true → ∃ t ∈ found, win t s = true
theorem scan_ok (P : List Int → Bool) : ∀ (L done found : List (List Int)), ScanOk P done found → ScanOk P (done ++ L) (minScan P L found)
  | [], done, found, h => by rw [List.append_nil]; exact h
  | s :: L, done, found, h => by
    have e : done ++ s :: L = (done ++ [s]) ++ L := by simp
    rw [e]
    unfold minScan
    split
    · rename_i hc
      rw [Bool.and_eq_true, Bool.not_eq_true'] at hc
      refine scan_ok P L _ _ ⟨h.sub.append (List.Sublist.refl _), fun t ht => ?_, ?_, fun t ht hP => ?_⟩
      · rcases List.mem_append.mp ht with ht | ht
        · exact h.all t ht
        · rw [List.mem_singleton.mp ht]; exact hc.1
      · refine List.pairwise_append.mpr ⟨h.pw, List.pairwise_singleton _ _, fun a ha b hb => ?_⟩
        rw [List.mem_singleton.mp hb]
        exact Bool.eq_false_iff.mpr fun w => Bool.eq_false_iff.mp hc.2 (List.any_eq_true.mpr ⟨a, ha, w⟩)
      · rcases List.mem_append.mp ht with ht | ht
        · obtain ⟨u, hu, w⟩ := h.dom t ht hP
          exact ⟨u, List.mem_append_left _ hu, w⟩
        · rw [List.mem_singleton.mp ht]
          exact ⟨s, List.mem_append_right _ (List.mem_singleton_self _), win_refl s⟩
    · rename_i hc
      refine scan_ok P L _ _ ⟨h.sub.trans (List.sublist_append_left _ _), h.all, h.pw, fun t ht hP => ?_⟩
      rcases List.mem_append.mp ht with ht | ht
      · exact h.dom t ht hP
      · rw [List.mem_singleton.mp ht] at hP ⊢
        rw [hP, Bool.true_and, Bool.not_eq_true', Bool.not_eq_false] at hc
        exact List.any_eq_true.mp hc
/-- none within another -/
abbrev Anti (F : List (List Int)) : Prop := F.Pairwise fun a b => win a b = false ∧ win b a = false
structure Fam (m : Nat) (F : List (List Int)) : Prop where
  ok : ∀ s ∈ F, Asc s ∧ ∀ e ∈ s, 0 ≤ e ∧ e < (m : Int)
  anti : Anti F
theorem Fam.perm {m : Nat} {F G : List (List Int)} (h : Fam m F) (p : F.Perm G) : Fam m G :=
  ⟨fun s hs => h.ok s (p.mem_iff.mpr hs), (p.pairwise_iff (fun h => ⟨h.2, h.1⟩)).mp h.anti⟩
def least (m : Nat) (P : List Int → Bool) : List (List Int) := minScan P (allL m) []
theorem least_ok (m : Nat) (P : List Int → Bool) : ScanOk P (allL m) (least m P) := scan_ok P (allL m) [] [] ⟨List.Sublist.refl _, fun t ht => absurd ht List.not_mem_nil, .nil, fun s hs => absurd hs List.not_mem_nil⟩
theorem least_fam (m : Nat) (P : List Int → Bool) : Fam m (least m P) := by
  have h := least_ok m P
  have A := allOk m
  have ok : ∀ s ∈ least m P, Asc s ∧ ∀ e ∈ s, 0 ≤ e ∧ e < (m : Int) := fun s hs => A.asc s (h.sub.subset hs)
  refine ⟨ok, ?_⟩
  have hl := A.len.sublist h.sub
  refine List.Pairwise.imp ?_ (List.Pairwise.and_mem.mp (h.pw.and hl))
  rintro a b ⟨ha, hb, w, l⟩
  refine ⟨w, Bool.eq_false_iff.mpr fun w2 => ?_⟩
  have := win_len (ok b hb).1.nodup w2 l
  rw [w] at this
  cases this
def meets (F : List (List Int)) (s : List Int) : Bool := F.all fun f => f.any fun e => decide (e ∈ s)
theorem meets_iff {F : List (List Int)} {s : List Int} : meets F s = true ↔ ∀ f ∈ F, ∃ e ∈ f, e ∈ s := by
  unfold meets
  rw [List.all_eq_true]
  refine forall_congr' fun f => forall_congr' fun _ => ?_
  rw [List.any_eq_true]
  exact exists_congr fun e => and_congr_right fun _ => decide_eq_true_iff
def knows (F : List (List Int)) (s : List Int) : Bool := F.any fun f => win f s
theorem knows_iff {F : List (List Int)} {s : List Int} : knows F s = true ↔ ∃ f ∈ F, win f s = true := List.any_eq_true
def compl (m : Nat) (s : List Int) : List Int := (rngI 0 m).filter fun e => !decide (e ∈ s)
theorem mem_compl {m : Nat} {s : List Int} {e : Int} : e ∈ compl m s ↔ (0 ≤ e ∧ e < (m : Int)) ∧ e ∉ s := by
  unfold compl
  rw [List.mem_filter, mem_rngI]
  simp
theorem asc_rng (a b : Int) : Asc (rngI a b) := by
  unfold rngI
  refine List.pairwise_map.mpr (List.pairwise_lt_range.imp fun {x y} h => ?_)
  omega
theorem compl_all (m : Nat) (s : List Int) : compl m s ∈ allL m := all_full ((asc_rng 0 m).sublist List.filter_sublist) fun e he => (mem_compl.mp he).1
theorem meets_compl {m : Nat} {F : List (List Int)} (hF : ∀ f ∈ F, ∀ e ∈ f, 0 ≤ e ∧ e < (m : Int)) (s : List Int) : meets F (compl m s) = !knows F s := by
  rw [Bool.eq_iff_iff, meets_iff, Bool.not_eq_true', Bool.eq_false_iff, Ne, knows_iff]
  constructor
  · rintro h ⟨f, hf, w⟩
    obtain ⟨e, he, hc⟩ := h f hf
    exact (mem_compl.mp hc).2 (win_iff.mp w e he)
  · intro h f hf
    refine Classical.byContradiction fun hn => h ⟨f, hf, win_iff.mpr fun e he => Classical.byContradiction fun hs => hn ⟨e, he, mem_compl.mpr ⟨hF f hf e he, hs⟩⟩⟩
theorem meets_mono {F : List (List Int)} {s t : List Int} (h : win s t = true) (hs : meets F s = true) : meets F t = true :=
  meets_iff.mpr fun f hf => let ⟨e, he, hm⟩ := meets_iff.mp hs f hf; ⟨e, he, win_iff.mp h e hm⟩
def dual (m : Nat) (F : List (List Int)) : List (List Int) := least m (meets F)
theorem dual_compl {m : Nat} {F : List (List Int)} (hF : ∀ f ∈ F, ∀ e ∈ f, 0 ≤ e ∧ e < (m : Int)) (s : List Int) : knows (dual m F) (compl m s) = !knows F s := by
  rw [← meets_compl hF s, Bool.eq_iff_iff]
  have h := least_ok m (meets F)
  constructor
  · intro hk
    obtain ⟨g, hg, w⟩ := knows_iff.mp hk
    exact meets_mono w (h.all g hg)
  · intro hm
    obtain ⟨t, ht, w⟩ := h.dom _ (compl_all m s) hm
    exact knows_iff.mpr ⟨t, ht, w⟩
theorem meets_swap {m : Nat} {F : List (List Int)} (hF : Fam m F) {s : List Int} (hs : s ∈ allL m) : meets (dual m F) s = knows F s := by
  have h := least_ok m (meets F)
  rw [Bool.eq_iff_iff]
  constructor
  · intro hm
    refine Classical.byContradiction fun hn => ?_
    have hc : knows (dual m F) (compl m s) = true := by
      rw [dual_compl (fun f hf => (hF.ok f hf).2) s, Bool.eq_false_iff.mpr hn]; rfl
    obtain ⟨g, hg, w⟩ := knows_iff.mp hc
    obtain ⟨e, he, hes⟩ := meets_iff.mp hm g hg
    exact (mem_compl.mp (win_iff.mp w e he)).2 hes
  · intro hk
    obtain ⟨f, hf, w⟩ := knows_iff.mp hk
    refine meets_iff.mpr fun g hg => ?_
    obtain ⟨e, he, heg⟩ := meets_iff.mp (h.all g hg) f hf
    exact ⟨e, heg, win_iff.mp w e he⟩
theorem anti_eq {F : List (List Int)} (h : Anti F) : ∀ a ∈ F, ∀ b ∈ F, win a b = true → a = b := by
  induction F with
  | nil => exact fun a ha => absurd ha List.not_mem_nil
  | cons x F ih =>
    intro a ha b hb w
    have h := List.pairwise_cons.mp h
    rcases List.mem_cons.mp ha with rfl | ha'
    · rcases List.mem_cons.mp hb with rfl | hb'
      · rfl
      · rw [(h.1 b hb').1] at w; cases w
    · rcases List.mem_cons.mp hb with rfl | hb'
      · rw [(h.1 a ha').2] at w; cases w
      · exact ih h.2 a ha' b hb' w
theorem anti_nodup {F : List (List Int)} (h : Anti F) : F.Nodup := h.imp fun {a b} w e => by
  subst e
  rw [win_refl] at w
  cases w.1
/-- the dual of the dual -/
theorem dual_dual {m : Nat} {F : List (List Int)} (hF : Fam m F) : (dual m (dual m F)).Perm F := by
  have hG := least_fam m (meets (dual m F))
  have h2 := least_ok m (meets (dual m F))
  have inA : ∀ f ∈ F, f ∈ allL m := fun f hf => all_full (hF.ok f hf).1 (hF.ok f hf).2
  refine (List.perm_ext_iff_of_nodup (anti_nodup hG.anti) (anti_nodup hF.anti)).mpr fun s => ⟨fun hs => ?_, fun hs => ?_⟩
  · have sA := h2.sub.subset hs
    have hk := h2.all s hs
    rw [meets_swap hF sA] at hk
    obtain ⟨f, hf, w⟩ := knows_iff.mp hk
    have hf2 : meets (dual m F) f = true := by
      rw [meets_swap hF (inA f hf)]
      exact knows_iff.mpr ⟨f, hf, win_refl f⟩
    obtain ⟨b, hb, wb⟩ := h2.dom f (inA f hf) hf2
    have e := anti_eq hG.anti b hb s hs (win_trans wb w)
    subst e
    rw [win_asc (hG.ok b hs).1 (hF.ok f hf).1 wb w]
    exact hf
  · have hs2 : meets (dual m F) s = true := by
      rw [meets_swap hF (inA s hs)]
      exact knows_iff.mpr ⟨s, hs, win_refl s⟩
    obtain ⟨b, hb, wb⟩ := h2.dom s (inA s hs) hs2
    have hk := h2.all b hb
    rw [meets_swap hF (h2.sub.subset hb)] at hk
    obtain ⟨f, hf, w⟩ := knows_iff.mp hk
    have e := anti_eq hF.anti f hf s hs (win_trans w wb)
    subst e
    rw [win_asc (hF.ok f hs).1 (hG.ok b hb).1 w wb]
    exact hb
theorem dual_ne {m : Nat} {F : List (List Int)} (hF : ∀ f ∈ F, f ≠ [] ∧ ∀ e ∈ f, 0 ≤ e ∧ e < (m : Int)) : dual m F ≠ [] := fun h => by
  have hk := dual_compl (m := m) (F := F) (fun f hf => (hF f hf).2) []
  rw [h] at hk
  have : knows F [] = true := by
    cases q : knows F [] with
    | true => rfl
    | false => rw [q] at hk; cases hk
  obtain ⟨f, hf, w⟩ := knows_iff.mp this
  cases f with
  | nil => exact (hF [] hf).1 rfl
  | cons e f => exact absurd (win_iff.mp w e List.mem_cons_self) List.not_mem_nil
theorem dual_mem_ne {m : Nat} {F : List (List Int)} (hF : F ≠ []) : ∀ g ∈ dual m F, g ≠ [] := fun g hg e => by
  subst e
  obtain ⟨f, hf⟩ := List.exists_mem_of_ne_nil F hF
  obtain ⟨e, _, he⟩ := meets_iff.mp ((least_ok m (meets F)).all [] hg) f hf
  exact absurd he List.not_mem_nil
/-! ### at most 70 sets -/
def chainT : List Nat := [0, 0, 1, 0, 2, 2, 1, 0, 3, 3, 4, 3, 5, 2, 1, 0, 6, 6, 7, 6, 8, 8, 7, 6, 9, 9, 4, 3, 5, 2, 1, 0, 10, 10, 11, 10, 12, 12, 11, 10, 13, 13, 14, 13, 15, 12, 11, 10, 16, 16, 17, 16, 18, 8, 7, 6, 19, 9, 4, 3, 5, 2, 1, 0, 20, 20, 21, 20, 22, 22, 21, 20, 23, 23, 24, 23, 25, 22, 21, 20, 26, 26, 27, 26, 28, 28, 27, 26, 29, 29, 24, 23, 25, 22, 21, 20, 30, 30, 31, 30, 32, 32, 31, 30, 33, 33, 14, 13, 15, 12, 11, 10, 34, 34, 17, 16, 18, 8, 7, 6, 19, 9, 4, 3, 5, 2, 1, 0, 35, 35, 36, 35, 37, 37, 36, 35, 38, 38, 39, 38, 40, 37, 36, 35, 41, 41, 42, 41, 43, 43, 42, 41, 44, 44, 39, 38, 40, 37, 36, 35, 45, 45, 46, 45, 47, 47, 46, 45, 48, 48, 49, 48, 50, 47, 46, 45, 51, 51, 52, 51, 53, 43, 42, 41, 54, 44, 39, 38, 40, 37, 36, 35, 55, 55, 56, 55, 57, 57, 56, 55, 58, 58, 59, 58, 60, 57, 56, 55, 61, 61, 62, 61, 63, 28, 27, 26, 64, 29, 24, 23, 25, 22, 21, 20, 65, 65, 66, 65, 67, 32, 31, 30, 68, 33, 14, 13, 15, 12, 11, 10, 69, 34, 17, 16, 18, 8, 7, 6, 19, 9, 4, 3, 5, 2, 1, 0]
def chainOf (s : List Int) : Nat := chainT.getD (s.foldl (fun a e => a + 2 ^ e.toNat) 0) 0
def chains : List (Nat × List Int) := (allL 8).map fun s => (chainOf s, s)
theorem chains_ok : (chains.all fun p => decide (p.1 < 70) && chains.all fun q => !(Nat.beq p.1 q.1) || (win p.2 q.2 || win q.2 p.2)) = true := by decide +kernel
theorem most {m : Nat} (hm : m ≤ 8) {F : List (List Int)} (hF : Fam m F) : F.length ≤ 70 := by
  have inA : ∀ f ∈ F, (chainOf f, f) ∈ chains := fun f hf => List.mem_map.mpr ⟨f, all_full (hF.ok f hf).1 (fun e he => by have := (hF.ok f hf).2 e he; omega), rfl⟩
  have K := List.all_eq_true.mp chains_ok
  have h := len_le_of (l1 := F.map chainOf) (l2 := List.range 70) (by
    refine List.pairwise_map.mpr (List.Pairwise.imp ?_ (List.Pairwise.and_mem.mp hF.anti))
    rintro a b ⟨ha, hb, w1, w2⟩ e
    have k := ((Bool.and_eq_true _ _).mp (K _ (inA a ha))).2
    have k2 := List.all_eq_true.mp k _ (inA b hb)
    rw [Bool.or_eq_true, Bool.not_eq_true', Bool.or_eq_true] at k2
    rcases k2 with k2 | k2 | k2
    · have : Nat.beq (chainOf a) (chainOf b) = true := by rw [e]; exact Nat.beq_refl _
      rw [k2] at this; cases this
    · rw [w1] at k2; cases k2
    · rw [w2] at k2; cases k2) fun x hx => by
    obtain ⟨f, hf, rfl⟩ := List.mem_map.mp hx
    exact List.mem_range.mpr (of_decide_eq_true ((Bool.and_eq_true _ _).mp (K _ (inA f hf))).1)
  rw [List.length_map, List.length_range] at h
  exact h
end StrA
/-! S1: what the law draws, and how it compares. -/
namespace G85
open PySem L2 DL
/-! ### 2. the pool -/
theorem take_rest (cells : List Int) (at_ rest seed many : Int) (R : Store) (ha : 0 ≤ at_) (hr : 0 < rest) (hm : 0 < many) (hm2 : many < 1000) (n : Nat) :
    (F__law_take_at (n + 1) [.cell 0, .d (.int many)] (.lst [.list (cells.map .int), .int at_, .int rest, .int seed] :: R)).Ret fun v S' => ∃ d P', v = .d (.int d) ∧ 0 ≤ d ∧ d < many ∧ S' = P' :: R ∧ PoolOk P' := by
  have d1 : ∀ i, divC i many = true := fun i => divC_of (by omega) (by omega)
  have m1 : ∀ i, modC i many = true := fun i => modC_of (by omega)
  simp -implicitDefEqProofs only [F__law_take_at, b__law_take, fSeq_eq, seqK_nx, seqK_rt, seqK_bk, seqK_ct, seqK_ite, eVar_0, eVar_s, bind_ok, sB_ok, eC_eq, eBin_eq, eUn_eq, iOp0_eq, iCmp_eq, tst_eq, addI, negI, fSet_eq, fRet_eq, fExpr_eq, fIf_eq, fAsg_eq, fPar_eq, fNil_eq, fBreak_eq, fCont_eq, gNm_eq, gsNil_eq, gsCons_eq, aNil_eq, aCons_eq, eCall_eq, eCallD_eq, intS_eq, absS_eq, mmS_eq, len_l, len_t, list_l, list_t, tup_l, tup_t, finF_eq, finC_eq, allD_nil, allD_cons, eTup_eq, eLst_eq, eIf_eq, runD_eq, hand_rt, handF_d, take_self, srcS_l, srcS_t, iSrc_eq, iZip_eq, zip_l, iEnm_eq, enum_l, pix0, pix1, pix2, pix3, pset1, pset2, pset3, gSub_eq, tYes_eq, eAdd_eq, eSub_eq, eMul_eq, eDiv_eq, eMod_eq, ePow_eq, eXor_eq, eNeg_eq, eIx_eq, eqI_t, eqI_f, tNot_eq, tAnd_eq, tOr_eq, tru_eq, tru_bool, tru_int, tru_list, eAnd_eq, eNot_eq, isi_eq, asD_d, List.length_cons, List.length_nil, List.map_cons, List.map_nil, List.cons_append, List.nil_append, List.append_nil, List.set_cons_succ, List.set_cons_zero, List.replicate_succ, List.replicate_zero, Option.map_some, if_true, if_false, reduceIte, Nat.reduceAdd, Nat.reduceSub, Nat.reduceLeDiff, List.length_map, Nat.reduceEqDiff, Bool.false_eq_true, Bool.not_false, Bool.not_true, ne_eq, not_true_eq_false, not_false_eq_true, decide_true, decide_false, eq_self, hand_rt, decide_eq_true_eq, sl_l, eSl_eq, oNone_eq, oSome_eq, iOp_eq _ _ _ _ _ (d1 _), iOp_eq _ _ _ _ _ (m1 _), hr, fmod_pos (Int.le_of_lt hm), Ret_ok]
  exact ⟨_, _, rfl, Int.emod_nonneg _ (by omega), Int.emod_lt_of_pos _ hm, tk1 _ _, cells, at_, _, seed, rfl, ha⟩
theorem take_ok (P : MO) (many : Int) (R : Store) (hP : PoolOk P) (hm : 0 < many) (hm2 : many < 1000) : (F__law_take [.cell 0, .d (.int many)] (P :: R)).Ret fun v S' => ∃ d P', v = .d (.int d) ∧ 0 ≤ d ∧ d < many ∧ S' = P' :: R ∧ PoolOk P' := by
  obtain ⟨cells, at_, rest, seed, rfl, ha⟩ := hP
  by_cases hr : 0 < rest
  · exact take_rest cells at_ rest seed many R ha hr hm hm2 2
  · have d1 : ∀ i, divC i 2 = true := fun i => divC_of (by decide) (by decide)
    have d3 : ∀ i, divC i 3 = true := fun i => divC_of (by decide) (by decide)
    have m1 : ∀ i, modC i many = true := fun i => modC_of (by omega)
    have m2 : ∀ i, modC i 2147483647 = true := fun i => modC_of (by decide)
    have m3 : ∀ i, modC i 1000000007 = true := fun i => modC_of (by decide)
    have p1 : powC 10 18 = true := by decide
    have c1 : ∀ i, mulC i 48271 = true := fun i => mulC_r (by decide) (by decide)
    have c2 : ∀ i, mulC i 69621 = true := fun i => mulC_r (by decide) (by decide)
    have c3 : ∀ i, mulC i 613 = true := fun i => mulC_r (by decide) (by decide)
    have c4 : ∀ i, mulC i 7919 = true := fun i => mulC_r (by decide) (by decide)
    have c5 : ∀ i j, mulC (i % 2147483647) j = true := fun i j => mulC_l (by have := Int.emod_nonneg i (b := 2147483647) (by decide); omega) (by have := Int.emod_lt_of_pos i (b := 2147483647) (by decide); omega)
    have q0 : (0 : Int) ≤ 2147483647 := by decide
    have q1 : (0 : Int) ≤ 1000000007 := by decide
    have q2 : (0 : Int) ≤ 3 := by decide
    have q3 : (0 : Int) ≤ 2 := by decide
    show (runD handF 5 (b__law_take (F__law_take_at 2)) _ _).Ret _
    by_cases hl : at_ < cells.length
    · have hx : atI (cells.map PyData.int) at_ = some (.int (cells.getD at_.toNat 0)) := by
        have e1 : at_ = (at_.toNat : Int) := by omega
        have e2 : (cells.map PyData.int)[at_.toNat]? = some (.int (cells.getD at_.toNat 0)) := by
          rw [List.getElem?_map, List.getD, List.getElem?_eq_getElem (show at_.toNat < cells.length by omega)]
          rfl
        rw [e1]
        exact ix_nat e2
      by_cases hc : (10 : Int) ^ (18 : Int).toNat ≤ cells.getD at_.toNat 0
      · have hc2 : (0 : Int) < cells.getD at_.toNat 0 / 2 := by
          have : (10 : Int) ^ (18 : Int).toNat = 1000000000000000000 := by decide
          omega
        obtain ⟨v, S', e, d, P', rfl, h1, h2, rfl, h3⟩ := (take_rest cells (at_ + 1) (cells.getD at_.toNat 0 / 2) seed many R (by omega) hc2 hm hm2 1).ok
        simp -implicitDefEqProofs only [b__law_take, fSeq_eq, seqK_nx, seqK_rt, seqK_bk, seqK_ct, seqK_ite, eVar_0, eVar_s, bind_ok, sB_ok, eC_eq, eBin_eq, eUn_eq, iOp0_eq, iCmp_eq, tst_eq, addI, negI, fSet_eq, fRet_eq, fExpr_eq, fIf_eq, fAsg_eq, fPar_eq, fNil_eq, fBreak_eq, fCont_eq, gNm_eq, gsNil_eq, gsCons_eq, aNil_eq, aCons_eq, eCall_eq, eCallD_eq, intS_eq, absS_eq, mmS_eq, len_l, len_t, list_l, list_t, tup_l, tup_t, finF_eq, finC_eq, allD_nil, allD_cons, eTup_eq, eLst_eq, eIf_eq, runD_eq, hand_rt, handF_d, take_self, srcS_l, srcS_t, iSrc_eq, iZip_eq, zip_l, iEnm_eq, enum_l, pix0, pix1, pix2, pix3, pset1, pset2, pset3, gSub_eq, tYes_eq, eAdd_eq, eSub_eq, eMul_eq, eDiv_eq, eMod_eq, ePow_eq, eXor_eq, eNeg_eq, eIx_eq, eqI_t, eqI_f, tNot_eq, tAnd_eq, tOr_eq, tru_eq, tru_bool, tru_int, tru_list, eAnd_eq, eNot_eq, isi_eq, asD_d, List.length_cons, List.length_nil, List.map_cons, List.map_nil, List.cons_append, List.nil_append, List.append_nil, List.set_cons_succ, List.set_cons_zero, List.replicate_succ, List.replicate_zero, Option.map_some, if_true, if_false, reduceIte, Nat.reduceAdd, Nat.reduceSub, Nat.reduceLeDiff, List.length_map, Nat.reduceEqDiff, Bool.false_eq_true, Bool.not_false, Bool.not_true, ne_eq, not_true_eq_false, not_false_eq_true, decide_true, decide_false, eq_self, hand_rt, decide_eq_true_eq, sl_l, eSl_eq, oNone_eq, oSome_eq, hr, hl, ix_l _ hx, hc, iOp_eq _ _ _ _ _ p1, iOp_eq _ _ _ _ _ (d1 _), fdiv_pos q3, e, Ret_ok]
        exact ⟨_, _, rfl, h1, h2, tk1 _ _, h3⟩
      · simp -implicitDefEqProofs only [b__law_take, fSeq_eq, seqK_nx, seqK_rt, seqK_bk, seqK_ct, seqK_ite, eVar_0, eVar_s, bind_ok, sB_ok, eC_eq, eBin_eq, eUn_eq, iOp0_eq, iCmp_eq, tst_eq, addI, negI, fSet_eq, fRet_eq, fExpr_eq, fIf_eq, fAsg_eq, fPar_eq, fNil_eq, fBreak_eq, fCont_eq, gNm_eq, gsNil_eq, gsCons_eq, aNil_eq, aCons_eq, eCall_eq, eCallD_eq, intS_eq, absS_eq, mmS_eq, len_l, len_t, list_l, list_t, tup_l, tup_t, finF_eq, finC_eq, allD_nil, allD_cons, eTup_eq, eLst_eq, eIf_eq, runD_eq, hand_rt, handF_d, take_self, srcS_l, srcS_t, iSrc_eq, iZip_eq, zip_l, iEnm_eq, enum_l, pix0, pix1, pix2, pix3, pset1, pset2, pset3, gSub_eq, tYes_eq, eAdd_eq, eSub_eq, eMul_eq, eDiv_eq, eMod_eq, ePow_eq, eXor_eq, eNeg_eq, eIx_eq, eqI_t, eqI_f, tNot_eq, tAnd_eq, tOr_eq, tru_eq, tru_bool, tru_int, tru_list, eAnd_eq, eNot_eq, isi_eq, asD_d, List.length_cons, List.length_nil, List.map_cons, List.map_nil, List.cons_append, List.nil_append, List.append_nil, List.set_cons_succ, List.set_cons_zero, List.replicate_succ, List.replicate_zero, Option.map_some, if_true, if_false, reduceIte, Nat.reduceAdd, Nat.reduceSub, Nat.reduceLeDiff, List.length_map, Nat.reduceEqDiff, Bool.false_eq_true, Bool.not_false, Bool.not_true, ne_eq, not_true_eq_false, not_false_eq_true, decide_true, decide_false, eq_self, hand_rt, decide_eq_true_eq, sl_l, eSl_eq, oNone_eq, oSome_eq, hr, hl, ix_l _ hx, hc, iOp_eq _ _ _ _ _ p1, iOp_eq _ _ _ _ _ (d3 _), iOp_eq _ _ _ _ _ (m1 _), iOp_eq _ _ _ _ _ (m2 _), iOp_eq _ _ _ _ _ (m3 _), mulI _ _ (c1 _), mulI _ _ (c2 _), mulI _ _ (c3 _), fmod_pos q0, mulI _ _ (c4 _), mulI _ _ (c5 _ _), fmod_pos q1, fdiv_pos q2, fmod_pos (Int.le_of_lt hm), Ret_ok]
        exact ⟨_, _, rfl, Int.emod_nonneg _ (by omega), Int.emod_lt_of_pos _ hm, tk1 _ _, cells, _, _, _, rfl, by omega⟩
    · have hc : ¬ (10 : Int) ^ (18 : Int).toNat ≤ 0 := by decide
      simp -implicitDefEqProofs only [b__law_take, fSeq_eq, seqK_nx, seqK_rt, seqK_bk, seqK_ct, seqK_ite, eVar_0, eVar_s, bind_ok, sB_ok, eC_eq, eBin_eq, eUn_eq, iOp0_eq, iCmp_eq, tst_eq, addI, negI, fSet_eq, fRet_eq, fExpr_eq, fIf_eq, fAsg_eq, fPar_eq, fNil_eq, fBreak_eq, fCont_eq, gNm_eq, gsNil_eq, gsCons_eq, aNil_eq, aCons_eq, eCall_eq, eCallD_eq, intS_eq, absS_eq, mmS_eq, len_l, len_t, list_l, list_t, tup_l, tup_t, finF_eq, finC_eq, allD_nil, allD_cons, eTup_eq, eLst_eq, eIf_eq, runD_eq, hand_rt, handF_d, take_self, srcS_l, srcS_t, iSrc_eq, iZip_eq, zip_l, iEnm_eq, enum_l, pix0, pix1, pix2, pix3, pset1, pset2, pset3, gSub_eq, tYes_eq, eAdd_eq, eSub_eq, eMul_eq, eDiv_eq, eMod_eq, ePow_eq, eXor_eq, eNeg_eq, eIx_eq, eqI_t, eqI_f, tNot_eq, tAnd_eq, tOr_eq, tru_eq, tru_bool, tru_int, tru_list, eAnd_eq, eNot_eq, isi_eq, asD_d, List.length_cons, List.length_nil, List.map_cons, List.map_nil, List.cons_append, List.nil_append, List.append_nil, List.set_cons_succ, List.set_cons_zero, List.replicate_succ, List.replicate_zero, Option.map_some, if_true, if_false, reduceIte, Nat.reduceAdd, Nat.reduceSub, Nat.reduceLeDiff, List.length_map, Nat.reduceEqDiff, Bool.false_eq_true, Bool.not_false, Bool.not_true, ne_eq, not_true_eq_false, not_false_eq_true, decide_true, decide_false, eq_self, hand_rt, decide_eq_true_eq, sl_l, eSl_eq, oNone_eq, oSome_eq, hr, hl, hc, iOp_eq _ _ _ _ _ p1, iOp_eq _ _ _ _ _ (d3 _), iOp_eq _ _ _ _ _ (m1 _), iOp_eq _ _ _ _ _ (m2 _), iOp_eq _ _ _ _ _ (m3 _), mulI _ _ (c1 _), mulI _ _ (c2 _), mulI _ _ (c3 _), fmod_pos q0, mulI _ _ (c4 _), mulI _ _ (c5 _ _), fmod_pos q1, fdiv_pos q2, fmod_pos (Int.le_of_lt hm), Ret_ok]
      exact ⟨_, _, rfl, Int.emod_nonneg _ (by omega), Int.emod_lt_of_pos _ hm, tk1 _ _, cells, _, _, _, rfl, by omega⟩
theorem pick_ok (P : MO) (xs : List PyData) (R : Store) (hP : PoolOk P) (h1 : 0 < xs.length) (h2 : xs.length < 1000) : (F__law_pick [.cell 0, .d (.list xs)] (P :: R)).Ret fun v S' => ∃ x P', v = .d x ∧ x ∈ xs ∧ S' = P' :: R ∧ PoolOk P' := by
  obtain ⟨v, S', e, d, P', rfl, u1, u2, rfl, u3⟩ := (take_ok P xs.length R hP (by omega) (by omega)).ok
  obtain ⟨k, rfl⟩ : ∃ k : Nat, d = k := ⟨d.toNat, by omega⟩
  have hx : atI xs (k : Int) = some (xs[k]'(by omega)) := ix_nat (List.getElem?_eq_getElem _)
  simp -implicitDefEqProofs only [F__law_pick, b__law_pick, fSeq_eq, seqK_nx, seqK_rt, seqK_bk, seqK_ct, seqK_ite, eVar_0, eVar_s, bind_ok, sB_ok, eC_eq, eBin_eq, eUn_eq, iOp0_eq, iCmp_eq, tst_eq, addI, negI, fSet_eq, fRet_eq, fExpr_eq, fIf_eq, fAsg_eq, fPar_eq, fNil_eq, fBreak_eq, fCont_eq, gNm_eq, gsNil_eq, gsCons_eq, aNil_eq, aCons_eq, eCall_eq, eCallD_eq, intS_eq, absS_eq, mmS_eq, len_l, len_t, list_l, list_t, tup_l, tup_t, finF_eq, finC_eq, allD_nil, allD_cons, eTup_eq, eLst_eq, eIf_eq, runD_eq, hand_rt, handF_d, take_self, srcS_l, srcS_t, iSrc_eq, iZip_eq, zip_l, iEnm_eq, enum_l, pix0, pix1, pix2, pix3, pset1, pset2, pset3, gSub_eq, tYes_eq, eAdd_eq, eSub_eq, eMul_eq, eDiv_eq, eMod_eq, ePow_eq, eXor_eq, eNeg_eq, eIx_eq, eqI_t, eqI_f, tNot_eq, tAnd_eq, tOr_eq, tru_eq, tru_bool, tru_int, tru_list, eAnd_eq, eNot_eq, isi_eq, asD_d, List.length_cons, List.length_nil, List.map_cons, List.map_nil, List.cons_append, List.nil_append, List.append_nil, List.set_cons_succ, List.set_cons_zero, List.replicate_succ, List.replicate_zero, Option.map_some, if_true, if_false, reduceIte, Nat.reduceAdd, Nat.reduceSub, Nat.reduceLeDiff, List.length_map, Nat.reduceEqDiff, Bool.false_eq_true, Bool.not_false, Bool.not_true, ne_eq, not_true_eq_false, not_false_eq_true, decide_true, decide_false, eq_self, hand_rt, decide_eq_true_eq, sl_l, eSl_eq, oNone_eq, oSome_eq, e, ix_l _ hx, Ret_ok]
  exact ⟨_, P', rfl, List.getElem_mem _, tk1 _ _, u3⟩
/-- a list or a tuple of these -/
def sq (b : Bool) (xs : List PyData) : PyData := if b then .list xs else .tuple xs
theorem given_ok (P : MO) (xs : List PyData) (R : Store) (hP : PoolOk P) : (F__law_given [.cell 0, .d (.list xs)] (P :: R)).Ret fun v S' => ∃ b P', v = .d (sq b xs) ∧ S' = P' :: R ∧ PoolOk P' := by
  obtain ⟨v, S', e, d, P', rfl, u1, u2, rfl, u3⟩ := (take_ok P 2 R hP (by omega) (by omega)).ok
  by_cases hd : d = 0
  · simp -implicitDefEqProofs only [F__law_given, b__law_given, fSeq_eq, seqK_nx, seqK_rt, seqK_bk, seqK_ct, seqK_ite, eVar_0, eVar_s, bind_ok, sB_ok, eC_eq, eBin_eq, eUn_eq, iOp0_eq, iCmp_eq, tst_eq, addI, negI, fSet_eq, fRet_eq, fExpr_eq, fIf_eq, fAsg_eq, fPar_eq, fNil_eq, fBreak_eq, fCont_eq, gNm_eq, gsNil_eq, gsCons_eq, aNil_eq, aCons_eq, eCall_eq, eCallD_eq, intS_eq, absS_eq, mmS_eq, len_l, len_t, list_l, list_t, tup_l, tup_t, finF_eq, finC_eq, allD_nil, allD_cons, eTup_eq, eLst_eq, eIf_eq, runD_eq, hand_rt, handF_d, take_self, srcS_l, srcS_t, iSrc_eq, iZip_eq, zip_l, iEnm_eq, enum_l, pix0, pix1, pix2, pix3, pset1, pset2, pset3, gSub_eq, tYes_eq, eAdd_eq, eSub_eq, eMul_eq, eDiv_eq, eMod_eq, ePow_eq, eXor_eq, eNeg_eq, eIx_eq, eqI_t, eqI_f, tNot_eq, tAnd_eq, tOr_eq, tru_eq, tru_bool, tru_int, tru_list, eAnd_eq, eNot_eq, isi_eq, asD_d, List.length_cons, List.length_nil, List.map_cons, List.map_nil, List.cons_append, List.nil_append, List.append_nil, List.set_cons_succ, List.set_cons_zero, List.replicate_succ, List.replicate_zero, Option.map_some, if_true, if_false, reduceIte, Nat.reduceAdd, Nat.reduceSub, Nat.reduceLeDiff, List.length_map, Nat.reduceEqDiff, Bool.false_eq_true, Bool.not_false, Bool.not_true, ne_eq, not_true_eq_false, not_false_eq_true, decide_true, decide_false, eq_self, hand_rt, decide_eq_true_eq, sl_l, eSl_eq, oNone_eq, oSome_eq, e, hd, Ret_ok]
    exact ⟨true, P', rfl, tk1 _ _, u3⟩
  · simp -implicitDefEqProofs only [F__law_given, b__law_given, fSeq_eq, seqK_nx, seqK_rt, seqK_bk, seqK_ct, seqK_ite, eVar_0, eVar_s, bind_ok, sB_ok, eC_eq, eBin_eq, eUn_eq, iOp0_eq, iCmp_eq, tst_eq, addI, negI, fSet_eq, fRet_eq, fExpr_eq, fIf_eq, fAsg_eq, fPar_eq, fNil_eq, fBreak_eq, fCont_eq, gNm_eq, gsNil_eq, gsCons_eq, aNil_eq, aCons_eq, eCall_eq, eCallD_eq, intS_eq, absS_eq, mmS_eq, len_l, len_t, list_l, list_t, tup_l, tup_t, finF_eq, finC_eq, allD_nil, allD_cons, eTup_eq, eLst_eq, eIf_eq, runD_eq, hand_rt, handF_d, take_self, srcS_l, srcS_t, iSrc_eq, iZip_eq, zip_l, iEnm_eq, enum_l, pix0, pix1, pix2, pix3, pset1, pset2, pset3, gSub_eq, tYes_eq, eAdd_eq, eSub_eq, eMul_eq, eDiv_eq, eMod_eq, ePow_eq, eXor_eq, eNeg_eq, eIx_eq, eqI_t, eqI_f, tNot_eq, tAnd_eq, tOr_eq, tru_eq, tru_bool, tru_int, tru_list, eAnd_eq, eNot_eq, isi_eq, asD_d, List.length_cons, List.length_nil, List.map_cons, List.map_nil, List.cons_append, List.nil_append, List.append_nil, List.set_cons_succ, List.set_cons_zero, List.replicate_succ, List.replicate_zero, Option.map_some, if_true, if_false, reduceIte, Nat.reduceAdd, Nat.reduceSub, Nat.reduceLeDiff, List.length_map, Nat.reduceEqDiff, Bool.false_eq_true, Bool.not_false, Bool.not_true, ne_eq, not_true_eq_false, not_false_eq_true, decide_true, decide_false, eq_self, hand_rt, decide_eq_true_eq, sl_l, eSl_eq, oNone_eq, oSome_eq, e, hd, Ret_ok]
    exact ⟨false, P', rfl, tk1 _ _, u3⟩
/-! ### 3. the same -/
def pl : Nat → PyData → Prop
  | 0, _ => False
  | _ + 1, .int _ => True
  | _ + 1, .bool _ => True
  | n + 1, .tuple xs => (∀ x ∈ xs, pl n x) ∧ xs.length ≤ 10000
  | n + 1, .list xs => (∀ x ∈ xs, pl n x) ∧ xs.length ≤ 10000
  | _, _ => False
theorem range_mem {n : Nat} {d : PyData} (h : d ∈ rgD 0 (n : Int)) : ∃ i : Nat, i < n ∧ d = .int i := by
  rw [rgD_nat] at h
  obtain ⟨i, h1, rfl⟩ := List.mem_map.mp h
  exact ⟨i, List.mem_range.mp h1, rfl⟩
theorem same_comp1 {F : FD} {xs : List PyData} {S : Store} (hz : xs.length ≤ 10000) (h : ∀ x ∈ xs, F [.d x, .d x] S = .ok (.d (.bool true)) S) :
    C__law_same_1 F [some (.d (.tuple xs)), some (.d (.tuple xs)), none] S = .ok (.d (.list ((rgD 0 (xs.length : Int)).map fun _ => .bool true))) S := by
  have e0 : iRg (rg1 (eCall lenS (aCons (eVar 1) aNil))) [some (.d (.tuple xs)), some (.d (.tuple xs)), none] S = .ok ⟨rgD 0 xs.length, fun _ => true⟩ S := iRg_ok (by simp -implicitDefEqProofs only [fSeq_eq, seqK_nx, seqK_rt, seqK_bk, seqK_ct, seqK_ite, eVar_0, eVar_s, bind_ok, sB_ok, eC_eq, eBin_eq, eUn_eq, iOp0_eq, iCmp_eq, tst_eq, addI, negI, fSet_eq, fRet_eq, fExpr_eq, fIf_eq, fAsg_eq, fPar_eq, fNil_eq, fBreak_eq, fCont_eq, gNm_eq, gsNil_eq, gsCons_eq, aNil_eq, aCons_eq, eCall_eq, eCallD_eq, intS_eq, absS_eq, mmS_eq, len_l, len_t, list_l, list_t, tup_l, tup_t, finF_eq, finC_eq, allD_nil, allD_cons, eTup_eq, eLst_eq, eIf_eq, runD_eq, hand_rt, handF_d, take_self, srcS_l, srcS_t, iSrc_eq, iZip_eq, zip_l, iEnm_eq, enum_l, pix0, pix1, pix2, pix3, pset1, pset2, pset3, gSub_eq, tYes_eq, eAdd_eq, eSub_eq, eMul_eq, eDiv_eq, eMod_eq, ePow_eq, eXor_eq, eNeg_eq, eIx_eq, eqI_t, eqI_f, tNot_eq, tAnd_eq, tOr_eq, tru_eq, tru_bool, tru_int, tru_list, eAnd_eq, eNot_eq, isi_eq, asD_d, List.length_cons, List.length_nil, List.map_cons, List.map_nil, List.cons_append, List.nil_append, List.append_nil, List.set_cons_succ, List.set_cons_zero, List.replicate_succ, List.replicate_zero, Option.map_some, if_true, if_false, reduceIte, Nat.reduceAdd, Nat.reduceSub, Nat.reduceLeDiff, List.length_map, Nat.reduceEqDiff, Bool.false_eq_true, Bool.not_false, Bool.not_true, ne_eq, not_true_eq_false, not_false_eq_true, decide_true, decide_false, eq_self, hand_rt, decide_eq_true_eq, sl_l, eSl_eq, oNone_eq, oSome_eq]) (by omega)
  unfold C__law_same_1
  rw [eLc_eq e0, lcL_map (fun _ => .bool true) rfl]
  · simp only [bind_ok, finF_eq]
  · intro d m
    obtain ⟨i, hi, rfl⟩ := range_mem m
    refine ⟨_, gNm_eq _ _ _ _, ?_⟩
    have hx := ix_t S (ix_nat (List.getElem?_eq_getElem hi))
    simp -implicitDefEqProofs only [E__law_same_1, wipeE, fSeq_eq, seqK_nx, seqK_rt, seqK_bk, seqK_ct, seqK_ite, eVar_0, eVar_s, bind_ok, sB_ok, eC_eq, eBin_eq, eUn_eq, iOp0_eq, iCmp_eq, tst_eq, addI, negI, fSet_eq, fRet_eq, fExpr_eq, fIf_eq, fAsg_eq, fPar_eq, fNil_eq, fBreak_eq, fCont_eq, gNm_eq, gsNil_eq, gsCons_eq, aNil_eq, aCons_eq, eCall_eq, eCallD_eq, intS_eq, absS_eq, mmS_eq, len_l, len_t, list_l, list_t, tup_l, tup_t, finF_eq, finC_eq, allD_nil, allD_cons, eTup_eq, eLst_eq, eIf_eq, runD_eq, hand_rt, handF_d, take_self, srcS_l, srcS_t, iSrc_eq, iZip_eq, zip_l, iEnm_eq, enum_l, pix0, pix1, pix2, pix3, pset1, pset2, pset3, gSub_eq, tYes_eq, eAdd_eq, eSub_eq, eMul_eq, eDiv_eq, eMod_eq, ePow_eq, eXor_eq, eNeg_eq, eIx_eq, eqI_t, eqI_f, tNot_eq, tAnd_eq, tOr_eq, tru_eq, tru_bool, tru_int, tru_list, eAnd_eq, eNot_eq, isi_eq, asD_d, List.length_cons, List.length_nil, List.map_cons, List.map_nil, List.cons_append, List.nil_append, List.append_nil, List.set_cons_succ, List.set_cons_zero, List.replicate_succ, List.replicate_zero, Option.map_some, if_true, if_false, reduceIte, Nat.reduceAdd, Nat.reduceSub, Nat.reduceLeDiff, List.length_map, Nat.reduceEqDiff, Bool.false_eq_true, Bool.not_false, Bool.not_true, ne_eq, not_true_eq_false, not_false_eq_true, decide_true, decide_false, eq_self, hand_rt, decide_eq_true_eq, sl_l, eSl_eq, oNone_eq, oSome_eq, hx]
    exact h _ (List.getElem_mem _)
theorem same_comp2 {F : FD} {xs : List PyData} {S : Store} (hz : xs.length ≤ 10000) (h : ∀ x ∈ xs, F [.d x, .d x] S = .ok (.d (.bool true)) S) :
    C__law_same_2 F [some (.d (.list xs)), some (.d (.list xs)), none] S = .ok (.d (.list ((rgD 0 (xs.length : Int)).map fun _ => .bool true))) S := by
  have e0 : iRg (rg1 (eCall lenS (aCons (eVar 1) aNil))) [some (.d (.list xs)), some (.d (.list xs)), none] S = .ok ⟨rgD 0 xs.length, fun _ => true⟩ S := iRg_ok (by simp -implicitDefEqProofs only [fSeq_eq, seqK_nx, seqK_rt, seqK_bk, seqK_ct, seqK_ite, eVar_0, eVar_s, bind_ok, sB_ok, eC_eq, eBin_eq, eUn_eq, iOp0_eq, iCmp_eq, tst_eq, addI, negI, fSet_eq, fRet_eq, fExpr_eq, fIf_eq, fAsg_eq, fPar_eq, fNil_eq, fBreak_eq, fCont_eq, gNm_eq, gsNil_eq, gsCons_eq, aNil_eq, aCons_eq, eCall_eq, eCallD_eq, intS_eq, absS_eq, mmS_eq, len_l, len_t, list_l, list_t, tup_l, tup_t, finF_eq, finC_eq, allD_nil, allD_cons, eTup_eq, eLst_eq, eIf_eq, runD_eq, hand_rt, handF_d, take_self, srcS_l, srcS_t, iSrc_eq, iZip_eq, zip_l, iEnm_eq, enum_l, pix0, pix1, pix2, pix3, pset1, pset2, pset3, gSub_eq, tYes_eq, eAdd_eq, eSub_eq, eMul_eq, eDiv_eq, eMod_eq, ePow_eq, eXor_eq, eNeg_eq, eIx_eq, eqI_t, eqI_f, tNot_eq, tAnd_eq, tOr_eq, tru_eq, tru_bool, tru_int, tru_list, eAnd_eq, eNot_eq, isi_eq, asD_d, List.length_cons, List.length_nil, List.map_cons, List.map_nil, List.cons_append, List.nil_append, List.append_nil, List.set_cons_succ, List.set_cons_zero, List.replicate_succ, List.replicate_zero, Option.map_some, if_true, if_false, reduceIte, Nat.reduceAdd, Nat.reduceSub, Nat.reduceLeDiff, List.length_map, Nat.reduceEqDiff, Bool.false_eq_true, Bool.not_false, Bool.not_true, ne_eq, not_true_eq_false, not_false_eq_true, decide_true, decide_false, eq_self, hand_rt, decide_eq_true_eq, sl_l, eSl_eq, oNone_eq, oSome_eq]) (by omega)
  unfold C__law_same_2
  rw [eLc_eq e0, lcL_map (fun _ => .bool true) rfl]
  · simp only [bind_ok, finF_eq]
  · intro d m
    obtain ⟨i, hi, rfl⟩ := range_mem m
    refine ⟨_, gNm_eq _ _ _ _, ?_⟩
    have hx := ix_l S (ix_nat (List.getElem?_eq_getElem hi))
    simp -implicitDefEqProofs only [E__law_same_2, wipeE, fSeq_eq, seqK_nx, seqK_rt, seqK_bk, seqK_ct, seqK_ite, eVar_0, eVar_s, bind_ok, sB_ok, eC_eq, eBin_eq, eUn_eq, iOp0_eq, iCmp_eq, tst_eq, addI, negI, fSet_eq, fRet_eq, fExpr_eq, fIf_eq, fAsg_eq, fPar_eq, fNil_eq, fBreak_eq, fCont_eq, gNm_eq, gsNil_eq, gsCons_eq, aNil_eq, aCons_eq, eCall_eq, eCallD_eq, intS_eq, absS_eq, mmS_eq, len_l, len_t, list_l, list_t, tup_l, tup_t, finF_eq, finC_eq, allD_nil, allD_cons, eTup_eq, eLst_eq, eIf_eq, runD_eq, hand_rt, handF_d, take_self, srcS_l, srcS_t, iSrc_eq, iZip_eq, zip_l, iEnm_eq, enum_l, pix0, pix1, pix2, pix3, pset1, pset2, pset3, gSub_eq, tYes_eq, eAdd_eq, eSub_eq, eMul_eq, eDiv_eq, eMod_eq, ePow_eq, eXor_eq, eNeg_eq, eIx_eq, eqI_t, eqI_f, tNot_eq, tAnd_eq, tOr_eq, tru_eq, tru_bool, tru_int, tru_list, eAnd_eq, eNot_eq, isi_eq, asD_d, List.length_cons, List.length_nil, List.map_cons, List.map_nil, List.cons_append, List.nil_append, List.append_nil, List.set_cons_succ, List.set_cons_zero, List.replicate_succ, List.replicate_zero, Option.map_some, if_true, if_false, reduceIte, Nat.reduceAdd, Nat.reduceSub, Nat.reduceLeDiff, List.length_map, Nat.reduceEqDiff, Bool.false_eq_true, Bool.not_false, Bool.not_true, ne_eq, not_true_eq_false, not_false_eq_true, decide_true, decide_false, eq_self, hand_rt, decide_eq_true_eq, sl_l, eSl_eq, oNone_eq, oSome_eq, hx]
    exact h _ (List.getElem_mem _)
theorem trues {α : Type} (xs : List α) : (xs.map fun _ => PyData.bool true).all scaD = true ∧ (xs.map fun _ => PyData.bool true).all trB = true := by
  constructor <;> rw [List.all_eq_true] <;> intro x h <;> obtain ⟨_, _, rfl⟩ := List.mem_map.mp h <;> rfl
theorem same_int (F : FD) (i j : Int) (S : Store) : runD handF 3 (b__law_same F) [.d (.int i), .d (.int j)] S = .ok (.d (.bool (decide (i = j)))) S := by
  have t1 : isiB "int" "tuple" = false := by decide
  have t2 : isiB "int" "list" = false := by decide
  have t3 : isiB "int" "bool" = false := by decide
  have t4 : isiB "int" "str" = false := by decide
  have t5 : isiB "int" "int" = true := by decide
  simp -implicitDefEqProofs only [b__law_same, F__law_is_integer, b__law_is_integer, isNS, tyN, fSeq_eq, seqK_nx, seqK_rt, seqK_bk, seqK_ct, seqK_ite, eVar_0, eVar_s, bind_ok, sB_ok, eC_eq, eBin_eq, eUn_eq, iOp0_eq, iCmp_eq, tst_eq, addI, negI, fSet_eq, fRet_eq, fExpr_eq, fIf_eq, fAsg_eq, fPar_eq, fNil_eq, fBreak_eq, fCont_eq, gNm_eq, gsNil_eq, gsCons_eq, aNil_eq, aCons_eq, eCall_eq, eCallD_eq, intS_eq, absS_eq, mmS_eq, len_l, len_t, list_l, list_t, tup_l, tup_t, finF_eq, finC_eq, allD_nil, allD_cons, eTup_eq, eLst_eq, eIf_eq, runD_eq, hand_rt, handF_d, take_self, srcS_l, srcS_t, iSrc_eq, iZip_eq, zip_l, iEnm_eq, enum_l, pix0, pix1, pix2, pix3, pset1, pset2, pset3, gSub_eq, tYes_eq, eAdd_eq, eSub_eq, eMul_eq, eDiv_eq, eMod_eq, ePow_eq, eXor_eq, eNeg_eq, eIx_eq, eqI_t, eqI_f, tNot_eq, tAnd_eq, tOr_eq, tru_eq, tru_bool, tru_int, tru_list, eAnd_eq, eNot_eq, isi_eq, asD_d, List.length_cons, List.length_nil, List.map_cons, List.map_nil, List.cons_append, List.nil_append, List.append_nil, List.set_cons_succ, List.set_cons_zero, List.replicate_succ, List.replicate_zero, Option.map_some, if_true, if_false, reduceIte, Nat.reduceAdd, Nat.reduceSub, Nat.reduceLeDiff, List.length_map, Nat.reduceEqDiff, Bool.false_eq_true, Bool.not_false, Bool.not_true, ne_eq, not_true_eq_false, not_false_eq_true, decide_true, decide_false, eq_self, hand_rt, decide_eq_true_eq, sl_l, eSl_eq, oNone_eq, oSome_eq, t1, t2, t3, t4, t5]
theorem same_bool (F : FD) (i j : Bool) (S : Store) : runD handF 3 (b__law_same F) [.d (.bool i), .d (.bool j)] S = .ok (.d (.bool (i == j))) S := by
  have t1 : isiB "bool" "tuple" = false := by decide
  have t2 : isiB "bool" "list" = false := by decide
  have t3 : isiB "bool" "bool" = true := by decide
  have e : eqS false (.d (.bool i)) (.d (.bool j)) S = .ok (.d (.bool (i == j))) S := by cases i <;> cases j <;> rfl
  simp -implicitDefEqProofs only [b__law_same, isNS, tyN, fSeq_eq, seqK_nx, seqK_rt, seqK_bk, seqK_ct, seqK_ite, eVar_0, eVar_s, bind_ok, sB_ok, eC_eq, eBin_eq, eUn_eq, iOp0_eq, iCmp_eq, tst_eq, addI, negI, fSet_eq, fRet_eq, fExpr_eq, fIf_eq, fAsg_eq, fPar_eq, fNil_eq, fBreak_eq, fCont_eq, gNm_eq, gsNil_eq, gsCons_eq, aNil_eq, aCons_eq, eCall_eq, eCallD_eq, intS_eq, absS_eq, mmS_eq, len_l, len_t, list_l, list_t, tup_l, tup_t, finF_eq, finC_eq, allD_nil, allD_cons, eTup_eq, eLst_eq, eIf_eq, runD_eq, hand_rt, handF_d, take_self, srcS_l, srcS_t, iSrc_eq, iZip_eq, zip_l, iEnm_eq, enum_l, pix0, pix1, pix2, pix3, pset1, pset2, pset3, gSub_eq, tYes_eq, eAdd_eq, eSub_eq, eMul_eq, eDiv_eq, eMod_eq, ePow_eq, eXor_eq, eNeg_eq, eIx_eq, eqI_t, eqI_f, tNot_eq, tAnd_eq, tOr_eq, tru_eq, tru_bool, tru_int, tru_list, eAnd_eq, eNot_eq, isi_eq, asD_d, List.length_cons, List.length_nil, List.map_cons, List.map_nil, List.cons_append, List.nil_append, List.append_nil, List.set_cons_succ, List.set_cons_zero, List.replicate_succ, List.replicate_zero, Option.map_some, if_true, if_false, reduceIte, Nat.reduceAdd, Nat.reduceSub, Nat.reduceLeDiff, List.length_map, Nat.reduceEqDiff, Bool.false_eq_true, Bool.not_false, Bool.not_true, ne_eq, not_true_eq_false, not_false_eq_true, decide_true, decide_false, eq_self, hand_rt, decide_eq_true_eq, sl_l, eSl_eq, oNone_eq, oSome_eq, t1, t2, t3, e]
theorem same_tup (F : FD) {xs : List PyData} {S : Store} (hz : xs.length ≤ 10000) (h : ∀ x ∈ xs, F [.d x, .d x] S = .ok (.d (.bool true)) S) : runD handF 3 (b__law_same F) [.d (.tuple xs), .d (.tuple xs)] S = .ok (.d (.bool true)) S := by
  have t1 : isiB "tuple" "tuple" = true := by decide
  have hc := same_comp1 hz h
  obtain ⟨z1, z2⟩ := trues (rgD 0 (xs.length : Int))
  simp -implicitDefEqProofs only [b__law_same, tyN, fSeq_eq, seqK_nx, seqK_rt, seqK_bk, seqK_ct, seqK_ite, eVar_0, eVar_s, bind_ok, sB_ok, eC_eq, eBin_eq, eUn_eq, iOp0_eq, iCmp_eq, tst_eq, addI, negI, fSet_eq, fRet_eq, fExpr_eq, fIf_eq, fAsg_eq, fPar_eq, fNil_eq, fBreak_eq, fCont_eq, gNm_eq, gsNil_eq, gsCons_eq, aNil_eq, aCons_eq, eCall_eq, eCallD_eq, intS_eq, absS_eq, mmS_eq, len_l, len_t, list_l, list_t, tup_l, tup_t, finF_eq, finC_eq, allD_nil, allD_cons, eTup_eq, eLst_eq, eIf_eq, runD_eq, hand_rt, handF_d, take_self, srcS_l, srcS_t, iSrc_eq, iZip_eq, zip_l, iEnm_eq, enum_l, pix0, pix1, pix2, pix3, pset1, pset2, pset3, gSub_eq, tYes_eq, eAdd_eq, eSub_eq, eMul_eq, eDiv_eq, eMod_eq, ePow_eq, eXor_eq, eNeg_eq, eIx_eq, eqI_t, eqI_f, tNot_eq, tAnd_eq, tOr_eq, tru_eq, tru_bool, tru_int, tru_list, eAnd_eq, eNot_eq, isi_eq, asD_d, List.length_cons, List.length_nil, List.map_cons, List.map_nil, List.cons_append, List.nil_append, List.append_nil, List.set_cons_succ, List.set_cons_zero, List.replicate_succ, List.replicate_zero, Option.map_some, if_true, if_false, reduceIte, Nat.reduceAdd, Nat.reduceSub, Nat.reduceLeDiff, List.length_map, Nat.reduceEqDiff, Bool.false_eq_true, Bool.not_false, Bool.not_true, ne_eq, not_true_eq_false, not_false_eq_true, decide_true, decide_false, eq_self, hand_rt, decide_eq_true_eq, sl_l, eSl_eq, oNone_eq, oSome_eq, t1, hc, all_l _ z1, z2]
theorem same_lst (F : FD) {xs : List PyData} {S : Store} (hz : xs.length ≤ 10000) (h : ∀ x ∈ xs, F [.d x, .d x] S = .ok (.d (.bool true)) S) : runD handF 3 (b__law_same F) [.d (.list xs), .d (.list xs)] S = .ok (.d (.bool true)) S := by
  have t1 : isiB "list" "tuple" = false := by decide
  have t2 : isiB "list" "list" = true := by decide
  have hc := same_comp2 hz h
  obtain ⟨z1, z2⟩ := trues (rgD 0 (xs.length : Int))
  simp -implicitDefEqProofs only [b__law_same, tyN, fSeq_eq, seqK_nx, seqK_rt, seqK_bk, seqK_ct, seqK_ite, eVar_0, eVar_s, bind_ok, sB_ok, eC_eq, eBin_eq, eUn_eq, iOp0_eq, iCmp_eq, tst_eq, addI, negI, fSet_eq, fRet_eq, fExpr_eq, fIf_eq, fAsg_eq, fPar_eq, fNil_eq, fBreak_eq, fCont_eq, gNm_eq, gsNil_eq, gsCons_eq, aNil_eq, aCons_eq, eCall_eq, eCallD_eq, intS_eq, absS_eq, mmS_eq, len_l, len_t, list_l, list_t, tup_l, tup_t, finF_eq, finC_eq, allD_nil, allD_cons, eTup_eq, eLst_eq, eIf_eq, runD_eq, hand_rt, handF_d, take_self, srcS_l, srcS_t, iSrc_eq, iZip_eq, zip_l, iEnm_eq, enum_l, pix0, pix1, pix2, pix3, pset1, pset2, pset3, gSub_eq, tYes_eq, eAdd_eq, eSub_eq, eMul_eq, eDiv_eq, eMod_eq, ePow_eq, eXor_eq, eNeg_eq, eIx_eq, eqI_t, eqI_f, tNot_eq, tAnd_eq, tOr_eq, tru_eq, tru_bool, tru_int, tru_list, eAnd_eq, eNot_eq, isi_eq, asD_d, List.length_cons, List.length_nil, List.map_cons, List.map_nil, List.cons_append, List.nil_append, List.append_nil, List.set_cons_succ, List.set_cons_zero, List.replicate_succ, List.replicate_zero, Option.map_some, if_true, if_false, reduceIte, Nat.reduceAdd, Nat.reduceSub, Nat.reduceLeDiff, List.length_map, Nat.reduceEqDiff, Bool.false_eq_true, Bool.not_false, Bool.not_true, ne_eq, not_true_eq_false, not_false_eq_true, decide_true, decide_false, eq_self, hand_rt, decide_eq_true_eq, sl_l, eSl_eq, oNone_eq, oSome_eq, t1, t2, hc, all_l _ z1, z2]
theorem same_at : ∀ (n : Nat) (x : PyData) (S : Store), pl n x → F__law_same_at n [.d x, .d x] S = .ok (.d (.bool true)) S := by
  intro n
  induction n with
  | zero => exact fun x S h => h.elim
  | succ n ih =>
    intro x S h
    cases x with
    | int i =>
      have := same_int (F__law_same_at n) i i S
      rw [decide_eq_true rfl] at this
      exact this
    | tuple xs =>
      obtain ⟨h1, h2⟩ : (∀ x ∈ xs, pl n x) ∧ xs.length ≤ 10000 := h
      exact same_tup _ h2 fun x m => ih x S (h1 x m)
    | list xs =>
      obtain ⟨h1, h2⟩ : (∀ x ∈ xs, pl n x) ∧ xs.length ≤ 10000 := h
      exact same_lst _ h2 fun x m => ih x S (h1 x m)
    | none => exact h.elim
    | bool b => exact same_bool (F__law_same_at n) b b S |>.trans (by rw [show (b == b) = true by cases b <;> rfl])
    | str x => exact h.elim
    | dict d => exact h.elim
end G85
/-! S2: sets within sets, people. -/
namespace G85
open PySem L2 DL StrA
/-- a list or tuple of numbers -/
abbrev sqI (b : Bool) (xs : List Int) : PyData := sq b (xs.map .int)
theorem sqI_t (xs : List Int) : sqI false xs = row xs := rfl
theorem src_sq (b : Bool) (xs : List PyData) (S : Store) : srcS (.d (sq b xs)) S = .ok ⟨xs, fun _ => true⟩ S := by cases b <;> rfl
theorem len_sq (b : Bool) (xs : List PyData) (S : Store) : lenS [.d (sq b xs)] S = .ok (.d (.int xs.length)) S := by cases b <;> rfl
theorem lay_ints : ∀ xs : List Int, PyData.canLayAll0 (xs.map .int) = true
  | [] => by simp [PyData.canLayAll0]
  | x :: xs => by
    rw [List.map_cons, PyData.canLayAll0, lay_ints xs, Bool.and_true]
    simp [PyData.canLay0]
theorem dep_ints : ∀ xs : List Int, PyData.depthAll (xs.map .int) ≤ 1
  | [] => by simp [PyData.depthAll]
  | x :: xs => by
    have := dep_ints xs
    simp only [List.map_cons, PyData.depthAll, PyData.depth]
    omega
theorem shaped_sqI (b : Bool) (xs : List Int) : SeqAt.shaped (sqI b xs) = true := by
  have h1 := lay_ints xs
  have h2 := dep_ints xs
  cases b <;> simp [SeqAt.shaped, sqI, sq, PyData.canLay0, PyData.depth, h1] <;> omega
theorem has_int (ys : List Int) (e : Int) : hasD (ys.map .int) (.int e) = decide (e ∈ ys) := by
  unfold hasD
  rw [List.any_map, Bool.eq_iff_iff, List.any_eq_true, decide_eq_true_iff]
  constructor
  · rintro ⟨y, hy, h⟩
    have h' : decide (y = e) = true := h
    rw [← of_decide_eq_true h']; exact hy
  · exact fun h => ⟨e, h, (decide_eq_true rfl : decide (e = e) = true)⟩
theorem in_sqI (b : Bool) (ys : List Int) (e : Int) (neg : Bool) (S : Store) : inS neg (.d (.int e)) (.d (sqI b ys)) S = .ok (.d (.bool (if neg then !decide (e ∈ ys) else decide (e ∈ ys)))) S := by
  have h := shaped_sqI b ys
  have h2 : SeqAt.shaped (.int e) = true := rfl
  cases b with
  | false =>
    have h' : SeqAt.shaped (.tuple (ys.map .int)) = true := h
    show (if SeqAt.shaped (.int e) && SeqAt.shaped (.tuple (ys.map .int)) then _ else _) = _
    rw [h2, h', has_int]; rfl
  | true =>
    have h' : SeqAt.shaped (.list (ys.map .int)) = true := h
    show (if SeqAt.shaped (.int e) && SeqAt.shaped (.list (ys.map .int)) then _ else _) = _
    rw [h2, h', has_int]; rfl
theorem in_sqF (b : Bool) (ys : List Int) (e : Int) (S : Store) : inS false (.d (.int e)) (.d (sqI b ys)) S = .ok (.d (.bool (decide (e ∈ ys)))) S := in_sqI b ys e false S
theorem lcL_g {α : Type} {ok : Store → Bool} {gf : GF} {ef : EF} {vs : List Nat} {Γ : Ev} {S : Store} (g f : α → PyData) (hok : ok S = true) : ∀ (xs : List α),
    (∀ x ∈ xs, ∃ Γ1, gf (.d (g x)) (wipeE Γ vs) S = .ok Γ1 S ∧ ef Γ1 S = .ok (.d (f x)) S) → lcL ok gf tYesF ef vs Γ (xs.map g) S = .ok (xs.map f) S
  | [], _ => by
    show lcL ok gf tYesF ef vs Γ [] S = _
    unfold lcL
    rw [if_pos hok]; rfl
  | x :: xs, k => by
    obtain ⟨Γ1, h1, h2⟩ := k x List.mem_cons_self
    have e := lcL_g (ef := ef) g f hok xs fun y m => k y (List.mem_cons_of_mem _ m)
    show lcL ok gf tYesF ef vs Γ (g x :: xs.map g) S = _
    unfold lcL
    rw [if_pos hok]
    simp only [h1, h2, tYes_eq, e, bind_ok]
    rfl
theorem comp_g {α : Type} {gf : GF} {ef fa : EF} {vs : List Nat} {Γ : Ev} {S : Store} (b : Bool) (g f : α → PyData) (xs : List α) (ha : fa Γ S = .ok (.d (sq b (xs.map g))) S)
    (k : ∀ x ∈ xs, ∃ Γ1, gf (.d (g x)) (wipeE Γ vs) S = .ok Γ1 S ∧ ef Γ1 S = .ok (.d (f x)) S) : eLc finF (iSrc fa) gf tYesF ef vs Γ S = .ok (.d (.list (xs.map f))) S := by
  have e0 : iSrc fa Γ S = .ok ⟨xs.map g, fun _ => true⟩ S := by rw [iSrc_eq, ha, bind_ok, src_sq]
  rw [eLc_eq e0, lcL_g g f rfl xs k, bind_ok, finF_eq]
theorem bools_sca {α : Type} (f : α → Bool) (xs : List α) : (xs.map fun x => PyData.bool (f x)).all scaD = true := by
  rw [List.all_map]
  exact List.all_eq_true.mpr fun x _ => rfl
theorem bools_all {α : Type} (f : α → Bool) (xs : List α) (S : Store) : allS false [.d (.list (xs.map fun x => PyData.bool (f x)))] S = .ok (.d (.bool (xs.all f))) S := by
  rw [all_l S (bools_sca f xs), List.all_map]
  rfl
theorem bools_any {α : Type} (f : α → Bool) (xs : List α) (S : Store) : allS true [.d (.list (xs.map fun x => PyData.bool (f x)))] S = .ok (.d (.bool (xs.any f))) S := by
  rw [all_l S (bools_sca f xs), List.any_map]
  rfl
/-- is_within -/
theorem within_eq (b b' : Bool) (xs ys : List Int) (S : Store) : F_is_within [.d (sqI b xs), .d (sqI b' ys)] S = .ok (.d (.bool (win xs ys))) S := by
  have hc : C_is_within_1 [some (.d (sqI b xs)), some (.d (sqI b' ys)), none] S = .ok (.d (.list (xs.map fun e => .bool (decide (e ∈ ys))))) S := by
    unfold C_is_within_1
    refine comp_g b .int (fun e => .bool (decide (e ∈ ys))) xs rfl fun e _ => ⟨_, gNm_eq _ _ _ _, ?_⟩
    simp -implicitDefEqProofs only [E_is_within_1, wipeE, fSeq_eq, seqK_nx, seqK_rt, seqK_bk, seqK_ct, seqK_ite, eVar_0, eVar_s, bind_ok, sB_ok, eC_eq, eBin_eq, eUn_eq, iOp0_eq, iCmp_eq, tst_eq, addI, negI, fSet_eq, fRet_eq, fExpr_eq, fIf_eq, fAsg_eq, fPar_eq, fNil_eq, fBreak_eq, fCont_eq, gNm_eq, gsNil_eq, gsCons_eq, aNil_eq, aCons_eq, eCall_eq, eCallD_eq, intS_eq, absS_eq, mmS_eq, len_l, len_t, list_l, list_t, tup_l, tup_t, finF_eq, finC_eq, allD_nil, allD_cons, eTup_eq, eLst_eq, eIf_eq, runD_eq, hand_rt, handF_d, take_self, srcS_l, srcS_t, iSrc_eq, iZip_eq, zip_l, iEnm_eq, enum_l, pix0, pix1, pix2, pix3, pset1, pset2, pset3, gSub_eq, tYes_eq, eAdd_eq, eSub_eq, eMul_eq, eDiv_eq, eMod_eq, ePow_eq, eXor_eq, eNeg_eq, eIx_eq, eqI_t, eqI_f, tNot_eq, tAnd_eq, tOr_eq, tru_eq, tru_bool, tru_int, tru_list, eAnd_eq, eNot_eq, isi_eq, asD_d, List.length_cons, List.length_nil, List.map_cons, List.map_nil, List.cons_append, List.nil_append, List.append_nil, List.set_cons_succ, List.set_cons_zero, List.replicate_succ, List.replicate_zero, Option.map_some, if_true, if_false, reduceIte, Nat.reduceAdd, Nat.reduceSub, Nat.reduceLeDiff, List.length_map, Nat.reduceEqDiff, Bool.false_eq_true, Bool.not_false, Bool.not_true, ne_eq, not_true_eq_false, not_false_eq_true, decide_true, decide_false, eq_self, hand_rt, decide_eq_true_eq, in_sqF]
  simp -implicitDefEqProofs only [F_is_within, b_is_within, fSeq_eq, seqK_nx, seqK_rt, seqK_bk, seqK_ct, seqK_ite, eVar_0, eVar_s, bind_ok, sB_ok, eC_eq, eBin_eq, eUn_eq, iOp0_eq, iCmp_eq, tst_eq, addI, negI, fSet_eq, fRet_eq, fExpr_eq, fIf_eq, fAsg_eq, fPar_eq, fNil_eq, fBreak_eq, fCont_eq, gNm_eq, gsNil_eq, gsCons_eq, aNil_eq, aCons_eq, eCall_eq, eCallD_eq, intS_eq, absS_eq, mmS_eq, len_l, len_t, list_l, list_t, tup_l, tup_t, finF_eq, finC_eq, allD_nil, allD_cons, eTup_eq, eLst_eq, eIf_eq, runD_eq, hand_rt, handF_d, take_self, srcS_l, srcS_t, iSrc_eq, iZip_eq, zip_l, iEnm_eq, enum_l, pix0, pix1, pix2, pix3, pset1, pset2, pset3, gSub_eq, tYes_eq, eAdd_eq, eSub_eq, eMul_eq, eDiv_eq, eMod_eq, ePow_eq, eXor_eq, eNeg_eq, eIx_eq, eqI_t, eqI_f, tNot_eq, tAnd_eq, tOr_eq, tru_eq, tru_bool, tru_int, tru_list, eAnd_eq, eNot_eq, isi_eq, asD_d, List.length_cons, List.length_nil, List.map_cons, List.map_nil, List.cons_append, List.nil_append, List.append_nil, List.set_cons_succ, List.set_cons_zero, List.replicate_succ, List.replicate_zero, Option.map_some, if_true, if_false, reduceIte, Nat.reduceAdd, Nat.reduceSub, Nat.reduceLeDiff, List.length_map, Nat.reduceEqDiff, Bool.false_eq_true, Bool.not_false, Bool.not_true, ne_eq, not_true_eq_false, not_false_eq_true, decide_true, decide_false, eq_self, hand_rt, decide_eq_true_eq, hc, bools_all]
  rfl
/-- these are people -/
structure Ppl (m : Nat) (xs : List Int) : Prop where
  nd : xs.Nodup
  rg : ∀ e ∈ xs, 0 ≤ e ∧ e < (m : Int)
theorem whole_int (i : Int) (S : Store) : F_is_whole [.d (.int i)] S = .ok (.d (.bool true)) S := by
  have t1 : isiB "int" "int" = true := by decide
  have t2 : isiB "int" "bool" = false := by decide
  simp -implicitDefEqProofs only [F_is_whole, b_is_whole, tyN, fSeq_eq, seqK_nx, seqK_rt, seqK_bk, seqK_ct, seqK_ite, eVar_0, eVar_s, bind_ok, sB_ok, eC_eq, eBin_eq, eUn_eq, iOp0_eq, iCmp_eq, tst_eq, addI, negI, fSet_eq, fRet_eq, fExpr_eq, fIf_eq, fAsg_eq, fPar_eq, fNil_eq, fBreak_eq, fCont_eq, gNm_eq, gsNil_eq, gsCons_eq, aNil_eq, aCons_eq, eCall_eq, eCallD_eq, intS_eq, absS_eq, mmS_eq, len_l, len_t, list_l, list_t, tup_l, tup_t, finF_eq, finC_eq, allD_nil, allD_cons, eTup_eq, eLst_eq, eIf_eq, runD_eq, hand_rt, handF_d, take_self, srcS_l, srcS_t, iSrc_eq, iZip_eq, zip_l, iEnm_eq, enum_l, pix0, pix1, pix2, pix3, pset1, pset2, pset3, gSub_eq, tYes_eq, eAdd_eq, eSub_eq, eMul_eq, eDiv_eq, eMod_eq, ePow_eq, eXor_eq, eNeg_eq, eIx_eq, eqI_t, eqI_f, tNot_eq, tAnd_eq, tOr_eq, tru_eq, tru_bool, tru_int, tru_list, eAnd_eq, eNot_eq, isi_eq, asD_d, List.length_cons, List.length_nil, List.map_cons, List.map_nil, List.cons_append, List.nil_append, List.append_nil, List.set_cons_succ, List.set_cons_zero, List.replicate_succ, List.replicate_zero, Option.map_some, if_true, if_false, reduceIte, Nat.reduceAdd, Nat.reduceSub, Nat.reduceLeDiff, List.length_map, Nat.reduceEqDiff, Bool.false_eq_true, Bool.not_false, Bool.not_true, ne_eq, not_true_eq_false, not_false_eq_true, decide_true, decide_false, eq_self, hand_rt, decide_eq_true_eq, t1, t2]
theorem isRow_sq (b : Bool) (xs : List PyData) (S : Store) : F_is_row [.d (sq b xs)] S = .ok (.d (.bool true)) S := by
  cases b
  · have t1 : isiB "tuple" "tuple" = true := by decide
    simp -implicitDefEqProofs only [F_is_row, b_is_row, eIsi2, sq, tyN, fSeq_eq, seqK_nx, seqK_rt, seqK_bk, seqK_ct, seqK_ite, eVar_0, eVar_s, bind_ok, sB_ok, eC_eq, eBin_eq, eUn_eq, iOp0_eq, iCmp_eq, tst_eq, addI, negI, fSet_eq, fRet_eq, fExpr_eq, fIf_eq, fAsg_eq, fPar_eq, fNil_eq, fBreak_eq, fCont_eq, gNm_eq, gsNil_eq, gsCons_eq, aNil_eq, aCons_eq, eCall_eq, eCallD_eq, intS_eq, absS_eq, mmS_eq, len_l, len_t, list_l, list_t, tup_l, tup_t, finF_eq, finC_eq, allD_nil, allD_cons, eTup_eq, eLst_eq, eIf_eq, runD_eq, hand_rt, handF_d, take_self, srcS_l, srcS_t, iSrc_eq, iZip_eq, zip_l, iEnm_eq, enum_l, pix0, pix1, pix2, pix3, pset1, pset2, pset3, gSub_eq, tYes_eq, eAdd_eq, eSub_eq, eMul_eq, eDiv_eq, eMod_eq, ePow_eq, eXor_eq, eNeg_eq, eIx_eq, eqI_t, eqI_f, tNot_eq, tAnd_eq, tOr_eq, tru_eq, tru_bool, tru_int, tru_list, eAnd_eq, eNot_eq, isi_eq, asD_d, List.length_cons, List.length_nil, List.map_cons, List.map_nil, List.cons_append, List.nil_append, List.append_nil, List.set_cons_succ, List.set_cons_zero, List.replicate_succ, List.replicate_zero, Option.map_some, if_true, if_false, reduceIte, Nat.reduceAdd, Nat.reduceSub, Nat.reduceLeDiff, List.length_map, Nat.reduceEqDiff, Bool.false_eq_true, Bool.not_false, Bool.not_true, ne_eq, not_true_eq_false, not_false_eq_true, decide_true, decide_false, eq_self, hand_rt, decide_eq_true_eq, t1, Bool.true_or]
  · have t1 : isiB "list" "tuple" = false := by decide
    have t2 : isiB "list" "list" = true := by decide
    simp -implicitDefEqProofs only [F_is_row, b_is_row, eIsi2, sq, tyN, fSeq_eq, seqK_nx, seqK_rt, seqK_bk, seqK_ct, seqK_ite, eVar_0, eVar_s, bind_ok, sB_ok, eC_eq, eBin_eq, eUn_eq, iOp0_eq, iCmp_eq, tst_eq, addI, negI, fSet_eq, fRet_eq, fExpr_eq, fIf_eq, fAsg_eq, fPar_eq, fNil_eq, fBreak_eq, fCont_eq, gNm_eq, gsNil_eq, gsCons_eq, aNil_eq, aCons_eq, eCall_eq, eCallD_eq, intS_eq, absS_eq, mmS_eq, len_l, len_t, list_l, list_t, tup_l, tup_t, finF_eq, finC_eq, allD_nil, allD_cons, eTup_eq, eLst_eq, eIf_eq, runD_eq, hand_rt, handF_d, take_self, srcS_l, srcS_t, iSrc_eq, iZip_eq, zip_l, iEnm_eq, enum_l, pix0, pix1, pix2, pix3, pset1, pset2, pset3, gSub_eq, tYes_eq, eAdd_eq, eSub_eq, eMul_eq, eDiv_eq, eMod_eq, ePow_eq, eXor_eq, eNeg_eq, eIx_eq, eqI_t, eqI_f, tNot_eq, tAnd_eq, tOr_eq, tru_eq, tru_bool, tru_int, tru_list, eAnd_eq, eNot_eq, isi_eq, asD_d, List.length_cons, List.length_nil, List.map_cons, List.map_nil, List.cons_append, List.nil_append, List.append_nil, List.set_cons_succ, List.set_cons_zero, List.replicate_succ, List.replicate_zero, Option.map_some, if_true, if_false, reduceIte, Nat.reduceAdd, Nat.reduceSub, Nat.reduceLeDiff, List.length_map, Nat.reduceEqDiff, Bool.false_eq_true, Bool.not_false, Bool.not_true, ne_eq, not_true_eq_false, not_false_eq_true, decide_true, decide_false, eq_self, hand_rt, decide_eq_true_eq, t1, t2, Bool.or_true]
theorem dist_nd {xs : List Int} (h : xs.Nodup) : distN xs = xs.length := (dist_of h fun _ => Iff.rfl).symm
theorem ints_all (xs : List Int) : (xs.map PyData.int).all isInt = true := by
  rw [List.all_map]
  exact List.all_eq_true.mpr fun x _ => rfl
theorem ints_back (xs : List Int) : (xs.map PyData.int).map intOf = xs := by
  rw [List.map_map]
  exact (List.map_congr_left fun y _ => rfl).trans (List.map_id xs)
theorem dst_sqI (b : Bool) {xs : List Int} (hl : xs.length ≤ 4000) (S : Store) : dstS (.d (sqI b xs)) S = .ok (.d (.int (distN xs : Nat))) S := by
  have h : ((xs.map PyData.int).all isInt && decide ((xs.map PyData.int).length ≤ 4000)) = true := by
    rw [ints_all, List.length_map, decide_eq_true hl]; rfl
  cases b
  · show (if _ then _ else _) = _
    rw [h, if_pos rfl, ints_back]
  · show (if _ then _ else _) = _
    rw [h, if_pos rfl, ints_back]
theorem chain_pp {i m : Int} (h0 : 0 ≤ i) (h1 : i < m) (f g h : EF) (Γ : Ev) (S : Store) (ef : f Γ S = .ok (.d (.int 0)) S) (eg : g Γ S = .ok (.d (.int i)) S) (eh : h Γ S = .ok (.d (.int m)) S) :
    eChain (iCmp fun i j => decide (i ≤ j)) (iCmp fun i j => decide (i < j)) f g h Γ S = .ok (.d (.bool true)) S := by
  have e1 : decide (0 ≤ i) = true := decide_eq_true h0
  have e2 : decide (i < m) = true := decide_eq_true h1
  simp only [eChain, ef, eg, eh, bind_ok, iCmp_eq, e1, e2]
end G85
/-! S3: told_sets. -/
namespace G85
open PySem L2 DL StrA
theorem lcL_gf {α : Type} {ok : Store → Bool} {gf : GF} {tf : TF} {ef : EF} {vs : List Nat} {Γ : Ev} {S : Store} (g f : α → PyData) (c : α → Bool) (hok : ok S = true) : ∀ (xs : List α),
    (∀ x ∈ xs, ∃ Γ1, gf (.d (g x)) (wipeE Γ vs) S = .ok Γ1 S ∧ tf Γ1 S = .ok (c x) S ∧ (c x = true → ef Γ1 S = .ok (.d (f x)) S)) → lcL ok gf tf ef vs Γ (xs.map g) S = .ok ((xs.filter c).map f) S
  | [], _ => by
    show lcL ok gf tf ef vs Γ [] S = _
    unfold lcL
    rw [if_pos hok]; rfl
  | x :: xs, k => by
    obtain ⟨Γ1, h1, h2, h3⟩ := k x List.mem_cons_self
    have e := lcL_gf (tf := tf) (ef := ef) g f c hok xs fun y m => k y (List.mem_cons_of_mem _ m)
    show lcL ok gf tf ef vs Γ (g x :: xs.map g) S = _
    unfold lcL
    rw [if_pos hok]
    cases hc : c x with
    | false =>
      simp only [h1, h2, hc, e]
      rw [List.filter_cons, hc]; rfl
    | true =>
      simp only [h1, h2, hc, h3 hc, e, bind_ok]
      rw [List.filter_cons, hc]; rfl
theorem are_people {m : Nat} {xs : List Int} (b : Bool) (h : Ppl m xs) (hl : xs.length ≤ 4000) (S : Store) : F_are_people [.d (sqI b xs), .d (.int m)] S = .ok (.d (.bool true)) S := by
  have hc : C_are_people_1 [some (.d (sqI b xs)), some (.d (.int m)), none] S = .ok (.d (.list (xs.map fun _ => .bool true))) S := by
    unfold C_are_people_1
    refine comp_g b .int (fun _ => .bool true) xs rfl fun e he => ⟨_, gNm_eq _ _ _ _, ?_⟩
    have e1 : decide (0 ≤ e) = true := decide_eq_true (h.rg e he).1
    have e2 : decide (e < (m : Int)) = true := decide_eq_true (h.rg e he).2
    simp -implicitDefEqProofs only [E_are_people_1, wipeE, fSeq_eq, seqK_nx, seqK_rt, seqK_bk, seqK_ct, seqK_ite, eVar_0, eVar_s, bind_ok, sB_ok, eC_eq, eBin_eq, eUn_eq, iOp0_eq, iCmp_eq, tst_eq, addI, negI, fSet_eq, fRet_eq, fExpr_eq, fIf_eq, fAsg_eq, fPar_eq, fNil_eq, fBreak_eq, fCont_eq, gNm_eq, gsNil_eq, gsCons_eq, aNil_eq, aCons_eq, eCall_eq, eCallD_eq, intS_eq, absS_eq, mmS_eq, len_l, len_t, list_l, list_t, tup_l, tup_t, finF_eq, finC_eq, allD_nil, allD_cons, eTup_eq, eLst_eq, eIf_eq, runD_eq, hand_rt, handF_d, take_self, srcS_l, srcS_t, iSrc_eq, iZip_eq, zip_l, iEnm_eq, enum_l, pix0, pix1, pix2, pix3, pset1, pset2, pset3, gSub_eq, tYes_eq, eAdd_eq, eSub_eq, eMul_eq, eDiv_eq, eMod_eq, ePow_eq, eXor_eq, eNeg_eq, eIx_eq, eqI_t, eqI_f, tNot_eq, tAnd_eq, tOr_eq, tru_eq, tru_bool, tru_int, tru_list, eAnd_eq, eNot_eq, isi_eq, asD_d, List.length_cons, List.length_nil, List.map_cons, List.map_nil, List.cons_append, List.nil_append, List.append_nil, List.set_cons_succ, List.set_cons_zero, List.replicate_succ, List.replicate_zero, Option.map_some, if_true, if_false, reduceIte, Nat.reduceAdd, Nat.reduceSub, Nat.reduceLeDiff, List.length_map, Nat.reduceEqDiff, Bool.false_eq_true, Bool.not_false, Bool.not_true, ne_eq, not_true_eq_false, not_false_eq_true, decide_true, decide_false, eq_self, hand_rt, decide_eq_true_eq, whole_int, eChain, e1, e2]
  have ht : (xs.all fun _ => true) = true := List.all_eq_true.mpr fun _ _ => rfl
  have ed : eLenSet (eVar 0) [some (.d (sqI b xs)), some (.d (.int m)), none] S = .ok (.d (.int (xs.length : Nat))) S := by
    show (Out.ok _ S).bind dstS = _
    rw [bind_ok]
    show dstS (.d (sqI b xs)) S = _
    rw [dst_sqI b hl, dist_nd h.nd]
  simp -implicitDefEqProofs only [F_are_people, b_are_people, fSeq_eq, seqK_nx, seqK_rt, seqK_bk, seqK_ct, seqK_ite, eVar_0, eVar_s, bind_ok, sB_ok, eC_eq, eBin_eq, eUn_eq, iOp0_eq, iCmp_eq, tst_eq, addI, negI, fSet_eq, fRet_eq, fExpr_eq, fIf_eq, fAsg_eq, fPar_eq, fNil_eq, fBreak_eq, fCont_eq, gNm_eq, gsNil_eq, gsCons_eq, aNil_eq, aCons_eq, eCall_eq, eCallD_eq, intS_eq, absS_eq, mmS_eq, len_l, len_t, list_l, list_t, tup_l, tup_t, finF_eq, finC_eq, allD_nil, allD_cons, eTup_eq, eLst_eq, eIf_eq, runD_eq, hand_rt, handF_d, take_self, srcS_l, srcS_t, iSrc_eq, iZip_eq, zip_l, iEnm_eq, enum_l, pix0, pix1, pix2, pix3, pset1, pset2, pset3, gSub_eq, tYes_eq, eAdd_eq, eSub_eq, eMul_eq, eDiv_eq, eMod_eq, ePow_eq, eXor_eq, eNeg_eq, eIx_eq, eqI_t, eqI_f, tNot_eq, tAnd_eq, tOr_eq, tru_eq, tru_bool, tru_int, tru_list, eAnd_eq, eNot_eq, isi_eq, asD_d, List.length_cons, List.length_nil, List.map_cons, List.map_nil, List.cons_append, List.nil_append, List.append_nil, List.set_cons_succ, List.set_cons_zero, List.replicate_succ, List.replicate_zero, Option.map_some, if_true, if_false, reduceIte, Nat.reduceAdd, Nat.reduceSub, Nat.reduceLeDiff, List.length_map, Nat.reduceEqDiff, Bool.false_eq_true, Bool.not_false, Bool.not_true, ne_eq, not_true_eq_false, not_false_eq_true, decide_true, decide_false, eq_self, hand_rt, decide_eq_true_eq, isRow_sq, hc, bools_all (fun _ => true), ht, ed, len_sq]
/-! ### sorted -/
def ascI (xs : List Int) : List Int := (srtD (xs.map .int)).map intOf
theorem int_all {l : List PyData} (h : ∀ d ∈ l, ∃ i, d = .int i) : l = (l.map intOf).map .int := by
  rw [List.map_map]
  refine ((List.map_congr_left fun d m => ?_).trans (List.map_id l)).symm
  obtain ⟨i, rfl⟩ := h d m
  rfl
theorem asc_srt (xs : List Int) : srtD (xs.map .int) = (ascI xs).map .int := int_all fun d m => by
  obtain ⟨i, _, rfl⟩ := List.mem_map.mp ((srt_perm _).mem_iff.mp m)
  exact ⟨i, rfl⟩
theorem asc_perm (xs : List Int) : (ascI xs).Perm xs := by
  have := (srt_perm (xs.map .int)).map intOf
  rwa [ints_back] at this
theorem asc_asc {xs : List Int} (h : xs.Nodup) : Asc (ascI xs) := by
  have p := srt_pw (xs.map .int)
  rw [asc_srt, List.pairwise_map] at p
  have n : (ascI xs).Nodup := (asc_perm xs).nodup_iff.mpr h
  refine (p.and n).imp ?_
  rintro a b ⟨h1, h2⟩
  rw [le_ints, decide_eq_true_iff] at h1
  omega
theorem asc_eq {xs ys : List Int} (h : xs.Perm ys) (a : Asc ys) : ascI xs = ys := by
  unfold ascI
  rw [srt_asc h a, ints_back]
theorem sortC_ints (xs : List Int) : (sortC (xs.map PyData.int) && (xs.map PyData.int).all (fun d => decide (d.depth ≤ 62))) = true := by
  rw [Bool.and_eq_true]
  refine ⟨by unfold sortC; rw [ints_all]; rfl, ?_⟩
  rw [List.all_map]
  exact List.all_eq_true.mpr fun x _ => rfl
theorem sort_sqI (b : Bool) (xs : List Int) (S : Store) : sortS finF [.d (sqI b xs)] S = .ok (.d (.list ((ascI xs).map .int))) S := by
  have h := sortC_ints xs
  have e := asc_srt xs
  cases b
  · show (if _ then finF (srtD _) S else _) = _
    rw [h, if_pos rfl, e, finF_eq]
  · show (if _ then finF (srtD _) S else _) = _
    rw [h, if_pos rfl, e, finF_eq]
theorem row_depth (xs : List Int) : (row xs).depth ≤ 2 := by
  have := dep_ints xs
  simp only [row, PyData.depth]
  omega
theorem sortC_rows {F : List (List Int)} (h : ∀ f ∈ F, f ≠ []) : (sortC (F.map row) && (F.map row).all (fun d => decide (d.depth ≤ 62))) = true := by
  rw [Bool.and_eq_true]
  constructor
  · unfold sortC
    rw [Bool.or_eq_true]
    refine .inr ?_
    rw [List.all_map]
    refine List.all_eq_true.mpr fun f hf => ?_
    cases f with
    | nil => exact absurd rfl (h [] hf)
    | cons x xs =>
      show isRow (.tuple (.int x :: xs.map .int)) = true
      simp only [isRow]
      rw [ints_all]; rfl
  · rw [List.all_map]
    exact List.all_eq_true.mpr fun f _ => decide_eq_true (Nat.le_trans (row_depth f) (by decide))
theorem sort_rows {F : List (List Int)} (h : ∀ f ∈ F, f ≠ []) (S : Store) : sortS finF [.d (.list (F.map row))] S = .ok (.d (.list (srtD (F.map row)))) S := by
  have e := sortC_rows h
  show (if _ then finF (srtD _) S else _) = _
  rw [e, if_pos rfl, finF_eq]
/-! ### the loop -/
def enc (q : List Int × Nat) : PyData := .tuple [.int q.2, row q.1]
theorem enum_rows (G : List (List Int)) : enumD (G.map row) = G.zipIdx.map enc := by
  unfold enumD
  refine List.ext_getElem? fun i => ?_
  simp only [List.getElem?_mapIdx, List.getElem?_map, List.getElem?_zipIdx, Option.map_map]
  cases G[i]? with
  | none => rfl
  | some x => simp [enc]
def bad (G : List (List Int)) (q : List Int × Nat) : Bool := (G.zipIdx.filter fun p => decide (p.2 ≠ q.2)).any fun p => win q.1 p.1
abbrev Γt (m : Nat) (s : SV) (o2 : Option SV) (G : List (List Int)) (o4 : Option SV) : Ev := [some (.d (.int m)), some s, o2, some (.d (.list (G.map row))), o4, none, none]
theorem ix_ne (i j : Nat) (S : Store) : eqS true (.d (.int i)) (.d (.int j)) S = .ok (.d (.bool (decide (i ≠ j)))) S := by
  rw [eqI_f]
  congr 3
  rw [decide_eq_decide]
  omega
theorem told_comp (m : Nat) (s : SV) (G : List (List Int)) (q : List Int × Nat) (S : Store) : C_told_sets_3 (Γt m s (some (.d (row q.1))) G (some (.d (.int q.2)))) S = .ok (.d (.list ((G.zipIdx.filter fun p => decide (p.2 ≠ q.2)).map fun p => .bool (win q.1 p.1)))) S := by
  unfold C_told_sets_3
  have e0 : iEnm (eVar 3) (Γt m s (some (.d (row q.1))) G (some (.d (.int q.2)))) S = .ok ⟨G.zipIdx.map enc, fun _ => true⟩ S := by
    rw [iEnm_eq]
    show (Out.ok _ S).bind _ = _
    rw [bind_ok]
    show enumS (.d (.list (G.map row))) S = _
    rw [enum_l, enum_rows]
  rw [eLc_eq e0, lcL_gf enc (fun p => .bool (win q.1 p.1)) (fun p => decide (p.2 ≠ q.2)) rfl, bind_ok, finF_eq]
  intro p _
  refine ⟨[some (.d (.int m)), some s, some (.d (row q.1)), some (.d (.list (G.map row))), some (.d (.int q.2)), some (.d (.int p.2)), some (.d (row p.1))], rfl, ?_, fun _ => ?_⟩
  · simp only [T_told_sets_1, tst_eq, eBin_eq, eVar_s, eVar_0, bind_ok, ix_ne]
  · simp -implicitDefEqProofs only [E_told_sets_3, fSeq_eq, seqK_nx, seqK_rt, seqK_bk, seqK_ct, seqK_ite, eVar_0, eVar_s, bind_ok, sB_ok, eC_eq, eBin_eq, eUn_eq, iOp0_eq, iCmp_eq, tst_eq, addI, negI, fSet_eq, fRet_eq, fExpr_eq, fIf_eq, fAsg_eq, fPar_eq, fNil_eq, fBreak_eq, fCont_eq, gNm_eq, gsNil_eq, gsCons_eq, aNil_eq, aCons_eq, eCall_eq, eCallD_eq, intS_eq, absS_eq, mmS_eq, len_l, len_t, list_l, list_t, tup_l, tup_t, finF_eq, finC_eq, allD_nil, allD_cons, eTup_eq, eLst_eq, eIf_eq, runD_eq, hand_rt, handF_d, take_self, srcS_l, srcS_t, iSrc_eq, iZip_eq, zip_l, iEnm_eq, enum_l, pix0, pix1, pix2, pix3, pset1, pset2, pset3, gSub_eq, tYes_eq, eAdd_eq, eSub_eq, eMul_eq, eDiv_eq, eMod_eq, ePow_eq, eXor_eq, eNeg_eq, eIx_eq, eqI_t, eqI_f, tNot_eq, tAnd_eq, tOr_eq, tru_eq, tru_bool, tru_int, tru_list, eAnd_eq, eNot_eq, isi_eq, asD_d, List.length_cons, List.length_nil, List.map_cons, List.map_nil, List.cons_append, List.nil_append, List.append_nil, List.set_cons_succ, List.set_cons_zero, List.replicate_succ, List.replicate_zero, Option.map_some, if_true, if_false, reduceIte, Nat.reduceAdd, Nat.reduceSub, Nat.reduceLeDiff, List.length_map, Nat.reduceEqDiff, Bool.false_eq_true, Bool.not_false, Bool.not_true, ne_eq, not_true_eq_false, not_false_eq_true, decide_true, decide_false, eq_self, hand_rt, decide_eq_true_eq]
    exact within_eq false false q.1 p.1 S
theorem told_turn (m : Nat) (s : SV) (G : List (List Int)) (q : List Int × Nat) (o2 o4 : Option SV) (S : Store) :
    ((gTupF 2 (gsCons (gNm 4) (gsCons (gNm 2) gsNil))) (.d (enc q)) (Γt m s o2 G o4) S = .ok (Γt m s (some (.d (row q.1))) G (some (.d (.int q.2)))) S) ∧
    B_told_sets_1 (Γt m s (some (.d (row q.1))) G (some (.d (.int q.2)))) S = if bad G q then .ok (.xc ⟨"BadStructure", [("reason", .str "within")]⟩ (Γt m s (some (.d (row q.1))) G (some (.d (.int q.2))))) S else .ok (.nx (Γt m s (some (.d (row q.1))) G (some (.d (.int q.2))))) S := by
  refine ⟨rfl, ?_⟩
  have hc := told_comp m s G q S
  have ht : eCall (allS true) (aCons C_told_sets_3 aNil) (Γt m s (some (.d (row q.1))) G (some (.d (.int q.2)))) S = .ok (.d (.bool (bad G q))) S := by
    rw [eCall_eq, aCons_eq, hc, bind_ok, aNil_eq, bind_ok, bind_ok]
    exact bools_any (fun (p : List Int × Nat) => win q.1 p.1) _ S
  unfold B_told_sets_1
  rw [fIf_eq, tru_eq, ht, bind_ok]
  cases bad G q <;> rfl
theorem told_good (m : Nat) (s : SV) (G : List (List Int)) (S : Store) : ∀ (rest : List (List Int × Nat)) (o2 o4 : Option SV), (∀ q ∈ rest, bad G q = false) →
    ∃ o2' o4', forL (fun _ => true) (gTupF 2 (gsCons (gNm 4) (gsCons (gNm 2) gsNil))) B_told_sets_1 (rest.map enc) (Γt m s o2 G o4) S = .ok (.nx (Γt m s o2' G o4')) S
  | [], o2, o4, _ => ⟨o2, o4, rfl⟩
  | q :: rest, o2, o4, h => by
    obtain ⟨e1, e2⟩ := told_turn m s G q o2 o4 S
    rw [h q List.mem_cons_self] at e2
    obtain ⟨a, b, e⟩ := told_good m s G S rest _ _ fun p hp => h p (List.mem_cons_of_mem _ hp)
    refine ⟨a, b, ?_⟩
    show forL (fun _ => true) _ _ (enc q :: rest.map enc) _ _ = _
    unfold forL
    simp only [e1, e2, if_true]
    exact e
theorem told_bad (m : Nat) (s : SV) (G : List (List Int)) (S : Store) : ∀ (rest : List (List Int × Nat)) (o2 o4 : Option SV), (∃ q ∈ rest, bad G q = true) →
    ∃ Γ', forL (fun _ => true) (gTupF 2 (gsCons (gNm 4) (gsCons (gNm 2) gsNil))) B_told_sets_1 (rest.map enc) (Γt m s o2 G o4) S = .ok (.xc ⟨"BadStructure", [("reason", .str "within")]⟩ Γ') S
  | [], o2, o4, h => by
    obtain ⟨q, hq, _⟩ := h
    exact absurd hq List.not_mem_nil
  | q :: rest, o2, o4, h => by
    obtain ⟨e1, e2⟩ := told_turn m s G q o2 o4 S
    cases hb : bad G q with
    | true =>
      rw [hb] at e2
      refine ⟨Γt m s (some (.d (row q.1))) G (some (.d (.int q.2))), ?_⟩
      show forL (fun _ => true) _ _ (enc q :: rest.map enc) _ _ = _
      unfold forL
      simp only [e1, e2, if_true]
    | false =>
      rw [hb] at e2
      obtain ⟨a, e⟩ := told_bad m s G S rest _ _ (by
        obtain ⟨p, hp, hpb⟩ := h
        rcases List.mem_cons.mp hp with rfl | hp
        · rw [hb] at hpb; cases hpb
        · exact ⟨p, hp, hpb⟩)
      refine ⟨a, ?_⟩
      show forL (fun _ => true) _ _ (enc q :: rest.map enc) _ _ = _
      unfold forL
      simp only [e1, e2, if_true]
      exact e
end G85
/-! S4: told_sets, least_sets, may_know. -/
namespace G85
open PySem L2 DL StrA
theorem anti_bad {G : List (List Int)} (h : Anti G) : ∀ q ∈ G.zipIdx, bad G q = false := by
  intro q hq
  refine Bool.eq_false_iff.mpr fun hb => ?_
  obtain ⟨p, hp, w⟩ := List.any_eq_true.mp hb
  obtain ⟨hp1, hp2⟩ := List.mem_filter.mp hp
  have hne : p.2 ≠ q.2 := of_decide_eq_true hp2
  obtain ⟨i1, e1⟩ := List.mem_zipIdx' hq
  obtain ⟨i2, e2⟩ := List.mem_zipIdx' hp1
  have pw := List.pairwise_iff_getElem.mp h
  rw [e1, e2] at w
  rcases Nat.lt_or_ge p.2 q.2 with l | l
  · have := (pw p.2 q.2 i2 i1 l).2
    rw [this] at w; cases w
  · have := (pw q.2 p.2 i1 i2 (by omega)).1
    rw [this] at w; cases w
structure Rows (m : Nat) (rows : List (Bool × List Int)) : Prop where
  m1 : 1 ≤ m
  m8 : m ≤ 8
  l1 : 1 ≤ rows.length
  l2 : rows.length ≤ 70
  ok : ∀ p ∈ rows, Ppl m p.2 ∧ p.2 ≠ []
theorem Ppl.len {m : Nat} {xs : List Int} (h : Ppl m xs) : xs.length ≤ m := by
  have := len_le_of (l1 := xs) (l2 := rngI 0 m) h.nd fun e he => mem_rngI.mpr (h.rg e he)
  have e2 : (rngI 0 m).length = m := by simp [rngI]
  omega
abbrev hnd (p : Bool × List Int) : PyData := sqI p.1 p.2
abbrev Γ0 (m : Nat) (s : SV) : Ev := [some (.d (.int m)), some s, none, none, none, none, none]
theorem told_c1 {m : Nat} {rows : List (Bool × List Int)} (b : Bool) (h : Rows m rows) (S : Store) : eCall (allS false) (aCons C_told_sets_1 aNil) (Γ0 m (.d (sq b (rows.map hnd)))) S = .ok (.d (.bool true)) S := by
  have hc : C_told_sets_1 (Γ0 m (.d (sq b (rows.map hnd)))) S = .ok (.d (.list (rows.map fun _ => .bool true))) S := by
    unfold C_told_sets_1
    refine comp_g b hnd (fun _ => .bool true) rows rfl fun p hp => ⟨_, gNm_eq _ _ _ _, ?_⟩
    obtain ⟨h1, h2⟩ := h.ok p hp
    have hl := h1.len
    have hm := h.m8
    have ha := are_people p.1 h1 (by omega) S
    have hp : decide ((0 : Int) < ((p.2.map PyData.int).length : Nat)) = true := by
      refine decide_eq_true ?_
      rw [List.length_map]
      have := List.length_pos_iff.mpr h2
      omega
    have e1 : eCallD 2 F_are_people (aCons (eVar 2) (aCons (eVar 0) aNil)) ((wipeE (Γ0 m (.d (sq b (rows.map hnd)))) [2]).set 2 (some (.d (hnd p)))) S = .ok (.d (.bool true)) S := by
      simp -implicitDefEqProofs only [wipeE, fSeq_eq, seqK_nx, seqK_rt, seqK_bk, seqK_ct, seqK_ite, eVar_0, eVar_s, bind_ok, sB_ok, eC_eq, eBin_eq, eUn_eq, iOp0_eq, iCmp_eq, tst_eq, addI, negI, fSet_eq, fRet_eq, fExpr_eq, fIf_eq, fAsg_eq, fPar_eq, fNil_eq, fBreak_eq, fCont_eq, gNm_eq, gsNil_eq, gsCons_eq, aNil_eq, aCons_eq, eCall_eq, eCallD_eq, intS_eq, absS_eq, mmS_eq, len_l, len_t, list_l, list_t, tup_l, tup_t, finF_eq, finC_eq, allD_nil, allD_cons, eTup_eq, eLst_eq, eIf_eq, runD_eq, hand_rt, handF_d, take_self, srcS_l, srcS_t, iSrc_eq, iZip_eq, zip_l, iEnm_eq, enum_l, pix0, pix1, pix2, pix3, pset1, pset2, pset3, gSub_eq, tYes_eq, eAdd_eq, eSub_eq, eMul_eq, eDiv_eq, eMod_eq, ePow_eq, eXor_eq, eNeg_eq, eIx_eq, eqI_t, eqI_f, tNot_eq, tAnd_eq, tOr_eq, tru_eq, tru_bool, tru_int, tru_list, eAnd_eq, eNot_eq, isi_eq, asD_d, List.length_cons, List.length_nil, List.map_cons, List.map_nil, List.cons_append, List.nil_append, List.append_nil, List.set_cons_succ, List.set_cons_zero, List.replicate_succ, List.replicate_zero, Option.map_some, if_true, if_false, reduceIte, Nat.reduceAdd, Nat.reduceSub, Nat.reduceLeDiff, List.length_map, Nat.reduceEqDiff, Bool.false_eq_true, Bool.not_false, Bool.not_true, ne_eq, not_true_eq_false, not_false_eq_true, decide_true, decide_false, eq_self, hand_rt, decide_eq_true_eq]
      exact ha
    have e2 : eBin (iCmp fun i j => decide (j < i)) (eCall lenS (aCons (eVar 2) aNil)) (eC (.int 0)) ((wipeE (Γ0 m (.d (sq b (rows.map hnd)))) [2]).set 2 (some (.d (hnd p)))) S = .ok (.d (.bool true)) S := by
      rw [eBin_eq]
      have : eCall lenS (aCons (eVar 2) aNil) ((wipeE (Γ0 m (.d (sq b (rows.map hnd)))) [2]).set 2 (some (.d (hnd p)))) S = .ok (.d (.int ((p.2.map PyData.int).length : Nat))) S := len_sq p.1 (p.2.map .int) S
      rw [this, bind_ok, eC_eq, bind_ok, iCmp_eq, hp]
    unfold E_told_sets_1
    rw [eAnd_eq, e1, bind_ok]
    exact e2
  rw [eCall_eq, aCons_eq, hc, bind_ok, aNil_eq, bind_ok, bind_ok]
  rw [bools_all (fun _ => true)]
  rw [show (rows.all fun _ => true) = true from List.all_eq_true.mpr fun _ _ => rfl]
theorem told_c2 {m : Nat} {rows : List (Bool × List Int)} (b : Bool) (S : Store) : C_told_sets_2 (Γ0 m (.d (sq b (rows.map hnd)))) S = .ok (.d (.list ((rows.map fun p => ascI p.2).map row))) S := by
  unfold C_told_sets_2
  rw [List.map_map]
  refine comp_g b hnd (fun p => row (ascI p.2)) rows rfl fun p hp => ⟨_, gNm_eq _ _ _ _, ?_⟩
  have e1 : eCall (sortS finF) (aCons (eVar 2) aNil) ((wipeE (Γ0 m (.d (sq b (rows.map hnd)))) [2]).set 2 (some (.d (hnd p)))) S = .ok (.d (.list ((ascI p.2).map .int))) S := sort_sqI p.1 p.2 S
  unfold E_told_sets_2
  rw [eCall_eq, aCons_eq, e1, bind_ok, aNil_eq, bind_ok, bind_ok]
  rfl
/-- up to the loop -/
theorem told_pre {m : Nat} {rows : List (Bool × List Int)} (b : Bool) (h : Rows m rows) (S : Store) : b_told_sets (Γ0 m (.d (sq b (rows.map hnd)))) S =
    (fSeq L_told_sets_1 (fRet (eCall (sortS finF) (aCons (eVar 3) aNil)))) (Γt m (.d (sq b (rows.map hnd))) none (rows.map fun p => ascI p.2) none) S := by
  have h1 := h.m1
  have h2 := h.m8
  have h3 := h.l1
  have h4 := h.l2
  have q1 : decide ((1 : Int) ≤ (m : Int)) = true := decide_eq_true (by omega)
  have q2 : decide ((m : Int) ≤ 8) = true := decide_eq_true (by omega)
  have q3 : decide ((1 : Int) ≤ (rows.length : Int)) = true := decide_eq_true (by omega)
  have q4 : decide ((rows.length : Int) ≤ 70) = true := decide_eq_true (by omega)
  have c1 := told_c1 b h S
  have c2 := told_c2 (m := m) (rows := rows) b S
  have e1 : (tru (eCallD 1 F_is_whole (aCons (eVar 0) aNil))) (Γ0 m (.d (sq b (rows.map hnd)))) S = .ok true S := by simp -implicitDefEqProofs only [fSeq_eq, seqK_nx, seqK_rt, seqK_bk, seqK_ct, seqK_ite, eVar_0, eVar_s, bind_ok, sB_ok, eC_eq, eBin_eq, eUn_eq, iOp0_eq, iCmp_eq, tst_eq, addI, negI, fSet_eq, fRet_eq, fExpr_eq, fIf_eq, fAsg_eq, fPar_eq, fNil_eq, fBreak_eq, fCont_eq, gNm_eq, gsNil_eq, gsCons_eq, aNil_eq, aCons_eq, eCall_eq, eCallD_eq, intS_eq, absS_eq, mmS_eq, len_l, len_t, list_l, list_t, tup_l, tup_t, finF_eq, finC_eq, allD_nil, allD_cons, eTup_eq, eLst_eq, eIf_eq, runD_eq, hand_rt, handF_d, take_self, srcS_l, srcS_t, iSrc_eq, iZip_eq, zip_l, iEnm_eq, enum_l, pix0, pix1, pix2, pix3, pset1, pset2, pset3, gSub_eq, tYes_eq, eAdd_eq, eSub_eq, eMul_eq, eDiv_eq, eMod_eq, ePow_eq, eXor_eq, eNeg_eq, eIx_eq, eqI_t, eqI_f, tNot_eq, tAnd_eq, tOr_eq, tru_eq, tru_bool, tru_int, tru_list, eAnd_eq, eNot_eq, isi_eq, asD_d, List.length_cons, List.length_nil, List.map_cons, List.map_nil, List.cons_append, List.nil_append, List.append_nil, List.set_cons_succ, List.set_cons_zero, List.replicate_succ, List.replicate_zero, Option.map_some, if_true, if_false, reduceIte, Nat.reduceAdd, Nat.reduceSub, Nat.reduceLeDiff, List.length_map, Nat.reduceEqDiff, Bool.false_eq_true, Bool.not_false, Bool.not_true, ne_eq, not_true_eq_false, not_false_eq_true, decide_true, decide_false, eq_self, hand_rt, decide_eq_true_eq, whole_int]
  have e2 : (tst (eChain (iCmp fun i j => decide (i ≤ j)) (iCmp fun i j => decide (i ≤ j)) (eC (.int 1)) (eVar 0) (eC k_MOST_PEOPLE))) (Γ0 m (.d (sq b (rows.map hnd)))) S = .ok true S := by simp -implicitDefEqProofs only [eChain, k_MOST_PEOPLE, fSeq_eq, seqK_nx, seqK_rt, seqK_bk, seqK_ct, seqK_ite, eVar_0, eVar_s, bind_ok, sB_ok, eC_eq, eBin_eq, eUn_eq, iOp0_eq, iCmp_eq, tst_eq, addI, negI, fSet_eq, fRet_eq, fExpr_eq, fIf_eq, fAsg_eq, fPar_eq, fNil_eq, fBreak_eq, fCont_eq, gNm_eq, gsNil_eq, gsCons_eq, aNil_eq, aCons_eq, eCall_eq, eCallD_eq, intS_eq, absS_eq, mmS_eq, len_l, len_t, list_l, list_t, tup_l, tup_t, finF_eq, finC_eq, allD_nil, allD_cons, eTup_eq, eLst_eq, eIf_eq, runD_eq, hand_rt, handF_d, take_self, srcS_l, srcS_t, iSrc_eq, iZip_eq, zip_l, iEnm_eq, enum_l, pix0, pix1, pix2, pix3, pset1, pset2, pset3, gSub_eq, tYes_eq, eAdd_eq, eSub_eq, eMul_eq, eDiv_eq, eMod_eq, ePow_eq, eXor_eq, eNeg_eq, eIx_eq, eqI_t, eqI_f, tNot_eq, tAnd_eq, tOr_eq, tru_eq, tru_bool, tru_int, tru_list, eAnd_eq, eNot_eq, isi_eq, asD_d, List.length_cons, List.length_nil, List.map_cons, List.map_nil, List.cons_append, List.nil_append, List.append_nil, List.set_cons_succ, List.set_cons_zero, List.replicate_succ, List.replicate_zero, Option.map_some, if_true, if_false, reduceIte, Nat.reduceAdd, Nat.reduceSub, Nat.reduceLeDiff, List.length_map, Nat.reduceEqDiff, Bool.false_eq_true, Bool.not_false, Bool.not_true, ne_eq, not_true_eq_false, not_false_eq_true, decide_true, decide_false, eq_self, hand_rt, decide_eq_true_eq, q1, q2]
  have e3 : (tru (eCallD 1 F_is_row (aCons (eVar 1) aNil))) (Γ0 m (.d (sq b (rows.map hnd)))) S = .ok true S := by simp -implicitDefEqProofs only [fSeq_eq, seqK_nx, seqK_rt, seqK_bk, seqK_ct, seqK_ite, eVar_0, eVar_s, bind_ok, sB_ok, eC_eq, eBin_eq, eUn_eq, iOp0_eq, iCmp_eq, tst_eq, addI, negI, fSet_eq, fRet_eq, fExpr_eq, fIf_eq, fAsg_eq, fPar_eq, fNil_eq, fBreak_eq, fCont_eq, gNm_eq, gsNil_eq, gsCons_eq, aNil_eq, aCons_eq, eCall_eq, eCallD_eq, intS_eq, absS_eq, mmS_eq, len_l, len_t, list_l, list_t, tup_l, tup_t, finF_eq, finC_eq, allD_nil, allD_cons, eTup_eq, eLst_eq, eIf_eq, runD_eq, hand_rt, handF_d, take_self, srcS_l, srcS_t, iSrc_eq, iZip_eq, zip_l, iEnm_eq, enum_l, pix0, pix1, pix2, pix3, pset1, pset2, pset3, gSub_eq, tYes_eq, eAdd_eq, eSub_eq, eMul_eq, eDiv_eq, eMod_eq, ePow_eq, eXor_eq, eNeg_eq, eIx_eq, eqI_t, eqI_f, tNot_eq, tAnd_eq, tOr_eq, tru_eq, tru_bool, tru_int, tru_list, eAnd_eq, eNot_eq, isi_eq, asD_d, List.length_cons, List.length_nil, List.map_cons, List.map_nil, List.cons_append, List.nil_append, List.append_nil, List.set_cons_succ, List.set_cons_zero, List.replicate_succ, List.replicate_zero, Option.map_some, if_true, if_false, reduceIte, Nat.reduceAdd, Nat.reduceSub, Nat.reduceLeDiff, List.length_map, Nat.reduceEqDiff, Bool.false_eq_true, Bool.not_false, Bool.not_true, ne_eq, not_true_eq_false, not_false_eq_true, decide_true, decide_false, eq_self, hand_rt, decide_eq_true_eq, isRow_sq]
  have e4 : (tst (eChain (iCmp fun i j => decide (i ≤ j)) (iCmp fun i j => decide (i ≤ j)) (eC (.int 1)) (eCall lenS (aCons (eVar 1) aNil)) (eC k_MOST_SETS))) (Γ0 m (.d (sq b (rows.map hnd)))) S = .ok true S := by simp -implicitDefEqProofs only [eChain, k_MOST_SETS, fSeq_eq, seqK_nx, seqK_rt, seqK_bk, seqK_ct, seqK_ite, eVar_0, eVar_s, bind_ok, sB_ok, eC_eq, eBin_eq, eUn_eq, iOp0_eq, iCmp_eq, tst_eq, addI, negI, fSet_eq, fRet_eq, fExpr_eq, fIf_eq, fAsg_eq, fPar_eq, fNil_eq, fBreak_eq, fCont_eq, gNm_eq, gsNil_eq, gsCons_eq, aNil_eq, aCons_eq, eCall_eq, eCallD_eq, intS_eq, absS_eq, mmS_eq, len_l, len_t, list_l, list_t, tup_l, tup_t, finF_eq, finC_eq, allD_nil, allD_cons, eTup_eq, eLst_eq, eIf_eq, runD_eq, hand_rt, handF_d, take_self, srcS_l, srcS_t, iSrc_eq, iZip_eq, zip_l, iEnm_eq, enum_l, pix0, pix1, pix2, pix3, pset1, pset2, pset3, gSub_eq, tYes_eq, eAdd_eq, eSub_eq, eMul_eq, eDiv_eq, eMod_eq, ePow_eq, eXor_eq, eNeg_eq, eIx_eq, eqI_t, eqI_f, tNot_eq, tAnd_eq, tOr_eq, tru_eq, tru_bool, tru_int, tru_list, eAnd_eq, eNot_eq, isi_eq, asD_d, List.length_cons, List.length_nil, List.map_cons, List.map_nil, List.cons_append, List.nil_append, List.append_nil, List.set_cons_succ, List.set_cons_zero, List.replicate_succ, List.replicate_zero, Option.map_some, if_true, if_false, reduceIte, Nat.reduceAdd, Nat.reduceSub, Nat.reduceLeDiff, List.length_map, Nat.reduceEqDiff, Bool.false_eq_true, Bool.not_false, Bool.not_true, ne_eq, not_true_eq_false, not_false_eq_true, decide_true, decide_false, eq_self, hand_rt, decide_eq_true_eq, len_sq, q3, q4]
  unfold b_told_sets
  rw [fSeq_eq, fIf_eq, tOr_eq, tNot_eq, e1, bind_ok, bind_ok, Bool.not_true, if_neg Bool.false_ne_true, tNot_eq, e2, bind_ok, Bool.not_true, sB_ok, if_neg Bool.false_ne_true, fNil_eq, seqK_nx]
  rw [fSeq_eq, fIf_eq, tOr_eq, tNot_eq, e3, bind_ok, bind_ok, Bool.not_true, if_neg Bool.false_ne_true, tNot_eq, e4, bind_ok, Bool.not_true, sB_ok, if_neg Bool.false_ne_true, fNil_eq, seqK_nx]
  rw [fSeq_eq, fIf_eq, tNot_eq, tru_eq, c1, bind_ok, tru_bool]
  show seqK _ (fNil _ _) = _
  rw [fNil_eq, seqK_nx, fSeq_eq, fSet_eq, c2, sB_ok, seqK_nx]
  rfl
theorem told_enum (m : Nat) (s : SV) (G : List (List Int)) (o2 o4 : Option SV) (S : Store) : L_told_sets_1 (Γt m s o2 G o4) S = forL (fun _ => true) (gTupF 2 (gsCons (gNm 4) (gsCons (gNm 2) gsNil))) B_told_sets_1 (G.zipIdx.map enc) (Γt m s o2 G o4) S := by
  unfold L_told_sets_1
  have e0 : iEnm (eVar 3) (Γt m s o2 G o4) S = .ok ⟨G.zipIdx.map enc, fun _ => true⟩ S := by
    rw [iEnm_eq]
    show (Out.ok _ S).bind _ = _
    rw [bind_ok]
    show enumS (.d (.list (G.map row))) S = _
    rw [enum_l, enum_rows]
  rw [fFor_eq e0]
theorem told_ok {m : Nat} {rows : List (Bool × List Int)} (b : Bool) (h : Rows m rows) (ha : Anti (rows.map fun p => ascI p.2)) (S : Store) :
    F_told_sets [.d (.int m), .d (sq b (rows.map hnd))] S = .ok (.d (.list (srtD ((rows.map fun p => ascI p.2).map row)))) S := by
  obtain ⟨o2, o4, e⟩ := told_good m (.d (sq b (rows.map hnd))) (rows.map fun p => ascI p.2) S _ none none (anti_bad ha)
  have hs := sort_rows (F := rows.map fun p => ascI p.2) (fun f hf => by
    obtain ⟨p, hp, rfl⟩ := List.mem_map.mp hf
    intro e
    have := (asc_perm p.2).length_eq
    rw [e] at this
    exact (h.ok p hp).2 (List.eq_nil_of_length_eq_zero this.symm)) S
  have hb : b_told_sets (Γ0 m (.d (sq b (rows.map hnd)))) S = .ok (.rt (.d (.list (srtD ((rows.map fun p => ascI p.2).map row))))) S := by
    rw [told_pre b h S, fSeq_eq, told_enum, e, seqK_nx, fRet_eq, eCall_eq]
    have e3 : aCons (eVar 3) aNil (Γt m (.d (sq b (rows.map hnd))) o2 (rows.map fun p => ascI p.2) o4) S = .ok [.d (.list ((rows.map fun p => ascI p.2).map row))] S := rfl
    rw [e3, bind_ok, hs, sB_ok]
  unfold F_told_sets
  rw [runD_eq]
  show hand handF S.length (b_told_sets (Γ0 m (.d (sq b (rows.map hnd)))) S) = _
  rw [hb, hand_rt, handF_d, take_self]
theorem told_no {m : Nat} {rows : List (Bool × List Int)} (b : Bool) (h : Rows m rows) (ha : ∃ q ∈ (rows.map fun p => ascI p.2).zipIdx, bad (rows.map fun p => ascI p.2) q = true) (S : Store) :
    F_told_sets [.d (.int m), .d (sq b (rows.map hnd))] S = .ex ⟨"BadStructure", [("reason", .str "within")]⟩ S := by
  obtain ⟨Γ', e⟩ := told_bad m (.d (sq b (rows.map hnd))) (rows.map fun p => ascI p.2) S _ none none ha
  have hb : b_told_sets (Γ0 m (.d (sq b (rows.map hnd)))) S = .ok (.xc ⟨"BadStructure", [("reason", .str "within")]⟩ Γ') S := by
    rw [told_pre b h S, fSeq_eq, told_enum, e]
    rfl
  unfold F_told_sets
  rw [runD_eq]
  show hand handF S.length (b_told_sets (Γ0 m (.d (sq b (rows.map hnd)))) S) = _
  rw [hb]
  show Out.ex _ (S.take S.length) = _
  rw [take_self]
end G85
/-! S5: all sets. -/
namespace G85
open PySem L2 DL StrA
theorem up8 {m : Nat} (h : m ≤ 8) : m = 0 ∨ m = 1 ∨ m = 2 ∨ m = 3 ∨ m = 4 ∨ m = 5 ∨ m = 6 ∨ m = 7 ∨ m = 8 := by omega
theorem add_ll (xs ys : List PyData) (S : Store) (h : xs.length + ys.length ≤ 16777216) : addS finF (.d (.list xs)) (.d (.list ys)) S = .ok (.d (.list (xs ++ ys))) S := by
  show (if _ then _ else _) = _
  rw [if_pos h]; rfl
theorem add_tt (xs ys : List PyData) (S : Store) (h : xs.length + ys.length ≤ 16777216) : addS finF (.d (.tuple xs)) (.d (.tuple ys)) S = .ok (.d (.tuple (xs ++ ys))) S := by
  show (if _ then _ else _) = _
  rw [if_pos h]
theorem comp_s {α : Type} {it : IF} {gf : GF} {ef : EF} {vs : List Nat} {Γ : Ev} {S : Store} (g f : α → PyData) (xs : List α) (e0 : it Γ S = .ok ⟨xs.map g, fun _ => true⟩ S)
    (k : ∀ x ∈ xs, ∃ Γ1, gf (.d (g x)) (wipeE Γ vs) S = .ok Γ1 S ∧ ef Γ1 S = .ok (.d (f x)) S) : eLc finF it gf tYesF ef vs Γ S = .ok (.d (.list (xs.map f))) S := by
  rw [eLc_eq e0, lcL_g g f rfl xs k, bind_ok, finF_eq]
theorem init_rows (Γ : Ev) (S : Store) : eLst finF (aCons (eTup aNil) aNil) Γ S = .ok (.d (.list [row []])) S := by
  simp -implicitDefEqProofs only [fSeq_eq, seqK_nx, seqK_rt, seqK_bk, seqK_ct, seqK_ite, eVar_0, eVar_s, bind_ok, sB_ok, eC_eq, eBin_eq, eUn_eq, iOp0_eq, iCmp_eq, tst_eq, addI, negI, fSet_eq, fRet_eq, fExpr_eq, fIf_eq, fAsg_eq, fPar_eq, fNil_eq, fBreak_eq, fCont_eq, gNm_eq, gsNil_eq, gsCons_eq, aNil_eq, aCons_eq, eCall_eq, eCallD_eq, intS_eq, absS_eq, mmS_eq, len_l, len_t, list_l, list_t, tup_l, tup_t, finF_eq, finC_eq, allD_nil, allD_cons, eTup_eq, eLst_eq, eIf_eq, runD_eq, hand_rt, handF_d, take_self, srcS_l, srcS_t, iSrc_eq, iZip_eq, zip_l, iEnm_eq, enum_l, pix0, pix1, pix2, pix3, pset1, pset2, pset3, gSub_eq, tYes_eq, eAdd_eq, eSub_eq, eMul_eq, eDiv_eq, eMod_eq, ePow_eq, eXor_eq, eNeg_eq, eIx_eq, eqI_t, eqI_f, tNot_eq, tAnd_eq, tOr_eq, tru_eq, tru_bool, tru_int, tru_list, eAnd_eq, eNot_eq, isi_eq, asD_d, List.length_cons, List.length_nil, List.map_cons, List.map_nil, List.cons_append, List.nil_append, List.append_nil, List.set_cons_succ, List.set_cons_zero, List.replicate_succ, List.replicate_zero, Option.map_some, if_true, if_false, reduceIte, Nat.reduceAdd, Nat.reduceSub, Nat.reduceLeDiff, List.length_map, Nat.reduceEqDiff, Bool.false_eq_true, Bool.not_false, Bool.not_true, ne_eq, not_true_eq_false, not_false_eq_true, decide_true, decide_false, eq_self, hand_rt, decide_eq_true_eq]
  rfl
theorem init_none (Γ : Ev) (S : Store) : eLst finF aNil Γ S = .ok (.d (.list [])) S := by
  simp -implicitDefEqProofs only [fSeq_eq, seqK_nx, seqK_rt, seqK_bk, seqK_ct, seqK_ite, eVar_0, eVar_s, bind_ok, sB_ok, eC_eq, eBin_eq, eUn_eq, iOp0_eq, iCmp_eq, tst_eq, addI, negI, fSet_eq, fRet_eq, fExpr_eq, fIf_eq, fAsg_eq, fPar_eq, fNil_eq, fBreak_eq, fCont_eq, gNm_eq, gsNil_eq, gsCons_eq, aNil_eq, aCons_eq, eCall_eq, eCallD_eq, intS_eq, absS_eq, mmS_eq, len_l, len_t, list_l, list_t, tup_l, tup_t, finF_eq, finC_eq, allD_nil, allD_cons, eTup_eq, eLst_eq, eIf_eq, runD_eq, hand_rt, handF_d, take_self, srcS_l, srcS_t, iSrc_eq, iZip_eq, zip_l, iEnm_eq, enum_l, pix0, pix1, pix2, pix3, pset1, pset2, pset3, gSub_eq, tYes_eq, eAdd_eq, eSub_eq, eMul_eq, eDiv_eq, eMod_eq, ePow_eq, eXor_eq, eNeg_eq, eIx_eq, eqI_t, eqI_f, tNot_eq, tAnd_eq, tOr_eq, tru_eq, tru_bool, tru_int, tru_list, eAnd_eq, eNot_eq, isi_eq, asD_d, List.length_cons, List.length_nil, List.map_cons, List.map_nil, List.cons_append, List.nil_append, List.append_nil, List.set_cons_succ, List.set_cons_zero, List.replicate_succ, List.replicate_zero, Option.map_some, if_true, if_false, reduceIte, Nat.reduceAdd, Nat.reduceSub, Nat.reduceLeDiff, List.length_map, Nat.reduceEqDiff, Bool.false_eq_true, Bool.not_false, Bool.not_true, ne_eq, not_true_eq_false, not_false_eq_true, decide_true, decide_false, eq_self, hand_rt, decide_eq_true_eq, Nat.zero_le]
theorem rg2_ok {fa fb : EF} {Γ : Ev} {S : Store} {a b : Int} (ha : fa Γ S = .ok (.d (.int a)) S) (hb : fb Γ S = .ok (.d (.int b)) S) (h1 : 0 ≤ a) (h2 : a ≤ 1000) (h3 : 0 ≤ b) (h4 : b ≤ 1000) : iRg (rg2 fa fb) Γ S = .ok ⟨(rngI a b).map .int, fun _ => true⟩ S := by
  have e : rg2 fa fb Γ S = .ok (a, b) S := by
    unfold rg2
    rw [ha, bind_ok, hb, bind_ok]
  rw [iRg_eq, e, bind_ok, rgSrc_eq _ (rgC_of h1 (by omega) (by omega) h3)]
  have : rgD a b = (rngI a b).map .int := by
    unfold rgD rngI
    rw [List.map_map]; rfl
  rw [this]
theorem last_ix {xs : List Int} {x : Int} (h : xs.getLast? = some x) (S : Store) : ixS (.d (row xs)) (.d (.int (-1))) S = .ok (.d (.int x)) S := by
  refine ix_t S ?_
  have hl : 0 < xs.length := by
    cases xs with
    | nil => cases h
    | cons a b => exact Nat.succ_pos _
  have e : ixN (xs.map PyData.int).length (-1) = some ((xs.map PyData.int).length - 1) := by
    unfold ixN
    rw [List.length_map, if_neg (by decide), if_pos (by omega), show ((-1 : Int) + xs.length).toNat = xs.length - 1 by omega]
  unfold atI
  rw [e, List.length_map]
  show (xs.map PyData.int)[xs.length - 1]? = _
  rw [List.getElem?_map, ← List.getLast?_eq_getElem?, h]; rfl
theorem tru_row (xs : List Int) (S : Store) : truS (.d (row xs)) S = some (!xs.isEmpty) := by
  show some (!(xs.map PyData.int).isEmpty) = _
  cases xs <;> rfl
/-- the first number behind a row -/
theorem first_ok' {fr : EF} {Γ : Ev} {S : Store} {xs : List Int} (h : fr Γ S = .ok (.d (row xs)) S) : eIf (tru fr) (eAddF finF (eIx fr (eNeg (eC (.int 1)))) (eC (.int 1))) (eC (.int 0)) Γ S = .ok (.d (.int (firstL xs))) S := by
  rw [eIf_eq, tru_eq, h, bind_ok, tru_row]
  cases hx : xs.getLast? with
  | none =>
    rw [List.getLast?_eq_none_iff] at hx
    subst hx
    rfl
  | some x =>
    have he : xs.isEmpty = false := by
      cases xs with
      | nil => cases hx
      | cons a b => rfl
    rw [he]
    show (eAddF finF (eIx fr (eNeg (eC (.int 1)))) (eC (.int 1))) Γ S = _
    have e1 : eIx fr (eNeg (eC (.int 1))) Γ S = .ok (.d (.int x)) S := by
      rw [eIx_eq, h, bind_ok, eNeg_eq, eC_eq, bind_ok, negI, bind_ok, last_ix hx]
    rw [eAdd_eq, e1, bind_ok, eC_eq, bind_ok, addI]
    unfold firstL
    rw [hx]
theorem next_row {ve vr : EF} {Γ : Ev} {S : Store} {xs : List Int} {e : Int} (hl : xs.length ≤ 1000) (hr : vr Γ S = .ok (.d (row xs)) S) (he : ve Γ S = .ok (.d (.int e)) S) : eAddF finF vr (eTup (aCons ve aNil)) Γ S = .ok (.d (row (xs ++ [e]))) S := by
  have e2 : eTup (aCons ve aNil) Γ S = .ok (.d (.tuple [.int e])) S := by
    rw [eTup_eq, aCons_eq, he, bind_ok, aNil_eq, bind_ok, bind_ok]
    rfl
  rw [eAdd_eq, hr, bind_ok, e2, bind_ok]
  unfold row
  rw [add_tt _ _ _ (by simp only [List.length_map, List.length_cons, List.length_nil]; omega), List.map_append]
  rfl
/-- what the rows must be -/
structure Bnd (n : Int) (rows : List (List Int)) : Prop where
  ok : ∀ xs ∈ rows, 0 ≤ firstL xs ∧ firstL xs ≤ 9 ∧ xs.length ≤ 8
  n0 : 0 ≤ n
  n8 : n ≤ 8
theorem bnd_sets {m r : Nat} (h8 : m ≤ 8) (hr : r ≤ m) : Bnd m (setsL m r) := by
  refine ⟨fun xs hx => ?_, by omega, by omega⟩
  obtain ⟨h1, h2, h3⟩ := sets_ok _ _ _ hx
  refine ⟨?_, ?_, by omega⟩ <;> (unfold firstL; split)
  · rename_i x hx; have := h2 x (List.mem_of_getLast? hx); omega
  · exact Int.le_refl _
  · rename_i x hx; have := h2 x (List.mem_of_getLast? hx); omega
  · decide
theorem sets_len {m k : Nat} (h8 : m ≤ 8) (hk : k ≤ m) : (setsL m k).length ≤ 1000 := by
  have : ∀ m, m ≤ 8 → ∀ k, k ≤ 8 → (setsL (m : Nat) k).length ≤ 70 := by decide +kernel
  exact Nat.le_trans (this m h8 k (by omega)) (by decide)
abbrev s_Γ (n : Int) (o1 : Option SV) (all : SV) (o3 : Option SV) (longer : SV) (o5 o6 : Option SV) : Ev := [some (.d (.int n)), o1, some all, o3, some longer, o5, o6, none]
abbrev s_Γ' (n : Int) (o1 : Option SV) (all : SV) (o3 o4 o5 o6 : Option SV) : Ev := [some (.d (.int n)), o1, some all, o3, o4, o5, o6, none]
abbrev l_Γ (n : Int) (o1 : Option SV) (all : SV) (o3 : Option SV) (longer : SV) (o5 o6 : Option SV) : Ev := [some (.d (.int n)), o1, some all, o3, some longer, o5, o6]
abbrev l_Γ' (n : Int) (o1 : Option SV) (all : SV) (o3 o4 o5 o6 : Option SV) : Ev := [some (.d (.int n)), o1, some all, o3, o4, o5, o6]

theorem sets_of_inner (n : Int) (o1 : Option SV) (all : SV) (o3 : Option SV) (S : Store) : ∀ (rest : List (List Int)) (acc : List (List Int)) (o5 o6 : Option SV), Bnd n rest → acc.length + (nextL n rest).length ≤ 1000 →
    ∃ o5' o6', forL (fun _ => true) (gNm 5) B_sets_of_1 (rest.map row) (s_Γ n o1 all o3 (.d (.list (acc.map row))) o5 o6) S = .ok (.nx (s_Γ n o1 all o3 (.d (.list ((acc ++ nextL n rest).map row))) o5' o6')) S
  | [], acc, o5, o6, _, _ => ⟨o5, o6, by simp [forL, nextL]⟩
  | xs :: rest, acc, o5, o6, hB, hl => by
    have hn : nextL n (xs :: rest) = ((rngI (firstL xs) n).map fun e => xs ++ [e]) ++ nextL n rest := rfl
    rw [hn, List.length_append] at hl
    obtain ⟨b1, b2, b3⟩ := hB.ok xs List.mem_cons_self
    have n0 := hB.n0
    have n8 := hB.n8
    have hb : ∃ p6, B_sets_of_1 (s_Γ n o1 all o3 (.d (.list (acc.map row))) (some (.d (row xs))) o6) S = .ok (.nx (s_Γ n o1 all o3 (.d (.list ((acc ++ (rngI (firstL xs) n).map fun e => xs ++ [e]).map row))) (some (.d (row xs))) p6)) S := by
      have e1 := first_ok' (fr := eVar 5) (Γ := s_Γ n o1 all o3 (.d (.list (acc.map row))) (some (.d (row xs))) o6) (S := S) (xs := xs) rfl
      have hc : C_sets_of_1 (s_Γ n o1 all o3 (.d (.list (acc.map row))) (some (.d (row xs))) (some (.d (.int (firstL xs))))) S = .ok (.d (.list ((rngI (firstL xs) n).map fun e => row (xs ++ [e])))) S := by
        unfold C_sets_of_1
        exact comp_s .int (fun e => row (xs ++ [e])) _ (rg2_ok (a := firstL xs) (b := n) rfl rfl b1 (by omega) n0 (by omega)) fun e he => ⟨_, gNm_eq _ _ _ _, next_row (by omega) rfl rfl⟩
      refine ⟨some (.d (.int (firstL xs))), ?_⟩
      unfold B_sets_of_1
      rw [fSeq_eq, fSet_eq, e1, sB_ok, seqK_nx]
      show fSet 4 (eAddF finF (eVar 4) C_sets_of_1) (s_Γ n o1 all o3 (.d (.list (acc.map row))) (some (.d (row xs))) (some (.d (.int (firstL xs))))) S = _
      have e4 : eAddF finF (eVar 4) C_sets_of_1 (s_Γ n o1 all o3 (.d (.list (acc.map row))) (some (.d (row xs))) (some (.d (.int (firstL xs))))) S = .ok (.d (.list ((acc ++ (rngI (firstL xs) n).map fun e => xs ++ [e]).map row))) S := by
        rw [eAdd_eq, eVar_at (x := .d (.list (acc.map row))) rfl, bind_ok, hc, bind_ok, add_ll _ _ _ (by simp only [List.length_map] at hl ⊢; omega), List.map_append, List.map_map]
        rfl
      rw [fSet_eq, e4, sB_ok]
      rfl
    obtain ⟨p6, hb⟩ := hb
    obtain ⟨q5, q6, e⟩ := sets_of_inner n o1 all o3 S rest (acc ++ (rngI (firstL xs) n).map fun e => xs ++ [e]) (some (.d (row xs))) p6 ⟨fun y hy => hB.ok y (List.mem_cons_of_mem _ hy), n0, n8⟩ (by rw [List.length_append]; omega)
    refine ⟨q5, q6, ?_⟩
    have hg : gNm 5 (.d (row xs)) (s_Γ n o1 all o3 (.d (.list (acc.map row))) o5 o6) S = .ok (s_Γ n o1 all o3 (.d (.list (acc.map row))) (some (.d (row xs))) o6) S := rfl
    show forL (fun _ => true) (gNm 5) _ (row xs :: rest.map row) _ _ = _
    unfold forL
    simp only [hg, hb, if_true]
    rw [e, hn, List.append_assoc]
theorem sets_of_outer {m r : Nat} (h8 : m ≤ 8) (hlen : ∀ k, k ≤ m → (setsL m k).length ≤ 1000) (o1 : Option SV) (S : Store) : ∀ (t k : Nat) (ks : List Nat) (o3 o4 o5 o6 : Option SV), ks.length = t → k + t ≤ m →
    ∃ o3' o4' o5' o6', forL (fun _ => true) (gNm 3) B_sets_of_2 (ks.map fun (i : Nat) => PyData.int i) (s_Γ' m o1 (.d (.list ((setsL m k).map row))) o3 o4 o5 o6) S = .ok (.nx (s_Γ' m o1 (.d (.list ((setsL m (k + t)).map row))) o3' o4' o5' o6')) S
  | 0, k, [], o3, o4, o5, o6, _, _ => ⟨o3, o4, o5, o6, rfl⟩
  | 0, k, _ :: _, _, _, _, _, h, _ => by cases h
  | t + 1, k, [], _, _, _, _, h, _ => by cases h
  | t + 1, k, i :: ks, o3, o4, o5, o6, h, hk => by
    have hl := hlen (k + 1) (by omega)
    have hs : setsL m (k + 1) = nextL m (setsL m k) := rfl
    rw [hs] at hl
    obtain ⟨q5, q6, e1⟩ := sets_of_inner m o1 (.d (.list ((setsL m k).map row))) (some (.d (.int i))) S (setsL m k) [] o5 o6 (bnd_sets h8 (by omega)) (by simpa using hl)
    obtain ⟨p3, p4, p5, p6, e2⟩ := sets_of_outer (r := r) h8 hlen o1 S t (k + 1) ks (some (.d (.int i))) (some (.d (.list ((setsL m (k + 1)).map row)))) q5 q6 (by simpa using h) (by omega)
    refine ⟨p3, p4, p5, p6, ?_⟩
    have hg : gNm 3 (.d (.int i)) (s_Γ' m o1 (.d (.list ((setsL m k).map row))) o3 o4 o5 o6) S = .ok (s_Γ' m o1 (.d (.list ((setsL m k).map row))) (some (.d (.int i))) o4 o5 o6) S := rfl
    have hb : B_sets_of_2 (s_Γ' m o1 (.d (.list ((setsL m k).map row))) (some (.d (.int i))) o4 o5 o6) S = .ok (.nx (s_Γ' m o1 (.d (.list ((setsL m (k + 1)).map row))) (some (.d (.int i))) (some (.d (.list ((setsL m (k + 1)).map row)))) q5 q6)) S := by
      have hL : L_sets_of_1 (s_Γ m o1 (.d (.list ((setsL m k).map row))) (some (.d (.int i))) (.d (.list [])) o5 o6) S = .ok (.nx (s_Γ m o1 (.d (.list ((setsL m k).map row))) (some (.d (.int i))) (.d (.list ((setsL m (k + 1)).map row))) q5 q6)) S := by
        unfold L_sets_of_1
        have e0 : iSrc (eVar 2) (s_Γ m o1 (.d (.list ((setsL m k).map row))) (some (.d (.int i))) (.d (.list [])) o5 o6) S = .ok ⟨(setsL m k).map row, fun _ => true⟩ S := rfl
        rw [fFor_eq e0]
        exact e1
      unfold B_sets_of_2
      rw [fSeq_eq, fSet_eq, init_none, sB_ok, seqK_nx]
      show (fSeq L_sets_of_1 _) (s_Γ m o1 (.d (.list ((setsL m k).map row))) (some (.d (.int i))) (.d (.list [])) o5 o6) S = _
      rw [fSeq_eq, hL]
      rfl
    show forL (fun _ => true) (gNm 3) _ (.int i :: ks.map fun (i : Nat) => PyData.int i) _ _ = _
    unfold forL
    simp only [hg, hb, if_true]
    rw [e2, show k + 1 + t = k + (t + 1) by omega]
theorem sets_eq {m r : Nat} (h8 : m ≤ 8) (hr : r ≤ m) (S : Store) : F_sets_of [.d (.int m), .d (.int r)] S = .ok (.d (.list ((setsL m r).map row))) S := by
  obtain ⟨o3, o4, o5, o6, e⟩ := sets_of_outer (r := r) h8 (fun k hk => sets_len h8 hk) (some (.d (.int r))) S r 0 (List.range r) none none none none (List.length_range) (by omega)
  have hb : b_sets_of ([some (.d (.int m)), some (.d (.int r)), none, none, none, none, none, none]) S = .ok (.rt (.d (.list ((setsL m r).map row)))) S := by
    unfold b_sets_of
    rw [fSeq_eq, fSet_eq, init_rows, sB_ok, seqK_nx]
    show (fSeq L_sets_of_2 (fRet (eVar 2))) (s_Γ' m (some (.d (.int r))) (.d (.list ((setsL m 0).map row))) none none none none) S = _
    have e0 : iRg (rg1 (eVar 1)) (s_Γ' m (some (.d (.int r))) (.d (.list ((setsL m 0).map row))) none none none none) S = .ok ⟨(List.range r).map fun (i : Nat) => PyData.int i, fun _ => true⟩ S := by
      have := iRg_ok (f := eVar 1) (Γ := s_Γ' m (some (.d (.int r))) (.d (.list ((setsL m 0).map row))) none none none none) (S := S) (n := r) rfl (by omega)
      rw [this, rgD_nat]
    have hL : L_sets_of_2 (s_Γ' m (some (.d (.int r))) (.d (.list ((setsL m 0).map row))) none none none none) S = .ok (.nx (s_Γ' m (some (.d (.int r))) (.d (.list ((setsL m r).map row))) o3 o4 o5 o6)) S := by
      unfold L_sets_of_2
      rw [fFor_eq e0]
      show forL (fun _ => true) _ _ _ _ _ = _
      rw [e, Nat.zero_add]
    rw [fSeq_eq, hL]
    rfl
  unfold F_sets_of
  rw [runD_eq]
  show hand handF S.length (b_sets_of ([some (.d (.int m)), some (.d (.int r)), none, none, none, none, none, none]) S) = _
  rw [hb, hand_rt, handF_d, take_self]

theorem _law_sets_inner (n : Int) (o1 : Option SV) (all : SV) (o3 : Option SV) (S : Store) : ∀ (rest : List (List Int)) (acc : List (List Int)) (o5 o6 : Option SV), Bnd n rest → acc.length + (nextL n rest).length ≤ 1000 →
    ∃ o5' o6', forL (fun _ => true) (gNm 5) B__law_sets_1 (rest.map row) (l_Γ n o1 all o3 (.d (.list (acc.map row))) o5 o6) S = .ok (.nx (l_Γ n o1 all o3 (.d (.list ((acc ++ nextL n rest).map row))) o5' o6')) S
  | [], acc, o5, o6, _, _ => ⟨o5, o6, by simp [forL, nextL]⟩
  | xs :: rest, acc, o5, o6, hB, hl => by
    have hn : nextL n (xs :: rest) = ((rngI (firstL xs) n).map fun e => xs ++ [e]) ++ nextL n rest := rfl
    rw [hn, List.length_append] at hl
    obtain ⟨b1, b2, b3⟩ := hB.ok xs List.mem_cons_self
    have n0 := hB.n0
    have n8 := hB.n8
    have hb : ∃ p6, B__law_sets_1 (l_Γ n o1 all o3 (.d (.list (acc.map row))) (some (.d (row xs))) o6) S = .ok (.nx (l_Γ n o1 all o3 (.d (.list ((acc ++ (rngI (firstL xs) n).map fun e => xs ++ [e]).map row))) (some (.d (row xs))) p6)) S := by
      have e1 := first_ok' (fr := eVar 5) (Γ := l_Γ n o1 all o3 (.d (.list (acc.map row))) (some (.d (row xs))) none) (S := S) (xs := xs) rfl
      have hc : C__law_sets_1 (l_Γ n o1 all o3 (.d (.list (acc.map row))) (some (.d (row xs))) o6) S = .ok (.d (.list ((rngI (firstL xs) n).map fun e => row (xs ++ [e])))) S := by
        unfold C__law_sets_1
        have e1' := first_ok' (fr := eVar 5) (Γ := l_Γ n o1 all o3 (.d (.list (acc.map row))) (some (.d (row xs))) o6) (S := S) (xs := xs) rfl
        exact comp_s .int (fun e => row (xs ++ [e])) _ (rg2_ok (a := firstL xs) (b := n) e1' rfl b1 (by omega) n0 (by omega)) fun e he => ⟨_, gNm_eq _ _ _ _, next_row (by omega) rfl rfl⟩
      refine ⟨o6, ?_⟩
      unfold B__law_sets_1
      have e4 : eAddF finF (eVar 4) C__law_sets_1 (l_Γ n o1 all o3 (.d (.list (acc.map row))) (some (.d (row xs))) o6) S = .ok (.d (.list ((acc ++ (rngI (firstL xs) n).map fun e => xs ++ [e]).map row))) S := by
        rw [eAdd_eq, eVar_at (x := .d (.list (acc.map row))) rfl, bind_ok, hc, bind_ok, add_ll _ _ _ (by simp only [List.length_map] at hl ⊢; omega), List.map_append, List.map_map]
        rfl
      rw [fSet_eq, e4, sB_ok]
      rfl
    obtain ⟨p6, hb⟩ := hb
    obtain ⟨q5, q6, e⟩ := _law_sets_inner n o1 all o3 S rest (acc ++ (rngI (firstL xs) n).map fun e => xs ++ [e]) (some (.d (row xs))) p6 ⟨fun y hy => hB.ok y (List.mem_cons_of_mem _ hy), n0, n8⟩ (by rw [List.length_append]; omega)
    refine ⟨q5, q6, ?_⟩
    have hg : gNm 5 (.d (row xs)) (l_Γ n o1 all o3 (.d (.list (acc.map row))) o5 o6) S = .ok (l_Γ n o1 all o3 (.d (.list (acc.map row))) (some (.d (row xs))) o6) S := rfl
    show forL (fun _ => true) (gNm 5) _ (row xs :: rest.map row) _ _ = _
    unfold forL
    simp only [hg, hb, if_true]
    rw [e, hn, List.append_assoc]
theorem _law_sets_outer {m r : Nat} (h8 : m ≤ 8) (hlen : ∀ k, k ≤ m → (setsL m k).length ≤ 1000) (o1 : Option SV) (S : Store) : ∀ (t k : Nat) (ks : List Nat) (o3 o4 o5 o6 : Option SV), ks.length = t → k + t ≤ m →
    ∃ o3' o4' o5' o6', forL (fun _ => true) (gNm 3) B__law_sets_2 (ks.map fun (i : Nat) => PyData.int i) (l_Γ' m o1 (.d (.list ((setsL m k).map row))) o3 o4 o5 o6) S = .ok (.nx (l_Γ' m o1 (.d (.list ((setsL m (k + t)).map row))) o3' o4' o5' o6')) S
  | 0, k, [], o3, o4, o5, o6, _, _ => ⟨o3, o4, o5, o6, rfl⟩
  | 0, k, _ :: _, _, _, _, _, h, _ => by cases h
  | t + 1, k, [], _, _, _, _, h, _ => by cases h
  | t + 1, k, i :: ks, o3, o4, o5, o6, h, hk => by
    have hl := hlen (k + 1) (by omega)
    have hs : setsL m (k + 1) = nextL m (setsL m k) := rfl
    rw [hs] at hl
    obtain ⟨q5, q6, e1⟩ := _law_sets_inner m o1 (.d (.list ((setsL m k).map row))) (some (.d (.int i))) S (setsL m k) [] o5 o6 (bnd_sets h8 (by omega)) (by simpa using hl)
    obtain ⟨p3, p4, p5, p6, e2⟩ := _law_sets_outer (r := r) h8 hlen o1 S t (k + 1) ks (some (.d (.int i))) (some (.d (.list ((setsL m (k + 1)).map row)))) q5 q6 (by simpa using h) (by omega)
    refine ⟨p3, p4, p5, p6, ?_⟩
    have hg : gNm 3 (.d (.int i)) (l_Γ' m o1 (.d (.list ((setsL m k).map row))) o3 o4 o5 o6) S = .ok (l_Γ' m o1 (.d (.list ((setsL m k).map row))) (some (.d (.int i))) o4 o5 o6) S := rfl
    have hb : B__law_sets_2 (l_Γ' m o1 (.d (.list ((setsL m k).map row))) (some (.d (.int i))) o4 o5 o6) S = .ok (.nx (l_Γ' m o1 (.d (.list ((setsL m (k + 1)).map row))) (some (.d (.int i))) (some (.d (.list ((setsL m (k + 1)).map row)))) q5 q6)) S := by
      have hL : L__law_sets_1 (l_Γ m o1 (.d (.list ((setsL m k).map row))) (some (.d (.int i))) (.d (.list [])) o5 o6) S = .ok (.nx (l_Γ m o1 (.d (.list ((setsL m k).map row))) (some (.d (.int i))) (.d (.list ((setsL m (k + 1)).map row))) q5 q6)) S := by
        unfold L__law_sets_1
        have e0 : iSrc (eVar 2) (l_Γ m o1 (.d (.list ((setsL m k).map row))) (some (.d (.int i))) (.d (.list [])) o5 o6) S = .ok ⟨(setsL m k).map row, fun _ => true⟩ S := rfl
        rw [fFor_eq e0]
        exact e1
      unfold B__law_sets_2
      rw [fSeq_eq, fSet_eq, init_none, sB_ok, seqK_nx]
      show (fSeq L__law_sets_1 _) (l_Γ m o1 (.d (.list ((setsL m k).map row))) (some (.d (.int i))) (.d (.list [])) o5 o6) S = _
      rw [fSeq_eq, hL]
      rfl
    show forL (fun _ => true) (gNm 3) _ (.int i :: ks.map fun (i : Nat) => PyData.int i) _ _ = _
    unfold forL
    simp only [hg, hb, if_true]
    rw [e2, show k + 1 + t = k + (t + 1) by omega]
theorem lsets_eq {m r : Nat} (h8 : m ≤ 8) (hr : r ≤ m) (S : Store) : F__law_sets [.d (.int m), .d (.int r)] S = .ok (.d (.list ((setsL m r).map row))) S := by
  obtain ⟨o3, o4, o5, o6, e⟩ := _law_sets_outer (r := r) h8 (fun k hk => sets_len h8 hk) (some (.d (.int r))) S r 0 (List.range r) none none none none (List.length_range) (by omega)
  have hb : b__law_sets ([some (.d (.int m)), some (.d (.int r)), none, none, none, none, none]) S = .ok (.rt (.d (.list ((setsL m r).map row)))) S := by
    unfold b__law_sets
    rw [fSeq_eq, fSet_eq, init_rows, sB_ok, seqK_nx]
    show (fSeq L__law_sets_2 (fRet (eVar 2))) (l_Γ' m (some (.d (.int r))) (.d (.list ((setsL m 0).map row))) none none none none) S = _
    have e0 : iRg (rg1 (eVar 1)) (l_Γ' m (some (.d (.int r))) (.d (.list ((setsL m 0).map row))) none none none none) S = .ok ⟨(List.range r).map fun (i : Nat) => PyData.int i, fun _ => true⟩ S := by
      have := iRg_ok (f := eVar 1) (Γ := l_Γ' m (some (.d (.int r))) (.d (.list ((setsL m 0).map row))) none none none none) (S := S) (n := r) rfl (by omega)
      rw [this, rgD_nat]
    have hL : L__law_sets_2 (l_Γ' m (some (.d (.int r))) (.d (.list ((setsL m 0).map row))) none none none none) S = .ok (.nx (l_Γ' m (some (.d (.int r))) (.d (.list ((setsL m r).map row))) o3 o4 o5 o6)) S := by
      unfold L__law_sets_2
      rw [fFor_eq e0]
      show forL (fun _ => true) _ _ _ _ _ = _
      rw [e, Nat.zero_add]
    rw [fSeq_eq, hL]
    rfl
  unfold F__law_sets
  rw [runD_eq]
  show hand handF S.length (b__law_sets ([some (.d (.int m)), some (.d (.int r)), none, none, none, none, none]) S) = _
  rw [hb, hand_rt, handF_d, take_self]
theorem all_len {m : Nat} (h8 : m ≤ 8) : (allL m).length ≤ 256 := by
  rcases up8 h8 with rfl | rfl | rfl | rfl | rfl | rfl | rfl | rfl | rfl <;> decide +kernel
theorem rgD_suc (m : Nat) : rgD 0 ((m : Int) + 1) = (List.range (m + 1)).map fun (i : Nat) => PyData.int i := rgD_nat (m + 1)
theorem lc2_g {α β : Type} {ok : Store → Bool} {gf gf1 : GF} {f1 : IF} {ef : EF} {vs vs1 : List Nat} {Γ : Ev} {S : Store} (g : α → PyData) (g1 : β → PyData) (l : α → List β) (f : β → PyData) (hok : ok S = true) : ∀ (xs : List α),
    (∀ x ∈ xs, ∃ Γ1, gf (.d (g x)) (wipeE Γ vs) S = .ok Γ1 S ∧ f1 Γ1 S = .ok ⟨(l x).map g1, fun _ => true⟩ S ∧ ∀ y ∈ l x, ∃ Γ2, gf1 (.d (g1 y)) (wipeE Γ1 vs1) S = .ok Γ2 S ∧ ef Γ2 S = .ok (.d (f y)) S) →
    lc2L ok gf tYesF f1 gf1 tYesF ef vs vs1 Γ (xs.map g) S = .ok ((xs.flatMap l).map f) S
  | [], _ => by
    show lc2L ok gf tYesF f1 gf1 tYesF ef vs vs1 Γ [] S = _
    unfold lc2L
    rw [if_pos hok]; rfl
  | x :: xs, k => by
    obtain ⟨Γ1, h1, h2, h3⟩ := k x List.mem_cons_self
    have e := lc2_g (gf1 := gf1) (f1 := f1) (ef := ef) (vs1 := vs1) g g1 l f hok xs fun y m => k y (List.mem_cons_of_mem _ m)
    have e1 := lcL_g (ok := fun _ => true) (gf := gf1) (ef := ef) (vs := vs1) (Γ := Γ1) (S := S) g1 f rfl (l x) h3
    show lc2L ok gf tYesF f1 gf1 tYesF ef vs vs1 Γ (g x :: xs.map g) S = _
    unfold lc2L
    rw [if_pos hok]
    simp only [h1, h2, tYes_eq, e, e1, bind_ok]
    rw [List.flatMap_cons, List.map_append]
theorem people_eq {m : Nat} (h8 : m ≤ 8) (S : Store) : F_all_people [.d (.int m)] S = .ok (.d (.list ((allL m).map row))) S := by
  have hc : C_all_people_1 [some (.d (.int m)), none, none] S = .ok (.d (.list ((allL m).map row))) S := by
    unfold C_all_people_1 eLc2
    have e0 : iRg (rg1 (eAddF finF (eVar 0) (eC (.int 1)))) [some (.d (.int m)), none, none] S = .ok ⟨(List.range (m + 1)).map fun (i : Nat) => PyData.int i, fun _ => true⟩ S := by
      have := iRg_ok (f := eAddF finF (eVar 0) (eC (.int 1))) (Γ := [some (.d (.int m)), none, none]) (S := S) (n := m + 1) (by simp -implicitDefEqProofs only [fSeq_eq, seqK_nx, seqK_rt, seqK_bk, seqK_ct, seqK_ite, eVar_0, eVar_s, bind_ok, sB_ok, eC_eq, eBin_eq, eUn_eq, iOp0_eq, iCmp_eq, tst_eq, addI, negI, fSet_eq, fRet_eq, fExpr_eq, fIf_eq, fAsg_eq, fPar_eq, fNil_eq, fBreak_eq, fCont_eq, gNm_eq, gsNil_eq, gsCons_eq, aNil_eq, aCons_eq, eCall_eq, eCallD_eq, intS_eq, absS_eq, mmS_eq, len_l, len_t, list_l, list_t, tup_l, tup_t, finF_eq, finC_eq, allD_nil, allD_cons, eTup_eq, eLst_eq, eIf_eq, runD_eq, hand_rt, handF_d, take_self, srcS_l, srcS_t, iSrc_eq, iZip_eq, zip_l, iEnm_eq, enum_l, pix0, pix1, pix2, pix3, pset1, pset2, pset3, gSub_eq, tYes_eq, eAdd_eq, eSub_eq, eMul_eq, eDiv_eq, eMod_eq, ePow_eq, eXor_eq, eNeg_eq, eIx_eq, eqI_t, eqI_f, tNot_eq, tAnd_eq, tOr_eq, tru_eq, tru_bool, tru_int, tru_list, eAnd_eq, eNot_eq, isi_eq, asD_d, List.length_cons, List.length_nil, List.map_cons, List.map_nil, List.cons_append, List.nil_append, List.append_nil, List.set_cons_succ, List.set_cons_zero, List.replicate_succ, List.replicate_zero, Option.map_some, if_true, if_false, reduceIte, Nat.reduceAdd, Nat.reduceSub, Nat.reduceLeDiff, List.length_map, Nat.reduceEqDiff, Bool.false_eq_true, Bool.not_false, Bool.not_true, ne_eq, not_true_eq_false, not_false_eq_true, decide_true, decide_false, eq_self, hand_rt, decide_eq_true_eq]; rfl) (by omega)
      rw [this, rgD_nat]
    rw [e0, bind_ok, lc2_g (fun (i : Nat) => PyData.int i) row (fun r => setsL m r) row rfl]
    · show finZ finF ((allL m).map row) S = _
      unfold finZ
      rw [List.length_map, if_pos (Nat.le_trans (all_len h8) (by decide)), finF_eq]
    · intro r hr
      have hr' := List.mem_range.mp hr
      refine ⟨_, gNm_eq _ _ _ _, ?_, fun y _ => ⟨_, gNm_eq _ _ _ _, rfl⟩⟩
      unfold I_all_people_1
      have : eCallD 2 F_sets_of (aCons (eVar 0) (aCons (eVar 1) aNil)) ((wipeE [some (.d (.int m)), none, none] [1, 2]).set 1 (some (.d (.int r)))) S = .ok (.d (.list ((setsL m r).map row))) S := by
        simp -implicitDefEqProofs only [wipeE, fSeq_eq, seqK_nx, seqK_rt, seqK_bk, seqK_ct, seqK_ite, eVar_0, eVar_s, bind_ok, sB_ok, eC_eq, eBin_eq, eUn_eq, iOp0_eq, iCmp_eq, tst_eq, addI, negI, fSet_eq, fRet_eq, fExpr_eq, fIf_eq, fAsg_eq, fPar_eq, fNil_eq, fBreak_eq, fCont_eq, gNm_eq, gsNil_eq, gsCons_eq, aNil_eq, aCons_eq, eCall_eq, eCallD_eq, intS_eq, absS_eq, mmS_eq, len_l, len_t, list_l, list_t, tup_l, tup_t, finF_eq, finC_eq, allD_nil, allD_cons, eTup_eq, eLst_eq, eIf_eq, runD_eq, hand_rt, handF_d, take_self, srcS_l, srcS_t, iSrc_eq, iZip_eq, zip_l, iEnm_eq, enum_l, pix0, pix1, pix2, pix3, pset1, pset2, pset3, gSub_eq, tYes_eq, eAdd_eq, eSub_eq, eMul_eq, eDiv_eq, eMod_eq, ePow_eq, eXor_eq, eNeg_eq, eIx_eq, eqI_t, eqI_f, tNot_eq, tAnd_eq, tOr_eq, tru_eq, tru_bool, tru_int, tru_list, eAnd_eq, eNot_eq, isi_eq, asD_d, List.length_cons, List.length_nil, List.map_cons, List.map_nil, List.cons_append, List.nil_append, List.append_nil, List.set_cons_succ, List.set_cons_zero, List.replicate_succ, List.replicate_zero, Option.map_some, if_true, if_false, reduceIte, Nat.reduceAdd, Nat.reduceSub, Nat.reduceLeDiff, List.length_map, Nat.reduceEqDiff, Bool.false_eq_true, Bool.not_false, Bool.not_true, ne_eq, not_true_eq_false, not_false_eq_true, decide_true, decide_false, eq_self, hand_rt, decide_eq_true_eq]
        exact sets_eq h8 (by omega) S
      rw [iSrc_eq, this, bind_ok, srcS_l]
  unfold F_all_people
  rw [runD_eq]
  show hand handF S.length (fRet C_all_people_1 [some (.d (.int m)), none, none] S) = _
  rw [fRet_eq, hc, sB_ok, hand_rt, handF_d, take_self]
end G85
/-! S6: all sets, both ways. -/
namespace G85
open PySem L2 DL StrA
abbrev a_Γ (m : Nat) (acc : List (List Int)) (o : Option SV) : Ev := [some (.d (.int m)), some (.d (.list (acc.map row))), o]
theorem all_turn {m r : Nat} (h8 : m ≤ 8) (hr : r ≤ m) (acc : List (List Int)) (S : Store) (hl : acc.length + (setsL m r).length ≤ 1000) : B__law_all_sets_1 (a_Γ m acc (some (.d (.int r)))) S = .ok (.nx (a_Γ m (acc ++ setsL m r) (some (.d (.int r))))) S := by
  have e1 : eCallD 2 F__law_sets (aCons (eVar 0) (aCons (eVar 2) aNil)) (a_Γ m acc (some (.d (.int r)))) S = .ok (.d (.list ((setsL m r).map row))) S := by
    have e0 := lsets_eq h8 hr S
    have e : aCons (eVar 0) (aCons (eVar 2) aNil) (a_Γ m acc (some (.d (.int r)))) S = .ok [.d (.int m), .d (.int r)] S := rfl
    rw [eCallD_eq, e, bind_ok]
    exact (if_pos rfl).trans e0
  have e2 : eAddF finF (eVar 1) (eCallD 2 F__law_sets (aCons (eVar 0) (aCons (eVar 2) aNil))) (a_Γ m acc (some (.d (.int r)))) S = .ok (.d (.list ((acc ++ setsL m r).map row))) S := by
    rw [eAdd_eq, eVar_s, eVar_0, bind_ok, e1, bind_ok, add_ll _ _ _ (by simp only [List.length_map]; omega), ← List.map_append]
  unfold B__law_all_sets_1
  rw [fSet_eq, e2, sB_ok]
  rfl
theorem all_loop (m : Nat) (l : Nat → List (List Int)) (b : SF) (S : Store) (rs : List Nat) (hb : ∀ r ∈ rs, ∀ acc : List (List Int), acc.length + (l r).length ≤ 1000 → b (a_Γ m acc (some (.d (.int r)))) S = .ok (.nx (a_Γ m (acc ++ l r) (some (.d (.int r))))) S) : ∀ (acc : List (List Int)) (o : Option SV), acc.length + (rs.flatMap l).length ≤ 1000 →
    ∃ o', forL (fun _ => true) (gNm 2) b (rs.map fun (i : Nat) => PyData.int i) (a_Γ m acc o) S = .ok (.nx (a_Γ m (acc ++ rs.flatMap l) o')) S := by
  induction rs with
  | nil =>
    intro acc o _
    exact ⟨o, by simp only [List.map_nil, List.flatMap_nil, List.append_nil]; rfl⟩
  | cons r rs ih =>
    intro acc o hl
    simp only [List.flatMap_cons, List.length_append] at hl
    obtain ⟨o', e⟩ := ih (fun x hx => hb x (List.mem_cons_of_mem _ hx)) (acc ++ l r) (some (.d (.int r))) (by simp only [List.length_append]; omega)
    refine ⟨o', ?_⟩
    have hb := hb r List.mem_cons_self acc (by omega)
    have hg : gNm 2 (.d (.int r)) (a_Γ m acc o) S = .ok (a_Γ m acc (some (.d (.int r)))) S := rfl
    simp only [List.map_cons, List.flatMap_cons, ← List.append_assoc, ← e]
    rw [forL]
    simp only [hg, hb, if_true]
theorem all_sets_eq {m : Nat} (h8 : m ≤ 8) (S : Store) : F__law_all_sets [.d (.int m)] S = .ok (.d (.list ((allL m).map row))) S := by
  obtain ⟨o', e⟩ := all_loop m (fun r => setsL m r) B__law_all_sets_1 S (List.range (m + 1)) (fun r hr acc hl => all_turn h8 (by have := List.mem_range.mp hr; omega) acc S hl) [] none (by have := all_len h8; unfold allL at this; simp only [List.length_nil]; omega)
  have e0 : iRg (rg1 (eAddF finF (eVar 0) (eC (.int 1)))) [some (.d (.int m)), some (.d (.list [])), none] S = .ok ⟨(List.range (m + 1)).map fun (i : Nat) => PyData.int i, fun _ => true⟩ S := by
    have := iRg_ok (f := eAddF finF (eVar 0) (eC (.int 1))) (Γ := [some (.d (.int m)), some (.d (.list [])), none]) (S := S) (n := m + 1) (by simp -implicitDefEqProofs only [fSeq_eq, seqK_nx, seqK_rt, seqK_bk, seqK_ct, seqK_ite, eVar_0, eVar_s, bind_ok, sB_ok, eC_eq, eBin_eq, eUn_eq, iOp0_eq, iCmp_eq, tst_eq, addI, negI, fSet_eq, fRet_eq, fExpr_eq, fIf_eq, fAsg_eq, fPar_eq, fNil_eq, fBreak_eq, fCont_eq, gNm_eq, gsNil_eq, gsCons_eq, aNil_eq, aCons_eq, eCall_eq, eCallD_eq, intS_eq, absS_eq, mmS_eq, len_l, len_t, list_l, list_t, tup_l, tup_t, finF_eq, finC_eq, allD_nil, allD_cons, eTup_eq, eLst_eq, eIf_eq, runD_eq, hand_rt, handF_d, take_self, srcS_l, srcS_t, iSrc_eq, iZip_eq, zip_l, iEnm_eq, enum_l, pix0, pix1, pix2, pix3, pset1, pset2, pset3, gSub_eq, tYes_eq, eAdd_eq, eSub_eq, eMul_eq, eDiv_eq, eMod_eq, ePow_eq, eXor_eq, eNeg_eq, eIx_eq, eqI_t, eqI_f, tNot_eq, tAnd_eq, tOr_eq, tru_eq, tru_bool, tru_int, tru_list, eAnd_eq, eNot_eq, isi_eq, asD_d, List.length_cons, List.length_nil, List.map_cons, List.map_nil, List.cons_append, List.nil_append, List.append_nil, List.set_cons_succ, List.set_cons_zero, List.replicate_succ, List.replicate_zero, Option.map_some, if_true, if_false, reduceIte, Nat.reduceAdd, Nat.reduceSub, Nat.reduceLeDiff, List.length_map, Nat.reduceEqDiff, Bool.false_eq_true, Bool.not_false, Bool.not_true, ne_eq, not_true_eq_false, not_false_eq_true, decide_true, decide_false, eq_self, hand_rt, decide_eq_true_eq]; rfl) (by omega)
    rw [this, rgD_nat]
  have hL : L__law_all_sets_1 [some (.d (.int m)), some (.d (.list [])), none] S = .ok (.nx [some (.d (.int m)), some (.d (.list ((allL m).map row))), o']) S := by
    unfold L__law_all_sets_1
    rw [fFor_eq e0]
    exact e
  unfold F__law_all_sets
  rw [runD_eq]
  have hb : b__law_all_sets [some (.d (.int m)), none, none] S = .ok (.rt (.d (.list ((allL m).map row)))) S := by
    unfold b__law_all_sets
    rw [fSeq_eq, fSet_eq, init_none, sB_ok, seqK_nx]
    show (fSeq L__law_all_sets_1 (fRet (eVar 1))) [some (.d (.int m)), some (.d (.list [])), none] S = _
    rw [fSeq_eq, hL]
    rfl
  show hand handF S.length (b__law_all_sets [some (.d (.int m)), none, none] S) = _
  rw [hb, hand_rt, handF_d, take_self]
end G85
/-! S7: the least meeting sets, by the program and by the law. -/
namespace G85
open PySem L2 DL StrA
theorem at_end (S : Store) (x : MO) : (S ++ [x])[S.length]? = some x := by
  rw [List.getElem?_append_right (Nat.le_refl _), Nat.sub_self]; rfl
theorem set_end (S : Store) (x y : MO) : (S ++ [x]).set S.length y = S ++ [y] := by
  rw [List.set_append_right _ _ (Nat.le_refl _), Nat.sub_self]; rfl
theorem take_end (S : Store) (x : MO) : (S ++ [x]).take S.length = S := by
  rw [List.take_append_of_le_length (Nat.le_refl _), List.take_length]
abbrev cel (S : Store) (F : List (List Int)) : Store := S ++ [.lst (F.map row)]
theorem cell_cel (S : Store) (F : List (List Int)) : cellL (.cell S.length) (cel S F) = some (S.length, F.map row) := by
  unfold cellL
  simp only [at_end]
theorem isL_cel (S : Store) (F : List (List Int)) : isL (.cell S.length) (cel S F) = true := by
  unfold isL
  simp only [at_end, asD]
theorem meth_app {fo : EF} {af : AF} {Γ : Ev} (S : Store) (F : List (List Int)) (s : List Int) (ho : fo Γ (cel S F) = .ok (.cell S.length) (cel S F)) (ha : af Γ (cel S F) = .ok [.d (row s)] (cel S F)) (h : F.length ≤ 1000) : eMeth appendS fo af Γ (cel S F) = .ok (.d .none) (cel S (F ++ [s])) := by
  have e := cell_cel S F
  have hl : (F.map row).length < 16777216 := by simp only [List.length_map]; omega
  unfold eMeth
  rw [ho, bind_ok, isL_cel, if_pos rfl, ha, bind_ok]
  unfold appendS
  simp only [e]
  rw [if_pos hl, set_end]
  show _ = Out.ok _ (S ++ [.lst ((F ++ [s]).map row)])
  rw [List.map_append]
  rfl
theorem src_cel (S : Store) (F : List (List Int)) : ∃ ok, srcS (.cell S.length) (cel S F) = .ok ⟨F.map row, ok⟩ (cel S F) ∧ ok (cel S F) = true := by
  obtain ⟨ok, h1, h2⟩ := srcS_c (at_end S (.lst (F.map row)))
  refine ⟨ok, h1, h2 _ (at_end S _) (eqPs_refl fun x hx => ?_)⟩
  obtain ⟨f, _, rfl⟩ := List.mem_map.mp hx
  refine eqP_tuple fun y hy => ?_
  obtain ⟨i, _, rfl⟩ := List.mem_map.mp hy
  exact eqP_int i
theorem comp_cel {gf : GF} {ef : EF} {vs : List Nat} {Γ : Ev} (S : Store) (F : List (List Int)) (v : Nat) (f : List Int → PyData) (hv : eVar v Γ (cel S F) = .ok (.cell S.length) (cel S F))
    (k : ∀ x ∈ F, ∃ Γ1, gf (.d (row x)) (wipeE Γ vs) (cel S F) = .ok Γ1 (cel S F) ∧ ef Γ1 (cel S F) = .ok (.d (f x)) (cel S F)) : eLc finF (iSrc (eVar v)) gf tYesF ef vs Γ (cel S F) = .ok (.d (.list (F.map f))) (cel S F) := by
  obtain ⟨ok, h1, h2⟩ := src_cel S F
  have e0 : iSrc (eVar v) Γ (cel S F) = .ok ⟨F.map row, ok⟩ (cel S F) := by rw [iSrc_eq, hv, bind_ok, h1]
  rw [eLc_eq e0, lcL_g row f h2 F k, bind_ok, finF_eq]
/-- any([e in some for e in other]) -/
theorem any_in {fo : EF} {gf : GF} {ef : EF} {vs : List Nat} {Γ : Ev} {S : Store} (xs ys : List Int) (h1 : fo Γ S = .ok (.d (row xs)) S)
    (k : ∀ e : Int, ∃ Γ1, gf (.d (.int e)) (wipeE Γ vs) S = .ok Γ1 S ∧ ef Γ1 S = .ok (.d (.bool (decide (e ∈ ys)))) S) (a : Bool) :
    eCall (allS a) (aCons (eLc finF (iSrc fo) gf tYesF ef vs) aNil) Γ S = .ok (.d (.bool (if a then xs.any fun e => decide (e ∈ ys) else win xs ys))) S := by
  have hc : eLc finF (iSrc fo) gf tYesF ef vs Γ S = .ok (.d (.list (xs.map fun e => .bool (decide (e ∈ ys))))) S := comp_g false .int (fun e => .bool (decide (e ∈ ys))) xs h1 fun e _ => k e
  rw [eCall_eq, aCons_eq, hc, bind_ok, aNil_eq, bind_ok, bind_ok]
  cases a
  · exact bools_all (fun e => decide (e ∈ ys)) xs S
  · exact bools_any (fun e => decide (e ∈ ys)) xs S
theorem all_of {C : EF} {Γ : Ev} {S : Store} {α : Type} (xs : List α) (f : α → Bool) (h : C Γ S = .ok (.d (.list (xs.map fun x => .bool (f x)))) S) (a : Bool) : eCall (allS a) (aCons C aNil) Γ S = .ok (.d (.bool (if a then xs.any f else xs.all f))) S := by
  rw [eCall_eq, aCons_eq, h, bind_ok, aNil_eq, bind_ok, bind_ok]
  cases a
  · exact bools_all f xs S
  · exact bools_any f xs S
abbrev dΓ (m : Nat) (F : List (List Int)) (S : Store) (o3 o4 : Option SV) : Ev := [some (.d (.int m)), some (.d (.list (F.map row))), some (.cell S.length), o3, o4, none, none, none]
def step1 (P : List Int → Bool) (found : List (List Int)) (s : List Int) : List (List Int) := if P s && !found.any (fun t => win t s) then found ++ [s] else found
theorem scan_cons (P : List Int → Bool) (s : List Int) (L found : List (List Int)) : minScan P (s :: L) found = minScan P L (step1 P found s) := by
  unfold step1
  rw [minScan]
  split <;> rfl
theorem dual_turn {m : Nat} (F found : List (List Int)) (S : Store) (s : List Int) (o4 : Option SV) (hl : found.length ≤ 1000) :
    ∃ o4', B_dual_of_1 (dΓ m F S (some (.d (row s))) o4) (cel S found) = .ok (.nx (dΓ m F S (some (.d (row s))) o4')) (cel S (step1 (meets F) found s)) := by
  have h1 : ∀ o4, eCall (allS false) (aCons C_dual_of_2 aNil) (dΓ m F S (some (.d (row s))) o4) (cel S found) = .ok (.d (.bool (meets F s))) (cel S found) := fun o4 => by
    refine all_of F (fun f => f.any fun e => decide (e ∈ s)) ?_ false
    unfold C_dual_of_2
    refine comp_g true row _ F rfl fun f _ => ⟨_, gNm_eq _ _ _ _, ?_⟩
    unfold E_dual_of_2 C_dual_of_1
    refine any_in f s rfl (fun e => ⟨_, gNm_eq _ _ _ _, ?_⟩) true
    exact in_sqF false s e _
  have h2 : ∀ o4, eCall (allS true) (aCons C_dual_of_3 aNil) (dΓ m F S (some (.d (row s))) o4) (cel S found) = .ok (.d (.bool (found.any fun t => win t s))) (cel S found) := fun o4 => by
    refine all_of found (fun t => win t s) ?_ true
    unfold C_dual_of_3
    refine comp_cel S found 2 _ rfl fun t _ => ⟨_, gNm_eq _ _ _ _, ?_⟩
    unfold E_dual_of_3
    have e : aCons (eVar 7) (aCons (eVar 3) aNil) ((wipeE (dΓ m F S (some (.d (row s))) o4) [7]).set 7 (some (.d (row t)))) (cel S found) = .ok [.d (row t), .d (row s)] (cel S found) := rfl
    rw [eCallD_eq, e, bind_ok]
    exact (if_pos rfl).trans (within_eq false false t s _)
  refine ⟨some (.d (.bool (meets F s))), ?_⟩
  unfold B_dual_of_1
  rw [fSeq_eq, fSet_eq, h1, sB_ok, seqK_nx]
  show fIf _ _ _ (dΓ m F S (some (.d (row s))) (some (.d (.bool (meets F s))))) (cel S found) = _
  rw [fIf_eq, tAnd_eq, tru_eq, eVar_at (x := .d (.bool (meets F s))) rfl, bind_ok, tru_bool]
  unfold step1
  cases hm : meets F s with
  | false => rfl
  | true =>
    show sB ((tNotF (tru (eCall (allS true) (aCons C_dual_of_3 aNil)))) (dΓ m F S (some (.d (row s))) (some (.d (.bool true)))) (cel S found)) _ _ = _
    rw [tNot_eq, tru_eq, h2, bind_ok, tru_bool]
    cases hw : found.any fun t => win t s with
    | true => rfl
    | false =>
      show fExpr (eMeth appendS (eVar 2) (aCons (eVar 3) aNil)) (dΓ m F S (some (.d (row s))) (some (.d (.bool true)))) (cel S found) = _
      have e := meth_app (fo := eVar 2) (af := aCons (eVar 3) aNil) (Γ := dΓ m F S (some (.d (row s))) (some (.d (.bool true)))) S found s rfl rfl hl
      rw [fExpr_eq, e, sB_ok]
      rfl
/-- the law's own -/
theorem ldual_turn {m : Nat} (F found : List (List Int)) (S : Store) (s : List Int) (o4 : Option SV) (hl : found.length ≤ 1000) :
    ∃ o4', B__law_dual_sets_1 (dΓ m F S (some (.d (row s))) o4) (cel S found) = .ok (.nx (dΓ m F S (some (.d (row s))) o4')) (cel S (step1 (meets F) found s)) := by
  have h1 : ∀ o4, eCall (allS false) (aCons C__law_dual_sets_2 aNil) (dΓ m F S (some (.d (row s))) o4) (cel S found) = .ok (.d (.bool (meets F s))) (cel S found) := fun o4 => by
    refine all_of F (fun f => f.any fun e => decide (e ∈ s)) ?_ false
    unfold C__law_dual_sets_2
    refine comp_g true row _ F rfl fun f _ => ⟨_, gNm_eq _ _ _ _, ?_⟩
    unfold E__law_dual_sets_2 C__law_dual_sets_1
    refine any_in f s rfl (fun e => ⟨_, gNm_eq _ _ _ _, ?_⟩) true
    exact in_sqF false s e _
  have h2 : ∀ o4, eCall (allS true) (aCons C__law_dual_sets_4 aNil) (dΓ m F S (some (.d (row s))) o4) (cel S found) = .ok (.d (.bool (found.any fun t => win t s))) (cel S found) := fun o4 => by
    refine all_of found (fun t => win t s) ?_ true
    unfold C__law_dual_sets_4
    refine comp_cel S found 2 _ rfl fun t _ => ⟨_, gNm_eq _ _ _ _, ?_⟩
    unfold E__law_dual_sets_4 C__law_dual_sets_3
    refine any_in t s rfl (fun e => ⟨_, gNm_eq _ _ _ _, ?_⟩) false
    exact in_sqF false s e _
  refine ⟨some (.d (.bool (meets F s))), ?_⟩
  unfold B__law_dual_sets_1
  rw [fSeq_eq, fSet_eq, h1, sB_ok, seqK_nx]
  show fIf _ _ _ (dΓ m F S (some (.d (row s))) (some (.d (.bool (meets F s))))) (cel S found) = _
  rw [fIf_eq, tAnd_eq, tru_eq, eVar_at (x := .d (.bool (meets F s))) rfl, bind_ok, tru_bool]
  unfold step1
  cases hm : meets F s with
  | false => rfl
  | true =>
    show sB ((tNotF (tru (eCall (allS true) (aCons C__law_dual_sets_4 aNil)))) (dΓ m F S (some (.d (row s))) (some (.d (.bool true)))) (cel S found)) _ _ = _
    rw [tNot_eq, tru_eq, h2, bind_ok, tru_bool]
    cases hw : found.any fun t => win t s with
    | true => rfl
    | false =>
      show fExpr (eMeth appendS (eVar 2) (aCons (eVar 3) aNil)) (dΓ m F S (some (.d (row s))) (some (.d (.bool true)))) (cel S found) = _
      have e := meth_app (fo := eVar 2) (af := aCons (eVar 3) aNil) (Γ := dΓ m F S (some (.d (row s))) (some (.d (.bool true)))) S found s rfl rfl hl
      rw [fExpr_eq, e, sB_ok]
      rfl
theorem step1_len (P : List Int → Bool) (found : List (List Int)) (s : List Int) : (step1 P found s).length ≤ found.length + 1 := by
  unfold step1
  split
  · simp
  · omega
theorem dual_loop {m : Nat} (F : List (List Int)) (S : Store) (b : SF) (hb : ∀ (found : List (List Int)) (s : List Int) (o4 : Option SV), found.length ≤ 1000 → ∃ o4', b (dΓ m F S (some (.d (row s))) o4) (cel S found) = .ok (.nx (dΓ m F S (some (.d (row s))) o4')) (cel S (step1 (meets F) found s))) (L : List (List Int)) :
    ∀ (found : List (List Int)) (o3 o4 : Option SV), found.length + L.length ≤ 1000 → ∃ o3' o4', forL (fun _ => true) (gNm 3) b (L.map row) (dΓ m F S o3 o4) (cel S found) = .ok (.nx (dΓ m F S o3' o4')) (cel S (minScan (meets F) L found)) := by
  induction L with
  | nil => exact fun found o3 o4 _ => ⟨o3, o4, rfl⟩
  | cons s L ih =>
    intro found o3 o4 hl
    simp only [List.length_cons] at hl
    obtain ⟨p4, e⟩ := hb found s o4 (by omega)
    have := step1_len (meets F) found s
    obtain ⟨q3, q4, e2⟩ := ih (step1 (meets F) found s) (some (.d (row s))) p4 (by omega)
    refine ⟨q3, q4, ?_⟩
    have hg : gNm 3 (.d (row s)) (dΓ m F S o3 o4) (cel S found) = .ok (dΓ m F S (some (.d (row s))) o4) (cel S found) := rfl
    rw [scan_cons, ← e2]
    simp only [List.map_cons]
    rw [forL]
    simp only [hg, e, if_true]
theorem sort_cel (S : Store) {F : List (List Int)} (h : ∀ f ∈ F, f ≠ []) : sortS finF [.cell S.length] (cel S F) = .ok (.d (.list (srtD (F.map row)))) (cel S F) := by
  have e := at_end S (.lst (F.map row))
  have hc := sortC_rows h
  unfold sortS
  simp only [asD, e]
  rw [if_pos hc, finF_eq]
abbrev dΓ0 (m : Nat) (F : List (List Int)) : Ev := [some (.d (.int m)), some (.d (.list (F.map row))), none, none, none, none, none, none]
theorem dual_end {m : Nat} (h8 : m ≤ 8) {F : List (List Int)} (hF : F ≠ []) (S : Store) (it : IF) (b : SF) (Lp : SF) (hL : Lp = fFor it (gNm 3) b)
    (hit : it (dΓ m F S none none) (cel S []) = .ok ⟨(allL m).map row, fun _ => true⟩ (cel S []))
    (hb : ∀ (found : List (List Int)) (s : List Int) (o4 : Option SV), found.length ≤ 1000 → ∃ o4', b (dΓ m F S (some (.d (row s))) o4) (cel S found) = .ok (.nx (dΓ m F S (some (.d (row s))) o4')) (cel S (step1 (meets F) found s))) :
    hand handF S.length (fSeq (fSet 2 (eLst finC aNil)) (fSeq Lp (fRet (eCall (sortS finF) (aCons (eVar 2) aNil)))) (dΓ0 m F) S) = .ok (.d (.list (srtD ((dual m F).map row)))) S := by
  obtain ⟨o3, o4, e⟩ := dual_loop F S b hb (allL m) [] none none (by have := all_len h8; simp only [List.length_nil]; omega)
  have e0 : eLst finC aNil (dΓ0 m F) S = .ok (.cell S.length) (cel S []) := by
    rw [eLst_eq, aNil_eq, bind_ok]
    rfl
  have e1 : Lp (dΓ m F S none none) (cel S []) = .ok (.nx (dΓ m F S o3 o4)) (cel S (dual m F)) := by
    rw [hL, fFor_eq hit]
    exact e
  have e2 : aCons (eVar 2) aNil (dΓ m F S o3 o4) (cel S (dual m F)) = .ok [.cell S.length] (cel S (dual m F)) := rfl
  rw [fSeq_eq, fSet_eq, e0, sB_ok, seqK_nx]
  show hand handF S.length ((fSeq Lp (fRet (eCall (sortS finF) (aCons (eVar 2) aNil)))) (dΓ m F S none none) (cel S [])) = _
  rw [fSeq_eq, e1, seqK_nx, fRet_eq, eCall_eq, e2, bind_ok, sort_cel S (dual_mem_ne hF), sB_ok, hand_rt, handF_d, take_end]
theorem dual_of_eq {m : Nat} (h8 : m ≤ 8) {F : List (List Int)} (hF : F ≠ []) (S : Store) : F_dual_of [.d (.int m), .d (.list (F.map row))] S = .ok (.d (.list (srtD ((dual m F).map row)))) S := by
  unfold F_dual_of
  rw [runD_eq]
  refine dual_end h8 hF S (iSrc (eCallD 1 F_all_people (aCons (eVar 0) aNil))) B_dual_of_1 L_dual_of_1 rfl ?_ fun found s o4 hl => dual_turn F found S s o4 hl
  have e : eCallD 1 F_all_people (aCons (eVar 0) aNil) (dΓ m F S none none) (cel S []) = .ok (.d (.list ((allL m).map row))) (cel S []) := by
    have e : aCons (eVar 0) aNil (dΓ m F S none none) (cel S []) = .ok [.d (.int m)] (cel S []) := rfl
    rw [eCallD_eq, e, bind_ok]
    exact (if_pos rfl).trans (people_eq h8 _)
  rw [iSrc_eq, e, bind_ok, srcS_l]
theorem ldual_eq {m : Nat} (h8 : m ≤ 8) {F : List (List Int)} (hF : F ≠ []) (S : Store) : F__law_dual_sets [.d (.int m), .d (.list (F.map row))] S = .ok (.d (.list (srtD ((dual m F).map row)))) S := by
  unfold F__law_dual_sets
  rw [runD_eq]
  refine dual_end h8 hF S (iSrc (eCallD 1 F__law_all_sets (aCons (eVar 0) aNil))) B__law_dual_sets_1 L__law_dual_sets_1 rfl ?_ fun found s o4 hl => ldual_turn F found S s o4 hl
  have e : eCallD 1 F__law_all_sets (aCons (eVar 0) aNil) (dΓ m F S none none) (cel S []) = .ok (.d (.list ((allL m).map row))) (cel S []) := by
    have e : aCons (eVar 0) aNil (dΓ m F S none none) (cel S []) = .ok [.d (.int m)] (cel S []) := rfl
    rw [eCallD_eq, e, bind_ok]
    exact (if_pos rfl).trans (all_sets_eq h8 _)
  rw [iSrc_eq, e, bind_ok, srcS_l]
end G85
/-! S8: what rests on told_sets. -/
namespace G85
open PySem L2 DL StrA
abbrev rowsL (F : List (List Int)) : PyData := .list (F.map row)
theorem knows_eq (b : Bool) (F : List (List Int)) (xs : List Int) (S : Store) : F_knows [.d (rowsL F), .d (sqI b xs)] S = .ok (.d (.bool (knows F xs))) S := by
  have h : eCall (allS true) (aCons C_knows_1 aNil) [some (.d (rowsL F)), some (.d (sqI b xs)), none] S = .ok (.d (.bool (knows F xs))) S := by
    refine all_of F (fun f => win f xs) ?_ true
    unfold C_knows_1
    refine comp_g true row _ F rfl fun f _ => ⟨_, gNm_eq _ _ _ _, ?_⟩
    unfold E_knows_1
    have e : aCons (eVar 2) (aCons (eVar 1) aNil) ((wipeE [some (.d (rowsL F)), some (.d (sqI b xs)), none] [2]).set 2 (some (.d (row f)))) S = .ok [.d (row f), .d (sqI b xs)] S := rfl
    rw [eCallD_eq, e, bind_ok]
    exact (if_pos rfl).trans (within_eq false b f xs S)
  unfold F_knows b_knows
  rw [runD_eq]
  show hand handF S.length (fRet _ [some (.d (rowsL F)), some (.d (sqI b xs)), none] S) = _
  rw [fRet_eq, h, sB_ok, hand_rt, handF_d, take_self]
theorem lknows_eq (b : Bool) (F : List (List Int)) (xs : List Int) (S : Store) : F__law_knows [.d (rowsL F), .d (sqI b xs)] S = .ok (.d (.bool (knows F xs))) S := by
  have h : eCall (allS true) (aCons C__law_knows_2 aNil) [some (.d (rowsL F)), some (.d (sqI b xs)), none, none] S = .ok (.d (.bool (knows F xs))) S := by
    refine all_of F (fun f => win f xs) ?_ true
    unfold C__law_knows_2
    refine comp_g true row _ F rfl fun f _ => ⟨_, gNm_eq _ _ _ _, ?_⟩
    unfold E__law_knows_2 C__law_knows_1
    refine any_in f xs rfl (fun e => ⟨_, gNm_eq _ _ _ _, ?_⟩) false
    exact in_sqF b xs e _
  unfold F__law_knows b__law_knows
  rw [runD_eq]
  show hand handF S.length (fRet _ [some (.d (rowsL F)), some (.d (sqI b xs)), none, none] S) = _
  rw [fRet_eq, h, sB_ok, hand_rt, handF_d, take_self]
def joined (m : Nat) (F : List (List Int)) : Bool := (List.range m).all fun e => F.any fun f => decide ((e : Int) ∈ f)
theorem joined_eq {m : Nat} (h8 : m ≤ 8) (F : List (List Int)) (S : Store) : F_is_joined_told [.d (.int m), .d (rowsL F)] S = .ok (.d (.bool (joined m F))) S := by
  have h : eCall (allS false) (aCons C_is_joined_told_2 aNil) [some (.d (.int m)), some (.d (rowsL F)), none, none] S = .ok (.d (.bool (joined m F))) S := by
    refine all_of (List.range m) (fun e => F.any fun f => decide ((e : Int) ∈ f)) ?_ false
    unfold C_is_joined_told_2
    have e0 := iRg_ok (f := eVar 0) (Γ := [some (.d (.int m)), some (.d (rowsL F)), none, none]) (S := S) (n := m) rfl (by omega)
    rw [rgD_nat] at e0
    refine comp_s (fun (i : Nat) => PyData.int i) _ _ e0 fun e _ => ⟨_, gNm_eq _ _ _ _, ?_⟩
    unfold E_is_joined_told_2
    refine all_of F (fun f => decide ((e : Int) ∈ f)) ?_ true
    unfold C_is_joined_told_1
    refine comp_g true row _ F rfl fun f _ => ⟨_, gNm_eq _ _ _ _, ?_⟩
    exact in_sqF false f e _
  unfold F_is_joined_told b_is_joined_told
  rw [runD_eq]
  show hand handF S.length (fRet _ [some (.d (.int m)), some (.d (rowsL F)), none, none] S) = _
  rw [fRet_eq, h, sB_ok, hand_rt, handF_d, take_self]
theorem ljoined_eq {m : Nat} (h8 : m ≤ 8) (F : List (List Int)) (S : Store) : F__law_is_joined [.d (.int m), .d (rowsL F)] S = .ok (.d (.bool (joined m F))) S := by
  have h : eCall (allS false) (aCons C__law_is_joined_2 aNil) [some (.d (.int m)), some (.d (rowsL F)), none, none] S = .ok (.d (.bool (joined m F))) S := by
    refine all_of (List.range m) (fun e => F.any fun f => decide ((e : Int) ∈ f)) ?_ false
    unfold C__law_is_joined_2
    have e0 := iRg_ok (f := eVar 0) (Γ := [some (.d (.int m)), some (.d (rowsL F)), none, none]) (S := S) (n := m) rfl (by omega)
    rw [rgD_nat] at e0
    refine comp_s (fun (i : Nat) => PyData.int i) _ _ e0 fun e _ => ⟨_, gNm_eq _ _ _ _, ?_⟩
    unfold E__law_is_joined_2
    refine all_of F (fun f => decide ((e : Int) ∈ f)) ?_ true
    unfold C__law_is_joined_1
    refine comp_g true row _ F rfl fun f _ => ⟨_, gNm_eq _ _ _ _, ?_⟩
    exact in_sqF false f e _
  unfold F__law_is_joined b__law_is_joined
  rw [runD_eq]
  show hand handF S.length (fRet _ [some (.d (.int m)), some (.d (rowsL F)), none, none] S) = _
  rw [fRet_eq, h, sB_ok, hand_rt, handF_d, take_self]
section
variable {m : Nat} {x : PyData} {F : List (List Int)} {S : Store} (ht : F_told_sets [.d (.int m), .d x] S = .ok (.d (rowsL F)) S)
include ht
theorem call_told {Γ : Ev} (h : aCons (eVar 0) (aCons (eVar 1) aNil) Γ S = .ok [.d (.int m), .d x] S) : eCallD 2 F_told_sets (aCons (eVar 0) (aCons (eVar 1) aNil)) Γ S = .ok (.d (rowsL F)) S := by
  rw [eCallD_eq, h, bind_ok]
  exact (if_pos rfl).trans ht
theorem least_eq : F_least_sets [.d (.int m), .d x] S = .ok (.d (.tuple (F.map row))) S := by
  have e := call_told ht (Γ := [some (.d (.int m)), some (.d x)]) rfl
  unfold F_least_sets b_least_sets
  rw [runD_eq]
  show hand handF S.length (fRet _ [some (.d (.int m)), some (.d x)] S) = _
  rw [fRet_eq, eCall_eq, aCons_eq, e, bind_ok, aNil_eq, bind_ok, bind_ok, tup_l, sB_ok, hand_rt, handF_d, take_self]
theorem duals_eq (h8 : m ≤ 8) (hF : F ≠ []) : F_dual_sets [.d (.int m), .d x] S = .ok (.d (.tuple (srtD ((dual m F).map row)))) S := by
  have e := call_told ht (Γ := [some (.d (.int m)), some (.d x)]) rfl
  have e2 : eCallD 2 F_dual_of (aCons (eVar 0) (aCons (eCallD 2 F_told_sets (aCons (eVar 0) (aCons (eVar 1) aNil))) aNil)) [some (.d (.int m)), some (.d x)] S = .ok (.d (.list (srtD ((dual m F).map row)))) S := by
    rw [eCallD_eq, aCons_eq, eVar_0, bind_ok, aCons_eq, e, bind_ok, aNil_eq, bind_ok, bind_ok, bind_ok]
    exact (if_pos rfl).trans (dual_of_eq h8 hF S)
  unfold F_dual_sets b_dual_sets
  rw [runD_eq]
  show hand handF S.length (fRet _ [some (.d (.int m)), some (.d x)] S) = _
  rw [fRet_eq, eCall_eq, aCons_eq, e2, bind_ok, aNil_eq, bind_ok, bind_ok, tup_l, sB_ok, hand_rt, handF_d, take_self]
theorem isj_eq (h8 : m ≤ 8) : F_is_joined [.d (.int m), .d x] S = .ok (.d (.bool (joined m F))) S := by
  have e := call_told ht (Γ := [some (.d (.int m)), some (.d x)]) rfl
  have e2 : eCallD 2 F_is_joined_told (aCons (eVar 0) (aCons (eCallD 2 F_told_sets (aCons (eVar 0) (aCons (eVar 1) aNil))) aNil)) [some (.d (.int m)), some (.d x)] S = .ok (.d (.bool (joined m F))) S := by
    rw [eCallD_eq, aCons_eq, eVar_0, bind_ok, aCons_eq, e, bind_ok, aNil_eq, bind_ok, bind_ok, bind_ok]
    exact (if_pos rfl).trans (joined_eq h8 F S)
  unfold F_is_joined b_is_joined
  rw [runD_eq]
  show hand handF S.length (fRet _ [some (.d (.int m)), some (.d x)] S) = _
  rw [fRet_eq, e2, sB_ok, hand_rt, handF_d, take_self]
theorem may_pre (p : PyData) (k : Bool) (hp : F_are_people [.d p, .d (.int m)] S = .ok (.d (.bool k)) S) : b_may_know [some (.d (.int m)), some (.d x), some (.d p), none] S =
    seqK (fRet (eCallD 2 F_knows (aCons (eVar 3) (aCons (eVar 2) aNil)))) (if k then .ok (.nx [some (.d (.int m)), some (.d x), some (.d p), some (.d (rowsL F))]) S else .ok (.xc ⟨"BadPeople", []⟩ [some (.d (.int m)), some (.d x), some (.d p), some (.d (rowsL F))]) S) := by
  have e := call_told ht (Γ := [some (.d (.int m)), some (.d x), some (.d p), none]) rfl
  have e2 : eCallD 2 F_are_people (aCons (eVar 2) (aCons (eVar 0) aNil)) [some (.d (.int m)), some (.d x), some (.d p), some (.d (rowsL F))] S = .ok (.d (.bool k)) S := by
    have e : aCons (eVar 2) (aCons (eVar 0) aNil) [some (.d (.int m)), some (.d x), some (.d p), some (.d (rowsL F))] S = .ok [.d p, .d (.int m)] S := rfl
    rw [eCallD_eq, e, bind_ok]
    exact (if_pos rfl).trans hp
  unfold b_may_know
  rw [fSeq_eq, fSet_eq, e, sB_ok, seqK_nx]
  show (fSeq _ _) [some (.d (.int m)), some (.d x), some (.d p), some (.d (rowsL F))] S = _
  rw [fSeq_eq, fIf_eq, tNot_eq, tru_eq, e2, bind_ok, tru_bool]
  cases k <;> rfl
theorem may_eq {b : Bool} {xs : List Int} (hp : F_are_people [.d (sqI b xs), .d (.int m)] S = .ok (.d (.bool true)) S) : F_may_know [.d (.int m), .d x, .d (sqI b xs)] S = .ok (.d (.bool (knows F xs))) S := by
  have e := may_pre ht (sqI b xs) true hp
  have e2 : eCallD 2 F_knows (aCons (eVar 3) (aCons (eVar 2) aNil)) [some (.d (.int m)), some (.d x), some (.d (sqI b xs)), some (.d (rowsL F))] S = .ok (.d (.bool (knows F xs))) S := by
    have e : aCons (eVar 3) (aCons (eVar 2) aNil) [some (.d (.int m)), some (.d x), some (.d (sqI b xs)), some (.d (rowsL F))] S = .ok [.d (rowsL F), .d (sqI b xs)] S := rfl
    rw [eCallD_eq, e, bind_ok]
    exact (if_pos rfl).trans (knows_eq b F xs S)
  unfold F_may_know
  rw [runD_eq]
  show hand handF S.length (b_may_know [some (.d (.int m)), some (.d x), some (.d (sqI b xs)), none] S) = _
  rw [e, if_pos rfl, seqK_nx, fRet_eq, e2, sB_ok, hand_rt, handF_d, take_self]
theorem may_no {p : PyData} (hp : F_are_people [.d p, .d (.int m)] S = .ok (.d (.bool false)) S) : F_may_know [.d (.int m), .d x, .d p] S = .ex ⟨"BadPeople", []⟩ S := by
  have e := may_pre ht p false hp
  unfold F_may_know
  rw [runD_eq]
  show hand handF S.length (b_may_know [some (.d (.int m)), some (.d x), some (.d p), none] S) = _
  rw [e, if_neg Bool.false_ne_true]
  show Out.ex _ (S.take S.length) = _
  rw [take_self]
end
theorem refuses_eq {m : Nat} {x p : PyData} {S : Store} (h : F_may_know [.d (.int m), .d x, .d p] S = .ex ⟨"BadPeople", []⟩ S) : F__law_refuses [.d (.int m), .d x, .d p] S = .ok (.d (.bool true)) S := by
  have e : eCallD 3 F_may_know (aCons (eVar 0) (aCons (eVar 1) (aCons (eVar 2) aNil))) [some (.d (.int m)), some (.d x), some (.d p)] S = .ex ⟨"BadPeople", []⟩ S := by
    have e : aCons (eVar 0) (aCons (eVar 1) (aCons (eVar 2) aNil)) [some (.d (.int m)), some (.d x), some (.d p)] S = .ok [.d (.int m), .d x, .d p] S := rfl
    rw [eCallD_eq, e, bind_ok]
    exact (if_pos rfl).trans h
  have e1 : fTry ok_BadPeople (fExpr (eCallD 3 F_may_know (aCons (eVar 0) (aCons (eVar 1) (aCons (eVar 2) aNil))))) (fRet (eC (.bool true))) [some (.d (.int m)), some (.d x), some (.d p)] S = .ok (.rt (.d (.bool true))) S := by
    unfold fTry
    rw [fExpr_eq, e]
    rfl
  unfold F__law_refuses b__law_refuses
  rw [runD_eq]
  show hand handF S.length ((fSeq _ _) [some (.d (.int m)), some (.d x), some (.d p)] S) = _
  rw [fSeq_eq, e1, seqK_rt, hand_rt, handF_d, take_self]
theorem least_no {m : Nat} {x : PyData} {S : Store} (h : F_told_sets [.d (.int m), .d x] S = .ex ⟨"BadStructure", [("reason", .str "within")]⟩ S) : F__law_told [.d (.int m), .d x] S = .ok (.d (.tuple [.str "refused", .str "within", .bool true])) S := by
  have e : eCallD 2 F_told_sets (aCons (eVar 0) (aCons (eVar 1) aNil)) [some (.d (.int m)), some (.d x)] S = .ex ⟨"BadStructure", [("reason", .str "within")]⟩ S := by
    have e : aCons (eVar 0) (aCons (eVar 1) aNil) [some (.d (.int m)), some (.d x)] S = .ok [.d (.int m), .d x] S := rfl
    rw [eCallD_eq, e, bind_ok]
    exact (if_pos rfl).trans h
  have e2 : F_least_sets [.d (.int m), .d x] S = .ex ⟨"BadStructure", [("reason", .str "within")]⟩ S := by
    unfold F_least_sets b_least_sets
    rw [runD_eq]
    show hand handF S.length (fRet _ [some (.d (.int m)), some (.d x)] S) = _
    rw [fRet_eq, eCall_eq, aCons_eq, e]
    show Out.ex _ (S.take S.length) = _
    rw [take_self]
  have e3 : eCallD 2 F_least_sets (aCons (eVar 0) (aCons (eVar 1) aNil)) [some (.d (.int m)), some (.d x), none] S = .ex ⟨"BadStructure", [("reason", .str "within")]⟩ S := by
    have e : aCons (eVar 0) (aCons (eVar 1) aNil) [some (.d (.int m)), some (.d x), none] S = .ok [.d (.int m), .d x] S := rfl
    rw [eCallD_eq, e, bind_ok]
    exact (if_pos rfl).trans e2
  unfold F__law_told b__law_told
  rw [runD_eq]
  show hand handF S.length ((fSeq _ _) [some (.d (.int m)), some (.d x), none] S) = _
  rw [fSeq_eq]
  unfold fTryRet
  rw [fExpr_eq, e3]
  show Out.ok _ (S.take S.length) = _
  rw [take_self]
end G85
/-! S9: what is drawn: orders. -/
namespace G85
open PySem L2 DL StrA
theorem erase_perm : ∀ (xs : List Int) (i : Nat) (h : i < xs.length), (xs[i] :: xs.eraseIdx i).Perm xs
  | x :: xs, 0, _ => List.Perm.refl _
  | x :: xs, i + 1, h => by
    have := erase_perm xs i (by simpa using h)
    simp only [List.getElem_cons_succ, List.eraseIdx_cons_succ]
    exact (List.Perm.swap _ _ _).trans (this.cons x)
theorem map_erase : ∀ (xs : List Int) (i : Nat), (xs.map PyData.int).eraseIdx i = (xs.eraseIdx i).map .int
  | [], _ => rfl
  | x :: xs, 0 => rfl
  | x :: xs, i + 1 => by
    simp only [List.map_cons, List.eraseIdx_cons_succ, map_erase xs i]
theorem ixN_nat {n i : Nat} (h : i < n) : ixN n (i : Int) = some i := by
  unfold ixN
  rw [if_pos (by omega), if_pos (by omega), Int.toNat_natCast]
abbrev oΓ (n : Nat) (found : List Int) (o : Option SV) : Ev := [some (.cell 0), some (.d (.int n)), some (.cell 1), some (.d (row found)), o]
theorem order_turn (P : MO) (hP : PoolOk P) (n : Nat) (found left : List Int) (o : Option SV) (h0 : 0 < left.length) (hl : left.length < 1000) (hf : found.length ≤ 1000) :
    (B__law_order_1 (oΓ n found o) [P, .lst (left.map .int)]).Ret fun fl S' => ∃ x left' P', fl = .nx (oΓ n (found ++ [x]) o) ∧ S' = [P', .lst (left'.map .int)] ∧ PoolOk P' ∧ (x :: left').Perm left := by
  obtain ⟨v, S', e, d, P', rfl, u1, u2, rfl, u3⟩ := (take_ok P (left.length : Nat) [.lst (left.map .int)] hP (by omega) (by omega)).ok
  obtain ⟨i, rfl⟩ : ∃ i : Nat, d = i := ⟨d.toNat, by omega⟩
  have hi : i < left.length := by omega
  have e1 : eCallD 2 F__law_take (aCons (eVar 0) (aCons (eCall lenS (aCons (eVar 2) aNil)) aNil)) (oΓ n found o) [P, .lst (left.map .int)] = .ok (.d (.int i)) (P' :: [.lst (left.map .int)]) := by
    have e0 : aCons (eVar 0) (aCons (eCall lenS (aCons (eVar 2) aNil)) aNil) (oΓ n found o) [P, .lst (left.map .int)] = .ok [.cell 0, .d (.int (left.length : Nat))] [P, .lst (left.map .int)] := by
      have : eCall lenS (aCons (eVar 2) aNil) (oΓ n found o) [P, .lst (left.map .int)] = .ok (.d (.int (left.length : Nat))) [P, .lst (left.map .int)] := by
        have e : aCons (eVar 2) aNil (oΓ n found o) [P, .lst (left.map .int)] = .ok [.cell 1] [P, .lst (left.map .int)] := rfl
        rw [eCall_eq, e, bind_ok, len_c (xs := left.map .int) rfl, List.length_map]
      rw [aCons_eq, eVar_0, bind_ok, aCons_eq, this, bind_ok, aNil_eq, bind_ok, bind_ok]
    rw [eCallD_eq, e0, bind_ok]
    exact (if_pos rfl).trans e
  have e2 : eMeth popAtS (eVar 2) (aCons (eCallD 2 F__law_take (aCons (eVar 0) (aCons (eCall lenS (aCons (eVar 2) aNil)) aNil))) aNil) (oΓ n found o) [P, .lst (left.map .int)] = .ok (.d (.int left[i])) [P', .lst ((left.eraseIdx i).map .int)] := by
    unfold eMeth
    have hi1 : isL (.cell 1) [P, .lst (left.map .int)] = true := rfl
    rw [eVar_at (x := .cell 1) rfl, bind_ok, hi1, if_pos rfl, aCons_eq, e1, bind_ok, aNil_eq, bind_ok, bind_ok]
    have hix : ixN (left.map PyData.int).length (i : Int) = some i := ixN_nat (by simpa using hi)
    have hg : (left.map PyData.int)[i]? = some (.int left[i]) := by rw [List.getElem?_map, List.getElem?_eq_getElem hi]; rfl
    have hc : cellL (.cell 1) (P' :: [.lst (left.map .int)]) = some (1, left.map .int) := rfl
    unfold popAtS
    simp only [hc, hix, hg]
    have : (left.map PyData.int).eraseIdx i = (left.eraseIdx i).map .int := map_erase left i
    rw [this]
    rfl
  have e3 : eAddF finF (eVar 3) (eTup (aCons (eMeth popAtS (eVar 2) (aCons (eCallD 2 F__law_take (aCons (eVar 0) (aCons (eCall lenS (aCons (eVar 2) aNil)) aNil))) aNil)) aNil)) (oΓ n found o) [P, .lst (left.map .int)] = .ok (.d (row (found ++ [left[i]]))) [P', .lst ((left.eraseIdx i).map .int)] := by
    have e4 : eTup (aCons (eMeth popAtS (eVar 2) (aCons (eCallD 2 F__law_take (aCons (eVar 0) (aCons (eCall lenS (aCons (eVar 2) aNil)) aNil))) aNil)) aNil) (oΓ n found o) [P, .lst (left.map .int)] = .ok (.d (.tuple [.int left[i]])) [P', .lst ((left.eraseIdx i).map .int)] := by
      rw [eTup_eq, aCons_eq, e2, bind_ok, aNil_eq, bind_ok, bind_ok]
      rfl
    rw [eAdd_eq, eVar_at (x := .d (row found)) rfl, bind_ok, e4, bind_ok]
    unfold row
    rw [add_tt _ _ _ (by simp only [List.length_map, List.length_cons, List.length_nil]; omega), List.map_append]
    rfl
  unfold B__law_order_1
  rw [fSet_eq, e3, sB_ok, Ret_ok]
  exact ⟨left[i], left.eraseIdx i, P', rfl, rfl, u3, erase_perm left i hi⟩
theorem order_ok (P : MO) (hP : PoolOk P) (n : Nat) (hn : n ≤ 100) : (F__law_order [.cell 0, .d (.int n)] [P]).Ret fun v S' => ∃ xs P', v = .d (row xs) ∧ S' = [P'] ∧ PoolOk P' ∧ xs.Perm (rngI 0 n) := by
  have hl : (rngI 0 n).length = n := by simp [rngI]
  have e0 : eLstRg finC (rg1 (eVar 1)) [some (.cell 0), some (.d (.int n)), none, none, none] [P] = .ok (.cell 1) [P, .lst ((rngI 0 n).map .int)] := by
    have e : rg1 (eVar 1) [some (.cell 0), some (.d (.int n)), none, none, none] [P] = .ok (0, (n : Int)) [P] := rfl
    unfold eLstRg
    rw [e, bind_ok]
    show (if rgC 0 (n : Int) = true then finC (rgD 0 (n : Int)) [P] else .no) = _
    rw [if_pos (rgC_nat n (by omega)), finC_eq]
    have : rgD 0 (n : Int) = (rngI 0 n).map .int := by
      unfold rgD rngI
      rw [List.map_map]; rfl
    rw [this]
    rfl
  let Q : Fl → Store → Prop := fun fl S' => ∃ xs o P', fl = .nx (oΓ n xs o) ∧ S' = [P', .lst []] ∧ PoolOk P' ∧ xs.Perm (rngI 0 n)
  let I : List PyData → Ev → Store → Prop := fun ds Γ S' => ∃ found left o P', Γ = oΓ n found o ∧ S' = [P', .lst (left.map .int)] ∧ PoolOk P' ∧ (found ++ left).Perm (rngI 0 n) ∧ left.length = ds.length
  have hL : (L__law_order_1 (oΓ n [] none) [P, .lst ((rngI 0 n).map .int)]).Ret Q := by
    unfold L__law_order_1
    have e := iRg_ok (f := eVar 1) (Γ := oΓ n [] none) (S := [P, .lst ((rngI 0 n).map .int)]) (n := n) rfl (by omega)
    rw [fFor_eq e]
    refine forL_ret I Q (fun _ _ _ _ => rfl) (fun Γ S' h => ?_) (fun d ds Γ S' h => ?_) _ _ _ ⟨[], rngI 0 n, none, P, rfl, rfl, hP, List.Perm.refl _, ?_⟩
    · obtain ⟨found, left, o, P', rfl, rfl, h1, h2, h3⟩ := h
      have : left = [] := List.eq_nil_of_length_eq_zero h3
      subst this
      rw [List.append_nil] at h2
      exact ⟨found, o, P', rfl, rfl, h1, h2⟩
    · obtain ⟨found, left, o, P', rfl, rfl, h1, h2, h3⟩ := h
      have hlen := h2.length_eq
      rw [List.length_append, hl] at hlen
      simp only [List.length_cons] at h3
      rw [gNm_eq]
      refine Out.Ret.of rfl ?_
      refine (order_turn P' h1 n found left (some (.d d)) (by omega) (by omega) (by omega)).imp ?_
      rintro fl S2 ⟨x, left', P2, rfl, rfl, u1, u2⟩
      refine ⟨found ++ [x], left', some (.d d), P2, rfl, rfl, u1, ?_, ?_⟩
      · rw [List.append_assoc]
        exact (u2.append_left found).trans h2
      · have := u2.length_eq
        simp only [List.length_cons] at this
        omega
    · rw [hl, rgD_nat]; simp
  obtain ⟨fl, S', e, xs, o, P', rfl, rfl, h1, h2⟩ := hL.ok
  have hb : b__law_order [some (.cell 0), some (.d (.int n)), none, none, none] [P] = .ok (.rt (.d (row xs))) [P', .lst []] := by
    unfold b__law_order
    rw [fSeq_eq, fSet_eq, e0, sB_ok, seqK_nx]
    show (fSeq _ _) [some (.cell 0), some (.d (.int n)), some (.cell 1), none, none] [P, .lst ((rngI 0 n).map .int)] = _
    have e5 : fSet 3 (eTup aNil) [some (.cell 0), some (.d (.int n)), some (.cell 1), none, none] [P, .lst ((rngI 0 n).map .int)] = .ok (.nx (oΓ n [] none)) [P, .lst ((rngI 0 n).map .int)] := by
      simp -implicitDefEqProofs only [fSeq_eq, seqK_nx, seqK_rt, seqK_bk, seqK_ct, seqK_ite, eVar_0, eVar_s, bind_ok, sB_ok, eC_eq, eBin_eq, eUn_eq, iOp0_eq, iCmp_eq, tst_eq, addI, negI, fSet_eq, fRet_eq, fExpr_eq, fIf_eq, fAsg_eq, fPar_eq, fNil_eq, fBreak_eq, fCont_eq, gNm_eq, gsNil_eq, gsCons_eq, aNil_eq, aCons_eq, eCall_eq, eCallD_eq, intS_eq, absS_eq, mmS_eq, len_l, len_t, list_l, list_t, tup_l, tup_t, finF_eq, finC_eq, allD_nil, allD_cons, eTup_eq, eLst_eq, eIf_eq, runD_eq, hand_rt, handF_d, take_self, srcS_l, srcS_t, iSrc_eq, iZip_eq, zip_l, iEnm_eq, enum_l, pix0, pix1, pix2, pix3, pset1, pset2, pset3, gSub_eq, tYes_eq, eAdd_eq, eSub_eq, eMul_eq, eDiv_eq, eMod_eq, ePow_eq, eXor_eq, eNeg_eq, eIx_eq, eqI_t, eqI_f, tNot_eq, tAnd_eq, tOr_eq, tru_eq, tru_bool, tru_int, tru_list, eAnd_eq, eNot_eq, isi_eq, asD_d, List.length_cons, List.length_nil, List.map_cons, List.map_nil, List.cons_append, List.nil_append, List.append_nil, List.set_cons_succ, List.set_cons_zero, List.replicate_succ, List.replicate_zero, Option.map_some, if_true, if_false, reduceIte, Nat.reduceAdd, Nat.reduceSub, Nat.reduceLeDiff, List.length_map, Nat.reduceEqDiff, Bool.false_eq_true, Bool.not_false, Bool.not_true, ne_eq, not_true_eq_false, not_false_eq_true, decide_true, decide_false, eq_self, hand_rt, decide_eq_true_eq, sl_l, eSl_eq, oNone_eq, oSome_eq, Nat.zero_le]
      rfl
    rw [fSeq_eq, e5, seqK_nx, fSeq_eq, e, seqK_nx]
    rfl
  unfold F__law_order
  rw [runD_eq]
  show (hand handF 1 (b__law_order [some (.cell 0), some (.d (.int n)), none, none, none] [P])).Ret _
  rw [hb, hand_rt, handF_d, Ret_ok]
  exact ⟨xs, P', rfl, rfl, h1, h2⟩
end G85
/-! S10: the structure drawn. -/
namespace G85
open PySem L2 DL StrA
abbrev rs (m : Nat) : List (List Int) := (allL m).tail
theorem rs_ok {m : Nat} : ∀ s ∈ rs m, (Asc s ∧ ∀ e ∈ s, 0 ≤ e ∧ e < (m : Int)) ∧ s ≠ [] := by
  intro s hs
  have A := allOk m
  refine ⟨A.asc s (List.mem_of_mem_tail hs), fun e => ?_⟩
  subst e
  have h0 : allL m = [] :: ((List.range m).map (· + 1)).flatMap fun r => setsL m r := by
    unfold allL
    rw [List.range_succ_eq_map, List.flatMap_cons]
    rfl
  have : ([] : List Int) ∉ rs m := by
    unfold rs
    rw [h0, List.tail_cons]
    intro h
    obtain ⟨r, hr, hm⟩ := List.mem_flatMap.mp h
    obtain ⟨k, _, rfl⟩ := List.mem_map.mp hr
    have := (sets_ok _ _ _ hm).2.2
    simp at this
  exact this hs
theorem rs_len {m : Nat} (h1 : 1 ≤ m) (h8 : m ≤ 8) : 0 < (rs m).length ∧ (rs m).length < 1000 := by
  rcases up8 h8 with rfl | rfl | rfl | rfl | rfl | rfl | rfl | rfl | rfl
  · omega
  all_goals clear h1 h8; decide +kernel
abbrev cΓ (m : Nat) (o4 o5 : Option SV) : Ev := [some (.cell 0), some (.d (.int m)), some (.d (rowsL (rs m))), some (.cell 1), o4, o5, none, none]
def hit (found : List (List Int)) (s : List Int) : Bool := found.any fun t => win s t || win t s
theorem str_any {m : Nat} (P : MO) (found : List (List Int)) (s : List Int) (o4 : Option SV) : eCall (allS true) (aCons C__law_structure_3 aNil) (cΓ m o4 (some (.d (row s)))) [P, .lst (found.map row)] = .ok (.d (.bool (hit found s))) [P, .lst (found.map row)] := by
  refine all_of found (fun t => win s t || win t s) ?_ true
  unfold C__law_structure_3
  refine comp_cel [P] found 3 _ rfl fun t _ => ⟨_, gNm_eq _ _ _ _, ?_⟩
  have w1 : eCall (allS false) (aCons C__law_structure_1 aNil) ((wipeE (cΓ m o4 (some (.d (row s)))) [7]).set 7 (some (.d (row t)))) (cel [P] found) = .ok (.d (.bool (win s t))) (cel [P] found) := by
    unfold C__law_structure_1
    exact any_in s t rfl (fun e => ⟨_, gNm_eq _ _ _ _, in_sqF false t e _⟩) false
  have w2 : eCall (allS false) (aCons C__law_structure_2 aNil) ((wipeE (cΓ m o4 (some (.d (row s)))) [7]).set 7 (some (.d (row t)))) (cel [P] found) = .ok (.d (.bool (win t s))) (cel [P] found) := by
    unfold C__law_structure_2
    exact any_in t s rfl (fun e => ⟨_, gNm_eq _ _ _ _, in_sqF false s e _⟩) false
  unfold E__law_structure_3 eOrF
  rw [w1, bind_ok, tru_bool]
  cases win s t with
  | true => rfl
  | false =>
    show eCall _ _ _ _ = _
    rw [w2]
    rfl
structure Found (m : Nat) (found : List (List Int)) : Prop where
  fam : Fam m found
  ne : ∀ f ∈ found, f ≠ []
theorem found_add {m : Nat} {found : List (List Int)} {s : List Int} (h : Found m found) (hs : s ∈ rs m) (hh : hit found s = false) : Found m (found ++ [s]) := by
  obtain ⟨h1, h2⟩ := rs_ok s hs
  refine ⟨⟨fun f hf => ?_, List.pairwise_append.mpr ⟨h.fam.anti, List.pairwise_singleton _ _, fun a ha b hb => ?_⟩⟩, fun f hf => ?_⟩
  · rcases List.mem_append.mp hf with hf | hf
    · exact h.fam.ok f hf
    · rw [List.mem_singleton.mp hf]; exact h1
  · rw [List.mem_singleton.mp hb]
    have := Bool.eq_false_iff.mp hh
    have k : (win s a || win a s) = false := Bool.eq_false_iff.mpr fun w => this (List.any_eq_true.mpr ⟨a, ha, w⟩)
    rw [Bool.or_eq_false_iff] at k
    exact ⟨k.2, k.1⟩
  · rcases List.mem_append.mp hf with hf | hf
    · exact h.ne f hf
    · rw [List.mem_singleton.mp hf]; exact h2
theorem str_turn {m : Nat} (h1 : 1 ≤ m) (h8 : m ≤ 8) (P : MO) (hP : PoolOk P) (found : List (List Int)) (hl : found.length ≤ 1000) (o4 o5 : Option SV) :
    (B__law_structure_1 (cΓ m o4 o5) [P, .lst (found.map row)]).Ret fun fl S' => ∃ s P', s ∈ rs m ∧ fl = .nx (cΓ m o4 (some (.d (row s)))) ∧ S' = [P', .lst ((if hit found s then found else found ++ [s]).map row)] ∧ PoolOk P' := by
  obtain ⟨l1, l2⟩ := rs_len h1 h8
  obtain ⟨v, S', e, x, P', rfl, hx, rfl, u1⟩ := (pick_ok P ((rs m).map row) [.lst (found.map row)] hP (by simpa using l1) (by simpa using l2)).ok
  obtain ⟨s, hs, rfl⟩ := List.mem_map.mp hx
  have e1 : eCallD 2 F__law_pick (aCons (eVar 0) (aCons (eVar 2) aNil)) (cΓ m o4 o5) [P, .lst (found.map row)] = .ok (.d (row s)) (P' :: [.lst (found.map row)]) := by
    have e0 : aCons (eVar 0) (aCons (eVar 2) aNil) (cΓ m o4 o5) [P, .lst (found.map row)] = .ok [.cell 0, .d (rowsL (rs m))] [P, .lst (found.map row)] := rfl
    rw [eCallD_eq, e0, bind_ok]
    exact (if_pos rfl).trans e
  have e2 := str_any (m := m) P' found s o4
  have e3 : B__law_structure_1 (cΓ m o4 o5) [P, .lst (found.map row)] = .ok (.nx (cΓ m o4 (some (.d (row s))))) [P', .lst ((if hit found s then found else found ++ [s]).map row)] := by
    unfold B__law_structure_1
    rw [fSeq_eq, fSet_eq, e1, sB_ok, seqK_nx]
    show fIf _ _ _ (cΓ m o4 (some (.d (row s)))) [P', .lst (found.map row)] = _
    rw [fIf_eq, tNot_eq, tru_eq, e2, bind_ok, tru_bool]
    cases hit found s with
    | true => rfl
    | false =>
      show fExpr (eMeth appendS (eVar 3) (aCons (eVar 5) aNil)) (cΓ m o4 (some (.d (row s)))) (cel [P'] found) = _
      have e := meth_app (fo := eVar 3) (af := aCons (eVar 5) aNil) (Γ := cΓ m o4 (some (.d (row s)))) [P'] found s rfl rfl hl
      rw [fExpr_eq, e, sB_ok]
      rfl
  exact Out.Ret.of e3 ⟨s, P', hs, rfl, rfl, u1⟩
theorem structure_ok {m : Nat} (h1 : 1 ≤ m) (h8 : m ≤ 8) (P : MO) (hP : PoolOk P) : (F__law_structure [.cell 0, .d (.int m)] [P]).Ret fun v S' => ∃ G P', v = .d (rowsL G) ∧ S' = [P'] ∧ PoolOk P' ∧ Found m G ∧ G ≠ [] ∧ G.length ≤ 6 ∧ srtD (G.map row) = G.map row := by
  obtain ⟨v, S', et, d, P1, rfl, u1, u2, rfl, u3⟩ := (take_ok P 6 [.lst []] hP (by omega) (by omega)).ok
  obtain ⟨k, rfl⟩ : ∃ k : Nat, d = k := ⟨d.toNat, by omega⟩
  let Q : Fl → Store → Prop := fun fl S' => ∃ found o4 o5 P', fl = .nx (cΓ m o4 o5) ∧ S' = [P', .lst (found.map row)] ∧ PoolOk P' ∧ Found m found ∧ found ≠ [] ∧ found.length ≤ 6
  let I : List PyData → Ev → Store → Prop := fun ds Γ S' => ∃ found o4 o5 P', Γ = cΓ m o4 o5 ∧ S' = [P', .lst (found.map row)] ∧ PoolOk P' ∧ Found m found ∧ (found = [] → 0 < ds.length) ∧ found.length + ds.length ≤ 6
  have e0 : iRg (rg1 (eAddF finF (eC (.int 1)) (eCallD 2 F__law_take (aCons (eVar 0) (aCons (eC (.int 6)) aNil))))) (cΓ m none none) [P, .lst []] = .ok ⟨rgD 0 ((k + 1 : Nat) : Int), fun _ => true⟩ [P1, .lst []] := by
    refine iRg_ok ?_ (by omega)
    have e1 : eCallD 2 F__law_take (aCons (eVar 0) (aCons (eC (.int 6)) aNil)) (cΓ m none none) [P, .lst []] = .ok (.d (.int k)) (P1 :: [.lst []]) := by
      have e0 : aCons (eVar 0) (aCons (eC (.int 6)) aNil) (cΓ m none none) [P, .lst []] = .ok [.cell 0, .d (.int 6)] [P, .lst []] := rfl
      rw [eCallD_eq, e0, bind_ok]
      exact (if_pos rfl).trans et
    rw [eAdd_eq, eC_eq, bind_ok, e1, bind_ok, addI]
    rw [show ((1 : Int) + (k : Int)) = ((k + 1 : Nat) : Int) by omega]
  have hL : (L__law_structure_1 (cΓ m none none) [P, .lst []]).Ret Q := by
    unfold L__law_structure_1
    rw [fFor_eq e0]
    refine forL_ret I Q (fun _ _ _ _ => rfl) (fun Γ S' h => ?_) (fun d ds Γ S' h => ?_) _ _ _ ⟨[], none, none, P1, rfl, rfl, u3, ⟨⟨fun s hs => absurd hs List.not_mem_nil, .nil⟩, fun f hf => absurd hf List.not_mem_nil⟩, fun _ => ?_, ?_⟩
    · obtain ⟨found, o4, o5, P', rfl, rfl, h1, h2, h3, h4⟩ := h
      refine ⟨found, o4, o5, P', rfl, rfl, h1, h2, fun e => ?_, by simpa using h4⟩
      have := h3 e
      simp at this
    · obtain ⟨found, o4, o5, P', rfl, rfl, u1, u2, u3, u4⟩ := h
      simp only [List.length_cons] at u4
      rw [gNm_eq]
      refine Out.Ret.of rfl ?_
      refine (str_turn h1 h8 P' u1 found (by omega) (some (.d d)) o5).imp ?_
      rintro fl S2 ⟨s, P2, hs, rfl, rfl, v1⟩
      refine ⟨_, _, _, P2, rfl, rfl, v1, ?_, ?_, ?_⟩
      · split
        · exact u2
        · rename_i hh
          exact found_add u2 hs (Bool.eq_false_iff.mpr hh)
      · intro e
        split at e
        · rename_i hh
          subst e
          cases hh
        · simp at e
      · split
        · omega
        · simp only [List.length_append, List.length_cons, List.length_nil]; omega
    · rw [rgD_nat]; simp
    · rw [rgD_nat]; simp; omega
  obtain ⟨fl, S', e, found, o4, o5, P', rfl, rfl, v1, v2, v3, v4⟩ := hL.ok
  obtain ⟨G, pG, hG⟩ := srt_is found
  have hb : b__law_structure [some (.cell 0), some (.d (.int m)), none, none, none, none, none, none] [P] = .ok (.rt (.d (rowsL G))) [P', .lst (found.map row)] := by
    have e1 : eCallD 1 F__law_all_sets (aCons (eVar 1) aNil) [some (.cell 0), some (.d (.int m)), none, none, none, none, none, none] [P] = .ok (.d (rowsL (allL m))) [P] := by
      have e0 : aCons (eVar 1) aNil [some (.cell 0), some (.d (.int m)), none, none, none, none, none, none] [P] = .ok [.d (.int m)] [P] := rfl
      rw [eCallD_eq, e0, bind_ok]
      exact (if_pos rfl).trans (all_sets_eq h8 [P])
    have e2 : eSl finF (eCallD 1 F__law_all_sets (aCons (eVar 1) aNil)) (oSome (eC (.int 1))) oNone [some (.cell 0), some (.d (.int m)), none, none, none, none, none, none] [P] = .ok (.d (rowsL (rs m))) [P] := by
      have hne : allL m ≠ [] := fun z => by
        have := (rs_len h1 h8).1
        unfold rs at this
        rw [z] at this
        simp at this
      obtain ⟨a, r, er⟩ := List.exists_cons_of_ne_nil hne
      rw [eSl_eq, e1, bind_ok, oSome_eq, eC_eq, bind_ok, bind_ok, oNone_eq, bind_ok, sl_l, finF_eq]
      unfold rs rowsL
      rw [er, List.tail_cons, List.map_cons, cut_tail]
    have e3 : eLst finC aNil [some (.cell 0), some (.d (.int m)), some (.d (rowsL (rs m))), none, none, none, none, none] [P] = .ok (.cell 1) [P, .lst []] := by
      rw [eLst_eq, aNil_eq, bind_ok]
      rfl
    unfold b__law_structure
    rw [fSeq_eq, fSet_eq, e2, sB_ok, seqK_nx]
    show (fSeq _ _) [some (.cell 0), some (.d (.int m)), some (.d (rowsL (rs m))), none, none, none, none, none] [P] = _
    rw [fSeq_eq, fSet_eq, e3, sB_ok, seqK_nx]
    show (fSeq _ _) (cΓ m none none) [P, .lst []] = _
    have e4 : aCons (eVar 3) aNil (cΓ m o4 o5) [P', .lst (found.map row)] = .ok [.cell 1] (cel [P'] found) := rfl
    rw [fSeq_eq, e, seqK_nx, fRet_eq, eCall_eq, e4, bind_ok]
    have e5 := sort_cel [P'] v2.ne
    rw [hG] at e5
    rw [show sortS finF [SV.cell 1] (cel [P'] found) = _ from e5, sB_ok]
    rfl
  unfold F__law_structure
  rw [runD_eq]
  show (hand handF 1 (b__law_structure [some (.cell 0), some (.d (.int m)), none, none, none, none, none, none] [P])).Ret _
  rw [hb, hand_rt, handF_d, Ret_ok]
  refine ⟨G, P', rfl, rfl, v1, ⟨v2.fam.perm pG.symm, fun f hf => v2.ne f (pG.mem_iff.mp hf)⟩, fun z => v3 ?_, by rw [pG.length_eq]; exact v4, by rw [← hG]; exact srt_idem _⟩
  rw [z] at pG
  exact pG.symm.eq_nil
end G85
/-! S11: the fixed questions. -/
namespace G85
open PySem L2 DL StrA
def insP (a : PyData) : List PyData → List PyData
  | [] => [a]
  | b :: r => if PySem.W.dataLe false id a b then a :: b :: r else b :: insP a r
def insS : List PyData → List PyData
  | [] => []
  | a :: r => insP a (insS r)
theorem insP_perm (a : PyData) : ∀ l, (insP a l).Perm (a :: l)
  | [] => List.Perm.refl _
  | b :: r => by
    unfold insP
    split
    · exact List.Perm.refl _
    · exact ((insP_perm a r).cons b).trans (List.Perm.swap _ _ _)
theorem insS_perm : ∀ l, (insS l).Perm l
  | [] => List.Perm.refl _
  | a :: r => (insP_perm a _).trans ((insS_perm r).cons a)
theorem insP_pw (a : PyData) : ∀ l, l.Pairwise (fun a b => PySem.W.dataLe false id a b = true) → (insP a l).Pairwise fun a b => PySem.W.dataLe false id a b = true
  | [], _ => List.pairwise_singleton _ _
  | b :: r, h => by
    obtain ⟨h1, h2⟩ := List.pairwise_cons.mp h
    unfold insP
    split
    · rename_i hc
      exact List.pairwise_cons.mpr ⟨fun x hx => (List.mem_cons.mp hx).elim (fun e => e ▸ hc) fun hx => le_total.trans _ _ _ hc (h1 x hx), h⟩
    · rename_i hc
      have hba := (le_total.total a b).resolve_left hc
      refine List.pairwise_cons.mpr ⟨fun x hx => ?_, insP_pw a r h2⟩
      rcases List.mem_cons.mp ((insP_perm a r).mem_iff.mp hx) with rfl | hx
      · exact hba
      · exact h1 x hx
theorem insS_pw : ∀ l, (insS l).Pairwise fun a b => PySem.W.dataLe false id a b = true
  | [] => .nil
  | a :: r => insP_pw a _ (insS_pw r)
theorem srt_ins {l : List PyData} (h : sortC l = true) : srtD l = insS l := by
  refine List.Perm.eq_of_pairwise (le := fun a b => PySem.W.dataLe false id a b = true) (fun a b ha hb h1 h2 => ?_) (srt_pw _) (insS_pw _) ((srt_perm _).trans (insS_perm _).symm)
  have ha := (srt_perm _).mem_iff.mp ha
  have hb := (insS_perm _).mem_iff.mp hb
  unfold sortC at h
  rcases Bool.or_eq_true_iff.mp h with h | h
  · obtain ⟨i, rfl⟩ := isInt_ok (List.all_eq_true.mp h _ ha)
    obtain ⟨j, rfl⟩ := isInt_ok (List.all_eq_true.mp h _ hb)
    rw [le_ints, decide_eq_true_iff] at h1 h2
    rw [Int.le_antisymm h1 h2]
  · obtain ⟨x, xs, rfl, e1⟩ := isRow_ok (List.all_eq_true.mp h _ ha)
    obtain ⟨y, ys, rfl, e2⟩ := isRow_ok (List.all_eq_true.mp h _ hb)
    have k1 := ints_of e1
    have k2 := ints_of e2
    rw [k1, k2] at h1 h2 ⊢
    exact congrArg row (rows_anti h1 h2)
def sortS' (fin : List PyData → Store → Out SV) : List SV → Store → Out SV := fun vs S => match vs with
  | [v] => match asD v S with
    | some (.list xs) => if sortC xs && xs.all (fun d => decide (d.depth ≤ 62)) then fin (insS xs) S else .no
    | some (.tuple xs) => if sortC xs && xs.all (fun d => decide (d.depth ≤ 62)) then fin (insS xs) S else .no
    | _ => .no
  | _ => .no
theorem ite_srt (fin : List PyData → Store → Out SV) (xs : List PyData) (S : Store) : (if sortC xs && xs.all (fun d => decide (d.depth ≤ 62)) then fin (srtD xs) S else .no) = (if sortC xs && xs.all (fun d => decide (d.depth ≤ 62)) then fin (insS xs) S else .no) := by
  split
  · rename_i hc
    rw [srt_ins ((Bool.and_eq_true_iff.mp hc).1)]
  · rfl
theorem sortS_eq : sortS = sortS' := by
  funext fin vs S
  cases vs with
  | nil => rfl
  | cons v r =>
    cases r with
    | cons _ _ => rfl
    | nil =>
      unfold sortS sortS'
      simp only []
      cases asD v S with
      | none => rfl
      | some d => cases d with
        | list xs => exact ite_srt fin xs S
        | tuple xs => exact ite_srt fin xs S
        | _ => rfl
theorem always_eq (P : MO) : F__law_always [] [P] = .ok (.d (.bool true)) [P] := by
  simp only [F__law_always, b__law_always, F_least_sets, b_least_sets, F_dual_sets, b_dual_sets, F_dual_of, b_dual_of, F_may_know, b_may_know, F_is_joined, b_is_joined, F__law_told, b__law_told, F__law_refuses, b__law_refuses, F_told_sets, b_told_sets, C_told_sets_2, E_told_sets_2, sortS_eq]
  kernel_rfl
end G85
/-! S12: the four turns. -/
namespace G85
open PySem L2 DL StrA
theorem seq_set {i : Nat} {f : EF} {rest : SF} {Γ : Ev} {S : Store} {Q1 : SV → Store → Prop} {Q : Fl → Store → Prop} (h : (f Γ S).Ret Q1) (k : ∀ v S', Q1 v S' → (rest (Γ.set i (some v)) S').Ret Q) : (fSeq (fSet i f) rest Γ S).Ret Q := by
  obtain ⟨v, S', e, h1⟩ := h.ok
  rw [fSeq_eq, fSet_eq, e, sB_ok, seqK_nx]
  exact k v S' h1
theorem seq_if {t : TF} {a rest : SF} {Γ : Ev} {S S' : Store} {Q : Fl → Store → Prop} (h : t Γ S = .ok false S') (k : (rest Γ S').Ret Q) : (fSeq (fIf t a fNil) rest Γ S).Ret Q := by
  rw [fSeq_eq, fIf_eq, h, sB_ok]
  exact k
theorem call2 {F : FD} {fa fb : EF} {Γ : Ev} {S S1 S2 : Store} {a b : SV} (h1 : fa Γ S = .ok a S1) (h2 : fb Γ S1 = .ok b S2) : eCallD 2 F (aCons fa (aCons fb aNil)) Γ S = F [a, b] S2 := by
  rw [eCallD_eq, aCons_eq, h1, bind_ok, aCons_eq, h2, bind_ok, aNil_eq, bind_ok, bind_ok, bind_ok]
  exact if_pos rfl
theorem call1 {F : FD} {fa : EF} {Γ : Ev} {S S1 : Store} {a : SV} (h1 : fa Γ S = .ok a S1) : eCallD 1 F (aCons fa aNil) Γ S = F [a] S1 := by
  rw [eCallD_eq, aCons_eq, h1, bind_ok, aNil_eq, bind_ok, bind_ok]
  exact if_pos rfl
theorem call3 {F : FD} {fa fb fc : EF} {Γ : Ev} {S S1 S2 S3 : Store} {a b c : SV} (h1 : fa Γ S = .ok a S1) (h2 : fb Γ S1 = .ok b S2) (h3 : fc Γ S2 = .ok c S3) : eCallD 3 F (aCons fa (aCons fb (aCons fc aNil))) Γ S = F [a, b, c] S3 := by
  rw [eCallD_eq, aCons_eq, h1, bind_ok, aCons_eq, h2, bind_ok, aCons_eq, h3, bind_ok, aNil_eq, bind_ok, bind_ok, bind_ok, bind_ok]
  exact if_pos rfl
theorem given_t (P : MO) (xs : List PyData) (R : Store) (hP : PoolOk P) : (F__law_given [.cell 0, .d (.tuple xs)] (P :: R)).Ret fun v S' => ∃ b P', v = .d (sq b xs) ∧ S' = P' :: R ∧ PoolOk P' := by
  obtain ⟨v, S', e, d, P', rfl, u1, u2, rfl, u3⟩ := (take_ok P 2 R hP (by omega) (by omega)).ok
  by_cases hd : d = 0
  · simp -implicitDefEqProofs only [F__law_given, b__law_given, fSeq_eq, seqK_nx, seqK_rt, seqK_bk, seqK_ct, seqK_ite, eVar_0, eVar_s, bind_ok, sB_ok, eC_eq, eBin_eq, eUn_eq, iOp0_eq, iCmp_eq, tst_eq, addI, negI, fSet_eq, fRet_eq, fExpr_eq, fIf_eq, fAsg_eq, fPar_eq, fNil_eq, fBreak_eq, fCont_eq, gNm_eq, gsNil_eq, gsCons_eq, aNil_eq, aCons_eq, eCall_eq, eCallD_eq, intS_eq, absS_eq, mmS_eq, len_l, len_t, list_l, list_t, tup_l, tup_t, finF_eq, finC_eq, allD_nil, allD_cons, eTup_eq, eLst_eq, eIf_eq, runD_eq, hand_rt, handF_d, take_self, srcS_l, srcS_t, iSrc_eq, iZip_eq, zip_l, iEnm_eq, enum_l, pix0, pix1, pix2, pix3, pset1, pset2, pset3, gSub_eq, tYes_eq, eAdd_eq, eSub_eq, eMul_eq, eDiv_eq, eMod_eq, ePow_eq, eXor_eq, eNeg_eq, eIx_eq, eqI_t, eqI_f, tNot_eq, tAnd_eq, tOr_eq, tru_eq, tru_bool, tru_int, tru_list, eAnd_eq, eNot_eq, isi_eq, asD_d, List.length_cons, List.length_nil, List.map_cons, List.map_nil, List.cons_append, List.nil_append, List.append_nil, List.set_cons_succ, List.set_cons_zero, List.replicate_succ, List.replicate_zero, Option.map_some, if_true, if_false, reduceIte, Nat.reduceAdd, Nat.reduceSub, Nat.reduceLeDiff, List.length_map, Nat.reduceEqDiff, Bool.false_eq_true, Bool.not_false, Bool.not_true, ne_eq, not_true_eq_false, not_false_eq_true, decide_true, decide_false, eq_self, hand_rt, decide_eq_true_eq, sl_l, eSl_eq, oNone_eq, oSome_eq, e, hd, Ret_ok]
    exact ⟨true, P', rfl, tk1 _ _, u3⟩
  · simp -implicitDefEqProofs only [F__law_given, b__law_given, fSeq_eq, seqK_nx, seqK_rt, seqK_bk, seqK_ct, seqK_ite, eVar_0, eVar_s, bind_ok, sB_ok, eC_eq, eBin_eq, eUn_eq, iOp0_eq, iCmp_eq, tst_eq, addI, negI, fSet_eq, fRet_eq, fExpr_eq, fIf_eq, fAsg_eq, fPar_eq, fNil_eq, fBreak_eq, fCont_eq, gNm_eq, gsNil_eq, gsCons_eq, aNil_eq, aCons_eq, eCall_eq, eCallD_eq, intS_eq, absS_eq, mmS_eq, len_l, len_t, list_l, list_t, tup_l, tup_t, finF_eq, finC_eq, allD_nil, allD_cons, eTup_eq, eLst_eq, eIf_eq, runD_eq, hand_rt, handF_d, take_self, srcS_l, srcS_t, iSrc_eq, iZip_eq, zip_l, iEnm_eq, enum_l, pix0, pix1, pix2, pix3, pset1, pset2, pset3, gSub_eq, tYes_eq, eAdd_eq, eSub_eq, eMul_eq, eDiv_eq, eMod_eq, ePow_eq, eXor_eq, eNeg_eq, eIx_eq, eqI_t, eqI_f, tNot_eq, tAnd_eq, tOr_eq, tru_eq, tru_bool, tru_int, tru_list, eAnd_eq, eNot_eq, isi_eq, asD_d, List.length_cons, List.length_nil, List.map_cons, List.map_nil, List.cons_append, List.nil_append, List.append_nil, List.set_cons_succ, List.set_cons_zero, List.replicate_succ, List.replicate_zero, Option.map_some, if_true, if_false, reduceIte, Nat.reduceAdd, Nat.reduceSub, Nat.reduceLeDiff, List.length_map, Nat.reduceEqDiff, Bool.false_eq_true, Bool.not_false, Bool.not_true, ne_eq, not_true_eq_false, not_false_eq_true, decide_true, decide_false, eq_self, hand_rt, decide_eq_true_eq, sl_l, eSl_eq, oNone_eq, oSome_eq, e, hd, Ret_ok]
    exact ⟨false, P', rfl, tk1 _ _, u3⟩
structure Good (m : Nat) (G : List (List Int)) : Prop where
  fnd : Found m G
  ne : G ≠ []
  len : G.length ≤ 70
  srt : srtD (G.map row) = G.map row
theorem plain_hnd (G : List (List Int)) : (G.map fun g => ((false, g) : Bool × List Int)).map hnd = G.map row := by
  rw [List.map_map]; rfl
theorem plain_asc {m : Nat} {G : List (List Int)} (h : ∀ g ∈ G, Asc g) : ((G.map fun g => ((false, g) : Bool × List Int)).map fun p => ascI p.2) = G := by
  rw [List.map_map]
  exact (List.map_congr_left fun g hg => asc_eq (List.Perm.refl g) (h g hg)).trans (List.map_id G)
theorem told_rows {m : Nat} (h1 : 1 ≤ m) (h8 : m ≤ 8) {G : List (List Int)} (hG : Good m G) (S : Store) : F_told_sets [.d (.int m), .d (rowsL G)] S = .ok (.d (rowsL G)) S := by
  have ha := plain_asc (m := m) (G := G) fun g hg => (hG.fnd.fam.ok g hg).1
  have hR : Rows m (G.map fun g => ((false, g) : Bool × List Int)) := ⟨h1, h8, by
    rw [List.length_map]; exact List.length_pos_iff.mpr hG.ne, by rw [List.length_map]; exact hG.len, fun p hp => by
    obtain ⟨g, hg, rfl⟩ := List.mem_map.mp hp
    exact ⟨⟨(hG.fnd.fam.ok g hg).1.nodup, (hG.fnd.fam.ok g hg).2⟩, hG.fnd.ne g hg⟩⟩
  have e := told_ok true hR (by rw [ha]; exact hG.fnd.fam.anti) S
  rw [ha, plain_hnd, hG.srt] at e
  exact e
theorem same_eq {x : PyData} (h : pl 6 x) (S : Store) : F__law_same [.d x, .d x] S = .ok (.d (.bool true)) S := same_at 6 x S h
theorem dual_perm {m : Nat} {F G : List (List Int)} (h : F.Perm G) : dual m F = dual m G := by
  unfold dual
  have : meets F = meets G := by
    funext s
    rw [Bool.eq_iff_iff, meets_iff, meets_iff]
    exact ⟨fun k f hf => k f (h.mem_iff.mpr hf), fun k f hf => k f (h.mem_iff.mp hf)⟩
  rw [this]
theorem knows_perm {F G : List (List Int)} (h : F.Perm G) (s : List Int) : knows F s = knows G s := by
  rw [Bool.eq_iff_iff, knows_iff, knows_iff]
  exact ⟨fun ⟨f, hf, w⟩ => ⟨f, h.mem_iff.mp hf, w⟩, fun ⟨f, hf, w⟩ => ⟨f, h.mem_iff.mpr hf, w⟩⟩
abbrev Λ (s : SV) (o2 o3 o4 o5 o8 o9 o10 o11 o12 o14 o15 o16 : Option SV) : Ev := [some s, some (.cell 0), o2, o3, o4, o5, none, none, o8, o9, o10, o11, o12, none, o14, o15, o16]
theorem sl_row (xs : List Int) (k : Nat) (S : Store) : slS finF (.d (row xs)) none (some (k : Int)) S = .ok (.d (row (xs.take k))) S := by
  have e : cutD (xs.map PyData.int) none (some (k : Int)) = (xs.take k).map PyData.int := by
    unfold cutD
    rw [HT.sIx_nat]
    show ((xs.map PyData.int).drop 0).take (min k (xs.map PyData.int).length - 0) = _
    rw [List.drop_zero, Nat.sub_zero, List.map_take]
    rcases Nat.le_total k (xs.map PyData.int).length with h | h
    · rw [Nat.min_eq_left h]
    · rw [Nat.min_eq_right h, List.take_length, List.take_of_length_le h]
  show Out.ok (SV.d (.tuple (cutD (xs.map PyData.int) none (some (k : Int))))) S = _
  rw [e]
  rfl
end G85
/-! S13: one of the four turns; how the sets are handed. -/
namespace G85
open PySem L2 DL StrA
theorem eq_bools (a b : Bool) (S : Store) : eqS false (.d (.bool a)) (.d (.bool b)) S = .ok (.d (.bool (a == b))) S := by cases a <;> cases b <;> rfl
section
variable {m : Nat} {G D : List (List Int)} {handed : PyData} {s : SV} {o2 o9 o10 o14 o15 o16 : Option SV}
abbrev Λ1 (m : Nat) (G D : List (List Int)) (handed : PyData) (s : SV) (o2 o9 o10 o14 o15 o16 : Option SV) (o11 o12 : Option SV) : Ev :=
  Λ s o2 (some (.d (.int m))) (some (.d (rowsL G))) (some (.d handed)) (some (.d (rowsL D))) o9 o10 o11 o12 o14 o15 o16
theorem others_eq (h8 : m ≤ 8) (ps : List Int) (o12 : Option SV) (S : Store) : C_law_4 (Λ1 m G D handed s o2 o9 o10 o14 o15 o16 (some (.d (row ps))) o12) S = .ok (.d (sqI true (compl m ps))) S := by
  unfold C_law_4
  have e0 := iRg_ok (f := eVar 3) (Γ := Λ1 m G D handed s o2 o9 o10 o14 o15 o16 (some (.d (row ps))) o12) (S := S) (n := m) rfl (by omega)
  have er : rgD 0 (m : Int) = (rngI 0 m).map .int := by
    unfold rgD rngI
    rw [List.map_map]; rfl
  rw [er] at e0
  rw [eLc_eq e0, lcL_gf .int .int (fun e => !decide (e ∈ ps)) rfl, bind_ok, finF_eq]
  · rfl
  · intro e _
    refine ⟨_, gNm_eq _ _ _ _, ?_, fun _ => rfl⟩
    unfold T_law_1
    have e2 : eBin (inS true) (eVar 13) (eVar 11) ((wipeE (Λ1 m G D handed s o2 o9 o10 o14 o15 o16 (some (.d (row ps))) o12) [13]).set 13 (some (.d (.int e)))) S = .ok (.d (.bool (!decide (e ∈ ps)))) S := in_sqI false ps e true S
    rw [tst_eq, e2, bind_ok]
theorem turn4 (h1 : 1 ≤ m) (h8 : m ≤ 8) (hG : Good m G) (hD : Good m D) (hp : D.Perm (dual m G)) (ht : ∀ S, F_told_sets [.d (.int m), .d handed] S = .ok (.d (rowsL G)) S) (P : MO) (hP : PoolOk P) (o11 o12 : Option SV) :
    (B_law_1 (Λ1 m G D handed s o2 o9 o10 o14 o15 o16 o11 o12) [P]).Ret fun fl S' => ∃ o11' o12' P', fl = .nx (Λ1 m G D handed s o2 o9 o10 o14 o15 o16 o11' o12') ∧ S' = [P'] ∧ PoolOk P' := by
  obtain ⟨v, S', e1, xs, P1, rfl, rfl, u1, u2⟩ := (order_ok P hP m (by omega)).ok
  obtain ⟨v, S', e2, d, P2, rfl, v1, v2, rfl, v3⟩ := (take_ok P1 ((m : Int) + 1) [] u1 (by omega) (by omega)).ok
  obtain ⟨k, rfl⟩ : ∃ k : Nat, d = k := ⟨d.toNat, by omega⟩
  have hps : Ppl m (xs.take k) := ⟨(u2.nodup_iff.mpr (asc_rng 0 m).nodup).sublist (List.take_sublist k xs), fun e he => mem_rngI.mp (u2.mem_iff.mp (List.mem_of_mem_take he))⟩
  have hpl : (xs.take k).length ≤ 4000 := by have := hps.len; omega
  have hs : eSl finF (eCallD 2 F__law_order (aCons (eVar 1) (aCons (eVar 3) aNil))) oNone (oSome (eCallD 2 F__law_take (aCons (eVar 1) (aCons (eAddF finF (eVar 3) (eC (.int 1))) aNil)))) (Λ1 m G D handed s o2 o9 o10 o14 o15 o16 o11 o12) [P] = .ok (.d (row (xs.take k))) [P2] := by
    have c1 : eCallD 2 F__law_order (aCons (eVar 1) (aCons (eVar 3) aNil)) (Λ1 m G D handed s o2 o9 o10 o14 o15 o16 o11 o12) [P] = .ok (.d (row xs)) [P1] := (call2 rfl rfl).trans e1
    have c2 : eCallD 2 F__law_take (aCons (eVar 1) (aCons (eAddF finF (eVar 3) (eC (.int 1))) aNil)) (Λ1 m G D handed s o2 o9 o10 o14 o15 o16 o11 o12) [P1] = .ok (.d (.int k)) [P2] := (call2 (b := .d (.int ((m : Int) + 1))) rfl rfl).trans e2
    rw [eSl_eq, c1, bind_ok, oNone_eq, bind_ok, oSome_eq, c2, bind_ok, bind_ok, sl_row]
  generalize xs.take k = ps at hs hps hpl
  have hDf : ∀ g ∈ D, Asc g := fun g hg => (hD.fnd.fam.ok g hg).1
  unfold B_law_1
  refine seq_set (Q1 := fun v S' => v = .d (row ps) ∧ S' = [P2]) (Out.Ret.of hs ⟨rfl, rfl⟩) ?_
  rintro v S' ⟨rfl, rfl⟩
  show ((fSeq _ _) (Λ1 m G D handed s o2 o9 o10 o14 o15 o16 (some (.d (row ps))) o12) [P2]).Ret _
  obtain ⟨v, S', g1, b, P3, rfl, rfl, w1⟩ := (given_t P2 (ps.map .int) [] v3).ok
  have tk := may_eq (ht [P3]) (b := b) (xs := ps) (are_people b hps hpl [P3])
  have lk := lknows_eq false G ps [P3]
  have c3 : eCallD 2 F__law_given (aCons (eVar 1) (aCons (eVar 11) aNil)) (Λ1 m G D handed s o2 o9 o10 o14 o15 o16 (some (.d (row ps))) o12) [P2] = .ok (.d (sqI b ps)) [P3] := (call2 rfl rfl).trans g1
  have c4 : eCallD 3 F_may_know (aCons (eVar 3) (aCons (eVar 5) (aCons (eCallD 2 F__law_given (aCons (eVar 1) (aCons (eVar 11) aNil))) aNil))) (Λ1 m G D handed s o2 o9 o10 o14 o15 o16 (some (.d (row ps))) o12) [P2] = .ok (.d (.bool (knows G ps))) [P3] := (call3 rfl rfl c3).trans tk
  have c5 : eCallD 2 F__law_knows (aCons (eVar 4) (aCons (eVar 11) aNil)) (Λ1 m G D handed s o2 o9 o10 o14 o15 o16 (some (.d (row ps))) o12) [P3] = .ok (.d (.bool (knows G ps))) [P3] := (call2 rfl rfl).trans lk
  refine seq_if (S' := [P3]) ?_ ?_
  · rw [tNot_eq, tru_eq, call2 c4 c5, same_eq (x := .bool (knows G ps)) trivial [P3], bind_ok, tru_bool]
    rfl
  have c6 := others_eq (G := G) (D := D) (handed := handed) (s := s) (o2 := o2) (o9 := o9) (o10 := o10) (o14 := o14) (o15 := o15) (o16 := o16) h8 ps o12 [P3]
  refine seq_set (Q1 := fun v S' => v = .d (sqI true (compl m ps)) ∧ S' = [P3]) (Out.Ret.of c6 ⟨rfl, rfl⟩) ?_
  rintro v S' ⟨rfl, rfl⟩
  show (fIf _ _ _ (Λ1 m G D handed s o2 o9 o10 o14 o15 o16 (some (.d (row ps))) (some (.d (sqI true (compl m ps))))) [P3]).Ret _
  have hco : Ppl m (compl m ps) := ⟨Asc.nodup ((asc_rng 0 m).sublist List.filter_sublist), fun e he => (mem_compl.mp he).1⟩
  have t1 := may_eq (told_rows h1 h8 hD [P3]) (b := true) (xs := compl m ps) (are_people true hco (by have := hco.len; omega) [P3])
  have t2 := may_eq (told_rows h1 h8 hG [P3]) (b := false) (xs := ps) (are_people false hps hpl [P3])
  rw [knows_perm hp, dual_compl (fun f hf => (hG.fnd.fam.ok f hf).2) ps] at t1
  have c7 : eCallD 3 F_may_know (aCons (eVar 3) (aCons (eVar 8) (aCons (eVar 12) aNil))) (Λ1 m G D handed s o2 o9 o10 o14 o15 o16 (some (.d (row ps))) (some (.d (sqI true (compl m ps))))) [P3] = .ok (.d (.bool (!knows G ps))) [P3] := (call3 rfl rfl rfl).trans t1
  have c8 : eCallD 3 F_may_know (aCons (eVar 3) (aCons (eVar 4) (aCons (eVar 11) aNil))) (Λ1 m G D handed s o2 o9 o10 o14 o15 o16 (some (.d (row ps))) (some (.d (sqI true (compl m ps))))) [P3] = .ok (.d (.bool (knows G ps))) [P3] := (call3 rfl rfl rfl).trans t2
  have c9 : ((!knows G ps) == knows G ps) = false := by cases knows G ps <;> rfl
  rw [fIf_eq, tst_eq, eBin_eq, c7, bind_ok, c8, bind_ok, eq_bools, bind_ok, c9, sB_ok, if_neg Bool.false_ne_true, fNil_eq, Ret_ok]
  exact ⟨_, _, P3, rfl, rfl, w1⟩
theorem turns4 (h1 : 1 ≤ m) (h8 : m ≤ 8) (hG : Good m G) (hD : Good m D) (hp : D.Perm (dual m G)) (ht : ∀ S, F_told_sets [.d (.int m), .d handed] S = .ok (.d (rowsL G)) S) (P : MO) (hP : PoolOk P) (o11 o12 : Option SV) :
    (L_law_1 (Λ1 m G D handed s o2 o9 o10 o14 o15 o16 o11 o12) [P]).Ret fun fl S' => ∃ p10 o11' o12' P', fl = .nx (Λ1 m G D handed s o2 o9 p10 o14 o15 o16 o11' o12') ∧ S' = [P'] ∧ PoolOk P' := by
  unfold L_law_1
  have e0 := iRg_ok (f := eC (.int 4)) (Γ := Λ1 m G D handed s o2 o9 o10 o14 o15 o16 o11 o12) (S := [P]) (n := 4) rfl (by omega)
  rw [fFor_eq e0]
  refine forL_ret (fun _ Γ S' => ∃ p10 o11' o12' P', Γ = Λ1 m G D handed s o2 o9 p10 o14 o15 o16 o11' o12' ∧ S' = [P'] ∧ PoolOk P') _ (fun _ _ _ _ => rfl) (fun Γ S' h => ?_) (fun d ds Γ S' h => ?_) _ _ _ ⟨o10, o11, o12, P, rfl, rfl, hP⟩
  · obtain ⟨p10, a, b, P', rfl, rfl, h⟩ := h
    exact ⟨p10, a, b, P', rfl, rfl, h⟩
  · obtain ⟨p10, a, b, P', rfl, rfl, h⟩ := h
    rw [gNm_eq]
    refine Out.Ret.of rfl ?_
    refine (turn4 (o10 := some (.d d)) h1 h8 hG hD hp ht P' h a b).imp ?_
    rintro fl S2 ⟨a', b', P2, rfl, rfl, u⟩
    exact ⟨_, a', b', P2, rfl, rfl, u⟩
end
end G85
/-! S14: how the sets are handed. -/
namespace G85
open PySem L2 DL StrA
/-- [xs[k] for k in order] -/
theorem perm_ix : ∀ {α : Type} [Inhabited α] (xs : List α) (ks : List Int), ks.Perm (rngI 0 (xs.length : Nat)) → (ks.map fun k => xs.getD k.toNat default).Perm xs := by
  intro α _ xs ks h
  have p := h.map fun k => xs.getD k.toNat default
  refine p.trans ?_
  have : (rngI 0 (xs.length : Nat)).map (fun k => xs.getD k.toNat default) = xs := by
    unfold rngI
    rw [List.map_map]
    refine List.ext_getElem? fun i => ?_
    rw [List.getElem?_map]
    by_cases hi : i < xs.length
    · rw [List.getElem?_range (by omega)]
      simp [List.getD, hi]
    · rw [List.getElem?_eq_none (by simp; omega), List.getElem?_eq_none (by omega)]; rfl
  rw [this]
theorem ix_rows {G : List (List Int)} {k : Int} (h : k ∈ rngI 0 (G.length : Nat)) (S : Store) : ixS (.d (rowsL G)) (.d (.int k)) S = .ok (.d (row (G.getD k.toNat default))) S := by
  rw [mem_rngI] at h
  refine ix_l S ?_
  obtain ⟨i, rfl⟩ : ∃ i : Nat, k = i := ⟨k.toNat, by omega⟩
  refine ix_nat ?_
  have hi : i < G.length := by omega
  rw [List.getElem?_map, List.getElem?_eq_getElem hi]
  simp [List.getD, hi]
theorem ix_row {xs : List Int} {k : Int} (h : k ∈ rngI 0 (xs.length : Nat)) (S : Store) : ixS (.d (row xs)) (.d (.int k)) S = .ok (.d (.int (xs.getD k.toNat default))) S := by
  rw [mem_rngI] at h
  refine ix_t S ?_
  obtain ⟨i, rfl⟩ : ∃ i : Nat, k = i := ⟨k.toNat, by omega⟩
  refine ix_nat ?_
  have hi : i < xs.length := by omega
  rw [List.getElem?_map, List.getElem?_eq_getElem hi]
  simp [List.getD, hi]
abbrev Λ2 (m : Nat) (G : List (List Int)) (s : SV) (o2 o5 o6 o7 o8 o9 o10 o11 o12 o14 o15 o16 : Option SV) : Ev := [some s, some (.cell 0), o2, some (.d (.int m)), some (.d (rowsL G)), o5, o6, o7, o8, o9, o10, o11, o12, none, o14, o15, o16]
section
variable {m : Nat} {G : List (List Int)} {s : SV} {o2 o5 o8 o9 o10 o11 o12 o14 o15 o16 : Option SV}
theorem perm_rows (hl : G.length ≤ 70) (o6 o7 : Option SV) (P : MO) (hP : PoolOk P) : (C_law_1 (Λ2 m G s o2 o5 o6 o7 o8 o9 o10 o11 o12 o14 o15 o16) [P]).Ret fun v S' => ∃ G' P', v = .d (rowsL G') ∧ S' = [P'] ∧ PoolOk P' ∧ G'.Perm G := by
  obtain ⟨v, S', e1, ks, P1, rfl, rfl, u1, u2⟩ := (order_ok P hP G.length (by omega)).ok
  have c1 : eCallD 2 F__law_order (aCons (eVar 1) (aCons (eCall lenS (aCons (eVar 4) aNil)) aNil)) (Λ2 m G s o2 o5 o6 o7 o8 o9 o10 o11 o12 o14 o15 o16) [P] = .ok (.d (row ks)) [P1] := by
    have c0 : eCall lenS (aCons (eVar 4) aNil) (Λ2 m G s o2 o5 o6 o7 o8 o9 o10 o11 o12 o14 o15 o16) [P] = .ok (.d (.int (G.length : Nat))) [P] := by
      have e : aCons (eVar 4) aNil (Λ2 m G s o2 o5 o6 o7 o8 o9 o10 o11 o12 o14 o15 o16) [P] = .ok [.d (rowsL G)] [P] := rfl
      rw [eCall_eq, e, bind_ok, len_l, List.length_map]
    exact (call2 rfl c0).trans e1
  have e0 : iSrc (eCallD 2 F__law_order (aCons (eVar 1) (aCons (eCall lenS (aCons (eVar 4) aNil)) aNil))) (Λ2 m G s o2 o5 o6 o7 o8 o9 o10 o11 o12 o14 o15 o16) [P] = .ok ⟨ks.map .int, fun _ => true⟩ [P1] := by
    rw [iSrc_eq, c1, bind_ok]; rfl
  have hc : C_law_1 (Λ2 m G s o2 o5 o6 o7 o8 o9 o10 o11 o12 o14 o15 o16) [P] = .ok (.d (rowsL (ks.map fun k => G.getD k.toNat default))) [P1] := by
    unfold C_law_1
    rw [eLc_eq e0, lcL_g .int (fun k => row (G.getD k.toNat default)) rfl, bind_ok, finF_eq]
    · unfold rowsL
      rw [List.map_map]; rfl
    · intro k hk
      refine ⟨_, gNm_eq _ _ _ _, ?_⟩
      exact ix_rows (u2.mem_iff.mp hk) [P1]
  exact Out.Ret.of hc ⟨_, P1, rfl, rfl, u1, perm_ix G ks u2⟩
theorem perm_ints (xs : List Int) (hl : xs.length ≤ 100) (o6 : Option SV) (P : MO) (hP : PoolOk P) : (C_law_2 (Λ2 m G s o2 o5 o6 (some (.d (row xs))) o8 o9 o10 o11 o12 o14 o15 o16) [P]).Ret fun v S' => ∃ ys P', v = .d (sqI true ys) ∧ S' = [P'] ∧ PoolOk P' ∧ ys.Perm xs := by
  obtain ⟨v, S', e1, ks, P1, rfl, rfl, u1, u2⟩ := (order_ok P hP xs.length (by omega)).ok
  have c1 : eCallD 2 F__law_order (aCons (eVar 1) (aCons (eCall lenS (aCons (eVar 7) aNil)) aNil)) (Λ2 m G s o2 o5 o6 (some (.d (row xs))) o8 o9 o10 o11 o12 o14 o15 o16) [P] = .ok (.d (row ks)) [P1] := by
    have c0 : eCall lenS (aCons (eVar 7) aNil) (Λ2 m G s o2 o5 o6 (some (.d (row xs))) o8 o9 o10 o11 o12 o14 o15 o16) [P] = .ok (.d (.int (xs.length : Nat))) [P] := by
      have e : aCons (eVar 7) aNil (Λ2 m G s o2 o5 o6 (some (.d (row xs))) o8 o9 o10 o11 o12 o14 o15 o16) [P] = .ok [.d (row xs)] [P] := rfl
      rw [eCall_eq, e, bind_ok]
      unfold row
      rw [len_t, List.length_map]
    exact (call2 rfl c0).trans e1
  have e0 : iSrc (eCallD 2 F__law_order (aCons (eVar 1) (aCons (eCall lenS (aCons (eVar 7) aNil)) aNil))) (Λ2 m G s o2 o5 o6 (some (.d (row xs))) o8 o9 o10 o11 o12 o14 o15 o16) [P] = .ok ⟨ks.map .int, fun _ => true⟩ [P1] := by
    rw [iSrc_eq, c1, bind_ok]; rfl
  have hc : C_law_2 (Λ2 m G s o2 o5 o6 (some (.d (row xs))) o8 o9 o10 o11 o12 o14 o15 o16) [P] = .ok (.d (sqI true (ks.map fun k => xs.getD k.toNat default))) [P1] := by
    unfold C_law_2
    rw [eLc_eq e0, lcL_g .int (fun k => .int (xs.getD k.toNat default)) rfl, bind_ok, finF_eq]
    · show _ = Out.ok (SV.d (.list ((ks.map fun k => xs.getD k.toNat default).map PyData.int))) [P1]
      rw [List.map_map]; rfl
    · intro k hk
      refine ⟨_, gNm_eq _ _ _ _, ?_⟩
      exact ix_row (u2.mem_iff.mp hk) [P1]
  exact Out.Ret.of hc ⟨_, P1, rfl, rfl, u1, perm_ix xs ks u2⟩
theorem handed_one (g : List Int) (hg : Asc g) (hgl : g.length ≤ 100) (o6 : Option SV) (P : MO) (hP : PoolOk P) : (E_law_3 (Λ2 m G s o2 o5 o6 (some (.d (row g))) o8 o9 o10 o11 o12 o14 o15 o16) [P]).Ret fun v S' => ∃ (p : Bool × List Int) (P' : MO), v = .d (hnd p) ∧ S' = [P'] ∧ PoolOk P' ∧ p.2.Perm g := by
  obtain ⟨v, S', e1, ys, P1, rfl, rfl, u1, u2⟩ := (perm_ints (m := m) (G := G) (s := s) (o2 := o2) (o5 := o5) (o8 := o8) (o9 := o9) (o10 := o10) (o11 := o11) (o12 := o12) (o14 := o14) (o15 := o15) (o16 := o16) g hgl o6 P hP).ok
  obtain ⟨v, S', e2, b, P2, rfl, rfl, v1⟩ := (given_ok P1 (ys.map .int) [] u1).ok
  have hev : E_law_3 (Λ2 m G s o2 o5 o6 (some (.d (row g))) o8 o9 o10 o11 o12 o14 o15 o16) [P] = .ok (.d (sqI b ys)) [P2] := by
    unfold E_law_3
    rw [call2 (a := .cell 0) (S1 := [P]) rfl e1]
    exact e2
  exact Out.Ret.of hev ⟨(b, ys), P2, rfl, rfl, v1, u2⟩
/-- the comprehension over the rows -/
theorem lc_rows {gf : GF} {ef : EF} {vs : List Nat} {Γ : Ev} (G' : List (List Int)) (k : ∀ g ∈ G', ∀ P, PoolOk P → ∃ Γ1, gf (.d (row g)) (wipeE Γ vs) [P] = .ok Γ1 [P] ∧ (ef Γ1 [P]).Ret fun v S' => ∃ (p : Bool × List Int) (P' : MO), v = .d (hnd p) ∧ S' = [P'] ∧ PoolOk P' ∧ p.2.Perm g) (ha : ∀ g ∈ G', Asc g) : ∀ (P : MO), PoolOk P →
    (lcL (fun _ => true) gf tYesF ef vs Γ (G'.map row) [P]).Ret fun ys S' => ∃ (rows : List (Bool × List Int)) (P' : MO), ys = rows.map hnd ∧ S' = [P'] ∧ PoolOk P' ∧ (rows.map fun p => ascI p.2) = G' ∧ ∀ p ∈ rows, ∃ g ∈ G', p.2.Perm g := by
  induction G' with
  | nil =>
    intro P hP
    have e : lcL (fun _ => true) gf tYesF ef vs Γ (([] : List (List Int)).map row) [P] = .ok [] [P] := rfl
    exact Out.Ret.of e ⟨[], P, rfl, rfl, hP, rfl, fun p hp => absurd hp List.not_mem_nil⟩
  | cons g G' ih =>
    intro P hP
    obtain ⟨Γ1, h1, h2⟩ := k g List.mem_cons_self P hP
    obtain ⟨v, S', e2, p, P2, rfl, rfl, v1, v2⟩ := h2.ok
    obtain ⟨zs, S', e3, rows, P3, rfl, rfl, w1, w2, w3⟩ := (ih (fun x hx => k x (List.mem_cons_of_mem _ hx)) (fun x hx => ha x (List.mem_cons_of_mem _ hx)) P2 v1).ok
    have hfin : lcL (fun _ => true) gf tYesF ef vs Γ ((g :: G').map row) [P] = .ok ((p :: rows).map hnd) [P3] := by
      rw [List.map_cons, List.map_cons]
      unfold lcL
      rw [if_pos rfl]
      simp only [h1, tYes_eq, e2, e3, bind_ok]
    refine Out.Ret.of hfin ⟨p :: rows, P3, rfl, rfl, w1, ?_, fun q hq => ?_⟩
    · rw [List.map_cons, w2, asc_eq v2 (ha g List.mem_cons_self)]
    · rcases List.mem_cons.mp hq with rfl | hq
      · exact ⟨g, List.mem_cons_self, v2⟩
      · obtain ⟨x, hx, px⟩ := w3 q hq
        exact ⟨x, List.mem_cons_of_mem _ hx, px⟩
theorem handed_ok (h8 : m ≤ 8) (hG : Good m G) (o6 o7 : Option SV) (P : MO) (hP : PoolOk P) : (C_law_3 (Λ2 m G s o2 o5 o6 o7 o8 o9 o10 o11 o12 o14 o15 o16) [P]).Ret fun v S' => ∃ (rows : List (Bool × List Int)) (P' : MO), v = .d (.list (rows.map hnd)) ∧ S' = [P'] ∧ PoolOk P' ∧ (rows.map fun p => ascI p.2).Perm G ∧ ∀ p ∈ rows, Ppl m p.2 ∧ p.2 ≠ [] := by
  obtain ⟨v, S', e1, G', P1, rfl, rfl, u1, u2⟩ := (perm_rows (m := m) (s := s) (o2 := o2) (o5 := o5) (o8 := o8) (o9 := o9) (o10 := o10) (o11 := o11) (o12 := o12) (o14 := o14) (o15 := o15) (o16 := o16) hG.len o6 o7 P hP).ok
  have e0 : iSrc C_law_1 (Λ2 m G s o2 o5 o6 o7 o8 o9 o10 o11 o12 o14 o15 o16) [P] = .ok ⟨G'.map row, fun _ => true⟩ [P1] := by
    rw [iSrc_eq, e1, bind_ok]; rfl
  have hm : ∀ g ∈ G', (Asc g ∧ ∀ e ∈ g, 0 ≤ e ∧ e < (m : Int)) ∧ g ≠ [] := fun g hg => ⟨hG.fnd.fam.ok g (u2.mem_iff.mp hg), hG.fnd.ne g (u2.mem_iff.mp hg)⟩
  obtain ⟨ys, S', e2, rows, P2, rfl, rfl, v1, v2, v3⟩ := (lc_rows (gf := gNm 7) (ef := E_law_3) (vs := [7]) (Γ := Λ2 m G s o2 o5 o6 o7 o8 o9 o10 o11 o12 o14 o15 o16) G' (fun g hg P hP => ⟨_, gNm_eq _ _ _ _, handed_one g (hm g hg).1.1 (by
    have := (Ppl.mk (m := m) (hm g hg).1.1.nodup (hm g hg).1.2).len
    omega) o6 P hP⟩) (fun g hg => (hm g hg).1.1) P1 u1).ok
  have hc : C_law_3 (Λ2 m G s o2 o5 o6 o7 o8 o9 o10 o11 o12 o14 o15 o16) [P] = .ok (.d (.list (rows.map hnd))) [P2] := by
    unfold C_law_3
    rw [eLc_eq e0, e2, bind_ok, finF_eq]
  refine Out.Ret.of hc ⟨rows, P2, rfl, rfl, v1, by rw [v2]; exact u2, fun p hp => ?_⟩
  obtain ⟨g, hg, pg⟩ := v3 p hp
  obtain ⟨⟨k1, k2⟩, k3⟩ := hm g hg
  refine ⟨⟨pg.nodup_iff.mpr k1.nodup, fun e he => k2 e (pg.mem_iff.mp he)⟩, fun z => k3 ?_⟩
  rw [z] at pg
  exact pg.symm.eq_nil
end
end G85
/-! S15: what is refused. -/
namespace G85
open PySem L2 DL StrA
abbrev ref (w : Str) : PyData := .tuple [.str "refused", .str w, .bool true]
abbrev odds : List PyData := [.int 0, .int 9, .none, .bool true, .str "3", .int (-1)]
abbrev oddr (m : Nat) : List PyData := [.none, .tuple [], .int 5, .list [.none], .list [.tuple []], .list [.tuple [.int m]], .list [.tuple [.int 0, .bool true]], .list [.tuple [.int (-1)]], .list [.str "0"], .dict []]
abbrev oddp (m : Nat) : List PyData := [.none, .tuple [.int m], .tuple [.int (-1)], .tuple [.bool true], .str "0", .tuple [.none], .int 5]
theorem odd_told (P : MO) : ∀ x ∈ odds, F__law_told [.d x, .d .none] [P] = .ok (.d (ref "people")) [P] := by
  intro x hx
  simp only [odds, List.mem_cons, List.not_mem_nil, or_false] at hx
  rcases hx with rfl | rfl | rfl | rfl | rfl | rfl <;> kernel_rfl
theorem up18 {m : Nat} (h1 : 1 ≤ m) (h : m ≤ 8) : m = 1 ∨ m = 2 ∨ m = 3 ∨ m = 4 ∨ m = 5 ∨ m = 6 ∨ m = 7 ∨ m = 8 := by omega
theorem rows_told {m : Nat} (h1 : 1 ≤ m) (h8 : m ≤ 8) (P : MO) : ∀ x ∈ oddr m, F__law_told [.d (.int m), .d x] [P] = .ok (.d (ref "sets")) [P] := by
  intro x hx
  simp only [oddr, List.mem_cons, List.not_mem_nil, or_false] at hx
  rcases up18 h1 h8 with rfl | rfl | rfl | rfl | rfl | rfl | rfl | rfl <;> rcases hx with rfl | rfl | rfl | rfl | rfl | rfl | rfl | rfl | rfl | rfl <;> kernel_rfl
theorem bad_people {m : Nat} (h1 : 1 ≤ m) (h8 : m ≤ 8) (P : MO) : ∀ x ∈ oddp m, F_are_people [.d x, .d (.int m)] [P] = .ok (.d (.bool false)) [P] := by
  intro x hx
  simp only [oddp, List.mem_cons, List.not_mem_nil, or_false] at hx
  rcases up18 h1 h8 with rfl | rfl | rfl | rfl | rfl | rfl | rfl | rfl <;> rcases hx with rfl | rfl | rfl | rfl | rfl | rfl | rfl <;> kernel_rfl
theorem same_two (P : MO) : F__law_same [.d (.tuple [ref "people", ref "sets"]), .d (.tuple [ref "people", ref "sets"])] [P] = .ok (.d (.bool true)) [P] := by kernel_rfl
theorem same_one (P : MO) : F__law_same [.d (ref "within"), .d (ref "within")] [P] = .ok (.d (.bool true)) [P] := by kernel_rfl
theorem again_no {m : Nat} (h1 : 1 ≤ m) (h8 : m ≤ 8) {G : List (List Int)} (hG : Good m G) (hl : G.length ≤ 6) {g : List Int} (hg : g ∈ G) (S : Store) : F__law_told [.d (.int m), .d (rowsL (G ++ [g]))] S = .ok (.d (ref "within")) S := by
  have hm : ∀ x ∈ G ++ [g], x ∈ G := fun x hx => by
    rcases List.mem_append.mp hx with hx | hx
    · exact hx
    · rw [List.mem_singleton.mp hx]; exact hg
  have ha := plain_asc (m := m) (G := G ++ [g]) fun x hx => (hG.fnd.fam.ok x (hm x hx)).1
  have hR : Rows m ((G ++ [g]).map fun g => ((false, g) : Bool × List Int)) := ⟨h1, h8, by
    simp only [List.length_map, List.length_append, List.length_cons, List.length_nil]; omega, by
    simp only [List.length_map, List.length_append, List.length_cons, List.length_nil]; omega, fun p hp => by
    obtain ⟨x, hx, rfl⟩ := List.mem_map.mp hp
    exact ⟨⟨(hG.fnd.fam.ok x (hm x hx)).1.nodup, (hG.fnd.fam.ok x (hm x hx)).2⟩, hG.fnd.ne x (hm x hx)⟩⟩
  obtain ⟨i, hi, rfl⟩ := List.getElem_of_mem hg
  have e := told_no true hR (by
    rw [ha]
    refine ⟨(G[i], i), ?_, ?_⟩
    · rw [List.mem_zipIdx_iff_getElem?]
      show (G ++ [G[i]])[i]? = some G[i]
      rw [List.getElem?_append_left hi, List.getElem?_eq_getElem hi]
    · refine List.any_eq_true.mpr ⟨(G[i], G.length), List.mem_filter.mpr ⟨?_, decide_eq_true (show G.length ≠ i by omega)⟩, win_refl _⟩
      rw [List.mem_zipIdx_iff_getElem?]
      show (G ++ [G[i]])[G.length]? = some G[i]
      rw [List.getElem?_append_right (Nat.le_refl _), Nat.sub_self]; rfl) S
  rw [plain_hnd] at e
  exact least_no e
end G85
/-! S16: the law. -/
namespace G85
open PySem L2 DL StrA
theorem pool_ok (ns : List Int) (hn : ns.length ≤ 63) : ∃ P, PoolOk P ∧ F__law_pool [.scr ns] [] = .ok (.cell 0) [P] := by
  let f : Int → Int := fun c => if 0 ≤ c then 2 * c else -2 * c - 1
  refine ⟨.lst [.list ((ns.map f).map .int), .int 0, .int 0, .int 17], ⟨ns.map f, 0, 0, 17, rfl, by decide⟩, ?_⟩
  have hz : ns.length ≤ 16777216 := Nat.le_trans hn (by decide)
  have e0 : iSrc (eVar 0) [some (.scr ns), none] [] = .ok ⟨ns.map .int, fun _ => true⟩ [] := by
    have : srcS (.scr ns) [] = .ok ⟨ns.map .int, fun _ => true⟩ [] := by
      simp only [srcS]
      rw [if_pos hz]
    simp -implicitDefEqProofs only [iSrc_eq, fSeq_eq, seqK_nx, seqK_rt, seqK_bk, seqK_ct, seqK_ite, eVar_0, eVar_s, bind_ok, sB_ok, eC_eq, eBin_eq, eUn_eq, iOp0_eq, iCmp_eq, tst_eq, addI, negI, fSet_eq, fRet_eq, fExpr_eq, fIf_eq, fAsg_eq, fPar_eq, fNil_eq, fBreak_eq, fCont_eq, gNm_eq, gsNil_eq, gsCons_eq, aNil_eq, aCons_eq, eCall_eq, eCallD_eq, intS_eq, absS_eq, mmS_eq, len_l, len_t, list_l, list_t, tup_l, tup_t, finF_eq, finC_eq, allD_nil, allD_cons, eTup_eq, eLst_eq, eIf_eq, runD_eq, hand_rt, handF_d, take_self, srcS_l, srcS_t, iSrc_eq, iZip_eq, zip_l, iEnm_eq, enum_l, pix0, pix1, pix2, pix3, pset1, pset2, pset3, gSub_eq, tYes_eq, eAdd_eq, eSub_eq, eMul_eq, eDiv_eq, eMod_eq, ePow_eq, eXor_eq, eNeg_eq, eIx_eq, eqI_t, eqI_f, tNot_eq, tAnd_eq, tOr_eq, tru_eq, tru_bool, tru_int, tru_list, eAnd_eq, eNot_eq, isi_eq, asD_d, List.length_cons, List.length_nil, List.map_cons, List.map_nil, List.cons_append, List.nil_append, List.append_nil, List.set_cons_succ, List.set_cons_zero, List.replicate_succ, List.replicate_zero, Option.map_some, if_true, if_false, reduceIte, Nat.reduceAdd, Nat.reduceSub, Nat.reduceLeDiff, List.length_map, Nat.reduceEqDiff, Bool.false_eq_true, Bool.not_false, Bool.not_true, ne_eq, not_true_eq_false, not_false_eq_true, decide_true, decide_false, eq_self, hand_rt, decide_eq_true_eq, sl_l, eSl_eq, oNone_eq, oSome_eq, this]
  have e1 : C__law_pool_1 [some (.scr ns), none] [] = .ok (.d (.list ((ns.map f).map .int))) [] := by
    unfold C__law_pool_1
    let hh : PyData → PyData := fun d => match d with
      | .int c => .int (f c)
      | _ => .none
    rw [eLc_eq e0, lcL_map hh rfl]
    · rw [bind_ok, finF_eq, List.map_map, List.map_map]
      rfl
    · intro d m
      obtain ⟨c, _, rfl⟩ := List.mem_map.mp m
      refine ⟨_, rfl, ?_⟩
      have m1 : mulC 2 c = true := mulC_l (by decide) (by decide)
      have m2 : mulC (-2) c = true := mulC_l (by decide) (by decide)
      by_cases h0 : 0 ≤ c
      · simp -implicitDefEqProofs only [E__law_pool_1, wipeE, fSeq_eq, seqK_nx, seqK_rt, seqK_bk, seqK_ct, seqK_ite, eVar_0, eVar_s, bind_ok, sB_ok, eC_eq, eBin_eq, eUn_eq, iOp0_eq, iCmp_eq, tst_eq, addI, negI, fSet_eq, fRet_eq, fExpr_eq, fIf_eq, fAsg_eq, fPar_eq, fNil_eq, fBreak_eq, fCont_eq, gNm_eq, gsNil_eq, gsCons_eq, aNil_eq, aCons_eq, eCall_eq, eCallD_eq, intS_eq, absS_eq, mmS_eq, len_l, len_t, list_l, list_t, tup_l, tup_t, finF_eq, finC_eq, allD_nil, allD_cons, eTup_eq, eLst_eq, eIf_eq, runD_eq, hand_rt, handF_d, take_self, srcS_l, srcS_t, iSrc_eq, iZip_eq, zip_l, iEnm_eq, enum_l, pix0, pix1, pix2, pix3, pset1, pset2, pset3, gSub_eq, tYes_eq, eAdd_eq, eSub_eq, eMul_eq, eDiv_eq, eMod_eq, ePow_eq, eXor_eq, eNeg_eq, eIx_eq, eqI_t, eqI_f, tNot_eq, tAnd_eq, tOr_eq, tru_eq, tru_bool, tru_int, tru_list, eAnd_eq, eNot_eq, isi_eq, asD_d, List.length_cons, List.length_nil, List.map_cons, List.map_nil, List.cons_append, List.nil_append, List.append_nil, List.set_cons_succ, List.set_cons_zero, List.replicate_succ, List.replicate_zero, Option.map_some, if_true, if_false, reduceIte, Nat.reduceAdd, Nat.reduceSub, Nat.reduceLeDiff, List.length_map, Nat.reduceEqDiff, Bool.false_eq_true, Bool.not_false, Bool.not_true, ne_eq, not_true_eq_false, not_false_eq_true, decide_true, decide_false, eq_self, hand_rt, decide_eq_true_eq, sl_l, eSl_eq, oNone_eq, oSome_eq, h0, mulI _ _ m1]
        show Out.ok (SV.d (.int (2 * c))) [] = Out.ok (SV.d (.int (if 0 ≤ c then 2 * c else -2 * c - 1))) []
        rw [if_pos h0]
      · simp -implicitDefEqProofs only [E__law_pool_1, wipeE, fSeq_eq, seqK_nx, seqK_rt, seqK_bk, seqK_ct, seqK_ite, eVar_0, eVar_s, bind_ok, sB_ok, eC_eq, eBin_eq, eUn_eq, iOp0_eq, iCmp_eq, tst_eq, addI, negI, fSet_eq, fRet_eq, fExpr_eq, fIf_eq, fAsg_eq, fPar_eq, fNil_eq, fBreak_eq, fCont_eq, gNm_eq, gsNil_eq, gsCons_eq, aNil_eq, aCons_eq, eCall_eq, eCallD_eq, intS_eq, absS_eq, mmS_eq, len_l, len_t, list_l, list_t, tup_l, tup_t, finF_eq, finC_eq, allD_nil, allD_cons, eTup_eq, eLst_eq, eIf_eq, runD_eq, hand_rt, handF_d, take_self, srcS_l, srcS_t, iSrc_eq, iZip_eq, zip_l, iEnm_eq, enum_l, pix0, pix1, pix2, pix3, pset1, pset2, pset3, gSub_eq, tYes_eq, eAdd_eq, eSub_eq, eMul_eq, eDiv_eq, eMod_eq, ePow_eq, eXor_eq, eNeg_eq, eIx_eq, eqI_t, eqI_f, tNot_eq, tAnd_eq, tOr_eq, tru_eq, tru_bool, tru_int, tru_list, eAnd_eq, eNot_eq, isi_eq, asD_d, List.length_cons, List.length_nil, List.map_cons, List.map_nil, List.cons_append, List.nil_append, List.append_nil, List.set_cons_succ, List.set_cons_zero, List.replicate_succ, List.replicate_zero, Option.map_some, if_true, if_false, reduceIte, Nat.reduceAdd, Nat.reduceSub, Nat.reduceLeDiff, List.length_map, Nat.reduceEqDiff, Bool.false_eq_true, Bool.not_false, Bool.not_true, ne_eq, not_true_eq_false, not_false_eq_true, decide_true, decide_false, eq_self, hand_rt, decide_eq_true_eq, sl_l, eSl_eq, oNone_eq, oSome_eq, h0, mulI _ _ m2]
        show Out.ok (SV.d (.int (-2 * c - 1))) [] = Out.ok (SV.d (.int (if 0 ≤ c then 2 * c else -2 * c - 1))) []
        rw [if_neg h0]
  have hev : b__law_pool [some (.scr ns), none] [] = .ok (.rt (.cell 0)) [.lst [.list ((ns.map f).map .int), .int 0, .int 0, .int 17]] := by
    simp -implicitDefEqProofs only [b__law_pool, fSeq_eq, seqK_nx, seqK_rt, seqK_bk, seqK_ct, seqK_ite, eVar_0, eVar_s, bind_ok, sB_ok, eC_eq, eBin_eq, eUn_eq, iOp0_eq, iCmp_eq, tst_eq, addI, negI, fSet_eq, fRet_eq, fExpr_eq, fIf_eq, fAsg_eq, fPar_eq, fNil_eq, fBreak_eq, fCont_eq, gNm_eq, gsNil_eq, gsCons_eq, aNil_eq, aCons_eq, eCall_eq, eCallD_eq, intS_eq, absS_eq, mmS_eq, len_l, len_t, list_l, list_t, tup_l, tup_t, finF_eq, finC_eq, allD_nil, allD_cons, eTup_eq, eLst_eq, eIf_eq, runD_eq, hand_rt, handF_d, take_self, srcS_l, srcS_t, iSrc_eq, iZip_eq, zip_l, iEnm_eq, enum_l, pix0, pix1, pix2, pix3, pset1, pset2, pset3, gSub_eq, tYes_eq, eAdd_eq, eSub_eq, eMul_eq, eDiv_eq, eMod_eq, ePow_eq, eXor_eq, eNeg_eq, eIx_eq, eqI_t, eqI_f, tNot_eq, tAnd_eq, tOr_eq, tru_eq, tru_bool, tru_int, tru_list, eAnd_eq, eNot_eq, isi_eq, asD_d, List.length_cons, List.length_nil, List.map_cons, List.map_nil, List.cons_append, List.nil_append, List.append_nil, List.set_cons_succ, List.set_cons_zero, List.replicate_succ, List.replicate_zero, Option.map_some, if_true, if_false, reduceIte, Nat.reduceAdd, Nat.reduceSub, Nat.reduceLeDiff, List.length_map, Nat.reduceEqDiff, Bool.false_eq_true, Bool.not_false, Bool.not_true, ne_eq, not_true_eq_false, not_false_eq_true, decide_true, decide_false, eq_self, hand_rt, decide_eq_true_eq, sl_l, eSl_eq, oNone_eq, oSome_eq, e1]
  have : F__law_pool [.scr ns] [] = hand handC 0 (b__law_pool [some (.scr ns), none] []) := rfl
  rw [this, hev]
  rfl
theorem seq_loop {L rest : SF} {Γ : Ev} {S : Store} {Q1 Q : Fl → Store → Prop} (h : (L Γ S).Ret Q1) (k : ∀ fl S', Q1 fl S' → ∃ Γ', fl = .nx Γ' ∧ (rest Γ' S').Ret Q) : (fSeq L rest Γ S).Ret Q := by
  obtain ⟨fl, S', e, h1⟩ := h.ok
  obtain ⟨Γ', rfl, h2⟩ := k fl S' h1
  rw [fSeq_eq, e]
  exact h2
abbrev val (m : Nat) (G D : List (List Int)) : PyData := .tuple [.tuple (G.map row), .tuple (D.map row), .tuple (G.map row), .bool (joined m G)]
theorem pl_row {m : Nat} (h8 : m ≤ 8) {n : Nat} {g : List Int} (hg : Asc g ∧ ∀ e ∈ g, 0 ≤ e ∧ e < (m : Int)) : pl (n + 2) (row g) := by
  have := (Ppl.mk (m := m) hg.1.nodup hg.2).len
  refine ⟨fun x hx => ?_, by simp only [List.length_map]; omega⟩
  obtain ⟨i, _, rfl⟩ := List.mem_map.mp hx
  exact trivial
theorem pl_rows {m : Nat} (h8 : m ≤ 8) {n : Nat} {G : List (List Int)} (hG : Good m G) : pl (n + 3) (.tuple (G.map row)) := by
  have := hG.len
  refine ⟨fun x hx => ?_, by simp only [List.length_map]; omega⟩
  obtain ⟨g, hg, rfl⟩ := List.mem_map.mp hx
  exact pl_row h8 (hG.fnd.fam.ok g hg)
theorem pl_val {m : Nat} (h8 : m ≤ 8) {G D : List (List Int)} (hG : Good m G) (hD : Good m D) : pl 6 (val m G D) := by
  refine ⟨fun x hx => ?_, by simp⟩
  simp only [List.mem_cons, List.not_mem_nil, or_false] at hx
  rcases hx with rfl | rfl | rfl | rfl
  · exact pl_rows h8 hG
  · exact pl_rows h8 hD
  · exact pl_rows h8 hG
  · exact trivial
theorem tup4 {fa fb fc fd : EF} {Γ : Ev} {S : Store} {a b c d : PyData} (h1 : fa Γ S = .ok (.d a) S) (h2 : fb Γ S = .ok (.d b) S) (h3 : fc Γ S = .ok (.d c) S) (h4 : fd Γ S = .ok (.d d) S) : eTup (aCons fa (aCons fb (aCons fc (aCons fd aNil)))) Γ S = .ok (.d (.tuple [a, b, c, d])) S := by
  rw [eTup_eq, aCons_eq, h1, bind_ok, aCons_eq, h2, bind_ok, aCons_eq, h3, bind_ok, aCons_eq, h4, bind_ok, aNil_eq, bind_ok, bind_ok, bind_ok, bind_ok, bind_ok]
  rfl
theorem tup2 {fa fb : EF} {Γ : Ev} {S : Store} {a b : PyData} (h1 : fa Γ S = .ok (.d a) S) (h2 : fb Γ S = .ok (.d b) S) : eTup (aCons fa (aCons fb aNil)) Γ S = .ok (.d (.tuple [a, b])) S := by
  rw [eTup_eq, aCons_eq, h1, bind_ok, aCons_eq, h2, bind_ok, aNil_eq, bind_ok, bind_ok, bind_ok]
  rfl
theorem tup_of {fa : EF} {Γ : Ev} {S : Store} {F : List (List Int)} (h : fa Γ S = .ok (.d (rowsL F)) S) : eCall tupS (aCons fa aNil) Γ S = .ok (.d (.tuple (F.map row))) S := by
  rw [eCall_eq, aCons_eq, h, bind_ok, aNil_eq, bind_ok, bind_ok, tup_l]
theorem pick_one {fp fx : EF} {Γ : Ev} {P : MO} {xs : List PyData} (hP : PoolOk P) (h1 : fp Γ [P] = .ok (.cell 0) [P]) (h2 : fx Γ [P] = .ok (.d (.list xs)) [P]) (l1 : 0 < xs.length) (l2 : xs.length < 1000) : (eCallD 2 F__law_pick (aCons fp (aCons fx aNil)) Γ [P]).Ret fun v S' => ∃ x P', v = .d x ∧ x ∈ xs ∧ S' = [P'] ∧ PoolOk P' := by
  rw [call2 h1 h2]
  exact pick_ok P xs [] hP l1 l2
theorem m_ok (P : MO) (hP : PoolOk P) (Γ : Ev) (hΓ : eVar 1 Γ = fun S => .ok (.cell 0) S) : ((eAddF finF (eC (.int 1)) (eCallD 2 F__law_take (aCons (eVar 1) (aCons (eCallD 2 F__law_pick (aCons (eVar 1) (aCons (eLst finF (aCons (eC (.int 3)) (aCons (eC (.int 6)) (aCons (eC (.int 8)) aNil)))) aNil))) aNil)))) Γ [P]).Ret fun v S' => ∃ (m : Nat) (P' : MO), v = .d (.int m) ∧ S' = [P'] ∧ PoolOk P' ∧ 1 ≤ m ∧ m ≤ 8 := by
  have l : eLst finF (aCons (eC (.int 3)) (aCons (eC (.int 6)) (aCons (eC (.int 8)) aNil))) Γ [P] = .ok (.d (.list [.int 3, .int 6, .int 8])) [P] := by simp -implicitDefEqProofs only [fSeq_eq, seqK_nx, seqK_rt, seqK_bk, seqK_ct, seqK_ite, eVar_0, eVar_s, bind_ok, sB_ok, eC_eq, eBin_eq, eUn_eq, iOp0_eq, iCmp_eq, tst_eq, addI, negI, fSet_eq, fRet_eq, fExpr_eq, fIf_eq, fAsg_eq, fPar_eq, fNil_eq, fBreak_eq, fCont_eq, gNm_eq, gsNil_eq, gsCons_eq, aNil_eq, aCons_eq, eCall_eq, eCallD_eq, intS_eq, absS_eq, mmS_eq, len_l, len_t, list_l, list_t, tup_l, tup_t, finF_eq, finC_eq, allD_nil, allD_cons, eTup_eq, eLst_eq, eIf_eq, runD_eq, hand_rt, handF_d, take_self, srcS_l, srcS_t, iSrc_eq, iZip_eq, zip_l, iEnm_eq, enum_l, pix0, pix1, pix2, pix3, pset1, pset2, pset3, gSub_eq, tYes_eq, eAdd_eq, eSub_eq, eMul_eq, eDiv_eq, eMod_eq, ePow_eq, eXor_eq, eNeg_eq, eIx_eq, eqI_t, eqI_f, tNot_eq, tAnd_eq, tOr_eq, tru_eq, tru_bool, tru_int, tru_list, eAnd_eq, eNot_eq, isi_eq, asD_d, List.length_cons, List.length_nil, List.map_cons, List.map_nil, List.cons_append, List.nil_append, List.append_nil, List.set_cons_succ, List.set_cons_zero, List.replicate_succ, List.replicate_zero, Option.map_some, if_true, if_false, reduceIte, Nat.reduceAdd, Nat.reduceSub, Nat.reduceLeDiff, List.length_map, Nat.reduceEqDiff, Bool.false_eq_true, Bool.not_false, Bool.not_true, ne_eq, not_true_eq_false, not_false_eq_true, decide_true, decide_false, eq_self, hand_rt, decide_eq_true_eq, sl_l, eSl_eq, oNone_eq, oSome_eq]
  obtain ⟨v, S', e1, x, P1, rfl, hx, rfl, u1⟩ := (pick_one (fp := eVar 1) hP (by rw [hΓ]) l (by decide) (by decide)).ok
  obtain ⟨k, rfl, hk⟩ : ∃ k : Int, x = .int k ∧ 0 < k ∧ k ≤ 8 := by
    simp only [List.mem_cons, List.not_mem_nil, or_false] at hx
    rcases hx with rfl | rfl | rfl <;> exact ⟨_, rfl, by decide⟩
  obtain ⟨v, S', e2, d, P2, rfl, v1, v2, rfl, v3⟩ := (take_ok P1 k [] u1 hk.1 (by omega)).ok
  have e3 := call2 (F := F__law_take) (fa := eVar 1) (a := .cell 0) (S1 := [P]) (by rw [hΓ]) e1
  refine Out.Ret.of (a := .d (.int (1 + d))) (S := [P2]) ?_ ⟨(1 + d).toNat, P2, ?_, rfl, v3, by omega, by omega⟩
  · rw [eAdd_eq, eC_eq, bind_ok, e3, e2, bind_ok, addI]
  · rw [Int.toNat_of_nonneg (by omega)]
end G85
/-! S17: the law. -/
namespace G85
open PySem L2 DL StrA
abbrev Turn (s : SV) (Γ : Ev) : Prop := ∃ o2 o3 o4 o5 o8 o9 o10 o11 o12 o14 o15 o16, Γ = Λ s o2 o3 o4 o5 o8 o9 o10 o11 o12 o14 o15 o16
/-- the last questions of a turn -/
theorem tail_ok {m : Nat} (h1 : 1 ≤ m) (h8 : m ≤ 8) {G : List (List Int)} (hG : Good m G) (hl : G.length ≤ 6) (s : SV) (o2 o5 o8 o9 o10 o11 o12 o14 o15 o16 : Option SV) (P : MO) (hP : PoolOk P) :
    ((fSeq (fSet 14 (eCallD 2 F__law_pick (aCons (eVar 1) (aCons (eLst finF (aCons (eC (.int 0)) (aCons (eC (.int 9)) (aCons (eC .none) (aCons (eC (.bool true)) (aCons (eC (.str "3")) (aCons (eNeg (eC (.int 1))) aNil))))))) aNil))))
    (fSeq (fSet 15 (eCallD 2 F__law_pick (aCons (eVar 1) (aCons (eLst finF (aCons (eC .none) (aCons (eTup aNil) (aCons (eC (.int 5)) (aCons (eLst finF (aCons (eC .none) aNil)) (aCons (eLst finF (aCons (eTup aNil) aNil)) (aCons (eLst finF (aCons (eTup (aCons (eVar 3) aNil)) aNil)) (aCons (eLst finF (aCons (eTup (aCons (eC (.int 0)) (aCons (eC (.bool true)) aNil))) aNil)) (aCons (eLst finF (aCons (eTup (aCons (eNeg (eC (.int 1))) aNil)) aNil)) (aCons (eLst finF (aCons (eC (.str "0")) aNil)) (aCons (eC (.dict [])) aNil))))))))))) aNil))))
    (fSeq (fIf (tNotF (tru (eCallD 2 F__law_same (aCons (eTup (aCons (eCallD 2 F__law_told (aCons (eVar 14) (aCons (eC .none) aNil))) (aCons (eCallD 2 F__law_told (aCons (eVar 3) (aCons (eVar 15) aNil))) aNil))) (aCons (eTup (aCons (eTup (aCons (eC (.str "refused")) (aCons (eC (.str "people")) (aCons (eC (.bool true)) aNil)))) (aCons (eTup (aCons (eC (.str "refused")) (aCons (eC (.str "sets")) (aCons (eC (.bool true)) aNil)))) aNil))) aNil))))) (fRet (eC (.bool false))) fNil)
    (fSeq (fSet 16 (eAddF finF (eVar 4) (eLst finF (aCons (eCallD 2 F__law_pick (aCons (eVar 1) (aCons (eVar 4) aNil))) aNil))))
    (fIf (tOrF (tNotF (tru (eCallD 2 F__law_same (aCons (eCallD 2 F__law_told (aCons (eVar 3) (aCons (eVar 16) aNil))) (aCons (eTup (aCons (eC (.str "refused")) (aCons (eC (.str "within")) (aCons (eC (.bool true)) aNil)))) aNil))))) (tNotF (tru (eCallD 3 F__law_refuses (aCons (eVar 3) (aCons (eVar 4) (aCons (eCallD 2 F__law_pick (aCons (eVar 1) (aCons (eLst finF (aCons (eC .none) (aCons (eTup (aCons (eVar 3) aNil)) (aCons (eTup (aCons (eNeg (eC (.int 1))) aNil)) (aCons (eTup (aCons (eC (.bool true)) aNil)) (aCons (eC (.str "0")) (aCons (eTup (aCons (eC .none) aNil)) (aCons (eC (.int 5)) aNil)))))))) aNil))) aNil))))))) (fRet (eC (.bool false))) fNil)))))
    (Λ s o2 (some (.d (.int m))) (some (.d (rowsL G))) o5 o8 o9 o10 o11 o12 o14 o15 o16) [P]).Ret fun fl S' => ∃ Γ' P', fl = .nx Γ' ∧ Turn s Γ' ∧ S' = [P'] ∧ PoolOk P' := by
  have l0 : ∀ Γ, eLst finF (aCons (eC (.int 0)) (aCons (eC (.int 9)) (aCons (eC .none) (aCons (eC (.bool true)) (aCons (eC (.str "3")) (aCons (eNeg (eC (.int 1))) aNil)))))) Γ [P] = .ok (.d (.list odds)) [P] := fun Γ => by simp -implicitDefEqProofs only [fSeq_eq, seqK_nx, seqK_rt, seqK_bk, seqK_ct, seqK_ite, eVar_0, eVar_s, bind_ok, sB_ok, eC_eq, eBin_eq, eUn_eq, iOp0_eq, iCmp_eq, tst_eq, addI, negI, fSet_eq, fRet_eq, fExpr_eq, fIf_eq, fAsg_eq, fPar_eq, fNil_eq, fBreak_eq, fCont_eq, gNm_eq, gsNil_eq, gsCons_eq, aNil_eq, aCons_eq, eCall_eq, eCallD_eq, intS_eq, absS_eq, mmS_eq, len_l, len_t, list_l, list_t, tup_l, tup_t, finF_eq, finC_eq, allD_nil, allD_cons, eTup_eq, eLst_eq, eIf_eq, runD_eq, hand_rt, handF_d, take_self, srcS_l, srcS_t, iSrc_eq, iZip_eq, zip_l, iEnm_eq, enum_l, pix0, pix1, pix2, pix3, pset1, pset2, pset3, gSub_eq, tYes_eq, eAdd_eq, eSub_eq, eMul_eq, eDiv_eq, eMod_eq, ePow_eq, eXor_eq, eNeg_eq, eIx_eq, eqI_t, eqI_f, tNot_eq, tAnd_eq, tOr_eq, tru_eq, tru_bool, tru_int, tru_list, eAnd_eq, eNot_eq, isi_eq, asD_d, List.length_cons, List.length_nil, List.map_cons, List.map_nil, List.cons_append, List.nil_append, List.append_nil, List.set_cons_succ, List.set_cons_zero, List.replicate_succ, List.replicate_zero, Option.map_some, if_true, if_false, reduceIte, Nat.reduceAdd, Nat.reduceSub, Nat.reduceLeDiff, List.length_map, Nat.reduceEqDiff, Bool.false_eq_true, Bool.not_false, Bool.not_true, ne_eq, not_true_eq_false, not_false_eq_true, decide_true, decide_false, eq_self, hand_rt, decide_eq_true_eq, sl_l, eSl_eq, oNone_eq, oSome_eq]
  refine seq_set (pick_one (fp := eVar 1) hP rfl (l0 _) (by simp) (by simp)) ?_
  rintro v S' ⟨x, P1, rfl, hx, rfl, u1⟩
  show ((fSeq _ _) (Λ s o2 (some (.d (.int m))) (some (.d (rowsL G))) o5 o8 o9 o10 o11 o12 (some (.d x)) o15 o16) [P1]).Ret _
  have l1 : eLst finF (aCons (eC .none) (aCons (eTup aNil) (aCons (eC (.int 5)) (aCons (eLst finF (aCons (eC .none) aNil)) (aCons (eLst finF (aCons (eTup aNil) aNil)) (aCons (eLst finF (aCons (eTup (aCons (eVar 3) aNil)) aNil)) (aCons (eLst finF (aCons (eTup (aCons (eC (.int 0)) (aCons (eC (.bool true)) aNil))) aNil)) (aCons (eLst finF (aCons (eTup (aCons (eNeg (eC (.int 1))) aNil)) aNil)) (aCons (eLst finF (aCons (eC (.str "0")) aNil)) (aCons (eC (.dict [])) aNil)))))))))) (Λ s o2 (some (.d (.int m))) (some (.d (rowsL G))) o5 o8 o9 o10 o11 o12 (some (.d x)) o15 o16) [P1] = .ok (.d (.list (oddr m))) [P1] := by simp -implicitDefEqProofs only [fSeq_eq, seqK_nx, seqK_rt, seqK_bk, seqK_ct, seqK_ite, eVar_0, eVar_s, bind_ok, sB_ok, eC_eq, eBin_eq, eUn_eq, iOp0_eq, iCmp_eq, tst_eq, addI, negI, fSet_eq, fRet_eq, fExpr_eq, fIf_eq, fAsg_eq, fPar_eq, fNil_eq, fBreak_eq, fCont_eq, gNm_eq, gsNil_eq, gsCons_eq, aNil_eq, aCons_eq, eCall_eq, eCallD_eq, intS_eq, absS_eq, mmS_eq, len_l, len_t, list_l, list_t, tup_l, tup_t, finF_eq, finC_eq, allD_nil, allD_cons, eTup_eq, eLst_eq, eIf_eq, runD_eq, hand_rt, handF_d, take_self, srcS_l, srcS_t, iSrc_eq, iZip_eq, zip_l, iEnm_eq, enum_l, pix0, pix1, pix2, pix3, pset1, pset2, pset3, gSub_eq, tYes_eq, eAdd_eq, eSub_eq, eMul_eq, eDiv_eq, eMod_eq, ePow_eq, eXor_eq, eNeg_eq, eIx_eq, eqI_t, eqI_f, tNot_eq, tAnd_eq, tOr_eq, tru_eq, tru_bool, tru_int, tru_list, eAnd_eq, eNot_eq, isi_eq, asD_d, List.length_cons, List.length_nil, List.map_cons, List.map_nil, List.cons_append, List.nil_append, List.append_nil, List.set_cons_succ, List.set_cons_zero, List.replicate_succ, List.replicate_zero, Option.map_some, if_true, if_false, reduceIte, Nat.reduceAdd, Nat.reduceSub, Nat.reduceLeDiff, List.length_map, Nat.reduceEqDiff, Bool.false_eq_true, Bool.not_false, Bool.not_true, ne_eq, not_true_eq_false, not_false_eq_true, decide_true, decide_false, eq_self, hand_rt, decide_eq_true_eq, sl_l, eSl_eq, oNone_eq, oSome_eq, Nat.zero_le]
  refine seq_set (pick_one (fp := eVar 1) u1 rfl l1 (by simp) (by simp)) ?_
  rintro v S' ⟨y, P2, rfl, hy, rfl, u2⟩
  show ((fSeq _ _) (Λ s o2 (some (.d (.int m))) (some (.d (rowsL G))) o5 o8 o9 o10 o11 o12 (some (.d x)) (some (.d y)) o16) [P2]).Ret _
  have t1 : eCallD 2 F__law_told (aCons (eVar 14) (aCons (eC .none) aNil)) (Λ s o2 (some (.d (.int m))) (some (.d (rowsL G))) o5 o8 o9 o10 o11 o12 (some (.d x)) (some (.d y)) o16) [P2] = .ok (.d (ref "people")) [P2] := (call2 rfl rfl).trans (odd_told P2 x hx)
  have t2 : eCallD 2 F__law_told (aCons (eVar 3) (aCons (eVar 15) aNil)) (Λ s o2 (some (.d (.int m))) (some (.d (rowsL G))) o5 o8 o9 o10 o11 o12 (some (.d x)) (some (.d y)) o16) [P2] = .ok (.d (ref "sets")) [P2] := (call2 rfl rfl).trans (rows_told h1 h8 P2 y hy)
  have rf : ∀ (w : Str) (Γ : Ev) (S : Store), eTup (aCons (eC (.str "refused")) (aCons (eC (.str w)) (aCons (eC (.bool true)) aNil))) Γ S = .ok (.d (ref w)) S := fun w Γ S => by simp -implicitDefEqProofs only [fSeq_eq, seqK_nx, seqK_rt, seqK_bk, seqK_ct, seqK_ite, eVar_0, eVar_s, bind_ok, sB_ok, eC_eq, eBin_eq, eUn_eq, iOp0_eq, iCmp_eq, tst_eq, addI, negI, fSet_eq, fRet_eq, fExpr_eq, fIf_eq, fAsg_eq, fPar_eq, fNil_eq, fBreak_eq, fCont_eq, gNm_eq, gsNil_eq, gsCons_eq, aNil_eq, aCons_eq, eCall_eq, eCallD_eq, intS_eq, absS_eq, mmS_eq, len_l, len_t, list_l, list_t, tup_l, tup_t, finF_eq, finC_eq, allD_nil, allD_cons, eTup_eq, eLst_eq, eIf_eq, runD_eq, hand_rt, handF_d, take_self, srcS_l, srcS_t, iSrc_eq, iZip_eq, zip_l, iEnm_eq, enum_l, pix0, pix1, pix2, pix3, pset1, pset2, pset3, gSub_eq, tYes_eq, eAdd_eq, eSub_eq, eMul_eq, eDiv_eq, eMod_eq, ePow_eq, eXor_eq, eNeg_eq, eIx_eq, eqI_t, eqI_f, tNot_eq, tAnd_eq, tOr_eq, tru_eq, tru_bool, tru_int, tru_list, eAnd_eq, eNot_eq, isi_eq, asD_d, List.length_cons, List.length_nil, List.map_cons, List.map_nil, List.cons_append, List.nil_append, List.append_nil, List.set_cons_succ, List.set_cons_zero, List.replicate_succ, List.replicate_zero, Option.map_some, if_true, if_false, reduceIte, Nat.reduceAdd, Nat.reduceSub, Nat.reduceLeDiff, List.length_map, Nat.reduceEqDiff, Bool.false_eq_true, Bool.not_false, Bool.not_true, ne_eq, not_true_eq_false, not_false_eq_true, decide_true, decide_false, eq_self, hand_rt, decide_eq_true_eq, sl_l, eSl_eq, oNone_eq, oSome_eq]
  refine seq_if (S' := [P2]) ?_ ?_
  · rw [tNot_eq, tru_eq, call2 (tup2 t1 t2) (tup2 (rf _ _ _) (rf _ _ _)), same_two, bind_ok, tru_bool]
    rfl
  have hgl : 0 < (G.map row).length := by simp only [List.length_map]; exact List.length_pos_iff.mpr hG.ne
  obtain ⟨v, S', e3, z, P3, rfl, hz, rfl, u3⟩ := (pick_one (fp := eVar 1) (fx := eVar 4) (Γ := Λ s o2 (some (.d (.int m))) (some (.d (rowsL G))) o5 o8 o9 o10 o11 o12 (some (.d x)) (some (.d y)) o16) (xs := G.map row) u2 rfl rfl hgl (by simp only [List.length_map]; omega)).ok
  obtain ⟨g, hg, rfl⟩ := List.mem_map.mp hz
  have e4 : eAddF finF (eVar 4) (eLst finF (aCons (eCallD 2 F__law_pick (aCons (eVar 1) (aCons (eVar 4) aNil))) aNil)) (Λ s o2 (some (.d (.int m))) (some (.d (rowsL G))) o5 o8 o9 o10 o11 o12 (some (.d x)) (some (.d y)) o16) [P2] = .ok (.d (rowsL (G ++ [g]))) [P3] := by
    have e5 : eLst finF (aCons (eCallD 2 F__law_pick (aCons (eVar 1) (aCons (eVar 4) aNil))) aNil) (Λ s o2 (some (.d (.int m))) (some (.d (rowsL G))) o5 o8 o9 o10 o11 o12 (some (.d x)) (some (.d y)) o16) [P2] = .ok (.d (.list [row g])) [P3] := by
      rw [eLst_eq, aCons_eq, e3, bind_ok, aNil_eq, bind_ok, bind_ok]
      rfl
    rw [eAdd_eq, eVar_at (x := .d (rowsL G)) rfl, bind_ok, e5, bind_ok, add_ll _ _ _ (by simp only [List.length_map, List.length_cons, List.length_nil]; omega)]
    unfold rowsL
    rw [List.map_append]
    rfl
  refine seq_set (Q1 := fun v S' => v = .d (rowsL (G ++ [g])) ∧ S' = [P3]) (Out.Ret.of e4 ⟨rfl, rfl⟩) ?_
  rintro v S' ⟨rfl, rfl⟩
  show (fIf _ _ _ (Λ s o2 (some (.d (.int m))) (some (.d (rowsL G))) o5 o8 o9 o10 o11 o12 (some (.d x)) (some (.d y)) (some (.d (rowsL (G ++ [g]))))) [P3]).Ret _
  have t3 : eCallD 2 F__law_told (aCons (eVar 3) (aCons (eVar 16) aNil)) (Λ s o2 (some (.d (.int m))) (some (.d (rowsL G))) o5 o8 o9 o10 o11 o12 (some (.d x)) (some (.d y)) (some (.d (rowsL (G ++ [g]))))) [P3] = .ok (.d (ref "within")) [P3] := (call2 rfl rfl).trans (again_no h1 h8 hG hl hg [P3])
  have l2 : eLst finF (aCons (eC .none) (aCons (eTup (aCons (eVar 3) aNil)) (aCons (eTup (aCons (eNeg (eC (.int 1))) aNil)) (aCons (eTup (aCons (eC (.bool true)) aNil)) (aCons (eC (.str "0")) (aCons (eTup (aCons (eC .none) aNil)) (aCons (eC (.int 5)) aNil))))))) (Λ s o2 (some (.d (.int m))) (some (.d (rowsL G))) o5 o8 o9 o10 o11 o12 (some (.d x)) (some (.d y)) (some (.d (rowsL (G ++ [g]))))) [P3] = .ok (.d (.list (oddp m))) [P3] := by simp -implicitDefEqProofs only [fSeq_eq, seqK_nx, seqK_rt, seqK_bk, seqK_ct, seqK_ite, eVar_0, eVar_s, bind_ok, sB_ok, eC_eq, eBin_eq, eUn_eq, iOp0_eq, iCmp_eq, tst_eq, addI, negI, fSet_eq, fRet_eq, fExpr_eq, fIf_eq, fAsg_eq, fPar_eq, fNil_eq, fBreak_eq, fCont_eq, gNm_eq, gsNil_eq, gsCons_eq, aNil_eq, aCons_eq, eCall_eq, eCallD_eq, intS_eq, absS_eq, mmS_eq, len_l, len_t, list_l, list_t, tup_l, tup_t, finF_eq, finC_eq, allD_nil, allD_cons, eTup_eq, eLst_eq, eIf_eq, runD_eq, hand_rt, handF_d, take_self, srcS_l, srcS_t, iSrc_eq, iZip_eq, zip_l, iEnm_eq, enum_l, pix0, pix1, pix2, pix3, pset1, pset2, pset3, gSub_eq, tYes_eq, eAdd_eq, eSub_eq, eMul_eq, eDiv_eq, eMod_eq, ePow_eq, eXor_eq, eNeg_eq, eIx_eq, eqI_t, eqI_f, tNot_eq, tAnd_eq, tOr_eq, tru_eq, tru_bool, tru_int, tru_list, eAnd_eq, eNot_eq, isi_eq, asD_d, List.length_cons, List.length_nil, List.map_cons, List.map_nil, List.cons_append, List.nil_append, List.append_nil, List.set_cons_succ, List.set_cons_zero, List.replicate_succ, List.replicate_zero, Option.map_some, if_true, if_false, reduceIte, Nat.reduceAdd, Nat.reduceSub, Nat.reduceLeDiff, List.length_map, Nat.reduceEqDiff, Bool.false_eq_true, Bool.not_false, Bool.not_true, ne_eq, not_true_eq_false, not_false_eq_true, decide_true, decide_false, eq_self, hand_rt, decide_eq_true_eq, sl_l, eSl_eq, oNone_eq, oSome_eq]
  obtain ⟨v, S', e6, q, P4, rfl, hq, rfl, u4⟩ := (pick_one (fp := eVar 1) u3 (Γ := Λ s o2 (some (.d (.int m))) (some (.d (rowsL G))) o5 o8 o9 o10 o11 o12 (some (.d x)) (some (.d y)) (some (.d (rowsL (G ++ [g]))))) rfl l2 (by simp) (by simp)).ok
  have t4 := refuses_eq (may_no (told_rows h1 h8 hG [P4]) (bad_people h1 h8 P4 q hq))
  have t5 := (call3 (F := F__law_refuses) (fa := eVar 3) (fb := eVar 4) (Γ := Λ s o2 (some (.d (.int m))) (some (.d (rowsL G))) o5 o8 o9 o10 o11 o12 (some (.d x)) (some (.d y)) (some (.d (rowsL (G ++ [g]))))) (S := [P3]) (a := .d (.int m)) (b := .d (rowsL G)) (S1 := [P3]) (S2 := [P3]) rfl rfl e6).trans t4
  have ef : (tOrF (tNotF (tru (eCallD 2 F__law_same (aCons (eCallD 2 F__law_told (aCons (eVar 3) (aCons (eVar 16) aNil))) (aCons (eTup (aCons (eC (.str "refused")) (aCons (eC (.str "within")) (aCons (eC (.bool true)) aNil)))) aNil))))) (tNotF (tru (eCallD 3 F__law_refuses (aCons (eVar 3) (aCons (eVar 4) (aCons (eCallD 2 F__law_pick (aCons (eVar 1) (aCons (eLst finF (aCons (eC .none) (aCons (eTup (aCons (eVar 3) aNil)) (aCons (eTup (aCons (eNeg (eC (.int 1))) aNil)) (aCons (eTup (aCons (eC (.bool true)) aNil)) (aCons (eC (.str "0")) (aCons (eTup (aCons (eC .none) aNil)) (aCons (eC (.int 5)) aNil)))))))) aNil))) aNil))))))) (Λ s o2 (some (.d (.int m))) (some (.d (rowsL G))) o5 o8 o9 o10 o11 o12 (some (.d x)) (some (.d y)) (some (.d (rowsL (G ++ [g]))))) [P3] = .ok false [P4] := by
    rw [tOr_eq, tNot_eq, tru_eq, call2 t3 (rf "within" _ _), same_one, bind_ok, tru_bool]
    show (if (!true) = true then Out.ok true [P3] else _) = _
    rw [Bool.not_true, if_neg Bool.false_ne_true, tNot_eq, tru_eq, t5, bind_ok, tru_bool]
    rfl
  rw [fIf_eq, ef, sB_ok, if_neg Bool.false_ne_true, fNil_eq, Ret_ok]
  exact ⟨_, P4, rfl, ⟨_, _, _, _, _, _, _, _, _, _, _, _, rfl⟩, rfl, u4⟩
end G85
/-! S18: the law. -/
namespace G85
open PySem L2 DL StrA
theorem turn_ok (s : SV) (Γ : Ev) (hΓ : Turn s Γ) (P : MO) (hP : PoolOk P) : (B_law_2 Γ [P]).Ret fun fl S' => ∃ Γ' P', fl = .nx Γ' ∧ Turn s Γ' ∧ S' = [P'] ∧ PoolOk P' := by
  obtain ⟨o2, o3, o4, o5, o8, o9, o10, o11, o12, o14, o15, o16, rfl⟩ := hΓ
  unfold B_law_2
  refine seq_set (m_ok P hP _ (by funext S; rfl)) ?_
  rintro v S' ⟨m, P1, rfl, rfl, u1, h1, h8⟩
  show ((fSeq _ _) (Λ s o2 (some (.d (.int m))) o4 o5 o8 o9 o10 o11 o12 o14 o15 o16) [P1]).Ret _
  obtain ⟨v, S', e2, G, P2, rfl, rfl, u2, f1, f2, f3, f4⟩ := (structure_ok h1 h8 P1 u1).ok
  have hG : Good m G := ⟨f1, f2, by omega, f4⟩
  have c2 : eCallD 2 F__law_structure (aCons (eVar 1) (aCons (eVar 3) aNil)) (Λ s o2 (some (.d (.int m))) o4 o5 o8 o9 o10 o11 o12 o14 o15 o16) [P1] = .ok (.d (rowsL G)) [P2] := (call2 rfl rfl).trans e2
  refine seq_set (Q1 := fun v S' => v = .d (rowsL G) ∧ S' = [P2]) (Out.Ret.of c2 ⟨rfl, rfl⟩) ?_
  rintro v S' ⟨rfl, rfl⟩
  show ((fSeq _ _) (Λ2 m G s o2 o5 none none o8 o9 o10 o11 o12 o14 o15 o16) [P2]).Ret _
  refine seq_set (handed_ok h8 hG none none P2 u2) ?_
  rintro v S' ⟨rows, P3, rfl, rfl, u3, hp, hr⟩
  show ((fSeq _ _) (Λ s o2 (some (.d (.int m))) (some (.d (rowsL G))) (some (.d (.list (rows.map hnd)))) o8 o9 o10 o11 o12 o14 o15 o16) [P3]).Ret _
  obtain ⟨v, S', e3, b, P4, rfl, rfl, u4⟩ := (given_ok P3 (rows.map hnd) [] u3).ok
  have c3 : eCallD 2 F__law_given (aCons (eVar 1) (aCons (eVar 5) aNil)) (Λ s o2 (some (.d (.int m))) (some (.d (rowsL G))) (some (.d (.list (rows.map hnd)))) o8 o9 o10 o11 o12 o14 o15 o16) [P3] = .ok (.d (sq b (rows.map hnd))) [P4] := (call2 rfl rfl).trans e3
  refine seq_set (Q1 := fun v S' => v = .d (sq b (rows.map hnd)) ∧ S' = [P4]) (Out.Ret.of c3 ⟨rfl, rfl⟩) ?_
  rintro v S' ⟨rfl, rfl⟩
  show ((fSeq _ _) (Λ s o2 (some (.d (.int m))) (some (.d (rowsL G))) (some (.d (sq b (rows.map hnd)))) o8 o9 o10 o11 o12 o14 o15 o16) [P4]).Ret _
  have hRl : rows.length = G.length := by have := hp.length_eq; rwa [List.length_map] at this
  have hR : Rows m rows := ⟨h1, h8, by have := List.length_pos_iff.mpr f2; omega, by omega, hr⟩
  have ht : ∀ S, F_told_sets [.d (.int m), .d (sq b (rows.map hnd))] S = .ok (.d (rowsL G)) S := fun S => by
    have e := told_ok b hR (hG.fnd.fam.perm hp.symm).anti S
    rw [srt_rows hp, f4] at e
    exact e
  generalize sq b (rows.map hnd) = handed at ht ⊢
  obtain ⟨D, pD, hD⟩ := srt_is (dual m G)
  have gD : Good m D := ⟨⟨(least_fam m (meets G)).perm pD.symm, fun f hf => dual_mem_ne f2 f (pD.mem_iff.mp hf)⟩, fun z => by
    rw [z] at pD
    exact dual_ne (m := m) (F := G) (fun f hf => ⟨f1.ne f hf, (f1.fam.ok f hf).2⟩) pD.symm.eq_nil, by
    rw [pD.length_eq]; exact most h8 (least_fam m (meets G)), by rw [← hD]; exact srt_idem _⟩
  have c4 : eCallD 2 F__law_dual_sets (aCons (eVar 3) (aCons (eVar 4) aNil)) (Λ s o2 (some (.d (.int m))) (some (.d (rowsL G))) (some (.d handed)) o8 o9 o10 o11 o12 o14 o15 o16) [P4] = .ok (.d (rowsL D)) [P4] := by
    refine (call2 rfl rfl).trans ((ldual_eq h8 f2 [P4]).trans ?_)
    rw [hD]
  refine seq_set (Q1 := fun v S' => v = .d (rowsL D) ∧ S' = [P4]) (Out.Ret.of c4 ⟨rfl, rfl⟩) ?_
  rintro v S' ⟨rfl, rfl⟩
  show ((fSeq _ _) (Λ1 m G D handed s o2 o9 o10 o14 o15 o16 o11 o12) [P4]).Ret _
  have d1 := least_eq (ht [P4])
  have d2 := duals_eq (ht [P4]) h8 f2
  have d3 := duals_eq (told_rows h1 h8 gD [P4]) h8 gD.ne
  have d4 := isj_eq (ht [P4]) h8
  rw [hD] at d2
  rw [dual_perm pD, srt_rows (dual_dual f1.fam), f4] at d3
  have c5 : eTup (aCons (eCallD 2 F_least_sets (aCons (eVar 3) (aCons (eVar 5) aNil))) (aCons (eCallD 2 F_dual_sets (aCons (eVar 3) (aCons (eVar 5) aNil))) (aCons (eCallD 2 F_dual_sets (aCons (eVar 3) (aCons (eVar 8) aNil))) (aCons (eCallD 2 F_is_joined (aCons (eVar 3) (aCons (eVar 5) aNil))) aNil)))) (Λ1 m G D handed s o2 o9 o10 o14 o15 o16 o11 o12) [P4] = .ok (.d (val m G D)) [P4] :=
    tup4 ((call2 rfl rfl).trans d1) ((call2 rfl rfl).trans d2) ((call2 rfl rfl).trans d3) ((call2 rfl rfl).trans d4)
  refine seq_set (Q1 := fun v S' => v = .d (val m G D) ∧ S' = [P4]) (Out.Ret.of c5 ⟨rfl, rfl⟩) ?_
  rintro v S' ⟨rfl, rfl⟩
  show ((fSeq _ _) (Λ1 m G D handed s o2 (some (.d (val m G D))) o10 o14 o15 o16 o11 o12) [P4]).Ret _
  have c6 : eTup (aCons (eCall tupS (aCons (eVar 4) aNil)) (aCons (eCall tupS (aCons (eVar 8) aNil)) (aCons (eCall tupS (aCons (eVar 4) aNil)) (aCons (eCallD 2 F__law_is_joined (aCons (eVar 3) (aCons (eVar 4) aNil))) aNil)))) (Λ1 m G D handed s o2 (some (.d (val m G D))) o10 o14 o15 o16 o11 o12) [P4] = .ok (.d (val m G D)) [P4] :=
    tup4 (tup_of rfl) (tup_of rfl) (tup_of rfl) ((call2 rfl rfl).trans (ljoined_eq h8 G [P4]))
  refine seq_if (S' := [P4]) ?_ ?_
  · rw [tNot_eq, tru_eq, call2 (a := .d (val m G D)) (S1 := [P4]) rfl c6, same_eq (pl_val h8 hG gD) [P4], bind_ok, tru_bool]
    rfl
  refine seq_loop (turns4 h1 h8 hG gD pD ht P4 u4 o11 o12) ?_
  rintro fl S' ⟨p10, q11, q12, P5, rfl, rfl, u5⟩
  refine ⟨_, rfl, ?_⟩
  exact tail_ok h1 h8 hG f3 s o2 (some (.d handed)) (some (.d (rowsL D))) (some (.d (val m G D))) p10 q11 q12 o14 o15 o16 P5 u5
theorem law_true (ns : List Int) (hn : ns.length ≤ 63) : F_law [.scr ns] [] = .ok (.d (.bool true)) [] := by
  obtain ⟨P, hP, e1⟩ := pool_ok ns hn
  have e6 : eCall0 F__law_always (Λ (.scr ns) none none none none none none none none none none none none) [P] = .ok (.d (.bool true)) [P] := by
    unfold eCall0
    rw [always_eq]
  have hL : (L_law_2 (Λ (.scr ns) none none none none none none none none none none none none) [P]).Ret fun fl S' => ∃ Γ' P', fl = .nx Γ' ∧ Turn (.scr ns) Γ' ∧ S' = [P'] ∧ PoolOk P' := by
    unfold L_law_2
    have e0 := iRg_ok (f := eC (.int 3)) (Γ := Λ (.scr ns) none none none none none none none none none none none none) (S := [P]) (n := 3) rfl (by omega)
    rw [fFor_eq e0]
    refine forL_ret (fun _ Γ S' => Turn (.scr ns) Γ ∧ ∃ P', S' = [P'] ∧ PoolOk P') _ (fun _ _ _ _ => rfl) (fun Γ S' h => ?_) (fun d ds Γ S' h => ?_) _ _ _ ⟨⟨_, _, _, _, _, _, _, _, _, _, _, _, rfl⟩, P, rfl, hP⟩
    · obtain ⟨h1, P', rfl, h2⟩ := h
      exact ⟨Γ, P', rfl, h1, rfl, h2⟩
    · obtain ⟨⟨o2, o3, o4, o5, o8, o9, o10, o11, o12, o14, o15, o16, rfl⟩, P', rfl, h2⟩ := h
      rw [gNm_eq]
      refine Out.Ret.of rfl ?_
      refine (turn_ok (.scr ns) _ ⟨some (.d d), o3, o4, o5, o8, o9, o10, o11, o12, o14, o15, o16, rfl⟩ P' h2).imp ?_
      rintro fl S2 ⟨Γ', P2, rfl, k1, rfl, k2⟩
      exact ⟨k1, P2, rfl, k2⟩
  obtain ⟨fl, S', e5, Γ', P3, rfl, _, rfl, _⟩ := hL.ok
  have hev : b_law [some (.scr ns), none, none, none, none, none, none, none, none, none, none, none, none, none, none, none, none] [] = .ok (.rt (.d (.bool true))) [P3] := by
    unfold b_law
    have s1 : fSet 1 (eCallD 1 F__law_pool (aCons (eVar 0) aNil)) [some (.scr ns), none, none, none, none, none, none, none, none, none, none, none, none, none, none, none, none] [] = .ok (.nx (Λ (.scr ns) none none none none none none none none none none none none)) [P] := by
      rw [fSet_eq, call1 (a := .scr ns) (S1 := []) rfl, e1, sB_ok]
      rfl
    rw [fSeq_eq, s1, seqK_nx, fSeq_eq, fIf_eq, tNot_eq, tru_eq, e6, bind_ok, tru_bool]
    show seqK _ (fNil _ _) = _
    rw [fNil_eq, seqK_nx, fSeq_eq, e5, seqK_nx]
    rfl
  have : F_law [.scr ns] [] = hand handF 0 (b_law [some (.scr ns), none, none, none, none, none, none, none, none, none, none, none, none, none, none, none, none] []) := rfl
  rw [this, hev]
  rfl
end G85
open PySem PySem.W PyProof.Rows in
set_option maxRecDepth 100000 in
set_option maxHeartbeats 0 in
theorem PySem.Challenge.cw_matroidproved_k85_structures_holds : PySem.Challenge.rw_matroidproved_k85_structures.Holds := by
  w_on; o_law; k_head; (case hw => w_witness2)
  k_fill
  refine G85.walk G85.law_true (l := PySem.Challenge.rw_matroidproved_k85_structures) rfl rfl rfl (fun w h Y => PySem.W.kIn_of Y) ?T
  case T =>
    intro w mg h KX G
    refine ⟨?t, ?x⟩
    case t =>
      constructor
      case b_all => refine PySem.W.mg_none_of KX G ?a_1; (case a_1 => k_is)
      case b_any => refine PySem.W.mg_none_of KX G ?a_2; (case a_2 => k_is)
      case b_bool => refine PySem.W.mg_none_of KX G ?a_3; (case a_3 => k_is)
      case b_enumerate => refine PySem.W.mg_none_of KX G ?a_4; (case a_4 => k_is)
      case b_int => refine PySem.W.mg_none_of KX G ?a_5; (case a_5 => k_is)
      case b_isinstance => refine PySem.W.mg_none_of KX G ?a_6; (case a_6 => k_is)
      case b_len => refine PySem.W.mg_none_of KX G ?a_7; (case a_7 => k_is)
      case b_list => refine PySem.W.mg_none_of KX G ?a_8; (case a_8 => k_is)
      case b_range => refine PySem.W.mg_none_of KX G ?a_9; (case a_9 => k_is)
      case b_set => refine PySem.W.mg_none_of KX G ?a_10; (case a_10 => k_is)
      case b_sorted => refine PySem.W.mg_none_of KX G ?a_11; (case a_11 => k_is)
      case b_str => refine PySem.W.mg_none_of KX G ?a_12; (case a_12 => k_is)
      case b_tuple => refine PySem.W.mg_none_of KX G ?a_13; (case a_13 => k_is)
      case k_MOST_PEOPLE => refine' DL.konst 8 KX G ?a_14 ?b_14; (case a_14 => k_is); (case b_14 => kernel_rfl)
      case k_MOST_SETS => refine' DL.konst 8 KX G ?a_15 ?b_15; (case a_15 => k_is); (case b_15 => kernel_rfl)
      case e_BadPeople => refine' DL.ExX.of KX G ?a_16 ?q_16 ?k_16 ?s_16 ?t_16; (case a_16 => k_is); (case q_16 => k_exc); (case k_16 => k_is); (case s_16 => k_is); (case t_16 => k_is)
      case e_BadStructure =>
        refine' DL.ExI.of (st := G85.i_BadStructure) (n := "reason") ?P_17 KX G ?a_17 ?l_17 ?c_17 ?S_17 ?n_17 ?B_17 ?i_17 ?t_17 ?K_17 ?hb_17
        case a_17 => k_is
        case i_17 => k_is
        case l_17 => k_is
        case c_17 => k_is
        case t_17 => k_is
        case P_17 => exact ⟨by kernel_rfl, by kernel_rfl⟩
        case S_17 => exact ⟨rfl, rfl, rfl, by decide +kernel, by decide +kernel, by decide +kernel, by decide +kernel, by decide +kernel, ⟨_, rfl, rfl⟩, by decide +kernel⟩
        case n_17 => decide +kernel
        case B_17 => exact ⟨⟨_, _, _, _, _, _, _, _, _, _, rfl, rfl⟩⟩
        case hb_17 => exact fun us hl => match us, hl with | [_, _], _ => rfl
        case K_17 =>
          refine' DL.InK.of ?c1_17 ?c2_17 ?sa_17 ?ec_17 ?ty_17 ?kc_17 ?fs_17 ?ce_17 ?co_17 ?c3_17 ?c4_17 ?th_17 ?sp_17 ?up_17 ?ve_17 ?me_17
          case c1_17 => k_is
          case c2_17 => kernel_rfl
          case sa_17 => k_is
          case ec_17 => k_is
          case ty_17 => k_is
          case kc_17 => k_is
          case fs_17 => k_is
          case ce_17 => k_is
          case co_17 => k_is
          case c3_17 => rfl
          case c4_17 => kernel_rfl
          case th_17 => k_is
          case sp_17 => k_is
          case up_17 => kernel_rfl
          case ve_17 => k_is
          case me_17 => k_is
      case c_BadPeople => refine' DL.CatchX.of KX G ?a_18 ?s_18 ?h_18 ?t_18 (DL.AllC.cons' (PySem.W.mg_of KX G ?d0_18) ?f0_18 (DL.AllC.cons' (PySem.W.mg_of KX G ?d1_18) ?f1_18 trivial)); (case a_18 => k_is); (case s_18 => k_is); (case h_18 => k_is); (case t_18 => k_is); (case d0_18 => k_is); (case f0_18 => k_is); (case d1_18 => k_is); (case f1_18 => k_is)
      case c_BadStructure => refine' DL.CatchX.of KX G ?a_19 ?s_19 ?h_19 ?t_19 (DL.AllC.cons' (PySem.W.mg_of KX G ?d0_19) ?f0_19 (DL.AllC.cons' (PySem.W.mg_of KX G ?d1_19) ?f1_19 trivial)); (case a_19 => k_is); (case s_19 => k_is); (case h_19 => k_is); (case t_19 => k_is); (case d0_19 => k_is); (case f0_19 => k_is); (case d1_19 => k_is); (case f1_19 => k_is)
      case i_MatroidError => refine' DL.IsX.of KX G ?a_20 (DL.AllC.cons' (PySem.W.mg_of KX G ?d0_20) ⟨⟨?p0_20, ?q0_20, ?r0_20, ?s0_20, ?t0_20, ?u0_20, ?v0_20, ?w0_20⟩, ?f0_20⟩ (DL.AllC.cons' (PySem.W.mg_of KX G ?d1_20) ⟨⟨?p1_20, ?q1_20, ?r1_20, ?s1_20, ?t1_20, ?u1_20, ?v1_20, ?w1_20⟩, ?f1_20⟩ trivial)); (case a_20 => k_is); (case d0_20 => k_is); (case p0_20 => k_is); (case q0_20 => k_is); (case r0_20 => k_is); (case s0_20 => k_is); (case t0_20 => k_is); (case u0_20 => k_is); (case v0_20 => k_is); (case w0_20 => k_is); (case f0_20 => kernel_rfl); (case d1_20 => k_is); (case p1_20 => k_is); (case q1_20 => k_is); (case r1_20 => k_is); (case s1_20 => k_is); (case t1_20 => k_is); (case u1_20 => k_is); (case v1_20 => k_is); (case w1_20 => k_is); (case f1_20 => kernel_rfl)
      case f_reason => refine' DL.FieldT.of (DL.AllC.cons' (PySem.W.mg_of KX G ?d0_21) (fun _ => ⟨L2.xfB_ok ?x0_21, ?y0_21⟩) trivial); (case d0_21 => k_is); (case x0_21 => kernel_rfl); (case y0_21 => k_is)
      case x_is_whole => refine' DL.FnX.of KX G ?a_22 ?l_22 ?c_22 ?k_22 (fun _ _ _ _ _ _ us hl => match us, hl with | [_], _ => rfl); (case a_22 => k_is); (case l_22 => k_is); (case c_22 => k_is); (case k_22 => k_is)
      case x_is_row => refine' DL.FnX.of KX G ?a_23 ?l_23 ?c_23 ?k_23 (fun _ _ _ _ _ _ us hl => match us, hl with | [_], _ => rfl); (case a_23 => k_is); (case l_23 => k_is); (case c_23 => k_is); (case k_23 => k_is)
      case x_sets_of => refine' DL.FnX.of KX G ?a_24 ?l_24 ?c_24 ?k_24 (fun _ _ _ _ _ _ us hl => match us, hl with | [_, _], _ => rfl); (case a_24 => k_is); (case l_24 => k_is); (case c_24 => k_is); (case k_24 => k_is)
      case x_is_within => refine' DL.FnX.of KX G ?a_25 ?l_25 ?c_25 ?k_25 (fun _ _ _ _ _ _ us hl => match us, hl with | [_, _], _ => rfl); (case a_25 => k_is); (case l_25 => k_is); (case c_25 => k_is); (case k_25 => k_is)
      case x_is_joined_told => refine' DL.FnX.of KX G ?a_26 ?l_26 ?c_26 ?k_26 (fun _ _ _ _ _ _ us hl => match us, hl with | [_, _], _ => rfl); (case a_26 => k_is); (case l_26 => k_is); (case c_26 => k_is); (case k_26 => k_is)
      case x__law_pool => refine' DL.FnX.of KX G ?a_27 ?l_27 ?c_27 ?k_27 (fun _ _ _ _ _ _ us hl => match us, hl with | [_], _ => rfl); (case a_27 => k_is); (case l_27 => k_is); (case c_27 => k_is); (case k_27 => k_is)
      case x__law_is_integer => refine' DL.FnX.of KX G ?a_28 ?l_28 ?c_28 ?k_28 (fun _ _ _ _ _ _ us hl => match us, hl with | [_], _ => rfl); (case a_28 => k_is); (case l_28 => k_is); (case c_28 => k_is); (case k_28 => k_is)
      case x__law_sets => refine' DL.FnX.of KX G ?a_29 ?l_29 ?c_29 ?k_29 (fun _ _ _ _ _ _ us hl => match us, hl with | [_, _], _ => rfl); (case a_29 => k_is); (case l_29 => k_is); (case c_29 => k_is); (case k_29 => k_is)
      case x__law_knows => refine' DL.FnX.of KX G ?a_30 ?l_30 ?c_30 ?k_30 (fun _ _ _ _ _ _ us hl => match us, hl with | [_, _], _ => rfl); (case a_30 => k_is); (case l_30 => k_is); (case c_30 => k_is); (case k_30 => k_is)
      case x__law_is_joined => refine' DL.FnX.of KX G ?a_31 ?l_31 ?c_31 ?k_31 (fun _ _ _ _ _ _ us hl => match us, hl with | [_, _], _ => rfl); (case a_31 => k_is); (case l_31 => k_is); (case c_31 => k_is); (case k_31 => k_is)
      case x_are_people => refine' DL.FnX.of KX G ?a_32 ?l_32 ?c_32 ?k_32 (fun _ _ _ _ _ _ us hl => match us, hl with | [_, _], _ => rfl); (case a_32 => k_is); (case l_32 => k_is); (case c_32 => k_is); (case k_32 => k_is)
      case x_knows => refine' DL.FnX.of KX G ?a_33 ?l_33 ?c_33 ?k_33 (fun _ _ _ _ _ _ us hl => match us, hl with | [_, _], _ => rfl); (case a_33 => k_is); (case l_33 => k_is); (case c_33 => k_is); (case k_33 => k_is)
      case x_all_people => refine' DL.FnX.of KX G ?a_34 ?l_34 ?c_34 ?k_34 (fun _ _ _ _ _ _ us hl => match us, hl with | [_], _ => rfl); (case a_34 => k_is); (case l_34 => k_is); (case c_34 => k_is); (case k_34 => k_is)
      case x__law_all_sets => refine' DL.FnX.of KX G ?a_35 ?l_35 ?c_35 ?k_35 (fun _ _ _ _ _ _ us hl => match us, hl with | [_], _ => rfl); (case a_35 => k_is); (case l_35 => k_is); (case c_35 => k_is); (case k_35 => k_is)
      case x_told_sets => refine' DL.FnX.of KX G ?a_36 ?l_36 ?c_36 ?k_36 (fun _ _ _ _ _ _ us hl => match us, hl with | [_, _], _ => rfl); (case a_36 => k_is); (case l_36 => k_is); (case c_36 => k_is); (case k_36 => k_is)
      case x_dual_of => refine' DL.FnX.of KX G ?a_37 ?l_37 ?c_37 ?k_37 (fun _ _ _ _ _ _ us hl => match us, hl with | [_, _], _ => rfl); (case a_37 => k_is); (case l_37 => k_is); (case c_37 => k_is); (case k_37 => k_is)
      case x__law_dual_sets => refine' DL.FnX.of KX G ?a_38 ?l_38 ?c_38 ?k_38 (fun _ _ _ _ _ _ us hl => match us, hl with | [_, _], _ => rfl); (case a_38 => k_is); (case l_38 => k_is); (case c_38 => k_is); (case k_38 => k_is)
      case x_least_sets => refine' DL.FnX.of KX G ?a_39 ?l_39 ?c_39 ?k_39 (fun _ _ _ _ _ _ us hl => match us, hl with | [_, _], _ => rfl); (case a_39 => k_is); (case l_39 => k_is); (case c_39 => k_is); (case k_39 => k_is)
      case x_may_know => refine' DL.FnX.of KX G ?a_40 ?l_40 ?c_40 ?k_40 (fun _ _ _ _ _ _ us hl => match us, hl with | [_, _, _], _ => rfl); (case a_40 => k_is); (case l_40 => k_is); (case c_40 => k_is); (case k_40 => k_is)
      case x_dual_sets => refine' DL.FnX.of KX G ?a_41 ?l_41 ?c_41 ?k_41 (fun _ _ _ _ _ _ us hl => match us, hl with | [_, _], _ => rfl); (case a_41 => k_is); (case l_41 => k_is); (case c_41 => k_is); (case k_41 => k_is)
      case x_is_joined => refine' DL.FnX.of KX G ?a_42 ?l_42 ?c_42 ?k_42 (fun _ _ _ _ _ _ us hl => match us, hl with | [_, _], _ => rfl); (case a_42 => k_is); (case l_42 => k_is); (case c_42 => k_is); (case k_42 => k_is)
      case x__law_take => refine' DL.FnX.of KX G ?a_43 ?l_43 ?c_43 ?k_43 (fun _ _ _ _ _ _ us hl => match us, hl with | [_, _], _ => rfl); (case a_43 => k_is); (case l_43 => k_is); (case c_43 => k_is); (case k_43 => k_is)
      case x__law_pick => refine' DL.FnX.of KX G ?a_44 ?l_44 ?c_44 ?k_44 (fun _ _ _ _ _ _ us hl => match us, hl with | [_, _], _ => rfl); (case a_44 => k_is); (case l_44 => k_is); (case c_44 => k_is); (case k_44 => k_is)
      case x__law_order => refine' DL.FnX.of KX G ?a_45 ?l_45 ?c_45 ?k_45 (fun _ _ _ _ _ _ us hl => match us, hl with | [_, _], _ => rfl); (case a_45 => k_is); (case l_45 => k_is); (case c_45 => k_is); (case k_45 => k_is)
      case x__law_given => refine' DL.FnX.of KX G ?a_46 ?l_46 ?c_46 ?k_46 (fun _ _ _ _ _ _ us hl => match us, hl with | [_, _], _ => rfl); (case a_46 => k_is); (case l_46 => k_is); (case c_46 => k_is); (case k_46 => k_is)
      case x__law_told => refine' DL.FnX.of KX G ?a_47 ?l_47 ?c_47 ?k_47 (fun _ _ _ _ _ _ us hl => match us, hl with | [_, _], _ => rfl); (case a_47 => k_is); (case l_47 => k_is); (case c_47 => k_is); (case k_47 => k_is)
      case x__law_refuses => refine' DL.FnX.of KX G ?a_48 ?l_48 ?c_48 ?k_48 (fun _ _ _ _ _ _ us hl => match us, hl with | [_, _, _], _ => rfl); (case a_48 => k_is); (case l_48 => k_is); (case c_48 => k_is); (case k_48 => k_is)
      case x__law_structure => refine' DL.FnX.of KX G ?a_49 ?l_49 ?c_49 ?k_49 (fun _ _ _ _ _ _ us hl => match us, hl with | [_, _], _ => rfl); (case a_49 => k_is); (case l_49 => k_is); (case c_49 => k_is); (case k_49 => k_is)
      case x__law_same => refine' DL.FnX.of KX G ?a_50 ?l_50 ?c_50 ?k_50 (fun _ _ _ _ _ _ us hl => match us, hl with | [_, _], _ => rfl); (case a_50 => k_is); (case l_50 => k_is); (case c_50 => k_is); (case k_50 => k_is)
      case x__law_always => refine' DL.FnX.of KX G ?a_51 ?l_51 ?c_51 ?k_51 (fun _ _ _ _ _ _ us hl => match us, hl with | [], _ => rfl); (case a_51 => k_is); (case l_51 => k_is); (case c_51 => k_is); (case k_51 => k_is)
    case x => refine' DL.LawX.of KX G ?a ?l ?c ?k (fun _ _ _ _ _ _ _ => rfl); (case a => k_is); (case l => k_is); (case c => k_is); (case k => k_is)
