import PyProof.Rows.All
import Wide.All
import OpenK.AllK
import Wide.FinOn
import HandS.Base
import HandS.Call
import HandS.List
import HandS.Comp
import HandS.Ends
import HandS.Exc
import HandS.Words
import HandS.Gcd
import HandS.Wide
import HandS.TupAny
import HandS.Deep
import HandS.Conv
import HandS.CallSlots
import HandS.WordsExc
import HandS.IsInst
import HandS.Flow
import KE.DataAny
import HandS.Walk
import HandS.Iter
import HandS.Zip
import PySem.Challenge.RW_matroidproved_k06_whole_fields
set_option Elab.async false
set_option linter.all false
set_option maxRecDepth 100000
set_option maxHeartbeats 4000000
/-! D0: a layer over HandS: values as plain data, mutable lists as cells of a store; each construct's plain meaning and its rule. -/
namespace DL
open PySem L2

/-- a local's value: plain data; a mutable list, told by its place in the store; the script -/
inductive SV where
  | d (x : PyData)
  | cell (i : Nat)
  | scr (ns : List Int)
/-- what a cell of the store holds -/
inductive MO where
  | lst (xs : List PyData)
abbrev Store := List MO
structure Exc where
  cls : Str
  fs : List (Str × PyData)
inductive Out (α : Type) where
  | ok (a : α) (S : Store)
  | ex (x : Exc) (S : Store)
  | no
abbrev Ev := List (Option SV)
abbrev Mo (α : Type) := Store → Out α

def Out.bind {α β : Type} : Out α → (α → Store → Out β) → Out β
  | .ok a S, k => k a S
  | .ex x S, _ => .ex x S
  | .no, _ => .no

/-! ### how values are read off the heap -/
mutual
inductive Rp (K : PySem.W.Frag) (F : Hp) : V → PyData → Prop
  | non : Rp K F .non .none
  | bl (b : Bool) : Rp K F (.bl b) (.bool b)
  | int (i : Int) : Rp K F (.int i) (.int i)
  | str (x : Str) : Rp K F (.str x) (.str x)
  | lst {a : Addr} {xs : List V} {ds : List PyData} : F a = some (.lst xs) → ds.length ≤ 16777216 → RpAll K F xs ds → Rp K F (.ref a) (.list ds)
  | tup {a : Addr} {xs : List V} {ds : List PyData} : SqT K F a xs → ds.length ≤ 16777216 → RpAll K F xs ds → Rp K F (.ref a) (.tuple ds)
inductive RpAll (K : PySem.W.Frag) (F : Hp) : List V → List PyData → Prop
  | nil : RpAll K F [] []
  | cons {v : V} {vs : List V} {d : PyData} {ds : List PyData} : Rp K F v d → RpAll K F vs ds → RpAll K F (v :: vs) (d :: ds)
end
section
variable {K : PySem.W.Frag} {F F' : Hp}
abbrev Sub (F F' : Hp) : Prop := ∀ b o, F b = some o → F' b = some o
theorem SqT.sub (h : Sub F F') {a : Addr} {xs : List V} (q : SqT K F a xs) : SqT K F' a xs := by
  rcases q with (q | ⟨o, q⟩) | q
  · exact .inl (.inl (h _ _ q))
  · exact .inl (.inr ⟨o, h _ _ q⟩)
  · exact .inr q
theorem SqL.sub (h : Sub F F') {a : Addr} {xs : List V} (q : SqL K F a xs) : SqL K F' a xs := by
  rcases q with (q | ⟨o, q⟩) | q
  · exact .inl (.inl (h _ _ q))
  · exact .inl (.inr ⟨o, h _ _ q⟩)
  · exact .inr q
mutual
theorem Rp.sub (h : Sub F F') : ∀ (d : PyData) (v : V), Rp K F v d → Rp K F' v d
  | .none, _, q => by cases q; exact .non
  | .bool b, _, q => by cases q; exact .bl b
  | .int i, _, q => by cases q; exact .int i
  | .str x, _, q => by cases q; exact .str x
  | .list ds, _, q => by cases q with | lst e z r => exact .lst (h _ _ e) z (RpAll.sub h ds _ r)
  | .tuple ds, _, q => by cases q with | tup e z r => exact .tup (SqT.sub h e) z (RpAll.sub h ds _ r)
  | .dict _, _, q => by cases q
theorem RpAll.sub (h : Sub F F') : ∀ (ds : List PyData) (vs : List V), RpAll K F vs ds → RpAll K F' vs ds
  | [], _, q => by cases q; exact .nil
  | d :: ds, _, q => by cases q with | cons r t => exact .cons (Rp.sub h d _ r) (RpAll.sub h ds _ t)
end
theorem RpAll.len : ∀ {vs : List V} {ds : List PyData}, RpAll K F vs ds → vs.length = ds.length
  | _, _, .nil => rfl
  | _, _, .cons _ t => by rw [List.length_cons, List.length_cons, RpAll.len t]
theorem RpAll.get : ∀ {vs : List V} {ds : List PyData} {i : Nat} {d : PyData}, RpAll K F vs ds → ds[i]? = some d → ∃ v, vs[i]? = some v ∧ Rp K F v d
  | _, _, _, _, .nil, e => by simp at e
  | _, _, 0, _, .cons r _, e => by simp at e; subst e; exact ⟨_, rfl, r⟩
  | _, _, i + 1, _, .cons _ t, e => by
    obtain ⟨v, h1, h2⟩ := RpAll.get (i := i) t (by simpa using e)
    exact ⟨v, by simpa using h1, h2⟩
theorem RpAll.getV : ∀ {vs : List V} {ds : List PyData} {i : Nat} {v : V}, RpAll K F vs ds → vs[i]? = some v → ∃ d, ds[i]? = some d ∧ Rp K F v d
  | _, _, _, _, .nil, e => by simp at e
  | _, _, 0, _, .cons r _, e => by simp at e; subst e; exact ⟨_, rfl, r⟩
  | _, _, i + 1, _, .cons _ t, e => by
    obtain ⟨v, h1, h2⟩ := RpAll.getV (i := i) t (by simpa using e)
    exact ⟨v, by simpa using h1, h2⟩
theorem RpAll.append : ∀ {vs ws : List V} {ds es : List PyData}, RpAll K F vs ds → RpAll K F ws es → RpAll K F (vs ++ ws) (ds ++ es)
  | _, _, _, _, .nil, q => q
  | _, _, _, _, .cons r t, q => .cons r (RpAll.append t q)
theorem RpAll.set {v : V} {d : PyData} (r : Rp K F v d) : ∀ {vs : List V} {ds : List PyData} (i : Nat), RpAll K F vs ds → RpAll K F (vs.set i v) (ds.set i d)
  | _, _, _, .nil => .nil
  | _, _, 0, .cons _ t => .cons r t
  | _, _, i + 1, .cons q t => .cons q (RpAll.set r i t)
theorem RpAll.take : ∀ {vs : List V} {ds : List PyData} (n : Nat), RpAll K F vs ds → RpAll K F (vs.take n) (ds.take n)
  | _, _, 0, _ => .nil
  | _, _, _ + 1, .nil => .nil
  | _, _, n + 1, .cons r t => .cons r (RpAll.take n t)
theorem RpAll.drop : ∀ {vs : List V} {ds : List PyData} (n : Nat), RpAll K F vs ds → RpAll K F (vs.drop n) (ds.drop n)
  | _, _, 0, r => r
  | _, _, _ + 1, .nil => .nil
  | _, _, n + 1, .cons _ t => RpAll.drop n t
theorem RpAll.eraseIdx : ∀ {vs : List V} {ds : List PyData} (n : Nat), RpAll K F vs ds → RpAll K F (vs.eraseIdx n) (ds.eraseIdx n)
  | _, _, _, .nil => .nil
  | _, _, 0, .cons _ t => t
  | _, _, n + 1, .cons r t => .cons r (RpAll.eraseIdx n t)
theorem RpAll.ints : ∀ {vs : List V} {ns : List Int}, RpAll K F vs (ns.map .int) → vs = ns.map V.int
  | _, [], .nil => rfl
  | _, n :: ns, .cons r t => by cases r; rw [RpAll.ints t]; rfl
theorem RpAll.of_ints : ∀ ns : List Int, RpAll K F (ns.map V.int) (ns.map .int)
  | [] => .nil
  | n :: ns => .cons (.int n) (RpAll.of_ints ns)
mutual
theorem Rp.dp {H : Hp} (h : Sub F H) : ∀ (d : PyData) (v : V), Rp K F v d → Dp K H v d
  | .none, _, q => by cases q; exact .non
  | .bool b, _, q => by cases q; exact .bl b
  | .int i, _, q => by cases q; exact .int i
  | .str x, _, q => by cases q; exact .str x
  | .list ds, _, q => by cases q with | lst e z r => exact .lst (SqL.of (h _ _ e)) (RpAll.dp h ds _ r)
  | .tuple ds, _, q => by cases q with | tup e z r => exact .tup (SqT.sub h e) (RpAll.dp h ds _ r)
  | .dict _, _, q => by cases q
theorem RpAll.dp {H : Hp} (h : Sub F H) : ∀ (ds : List PyData) (vs : List V), RpAll K F vs ds → DpAll K H vs ds
  | [], _, q => by cases q; exact .nil
  | d :: ds, _, q => by cases q with | cons r t => exact .cons (Rp.dp h d _ r) (RpAll.dp h ds _ t)
end
end

/-- the ghost: where the store's cells stand; what is frozen -/
structure Gh where
  B : List Addr
  F : Hp
/-- what the layer knows of the module -/
structure Mi where
  K : PySem.W.Frag
  cn : Str → Option Addr
def RepS (K : PySem.W.Frag) (g : Gh) (v : V) : SV → Prop
  | .d x => Rp K g.F v x
  | .cell i => ∃ a, g.B[i]? = some a ∧ v = .ref a
  | .scr ns => ∃ a, v = .ref a ∧ SqL K g.F a (ns.map V.int)
inductive RepA (K : PySem.W.Frag) (g : Gh) : List V → List SV → Prop
  | nil : RepA K g [] []
  | cons {v : V} {vs : List V} {x : SV} {xs : List SV} : RepS K g v x → RepA K g vs xs → RepA K g (v :: vs) (x :: xs)
theorem RepA.len {K : PySem.W.Frag} {g : Gh} : ∀ {vs : List V} {xs : List SV}, RepA K g vs xs → vs.length = xs.length
  | _, _, .nil => rfl
  | _, _, .cons _ t => by rw [List.length_cons, List.length_cons, RepA.len t]
def RepM (K : PySem.W.Frag) (F : Hp) (o : Option HO) : MO → Prop
  | .lst ds => ds.length ≤ 16777216 ∧ ∃ vs, o = some (.lst vs) ∧ RpAll K F vs ds
structure Rel (K : PySem.W.Frag) (g : Gh) (H : Hp) (S : Store) : Prop where
  sub : Sub g.F H
  nd : g.B.Nodup
  dis : ∀ a ∈ g.B, g.F a = none
  len : g.B.length = S.length
  at_ : ∀ (i : Nat) (a : Addr) (m : MO), g.B[i]? = some a → S[i]? = some m → RepM K g.F (H a) m
structure Vars (K : PySem.W.Frag) (g : Gh) (σ : St) (Γ : Ev) : Prop where
  len : σ.length = Γ.length
  at_ : ∀ (i : Nat) (x : SV), Γ[i]? = some (some x) → ∃ v, σ[i]? = some (some v) ∧ RepS K g v x
structure Grow (g : Gh) (H : Hp) (g' : Gh) (H' : Hp) : Prop where
  pre : ∃ C, g'.B = g.B ++ C
  sub : Sub g.F g'.F
  frm : ∀ b o, H b = some o → b ∉ g.B → H' b = some o
  newB : ∀ b ∈ g'.B, b ∈ g.B ∨ H b = none
  newF : ∀ b o, g'.F b = some o → g.F b = some o ∨ H b = none
section
variable {K : PySem.W.Frag} {g g1 g2 g' : Gh} {H H1 H2 H' : Hp} {S S1 : Store} {σ : St} {Γ : Ev}
theorem Grow.refl (g : Gh) (H : Hp) : Grow g H g H := ⟨⟨[], by simp⟩, fun _ _ h => h, fun _ _ h _ => h, fun _ h => .inl h, fun _ _ h => .inl h⟩
theorem Rel.there (r : Rel K g H S) {a : Addr} (h : a ∈ g.B) : ∃ o, H a = some o := by
  obtain ⟨i, hi, e⟩ := List.getElem_of_mem h
  have e1 : g.B[i]? = some a := by rw [List.getElem?_eq_getElem hi, e]
  have hS : i < S.length := by rw [← r.len]; exact hi
  have q := r.at_ i a S[i] e1 (List.getElem?_eq_getElem hS)
  cases hm : S[i] with
  | lst ds =>
    rw [hm] at q
    obtain ⟨_, vs, e, _⟩ := q
    exact ⟨_, e⟩
theorem Grow.trans (r1 : Rel K g1 H1 S1) (a : Grow g H g1 H1) (b : Grow g1 H1 g2 H2) : Grow g H g2 H2 := by
  have back : ∀ c, H1 c = none → H c = none ∨ c ∈ g.B := fun c e => by
    by_cases hc : c ∈ g.B
    · exact .inr hc
    · cases q : H c with
      | none => exact .inl rfl
      | some o =>
        rw [a.frm c o q hc] at e
        cases e
  have inB : ∀ c, c ∈ g.B → c ∈ g1.B := fun c hc => by
    obtain ⟨C, e⟩ := a.pre
    rw [e]; exact List.mem_append_left _ hc
  have fresh : ∀ c, H1 c = none → H c = none := fun c e => by
    rcases back c e with h | h
    · exact h
    · obtain ⟨o, q⟩ := r1.there (inB c h)
      rw [q] at e; cases e
  refine ⟨?_, fun c o h => b.sub _ _ (a.sub _ _ h), fun c o h hc => ?_, fun c hc => ?_, fun c o h => ?_⟩
  · obtain ⟨C, e⟩ := a.pre
    obtain ⟨C', e'⟩ := b.pre
    exact ⟨C ++ C', by rw [e', e, List.append_assoc]⟩
  · have h1 := a.frm c o h hc
    refine b.frm c o h1 fun q => ?_
    rcases a.newB c q with z | z
    · exact hc z
    · rw [h] at z; cases z
  · rcases b.newB c hc with z | z
    · exact a.newB c z
    · exact .inr (fresh c z)
  · rcases b.newF c o h with z | z
    · exact a.newF c o z
    · exact .inr (fresh c z)
theorem Grow.rep (a : Grow g H g' H') {v : V} {x : SV} (h : RepS K g v x) : RepS K g' v x := by
  cases x with
  | d x => exact Rp.sub a.sub _ _ h
  | cell i =>
    obtain ⟨c, e, rfl⟩ := h
    obtain ⟨C, q⟩ := a.pre
    exact ⟨c, by rw [q, List.getElem?_append_left (List.getElem?_eq_some_iff.mp e).1]; exact e, rfl⟩
  | scr ns =>
    obtain ⟨c, rfl, q⟩ := h
    exact ⟨c, rfl, SqL.sub a.sub q⟩
theorem Grow.repA (a : Grow g H g' H') : ∀ {vs : List V} {xs : List SV}, RepA K g vs xs → RepA K g' vs xs
  | _, _, .nil => .nil
  | _, _, .cons r t => .cons (a.rep r) (Grow.repA a t)
theorem Grow.vars (a : Grow g H g' H') (h : Vars K g σ Γ) : Vars K g' σ Γ := ⟨h.len, fun i x e => let ⟨v, q, r⟩ := h.at_ i x e; ⟨v, q, a.rep r⟩⟩
theorem Vars.set (h : Vars K g σ Γ) {v : V} {x : SV} (r : RepS K g v x) (i : Nat) : Vars K g (σ.set i (some v)) (Γ.set i (some x)) := by
  refine ⟨by rw [List.length_set, List.length_set, h.len], fun j y e => ?_⟩
  by_cases hj : i = j
  · subst hj
    have hl : i < Γ.length := by
      have := (List.getElem?_eq_some_iff.mp e).1
      rwa [List.length_set] at this
    rw [List.getElem?_set_self hl] at e
    cases e
    exact ⟨v, List.getElem?_set_self (by rw [h.len]; exact hl), r⟩
  · rw [List.getElem?_set_ne hj] at e
    obtain ⟨w, q, z⟩ := h.at_ j y e
    exact ⟨w, by rw [List.getElem?_set_ne hj]; exact q, z⟩
def wipeE (Γ : Ev) : List Nat → Ev
  | [] => Γ
  | v :: vs => (wipeE Γ vs).set v none
theorem Vars.setN (h : Vars K g σ Γ) (i : Nat) : Vars K g (σ.set i none) (Γ.set i none) := by
  refine ⟨by rw [List.length_set, List.length_set, h.len], fun j y e => ?_⟩
  by_cases hj : i = j
  · subst hj
    have hl : i < Γ.length := by
      have := (List.getElem?_eq_some_iff.mp e).1
      rwa [List.length_set] at this
    rw [List.getElem?_set_self hl] at e
    cases e
  · rw [List.getElem?_set_ne hj] at e
    obtain ⟨w, q, z⟩ := h.at_ j y e
    exact ⟨w, by rw [List.getElem?_set_ne hj]; exact q, z⟩
theorem Vars.wipe (h : Vars K g σ Γ) : ∀ vs : List Nat, Vars K g (wipe σ vs) (wipeE Γ vs)
  | [] => h
  | v :: vs => (Vars.wipe h vs).setN v
/-- a new frozen object -/
theorem Rel.free (r : Rel K g H S) {p : Addr} (hp : H p = none) : g.F p = none ∧ p ∉ g.B := by
  constructor
  · cases q : g.F p with
    | none => rfl
    | some o => rw [r.sub _ _ q] at hp; cases hp
  · intro h
    obtain ⟨o, e⟩ := r.there h
    rw [e] at hp; cases hp
def Gh.frz (g : Gh) (p : Addr) (o : HO) : Gh := ⟨g.B, upd g.F p o⟩
theorem sub_upd {F : Hp} {p : Addr} {o : HO} (h : F p = none) : Sub F (upd F p o) := fun b u e => by
  rw [upd_ne (ne_of_none e h)]; exact e
theorem RepM.sub {F F' : Hp} (h : Sub F F') {o : Option HO} {m : MO} (r : RepM K F o m) : RepM K F' o m := by
  cases m with
  | lst ds =>
    obtain ⟨z, vs, e, q⟩ := r
    exact ⟨z, vs, e, RpAll.sub h _ _ q⟩
theorem Rel.frz (r : Rel K g H S) {p : Addr} (hp : H p = none) (o : HO) : Rel K (g.frz p o) (upd H p o) S ∧ Grow g H (g.frz p o) (upd H p o) := by
  obtain ⟨hF, hB⟩ := r.free hp
  have ne : ∀ b ∈ g.B, b ≠ p := fun b hb e => hB (e ▸ hb)
  refine ⟨⟨fun b u e => ?_, r.nd, fun b hb => ?_, r.len, fun i a m e1 e2 => ?_⟩, ⟨⟨[], by simp [Gh.frz]⟩, sub_upd hF, fun b u e _ => ?_, fun b hb => .inl hb, fun b u e => ?_⟩⟩
  · by_cases hb : b = p
    · subst hb
      have e' : upd g.F b o b = some u := e
      rw [upd_same] at e' ⊢; exact e'
    · have e' : upd g.F p o b = some u := e
      rw [upd_ne hb] at e' ⊢; exact r.sub _ _ e'
  · show upd g.F p o b = none
    rw [upd_ne (ne b hb)]; exact r.dis b hb
  · have q := r.at_ i a m e1 e2
    rw [upd_ne (ne a (List.mem_of_getElem? e1))]
    exact q.sub (sub_upd hF)
  · rw [upd_ne (ne_of_none e hp)]; exact e
  · have e' : upd g.F p o b = some u := e
    by_cases hb : b = p
    · subst hb; exact .inr hp
    · rw [upd_ne hb] at e'; exact .inl e'
/-- a new cell -/
def Gh.cel (g : Gh) (p : Addr) : Gh := ⟨g.B ++ [p], g.F⟩
theorem Rel.cel (r : Rel K g H S) {p : Addr} (hp : H p = none) {vs : List V} {ds : List PyData} (hz : ds.length ≤ 16777216) (q : RpAll K g.F vs ds) : Rel K (g.cel p) (upd H p (.lst vs)) (S ++ [.lst ds]) ∧ Grow g H (g.cel p) (upd H p (.lst vs)) ∧ RepS K (g.cel p) (.ref p) (.cell S.length) := by
  obtain ⟨hF, hB⟩ := r.free hp
  have ne : ∀ b ∈ g.B, b ≠ p := fun b hb e => hB (e ▸ hb)
  refine ⟨⟨fun b u e => ?_, ?_, fun b hb => ?_, ?_, fun i a m e1 e2 => ?_⟩, ⟨⟨[p], rfl⟩, fun _ _ h => h, fun b u e _ => ?_, fun b hb => ?_, fun b u e => .inl e⟩, ⟨p, ?_, rfl⟩⟩
  · have e' : g.F b = some u := e
    have nb : b ≠ p := fun z => by rw [z, hF] at e'; cases e'
    rw [upd_ne nb]; exact r.sub _ _ e'
  · show (g.B ++ [p]).Nodup
    rw [List.nodup_append]
    exact ⟨r.nd, by simp, fun a ha b hb => by simp at hb; subst hb; exact ne a ha⟩
  · rcases List.mem_append.mp hb with h | h
    · exact r.dis b h
    · simp at h; subst h; exact hF
  · show (g.B ++ [p]).length = _
    rw [List.length_append, List.length_append, r.len]; rfl
  · have e1' : (g.B ++ [p])[i]? = some a := e1
    by_cases hi : i < g.B.length
    · rw [List.getElem?_append_left hi] at e1'
      rw [List.getElem?_append_left (by rw [← r.len]; exact hi)] at e2
      rw [upd_ne (ne a (List.mem_of_getElem? e1'))]
      exact r.at_ i a m e1' e2
    · have hl := (List.getElem?_eq_some_iff.mp e1').1
      rw [List.length_append, List.length_singleton] at hl
      have ei : i = g.B.length := by omega
      subst ei
      rw [List.getElem?_append_right (Nat.le_refl _), Nat.sub_self] at e1'
      rw [r.len, List.getElem?_append_right (Nat.le_refl _), Nat.sub_self] at e2
      cases e1'
      cases e2
      exact ⟨hz, vs, upd_same, q⟩
  · rw [upd_ne (ne_of_none e hp)]; exact e
  · rcases List.mem_append.mp hb with h | h
    · exact .inl h
    · simp at h; subst h; exact .inr hp
  · show (g.B ++ [p])[S.length]? = some p
    rw [← r.len, List.getElem?_append_right (Nat.le_refl _), Nat.sub_self]; rfl
/-- a cell is written -/
theorem Rel.put (r : Rel K g H S) {i : Nat} {a : Addr} (ha : g.B[i]? = some a) {vs : List V} {ds : List PyData} (hz : ds.length ≤ 16777216) (q : RpAll K g.F vs ds) : Rel K g (upd H a (.lst vs)) (S.set i (.lst ds)) ∧ Grow g H g (upd H a (.lst vs)) := by
  have am : a ∈ g.B := List.mem_of_getElem? ha
  have hF := r.dis a am
  refine ⟨⟨fun b u e => ?_, r.nd, r.dis, by rw [List.length_set]; exact r.len, fun j b m e1 e2 => ?_⟩, ⟨⟨[], by simp⟩, fun _ _ h => h, fun b u e hb => ?_, fun b hb => .inl hb, fun b u e => .inl e⟩⟩
  · have nb : b ≠ a := fun z => by rw [z, hF] at e; cases e
    rw [upd_ne nb]; exact r.sub _ _ e
  · by_cases hj : i = j
    · subst hj
      rw [ha] at e1; cases e1
      have hl := (List.getElem?_eq_some_iff.mp ha).1
      rw [List.getElem?_set_self (by rw [← r.len]; exact hl)] at e2
      cases e2
      exact ⟨hz, vs, upd_same, q⟩
    · rw [List.getElem?_set_ne hj] at e2
      have nb : b ≠ a := fun z => by
        subst z
        obtain ⟨h1, e1'⟩ := List.getElem?_eq_some_iff.mp ha
        obtain ⟨h2, e2'⟩ := List.getElem?_eq_some_iff.mp e1
        exact hj ((List.getElem_inj r.nd).mp (e1'.trans e2'.symm))
      rw [upd_ne nb]
      exact r.at_ j b m e1 e2
  · have nb : b ≠ a := fun z => hb (z ▸ am)
    rw [upd_ne nb]; exact e
end
end DL
/-! D1: readings by plain meaning; expressions, tests, arguments. -/
namespace DL
open PySem L2

def RepX (F : Hp) (K : PySem.W.Frag) (fs : List (Str × PyData)) (d : Option Addr) : Prop :=
  (fs = [] ∧ d = none) ∨ ∃ dx vs, d = some dx ∧ F dx = some (.xd vs) ∧ Paired (fun (p : Str × V) (q : Str × PyData) => p.1 = q.1 ∧ Rp K F p.2 q.2) vs fs
def XRep (M : Mi) (F : Hp) (x : Exc) (cls : Value) (d : Option Addr) : Prop := ∃ C, M.cn x.cls = some C ∧ cls = .ref C ∧ RepX F M.K x.fs d

/-- what an outcome promises -/
def Post {α β : Type} (M : Mi) (W : WX) (σ : St) (R : Gh → β → α → Prop) (Q : β → Hp → Prop) (g : Gh) (H : Hp) : Out α → Prop
  | .ok a S' => ∀ u g' H', Grow g H g' H' → Rel M.K g' H' S' → R g' u a → Q u H'
  | .ex x S' => ∀ cls d g' H', Grow g H g' H' → Rel M.K g' H' S' → XRep M g'.F x cls d → W cls d σ H'
  | .no => False
section
variable {α β γ δ : Type} {M : Mi} {W : WX} {σ : St} {R : Gh → β → α → Prop} {R2 : Gh → δ → γ → Prop} {Q Q' : β → Hp → Prop} {g g1 : Gh} {H H1 : Hp} {S S1 : Store}
theorem Post.grow {o : Out α} (r : Rel M.K g1 H1 S1) (a : Grow g H g1 H1) (h : Post M W σ R Q g H o) : Post M W σ R Q g1 H1 o := by
  cases o with
  | ok v S' => exact fun u g' H' b r' q => h u g' H' (a.trans r b) r' q
  | ex x S' => exact fun cls d g' H' b r' q => h cls d g' H' (a.trans r b) r' q
  | no => exact h
theorem Post.imp {o : Out α} (hQ : ∀ u H, Q u H → Q' u H) (h : Post M W σ R Q g H o) : Post M W σ R Q' g H o := by
  cases o with
  | ok v S' => exact fun u g' H' b r' q => hQ _ _ (h u g' H' b r' q)
  | ex x S' => exact h
  | no => exact h
theorem Post.now {a : α} {u : β} (h : Post M W σ R Q g H (.ok a S)) (r : Rel M.K g H S) (q : R g u a) : Q u H := h u g H (Grow.refl _ _) r q
/-- one outcome, then another -/
theorem Post.bind {o : Out α} {k : α → Store → Out γ} {Q2 : δ → Hp → Prop} (h : Post M W σ R2 Q2 g H (o.bind k)) :
    Post M W σ R (fun u H1 => ∃ g1 S1 a, Grow g H g1 H1 ∧ Rel M.K g1 H1 S1 ∧ R g1 u a ∧ Post M W σ R2 Q2 g1 H1 (k a S1)) g H o := by
  cases o with
  | ok a S' =>
    intro u g1 H1 gr r q
    exact ⟨g1, S', a, gr, r, q, Post.grow r gr h⟩
  | ex x S' => exact h
  | no => exact h
end

abbrev EF := Ev → Store → Out SV
abbrev TF := Ev → Store → Out Bool
abbrev AF := Ev → Store → Out (List SV)
def rS (M : Mi) : Gh → V → SV → Prop := fun g v x => RepS M.K g v x
def rB : Gh → Bool → Bool → Prop := fun _ b c => b = c
def rA (M : Mi) : Gh → List V → List SV → Prop := fun g v x => RepA M.K g v x
def tG {α β : Type} (M : Mi) (W : WX) (R : Gh → β → α → Prop) (f : Ev → Store → Out α) : St → Hp → (β → Hp → Prop) → Prop := fun σ H Q =>
  ∃ g Γ S, Rel M.K g H S ∧ Vars M.K g σ Γ ∧ Post M W σ R Q g H (f Γ S)
abbrev tE (M : Mi) (W : WX) (f : EF) : TE := tG M W (rS M) f
abbrev tT (M : Mi) (W : WX) (f : TF) : TT := tG M W rB f
abbrev tA (M : Mi) (W : WX) (f : AF) : TA := tG M W (rA M) f
abbrev DE (X : Cx) (M : Mi) (W : WX) (e : Expr) (f : EF) : Prop := PE X e (tE M W f)
abbrev DT (X : Cx) (M : Mi) (W : WX) (e : Expr) (f : TF) : Prop := PT X e (tT M W f)
abbrev DA (X : Cx) (M : Mi) (W : WX) (es : List Expr) (f : AF) : Prop := PA X es (tA M W f)

theorem _root_.L2.PE.weak {X : Cx} {e : Expr} {t t' : TE} (h : PE X e t) (k : ∀ σ H Q, t' σ H Q → t σ H Q) : PE X e t' := ⟨fun pins s σ H Q I z => h.run pins s σ H Q I (k _ _ _ z)⟩
theorem _root_.L2.PT.weak {X : Cx} {e : Expr} {t t' : TT} (h : PT X e t) (k : ∀ σ H Q, t' σ H Q → t σ H Q) : PT X e t' := ⟨fun pins s σ H Q I z => h.run pins s σ H Q I (k _ _ _ z)⟩
theorem _root_.L2.PW.weak {X : Cx} {e : Expr} {t t' : TT} (h : PW X e t) (k : ∀ σ H Q, t' σ H Q → t σ H Q) : PW X e t' := ⟨fun wh pins s σ H Q I z => h.run wh pins s σ H Q I (k _ _ _ z)⟩
theorem _root_.L2.PA.weak {X : Cx} {e : List Expr} {t t' : TA} (h : PA X e t) (k : ∀ σ H Q, t' σ H Q → t σ H Q) : PA X e t' := ⟨fun pos pins s σ H Q I z => h.run pos pins s σ H Q I (k _ _ _ z)⟩
theorem _root_.L2.PS.weak {X : Cx} {e : Stmt} {t t' : TS} (h : PS X e t) (k : ∀ D σ H, t' D σ H → t D σ H) : PS X e t' := ⟨fun pins s σ H D I z => h.run pins s σ H D I (k _ _ _ z)⟩
theorem _root_.L2.PSs.weak {X : Cx} {e : List Stmt} {t t' : TS} (h : PSs X e t) (k : ∀ D σ H, t' D σ H → t D σ H) : PSs X e t' := ⟨fun pins s σ H D I z => h.run pins s σ H D I (k _ _ _ z)⟩

section
variable {α β γ δ : Type} {M : Mi} {W : WX} {R : Gh → β → α → Prop} {R2 : Gh → δ → γ → Prop} {σ : St} {H : Hp}
/-- the first part of a compound: what is left for the rest -/
theorem step {f : Ev → Store → Out α} {k : α → Store → Out γ} {Q2 : δ → Hp → Prop} {Q : β → Hp → Prop} {g : Gh} {Γ : Ev} {S : Store} (r : Rel M.K g H S) (v : Vars M.K g σ Γ) (p : Post M W σ R2 Q2 g H ((f Γ S).bind k))
    (kk : ∀ u H1 g1 S1 a, Grow g H g1 H1 → Rel M.K g1 H1 S1 → Vars M.K g1 σ Γ → R g1 u a → Post M W σ R2 Q2 g1 H1 (k a S1) → Q u H1) : tG M W R f σ H Q := by
  refine ⟨g, Γ, S, r, v, Post.imp (fun u H1 q => ?_) (Post.bind p)⟩
  obtain ⟨g1, S1, a, gr, r1, q1, p1⟩ := q
  exact kk u H1 g1 S1 a gr r1 (gr.vars v) q1 p1
theorem tG.of {f : Ev → Store → Out α} {Q : β → Hp → Prop} {g : Gh} {Γ : Ev} {S : Store} (r : Rel M.K g H S) (v : Vars M.K g σ Γ) (p : Post M W σ R Q g H (f Γ S)) : tG M W R f σ H Q := ⟨g, Γ, S, r, v, p⟩
end

/-! ### names, constants -/
section
variable {X : Cx} {M : Mi} {W : WX} {pos : Pos}
def eVar (i : Nat) : EF := fun Γ S => match Γ[i]? with
  | some (some x) => .ok x S
  | _ => .no
def eC (x : PyData) : EF := fun _ S => .ok (.d x) S
theorem dv (i : Nat) {x : Str} (h : PE X (.Name x pos) (tVar i)) : DE X M W (.Name x pos) (eVar i) := h.weak fun σ H Q ⟨g, Γ, S, r, v, p⟩ => by
  unfold eVar at p
  split at p
  · rename_i x e
    obtain ⟨u, q, rp⟩ := v.at_ i x e
    exact ⟨u, q, p.now r rp⟩
  · exact p.elim
theorem d_int {i : Int} {j : Nat} : DE X M W (.Constant (.int i) j pos) (eC (.int i)) := pe_int.weak fun σ H Q ⟨g, Γ, S, r, v, p⟩ => Post.now p r (.int i)
theorem d_bl {b : Bool} {j : Nat} : DE X M W (.Constant (.bool b) j pos) (eC (.bool b)) := pe_bl.weak fun σ H Q ⟨g, Γ, S, r, v, p⟩ => Post.now p r (.bl b)
theorem d_non {j : Nat} : DE X M W (.Constant .none j pos) (eC .none) := pe_non.weak fun σ H Q ⟨g, Γ, S, r, v, p⟩ => Post.now p r .non
theorem d_str {x : Str} {j : Nat} : DE X M W (.Constant (.str x) j pos) (eC (.str x)) := pe_str.weak fun σ H Q ⟨g, Γ, S, r, v, p⟩ => Post.now p r (.str x)
/-- a constant of the module, as data -/
theorem d_glob {x : Str} {v : V} {u : Value} {d : PyData} (hg : Gl X x) (hm : X.mg x = some u) (r : RelV v u) (hd : ∀ F, Rp M.K F v d) (hdb : (x == ("__debug__" : Str)) = false := by decide) : DE X M W (.Name x pos) (eC d) :=
  (pe_glob hg hm r hdb).weak fun σ H Q ⟨g, Γ, S, r, w, p⟩ => Post.now p r (hd _)

/-! ### a list just made: frozen, or a cell -/
def Fin (M : Mi) (fin : List PyData → Store → Out SV) : Prop := ∀ (W : WX) (σ : St) (Q : VK) (g0 : Gh) (H0 : Hp) (g : Gh) (H : Hp) (S : Store) (p : Addr) (vs : List V) (ds : List PyData),
  Rel M.K g H S → Grow g0 H0 g H → H0 p = none → H p = some (.lst vs) → g.F p = none → p ∉ g.B → ds.length ≤ 16777216 → RpAll M.K g.F vs ds → Post M W σ (rS M) Q g0 H0 (fin ds S) → Q (.ref p) H
def finF : List PyData → Store → Out SV := fun ds S => .ok (.d (.list ds)) S
def finC : List PyData → Store → Out SV := fun ds S => .ok (.cell S.length) (S ++ [.lst ds])
theorem fin_f : Fin M finF := by
  intro W σ Q g0 H0 g H S p vs ds r gr hn hp hF hB hz q post
  have ne : ∀ b ∈ g.B, b ≠ p := fun b hb e => hB (e ▸ hb)
  refine post (.ref p) (g.frz p (.lst vs)) H ⟨gr.pre, fun b o e => sub_upd hF b o (gr.sub b o e), gr.frm, gr.newB, fun b u e => ?_⟩ ⟨fun b u e => ?_, r.nd, fun b hb => ?_, r.len, fun i a m e1 e2 => (r.at_ i a m e1 e2).sub (sub_upd hF)⟩ ?_
  · have e' : upd g.F p (.lst vs) b = some u := e
    by_cases hb : b = p
    · subst hb; exact .inr hn
    · rw [upd_ne hb] at e'; exact gr.newF _ _ e'
  · have e' : upd g.F p (.lst vs) b = some u := e
    by_cases hb : b = p
    · subst hb; rw [upd_same] at e'; cases e'; exact hp
    · rw [upd_ne hb] at e'; exact r.sub _ _ e'
  · show upd g.F p _ b = none
    rw [upd_ne (ne b hb)]; exact r.dis b hb
  · exact Rp.lst upd_same hz (RpAll.sub (sub_upd hF) _ _ q)
theorem fin_c : Fin M finC := by
  intro W σ Q g0 H0 g H S p vs ds r gr hn hp hF hB hz q post
  have ne : ∀ b ∈ g.B, b ≠ p := fun b hb e => hB (e ▸ hb)
  refine post (.ref p) (g.cel p) H ⟨?_, gr.sub, gr.frm, fun b hb => ?_, gr.newF⟩ ⟨r.sub, ?_, fun b hb => ?_, ?_, fun i a m e1 e2 => ?_⟩ ⟨p, ?_, rfl⟩
  · obtain ⟨C, e⟩ := gr.pre
    exact ⟨C ++ [p], by show g.B ++ [p] = _; rw [e, List.append_assoc]⟩
  · rcases List.mem_append.mp hb with h | h
    · exact gr.newB b h
    · simp at h; subst h; exact .inr hn
  · show (g.B ++ [p]).Nodup
    rw [List.nodup_append]
    exact ⟨r.nd, by simp, fun a ha b hb => by simp at hb; subst hb; exact ne a ha⟩
  · rcases List.mem_append.mp hb with h | h
    · exact r.dis b h
    · simp at h; subst h; exact hF
  · show (g.B ++ [p]).length = _
    rw [List.length_append, List.length_append, r.len]; rfl
  · have e1' : (g.B ++ [p])[i]? = some a := e1
    by_cases hi : i < g.B.length
    · rw [List.getElem?_append_left hi] at e1'
      rw [List.getElem?_append_left (by rw [← r.len]; exact hi)] at e2
      exact r.at_ i a m e1' e2
    · have hl := (List.getElem?_eq_some_iff.mp e1').1
      rw [List.length_append, List.length_singleton] at hl
      have ei : i = g.B.length := by omega
      subst ei
      rw [List.getElem?_append_right (Nat.le_refl _), Nat.sub_self] at e1'
      rw [r.len, List.getElem?_append_right (Nat.le_refl _), Nat.sub_self] at e2
      cases e1'
      cases e2
      exact ⟨hz, vs, hp, q⟩
  · show (g.B ++ [p])[S.length]? = some p
    rw [← r.len, List.getElem?_append_right (Nat.le_refl _), Nat.sub_self]; rfl
/-- .. where it is laid at the last step -/
theorem Fin.lay {fin : List PyData → Store → Out SV} (f : Fin M fin) {σ : St} {Q : VK} {g : Gh} {H : Hp} {S : Store} {vs : List V} {ds : List PyData} (r : Rel M.K g H S) (hz : ds.length ≤ 16777216) (q : RpAll M.K g.F vs ds) (post : Post M W σ (rS M) Q g H (fin ds S)) :
    ∀ p, H p = none → Q (.ref p) (upd H p (.lst vs)) := fun p hp => by
  obtain ⟨hF, hB⟩ := r.free hp
  have ne : ∀ b ∈ g.B, b ≠ p := fun b hb e => hB (e ▸ hb)
  refine f W σ Q g H g (upd H p (.lst vs)) S p vs ds ⟨fun b u e => ?_, r.nd, r.dis, r.len, fun i a m e1 e2 => ?_⟩ ⟨⟨[], by simp⟩, fun _ _ h => h, fun b u e _ => ?_, fun b hb => .inl hb, fun b u e => .inl e⟩ hp upd_same hF hB hz q post
  · have nb : b ≠ p := fun z => by rw [z, hF] at e; cases e
    rw [upd_ne nb]; exact r.sub _ _ e
  · rw [upd_ne (ne a (List.mem_of_getElem? e1))]; exact r.at_ i a m e1 e2
  · rw [upd_ne (ne_of_none e hp)]; exact e
/-- a new tuple -/
theorem lay_tup {σ : St} {Q : VK} {g : Gh} {H : Hp} {S : Store} {vs : List V} {ds : List PyData} (r : Rel M.K g H S) (hz : ds.length ≤ 16777216) (q : RpAll M.K g.F vs ds) (post : Post M W σ (rS M) Q g H (.ok (.d (.tuple ds)) S)) :
    ∀ p, H p = none → Q (.ref p) (upd H p (.tup vs)) := fun p hp => by
  obtain ⟨r', gr⟩ := r.frz hp (.tup vs)
  obtain ⟨hF, _⟩ := r.free hp
  exact post _ _ _ gr r' (Rp.tup (.inl (.inl upd_same)) hz (RpAll.sub (sub_upd hF) _ _ q))

/-! ### operators by values -/
def eBin (op : SV → SV → Store → Out SV) (fa fb : EF) : EF := fun Γ S => (fa Γ S).bind fun v S => (fb Γ S).bind fun w S => op v w S
def eUn (op : SV → Store → Out SV) (fa : EF) : EF := fun Γ S => (fa Γ S).bind fun v S => op v S
/-- a plain meaning of two values for a rule of the layer below -/
def Sat2 (M : Mi) (r : R2) (op : SV → SV → Store → Out SV) : Prop := ∀ (W : WX) (σ : St) (Q : VK) (g : Gh) (H : Hp) (S : Store) (x y : V) (v w : SV),
  Rel M.K g H S → RepS M.K g x v → RepS M.K g y w → Post M W σ (rS M) Q g H (op v w S) → r x y H Q
def Sat1 (M : Mi) (r : V → Hp → VK → Prop) (op : SV → Store → Out SV) : Prop := ∀ (W : WX) (σ : St) (Q : VK) (g : Gh) (H : Hp) (S : Store) (x : V) (v : SV),
  Rel M.K g H S → RepS M.K g x v → Post M W σ (rS M) Q g H (op v S) → r x H Q
variable {a b : Expr} {fa fb : EF}
theorem tOp_of {r : R2} {op : SV → SV → Store → Out SV} (hs : Sat2 M r op) {σ : St} {H : Hp} {Q : VK} (h : tE M W (eBin op fa fb) σ H Q) : tOp r (tE M W fa) (tE M W fb) σ H Q := by
  obtain ⟨g, Γ, S, r0, v0, p⟩ := h
  exact step r0 v0 p fun u H1 g1 S1 v gr r1 v1 q1 p1 => step r1 v1 p1 fun u2 H2 g2 S2 w gr2 r2 v2 q2 p2 => hs _ _ _ _ _ _ _ _ _ _ r2 (gr2.rep q1) q2 p2
theorem tUn_of {r : V → Hp → VK → Prop} {op : SV → Store → Out SV} (hs : Sat1 M r op) {σ : St} {H : Hp} {Q : VK} (h : tE M W (eUn op fa) σ H Q) : tUn r (tE M W fa) σ H Q := by
  obtain ⟨g, Γ, S, r0, v0, p⟩ := h
  exact step r0 v0 p fun u H1 g1 S1 v gr r1 v1 q1 p1 => hs _ _ _ _ _ _ _ _ r1 q1 p1
theorem d_op {o : Operator} {r : R2} {op : SV → SV → Store → Out SV} (ho : OpR X (binaryOp o) r) (hs : Sat2 M r op) (ha : DE X M W a fa) (hb : DE X M W b fb) : DE X M W (.BinOp a o b pos) (eBin op fa fb) :=
  (pe_op ho ha hb).weak fun _ _ _ h => tOp_of hs h
theorem d_un {o : UnaryOp} {r : V → Hp → VK → Prop} {op : SV → Store → Out SV} (ho : UnR X (unaryOp o) r) (hs : Sat1 M r op) (ha : DE X M W a fa) : DE X M W (.UnaryOp o a pos) (eUn op fa) :=
  (pe_un ho ha).weak fun _ _ _ h => tUn_of hs h
theorem d_cmp {o : CmpOp} {r : R2} {op : SV → SV → Store → Out SV} (ho : OpR X (compareOp o) r) (hs : Sat2 M r op) (ha : DE X M W a fa) (hb : DE X M W b fb) (hm : behindInMarks o b = false) : DE X M W (.Compare a [o] [b] pos) (eBin op fa fb) :=
  (pe_cmpR ho ha hb hm).weak fun _ _ _ h => tOp_of hs h
/-- .. as a test -/
def tst (f : EF) : TF := fun Γ S => (f Γ S).bind fun v S => match v with
  | .d (.bool b) => .ok b S
  | _ => .no
theorem tst_of {t : TE} {f : EF} (hs : ∀ σ H Q, tE M W f σ H Q → t σ H Q) {σ : St} {H : Hp} {Q : Bool → Hp → Prop} (h : tT M W (tst f) σ H Q) : tTest t σ H Q := by
  obtain ⟨g, Γ, S, r0, v0, p⟩ := h
  refine hs _ _ _ (step r0 v0 p fun u H1 g1 S1 v gr r1 v1 q1 p1 => ?_)
  split at p1
  · cases q1
    exact ⟨_, rfl, p1.now r1 rfl⟩
  · exact p1.elim
theorem t_cmp {o : CmpOp} {r : R2} {op : SV → SV → Store → Out SV} (ho : OpR X (compareOp o) r) (hs : Sat2 M r op) (ha : DE X M W a fa) (hb : DE X M W b fb) (hm : behindInMarks o b = false) : DT X M W (.Compare a [o] [b] pos) (tst (eBin op fa fb)) :=
  (pt_cmpR ho ha hb hm).weak fun _ _ _ h => tst_of (fun _ _ _ h => tOp_of hs h) h
/-- an expression that gives a bool, as a test -/
theorem t_val (h : DE X M W a fa) (he : ∀ whole, isTrue a X.env whole = (do let v ← whole; standAt a.pos; holding [v] (truthy v)) := by intro _; rfl) : DT X M W a (tst fa) :=
  (pt_val h he).weak fun _ _ _ h => by
    obtain ⟨g, Γ, S, r0, v0, p⟩ := h
    refine (step r0 v0 p fun u H1 g1 S1 v gr r1 v1 q1 p1 => ?_)
    split at p1
    · cases q1
      exact ⟨_, rfl, p1.now r1 rfl⟩
    · exact p1.elim

/-! ### the meanings: ints -/
def iOp (C : Int → Int → Bool) (f : Int → Int → Int) : SV → SV → Store → Out SV := fun v w S => match v, w with
  | .d (.int i), .d (.int j) => if C i j then .ok (.d (.int (f i j))) S else .no
  | _, _ => .no
def iOp0 (f : Int → Int → Int) : SV → SV → Store → Out SV := fun v w S => match v, w with
  | .d (.int i), .d (.int j) => .ok (.d (.int (f i j))) S
  | _, _ => .no
def iCmp (f : Int → Int → Bool) : SV → SV → Store → Out SV := fun v w S => match v, w with
  | .d (.int i), .d (.int j) => .ok (.d (.bool (f i j))) S
  | _, _ => .no
theorem sat_i {C : Int → Int → Bool} {f : Int → Int → Int} {C' : Int → Int → Prop} (hC : ∀ i j, C i j = true → C' i j) : Sat2 M (rI C' fun i j => .int (f i j)) (iOp C f) := by
  intro W σ Q g H S x y v w r q1 q2 p
  unfold iOp at p
  split at p
  · cases q1; cases q2
    split at p
    · rename_i hc
      exact ⟨_, _, rfl, rfl, hC _ _ hc, p.now r (.int _)⟩
    · exact p.elim
  · exact p.elim
theorem sat_i0 {f : Int → Int → Int} : Sat2 M (rI0 fun i j => .int (f i j)) (iOp0 f) := by
  intro W σ Q g H S x y v w r q1 q2 p
  unfold iOp0 at p
  split at p
  · cases q1; cases q2
    exact ⟨_, _, rfl, rfl, p.now r (.int _)⟩
  · exact p.elim
theorem sat_c {f : Int → Int → Bool} : Sat2 M (rI0 fun i j => .bl (f i j)) (iCmp f) := by
  intro W σ Q g H S x y v w r q1 q2 p
  unfold iCmp at p
  split at p
  · cases q1; cases q2
    exact ⟨_, _, rfl, rfl, p.now r (.bl _)⟩
  · exact p.elim
theorem Sat2.or {r r' : R2} {op : SV → SV → Store → Out SV} (h : ∀ (W : WX) (σ : St) (Q : VK) (g : Gh) (H : Hp) (S : Store) (x y : V) (v w : SV), Rel M.K g H S → RepS M.K g x v → RepS M.K g y w → Post M W σ (rS M) Q g H (op v w S) → r x y H Q ∨ r' x y H Q) : Sat2 M (fun x y H Q => r x y H Q ∨ r' x y H Q) op := h
end
end DL
/-! D2: operators, comparisons, subscripts, built-ins: plain meanings and rules. -/
namespace DL
open PySem L2

/-- the data that a value is now -/
def asD (v : SV) (S : Store) : Option PyData := match v with
  | .d x => some x
  | .cell i => match S[i]? with
    | some (.lst xs) => some (.list xs)
    | _ => none
  | .scr _ => none
section
variable {K : PySem.W.Frag} {g : Gh} {H : Hp} {S : Store} {x : V} {v : SV}
theorem asD_list (r : Rel K g H S) (q : RepS K g x v) {ds : List PyData} (e : asD v S = some (.list ds)) : ∃ a vs, x = .ref a ∧ H a = some (.lst vs) ∧ RpAll K g.F vs ds ∧ ds.length ≤ 16777216 := by
  cases v with
  | d y =>
    cases e
    cases q with
    | lst h z t => exact ⟨_, _, rfl, r.sub _ _ h, t, z⟩
  | cell i =>
    unfold asD at e
    simp only at e
    split at e
    · rename_i xs hs
      cases e
      obtain ⟨a, ha, rfl⟩ := q
      obtain ⟨z, vs, h1, h2⟩ := r.at_ i a _ ha hs
      exact ⟨a, vs, rfl, h1, h2, z⟩
    · cases e
  | scr ns => cases e
theorem asD_other (q : RepS K g x v) {d : PyData} (e : asD v S = some d) (h : ∀ ds, d ≠ .list ds) : Rp K g.F x d := by
  cases v with
  | d y => cases e; exact q
  | cell i =>
    unfold asD at e
    simp only at e
    split at e
    · cases e; exact absurd rfl (h _)
    · cases e
  | scr ns => cases e
theorem asD_dp (r : Rel K g H S) (q : RepS K g x v) {d : PyData} (e : asD v S = some d) : Dp K H x d := by
  cases d with
  | list ds =>
    obtain ⟨a, vs, rfl, h1, h2, _⟩ := asD_list r q e
    exact .lst (SqL.of h1) (RpAll.dp r.sub _ _ h2)
  | _ => exact Rp.dp r.sub _ _ (asD_other q e (fun _ z => nomatch z))
theorem asD_tup (q : RepS K g x v) {ds : List PyData} (e : asD v S = some (.tuple ds)) : ∃ a vs, x = .ref a ∧ SqT K g.F a vs ∧ RpAll K g.F vs ds ∧ Rp K g.F x (.tuple ds) ∧ ds.length ≤ 16777216 := by
  have p := asD_other q e (fun _ z => nomatch z)
  cases p with
  | tup h z t => exact ⟨_, _, rfl, h, t, .tup h z t, z⟩
end

section
variable {X : Cx} {M : Mi}
/-! ### + - * // % ** << >> & | ^ -/
def addS (fin : List PyData → Store → Out SV) : SV → SV → Store → Out SV := fun v w S => match asD v S, asD w S with
  | some (.int i), some (.int j) => .ok (.d (.int (i + j))) S
  | some (.list xs), some (.list ys) => if xs.length + ys.length ≤ 16777216 then fin (xs ++ ys) S else .no
  | some (.tuple xs), some (.tuple ys) => if xs.length + ys.length ≤ 16777216 then .ok (.d (.tuple (xs ++ ys))) S else .no
  | some (.str a), some (.str b) => if a.length + b.length ≤ 16777216 then .ok (.d (.str (a ++ b))) S else .no
  | _, _ => .no
theorem sat_add {fin : List PyData → Store → Out SV} (hf : Fin M fin) : Sat2 M (fun x y H Q => (rI0 fun i j => .int (i + j)) x y H Q ∨ rCat x y H Q ∨ rCatA M.K x y H Q ∨ ∃ i j, x = .str i ∧ y = .str j ∧ i.length + j.length ≤ sizeLine ∧ Q (.str (i ++ j)) H) (addS fin) := by
  intro W σ Q g H S x y v w r q1 q2 p
  unfold addS at p
  split at p
  · rename_i i j e1 e2
    have a1 := asD_other q1 e1 (fun _ z => nomatch z)
    have a2 := asD_other q2 e2 (fun _ z => nomatch z)
    cases a1; cases a2
    exact .inl ⟨_, _, rfl, rfl, p.now r (.int _)⟩
  · rename_i xs ys e1 e2
    split at p
    · rename_i hz
      obtain ⟨a, vs, rfl, h1, t1, z1⟩ := asD_list r q1 e1
      obtain ⟨b, ws, rfl, h2, t2, z2⟩ := asD_list r q2 e2
      exact .inr (.inl ⟨a, b, vs, ws, rfl, rfl, h1, h2, by rw [t1.len, t2.len]; exact hz, hf.lay r (by rw [List.length_append]; exact hz) (t1.append t2) p⟩)
    · exact p.elim
  · rename_i xs ys e1 e2
    split at p
    · rename_i hz
      obtain ⟨a, vs, rfl, h1, t1, p1, z1⟩ := asD_tup q1 e1
      obtain ⟨b, ws, rfl, h2, t2, p2, z2⟩ := asD_tup q2 e2
      refine .inr (.inr (.inl ⟨a, b, vs, ws, rfl, rfl, SqT.sub r.sub h1, SqT.sub r.sub h2, by rw [t1.len, t2.len]; exact hz, fun e => ?_, fun _ e => ?_, fun _ _ => lay_tup r (by rw [List.length_append]; exact hz) (t1.append t2) p⟩))
      · subst e
        cases t1
        exact p.now r p2
      · subst e
        cases t2
        rw [List.append_nil] at p
        exact p.now r p1
    · exact p.elim
  · rename_i a b e1 e2
    split at p
    · rename_i hz
      have a1 := asD_other q1 e1 (fun _ z => nomatch z)
      have a2 := asD_other q2 e2 (fun _ z => nomatch z)
      cases a1; cases a2
      exact .inr (.inr (.inr ⟨_, _, rfl, rfl, hz, p.now r (.str _)⟩))
    · exact p.elim
  · exact p.elim
theorem op_addD (hK : X.K = M.K) : OpR X (binaryOp .Add) (fun x y H Q => (rI0 fun i j => .int (i + j)) x y H Q ∨ rCat x y H Q ∨ rCatA M.K x y H Q ∨ ∃ i j, x = .str i ∧ y = .str j ∧ i.length + j.length ≤ sizeLine ∧ Q (.str (i ++ j)) H) := by
  rw [← hK]
  exact op_add.or (op_cat.or (op_catA.or op_add_str))
def mulC (i j : Int) : Bool := decide ((-(2 ^ 64) < i ∧ i < 2 ^ 64) ∨ (-(2 ^ 64) < j ∧ j < 2 ^ 64)) || decide (i.natAbs.log2 + j.natAbs.log2 < 1000000)
/-- int * int, list * int -/
def mulS (fin : List PyData → Store → Out SV) : SV → SV → Store → Out SV := fun v w S => match asD v S, asD w S with
  | some (.int i), some (.int j) => if mulC i j then .ok (.d (.int (i * j))) S else .no
  | some (.list xs), some (.int k) => if -(2 ^ 63) ≤ k ∧ k < 2 ^ 63 ∧ xs.length * k.toNat ≤ 16777216 then fin (List.replicate k.toNat xs).flatten S else .no
  | _, _ => .no
theorem RpAll.rep {K : PySem.W.Frag} {F : Hp} {vs : List V} {ds : List PyData} (h : RpAll K F vs ds) : ∀ k : Nat, RpAll K F (List.replicate k vs).flatten (List.replicate k ds).flatten
  | 0 => .nil
  | k + 1 => by
    rw [List.replicate_succ, List.replicate_succ, List.flatten_cons, List.flatten_cons]
    exact h.append (RpAll.rep h k)
theorem sat_mul {fin : List PyData → Store → Out SV} (hf : Fin M fin) : Sat2 M (fun x y H Q => (rI CMul fun i j => .int (i * j)) x y H Q ∨ (rI CMulW fun i j => .int (i * j)) x y H Q ∨ rRep x y H Q) (mulS fin) := by
  intro W σ Q g H S x y v w r q1 q2 p
  unfold mulS at p
  split at p
  · rename_i i j e1 e2
    have a1 := asD_other q1 e1 (fun _ z => nomatch z)
    have a2 := asD_other q2 e2 (fun _ z => nomatch z)
    cases a1; cases a2
    split at p
    · rename_i hc
      unfold mulC at hc
      rw [Bool.or_eq_true, decide_eq_true_eq, decide_eq_true_eq] at hc
      rcases hc with h | h
      · exact .inl ⟨_, _, rfl, rfl, h, p.now r (.int _)⟩
      · exact .inr (.inl ⟨_, _, rfl, rfl, h, p.now r (.int _)⟩)
    · exact p.elim
  · rename_i xs k e1 e2
    have a2 := asD_other q2 e2 (fun _ z => nomatch z)
    cases a2
    split at p
    · rename_i hz
      obtain ⟨a, vs, rfl, h1, t1, z1⟩ := asD_list r q1 e1
      exact .inr (.inr ⟨a, k, vs, rfl, rfl, h1, hz.1, hz.2.1, by rw [t1.len]; exact hz.2.2, hf.lay r (by rw [PyProof.Rows.lm_len_rep_flat, Nat.mul_comm]; exact hz.2.2) (t1.rep k.toNat) p⟩)
    · exact p.elim
  · exact p.elim
theorem op_mulD : OpR X (binaryOp .Mult) (fun x y H Q => (rI CMul fun i j => .int (i * j)) x y H Q ∨ (rI CMulW fun i j => .int (i * j)) x y H Q ∨ rRep x y H Q) := op_mul.or (op_mulW.or op_rep)
def divC (i j : Int) : Bool := decide (j ≠ 0 ∧ j.natAbs < 1073741824) || decide (0 < j ∧ j.natAbs.log2 < 9000)
theorem sat_div : Sat2 M (fun x y H Q => (rI CDivN fun i j => .int (i.fdiv j)) x y H Q ∨ (rI CDivW fun i j => .int (i / j)) x y H Q) (iOp divC Int.fdiv) := by
  intro W σ Q g H S x y v w r q1 q2 p
  unfold iOp at p
  split at p
  · cases q1; cases q2
    split at p
    · rename_i hc
      unfold divC at hc
      rw [Bool.or_eq_true, decide_eq_true_eq, decide_eq_true_eq] at hc
      rcases hc with h | h
      · exact .inl ⟨_, _, rfl, rfl, h, p.now r (.int _)⟩
      · rw [Int.fdiv_eq_ediv_of_nonneg _ (Int.le_of_lt h.1)] at p
        exact .inr ⟨_, _, rfl, rfl, h, p.now r (.int _)⟩
    · exact p.elim
  · exact p.elim
theorem op_divD : OpR X (binaryOp .FloorDiv) (fun x y H Q => (rI CDivN fun i j => .int (i.fdiv j)) x y H Q ∨ (rI CDivW fun i j => .int (i / j)) x y H Q) := op_fdivN.or op_fdivW
def modC (_ j : Int) : Bool := decide (j ≠ 0)
def powC (i j : Int) : Bool := decide (0 ≤ j ∧ j ≤ 1000000 ∧ i.natAbs < 2 ^ 64)
def shrC (_ j : Int) : Bool := decide (0 ≤ j)
variable {W : WX} {a b : Expr} {fa fb : EF} {pos : Pos}
def eAddF (fin : List PyData → Store → Out SV) (fa fb : EF) : EF := eBin (addS fin) fa fb
def eSub (fa fb : EF) : EF := eBin (iOp0 fun i j => i - j) fa fb
def eMulF (fin : List PyData → Store → Out SV) (fa fb : EF) : EF := eBin (mulS fin) fa fb
def eDiv (fa fb : EF) : EF := eBin (iOp divC Int.fdiv) fa fb
def eMod (fa fb : EF) : EF := eBin (iOp modC Int.fmod) fa fb
def ePow (fa fb : EF) : EF := eBin (iOp powC fun i j => i ^ j.toNat) fa fb
def eShl (fa fb : EF) : EF := eBin (iOp powC fun i j => i * 2 ^ j.toNat) fa fb
def eShr (fa fb : EF) : EF := eBin (iOp shrC fun i j => i / 2 ^ j.toNat) fa fb
def eAnd (fa fb : EF) : EF := eBin (iOp0 Builtin.bitAnd) fa fb
def eOr (fa fb : EF) : EF := eBin (iOp0 Builtin.bitOr) fa fb
def eXor (fa fb : EF) : EF := eBin (iOp0 Builtin.bitXor) fa fb
def negS : SV → Store → Out SV := fun v S => match v with
  | .d (.int i) => .ok (.d (.int (-i))) S
  | _ => .no
def eNeg (fa : EF) : EF := eUn negS fa
theorem d_add (hK : X.K = M.K) {fin : List PyData → Store → Out SV} (hf : Fin M fin) (ha : DE X M W a fa) (hb : DE X M W b fb) : DE X M W (.BinOp a .Add b pos) (eAddF fin fa fb) := d_op (op_addD hK) (sat_add hf) ha hb
theorem d_sub (ha : DE X M W a fa) (hb : DE X M W b fb) : DE X M W (.BinOp a .Sub b pos) (eSub fa fb) := d_op op_sub sat_i0 ha hb
theorem d_mul {fin : List PyData → Store → Out SV} (hf : Fin M fin) (ha : DE X M W a fa) (hb : DE X M W b fb) : DE X M W (.BinOp a .Mult b pos) (eMulF fin fa fb) := d_op op_mulD (sat_mul hf) ha hb
theorem d_div (ha : DE X M W a fa) (hb : DE X M W b fb) : DE X M W (.BinOp a .FloorDiv b pos) (eDiv fa fb) := d_op op_divD sat_div ha hb
theorem d_mod (ha : DE X M W a fa) (hb : DE X M W b fb) : DE X M W (.BinOp a .Mod b pos) (eMod fa fb) := d_op op_modN (sat_i fun _ _ h => of_decide_eq_true h) ha hb
theorem d_pow (ha : DE X M W a fa) (hb : DE X M W b fb) : DE X M W (.BinOp a .Pow b pos) (ePow fa fb) := d_op op_pow (sat_i fun i j h => of_decide_eq_true (p := 0 ≤ j ∧ j ≤ 1000000 ∧ i.natAbs < 2 ^ 64) h) ha hb
theorem d_shl (ha : DE X M W a fa) (hb : DE X M W b fb) : DE X M W (.BinOp a .LShift b pos) (eShl fa fb) := d_op op_shl (sat_i fun i j h => of_decide_eq_true (p := 0 ≤ j ∧ j ≤ 1000000 ∧ i.natAbs < 2 ^ 64) h) ha hb
theorem d_shr (ha : DE X M W a fa) (hb : DE X M W b fb) : DE X M W (.BinOp a .RShift b pos) (eShr fa fb) := d_op op_shr (sat_i fun _ _ h => of_decide_eq_true h) ha hb
theorem d_and (ha : DE X M W a fa) (hb : DE X M W b fb) : DE X M W (.BinOp a .BitAnd b pos) (eAnd fa fb) := d_op op_and sat_i0 ha hb
theorem d_or (ha : DE X M W a fa) (hb : DE X M W b fb) : DE X M W (.BinOp a .BitOr b pos) (eOr fa fb) := d_op op_or sat_i0 ha hb
theorem d_xor (ha : DE X M W a fa) (hb : DE X M W b fb) : DE X M W (.BinOp a .BitXor b pos) (eXor fa fb) := d_op op_xor sat_i0 ha hb
theorem d_neg (ha : DE X M W a fa) : DE X M W (.UnaryOp .USub a pos) (eNeg fa) := d_un un_neg (fun W σ Q g H S x v r q p => by
  unfold negS at p
  split at p
  · cases q
    exact ⟨_, rfl, p.now r (.int _)⟩
  · exact p.elim) ha

/-! ### comparisons -/
def eqS (neg : Bool) : SV → SV → Store → Out SV := fun v w S => match asD v S, asD w S with
  | some d, some e => if SeqAt.shaped d && SeqAt.shaped e then .ok (.d (.bool (if neg then !PyData.eqv d e else PyData.eqv d e))) S else .no
  | _, _ => .no
theorem sat_eq : Sat2 M (rEqD M.K) (eqS false) := by
  intro W σ Q g H S x y v w r q1 q2 p
  unfold eqS at p
  split at p
  · rename_i d e e1 e2
    split at p
    · rename_i hc
      rw [Bool.and_eq_true] at hc
      exact ⟨d, e, asD_dp r q1 e1, asD_dp r q2 e2, hc.1, hc.2, p.now r (.bl _)⟩
    · exact p.elim
  · exact p.elim
theorem sat_ne : Sat2 M (rNeD M.K) (eqS true) := by
  intro W σ Q g H S x y v w r q1 q2 p
  unfold eqS at p
  split at p
  · rename_i d e e1 e2
    split at p
    · rename_i hc
      rw [Bool.and_eq_true] at hc
      exact ⟨d, e, asD_dp r q1 e1, asD_dp r q2 e2, hc.1, hc.2, p.now r (.bl _)⟩
    · exact p.elim
  · exact p.elim
def rInT (K : PySem.W.Frag) (neg : Bool) : R2 := fun x y H Q => ∃ d ds, Dp K H x d ∧ Dp K H y (.tuple ds) ∧ SeqAt.shaped d = true ∧ SeqAt.shaped (.tuple ds) = true ∧ Q (.bl (if neg then !(ds.any fun z => PyData.eqv z d) else ds.any fun z => PyData.eqv z d)) H
theorem room_in {A : Around} {d : PyData} {ds : List PyData} (sd : SeqAt.shaped d = true) (hu : A.units + 65 < cLine) : A.units + 1 + min (PyData.depthAll ds) d.depth < cLine := by
  have := SeqAt.depth_of_shaped sd
  omega
theorem op_inT (hu : X.A.units + 65 < cLine) : OpR X (compareOp .In) (rInT X.K false) := by
  intro pins s σ H x y v u Q I rx ry h
  obtain ⟨d, ds, hd, he, sd, se, q⟩ := h
  obtain ⟨as, r1⟩ := Dp.reads I d x v hd rx
  obtain ⟨bs, r2⟩ := Dp.reads I (.tuple ds) y u he ry
  exact SeqAt.in_tuple_reads r2 r1 (SeqAt.canLay_of_shaped se) (SeqAt.canLay_of_shaped sd) (room_in sd hu) ⟨.bl _, H, I, rfl, q⟩
theorem op_notInT (hu : X.A.units + 65 < cLine) : OpR X (compareOp .NotIn) (rInT X.K true) := by
  intro pins s σ H x y v u Q I rx ry h
  obtain ⟨d, ds, hd, he, sd, se, q⟩ := h
  obtain ⟨as, r1⟩ := Dp.reads I d x v hd rx
  obtain ⟨bs, r2⟩ := Dp.reads I (.tuple ds) y u he ry
  exact SeqAt.notIn_tuple_reads r2 r1 (SeqAt.canLay_of_shaped se) (SeqAt.canLay_of_shaped sd) (room_in sd hu) ⟨.bl _, H, I, rfl, q⟩
def hasD (ds : List PyData) (d : PyData) : Bool := ds.any fun z => PyData.eqv z d
def inS (neg : Bool) : SV → SV → Store → Out SV := fun v w S => match asD v S, asD w S with
  | some d, some (.list ds) => if SeqAt.shaped d && SeqAt.shaped (.list ds) then .ok (.d (.bool (if neg then !hasD ds d else hasD ds d))) S else .no
  | some d, some (.tuple ds) => if SeqAt.shaped d && SeqAt.shaped (.tuple ds) then .ok (.d (.bool (if neg then !hasD ds d else hasD ds d))) S else .no
  | _, _ => .no
theorem sat_in : Sat2 M (fun x y H Q => rInD M.K x y H Q ∨ rInT M.K false x y H Q) (inS false) := by
  intro W σ Q g H S x y v w r q1 q2 p
  unfold inS at p
  split at p
  · rename_i d ds e1 e2
    split at p
    · rename_i hc
      rw [Bool.and_eq_true] at hc
      exact .inl ⟨d, ds, asD_dp r q1 e1, asD_dp r q2 e2, hc.1, hc.2, p.now r (.bl _)⟩
    · exact p.elim
  · rename_i d ds e1 e2
    split at p
    · rename_i hc
      rw [Bool.and_eq_true] at hc
      exact .inr ⟨d, ds, asD_dp r q1 e1, asD_dp r q2 e2, hc.1, hc.2, p.now r (.bl _)⟩
    · exact p.elim
  · exact p.elim
theorem sat_notIn : Sat2 M (fun x y H Q => rNotInD M.K x y H Q ∨ rInT M.K true x y H Q) (inS true) := by
  intro W σ Q g H S x y v w r q1 q2 p
  unfold inS at p
  split at p
  · rename_i d ds e1 e2
    split at p
    · rename_i hc
      rw [Bool.and_eq_true] at hc
      exact .inl ⟨d, ds, asD_dp r q1 e1, asD_dp r q2 e2, hc.1, hc.2, p.now r (.bl _)⟩
    · exact p.elim
  · rename_i d ds e1 e2
    split at p
    · rename_i hc
      rw [Bool.and_eq_true] at hc
      exact .inr ⟨d, ds, asD_dp r q1 e1, asD_dp r q2 e2, hc.1, hc.2, p.now r (.bl _)⟩
    · exact p.elim
  · exact p.elim
def isNS (neg : Bool) : SV → SV → Store → Out SV := fun v w S => match v, w with
  | .d .none, .d .none => .ok (.d (.bool (!neg))) S
  | .d _, .d .none => .ok (.d (.bool neg)) S
  | .cell _, .d .none => .ok (.d (.bool neg)) S
  | _, _ => .no
theorem sat_isN : Sat2 M (fun x y H Q => y = .non ∧ Q (.bl (decide (x = .non))) H) (isNS false) := by
  intro W σ Q g H S x y v w r q1 q2 p
  unfold isNS at p
  split at p
  · cases q1; cases q2; exact ⟨rfl, p.now r (.bl _)⟩
  · rename_i d hne
    cases q2
    refine ⟨rfl, ?_⟩
    have : decide (x = .non) = false := decide_eq_false fun e => by subst e; cases q1; exact hne rfl
    rw [this]
    exact p.now r (.bl _)
  · rename_i i
    cases q2
    obtain ⟨a, _, rfl⟩ := q1
    exact ⟨rfl, p.now r (.bl _)⟩
  · exact p.elim
theorem sat_notN : Sat2 M (fun x y H Q => y = .non ∧ Q (.bl (!decide (x = .non))) H) (isNS true) := by
  intro W σ Q g H S x y v w r q1 q2 p
  unfold isNS at p
  split at p
  · cases q1; cases q2; exact ⟨rfl, p.now r (.bl _)⟩
  · rename_i d hne
    cases q2
    refine ⟨rfl, ?_⟩
    have : decide (x = .non) = false := decide_eq_false fun e => by subst e; cases q1; exact hne rfl
    rw [this]
    exact p.now r (.bl _)
  · rename_i i
    cases q2
    obtain ⟨a, _, rfl⟩ := q1
    exact ⟨rfl, p.now r (.bl _)⟩
  · exact p.elim
/-- a comparison's rule and its meaning -/
structure CmpD (X : Cx) (M : Mi) (o : CmpOp) (op : SV → SV → Store → Out SV) : Prop where
  ok : ∃ r, OpR X (compareOp o) r ∧ Sat2 M r op
theorem c_lt : CmpD X M .Lt (iCmp fun i j => decide (i < j)) := ⟨_, op_lt, sat_c⟩
theorem c_le : CmpD X M .LtE (iCmp fun i j => decide (i ≤ j)) := ⟨_, op_le, sat_c⟩
theorem c_gt : CmpD X M .Gt (iCmp fun i j => decide (j < i)) := ⟨_, op_gt, sat_c⟩
theorem c_ge : CmpD X M .GtE (iCmp fun i j => decide (j ≤ i)) := ⟨_, op_ge, sat_c⟩
theorem c_eq (hK : X.K = M.K) (hu : X.A.units + 64 < cLine) : CmpD X M .Eq (eqS false) := ⟨_, op_eqD hu, by rw [hK]; exact sat_eq⟩
theorem c_ne (hK : X.K = M.K) (hu : X.A.units + 64 < cLine) : CmpD X M .NotEq (eqS true) := ⟨_, op_neD hu, by rw [hK]; exact sat_ne⟩
theorem c_in (hK : X.K = M.K) (hu : X.A.units + 65 < cLine) : CmpD X M .In (inS false) := ⟨_, (op_inD hu).or (op_inT hu), by rw [hK]; exact sat_in⟩
theorem c_notIn (hK : X.K = M.K) (hu : X.A.units + 65 < cLine) : CmpD X M .NotIn (inS true) := ⟨_, (op_notInD hu).or (op_notInT hu), by rw [hK]; exact sat_notIn⟩
theorem c_is : CmpD X M .Is (isNS false) := ⟨_, op_isN, sat_isN⟩
theorem c_isNot : CmpD X M .IsNot (isNS true) := ⟨_, op_notN, sat_notN⟩
theorem d_c {o : CmpOp} {op : SV → SV → Store → Out SV} (hc : CmpD X M o op) (ha : DE X M W a fa) (hb : DE X M W b fb) (hm : behindInMarks o b = false := by rfl) : DE X M W (.Compare a [o] [b] pos) (eBin op fa fb) := by
  obtain ⟨r, h1, h2⟩ := hc.ok
  exact d_cmp h1 h2 ha hb hm
theorem t_c {o : CmpOp} {op : SV → SV → Store → Out SV} (hc : CmpD X M o op) (ha : DE X M W a fa) (hb : DE X M W b fb) (hm : behindInMarks o b = false := by rfl) : DT X M W (.Compare a [o] [b] pos) (tst (eBin op fa fb)) := by
  obtain ⟨r, h1, h2⟩ := hc.ok
  exact t_cmp h1 h2 ha hb hm
end
end DL
/-! D3: tests, and, or, not, conditional expressions, chains, subscripts, displays, arguments, calls. -/
namespace DL
open PySem L2
section
variable {X : Cx} {M : Mi} {W : WX} {a b c : Expr} {fa fb fc : EF} {ta tb : TF} {pos : Pos} {rest : List Expr}

/-! ### truth -/
def truD : PyData → Option Bool
  | .none => some false
  | .bool b => some b
  | .int i => some (i != 0)
  | .str x => if x.length ≤ 16777216 then some ((x.length : Int) != 0) else none
  | .list xs => some (!xs.isEmpty)
  | .tuple xs => some (!xs.isEmpty)
  | .dict _ => none
def truS (v : SV) (S : Store) : Option Bool := (asD v S).bind truD
theorem RpAll.emp {K : PySem.W.Frag} {F : Hp} {vs : List V} {ds : List PyData} (h : RpAll K F vs ds) : vs.isEmpty = ds.isEmpty := by cases h <;> rfl
theorem truS_ok {g : Gh} {H : Hp} {S : Store} {x : V} {v : SV} (r : Rel M.K g H S) (q : RepS M.K g x v) {k : Bool} (e : truS v S = some k) : TruV M.K x H k := by
  unfold truS at e
  cases h : asD v S with
  | none => rw [h] at e; cases e
  | some d =>
    rw [h] at e
    have e' : truD d = some k := e
    cases d with
    | list ds =>
      obtain ⟨a, vs, rfl, h1, h2, _⟩ := asD_list r q h
      cases e'
      exact .inl ⟨vs, SqL.of h1, by rw [h2.emp]⟩
    | tuple ds =>
      obtain ⟨a, vs, rfl, h1, h2, _, _⟩ := asD_tup q h
      cases e'
      exact .inr (.inl ⟨vs, SqT.sub r.sub h1, by rw [h2.emp]⟩)
    | none =>
      have p := asD_other q h (fun _ z => nomatch z)
      cases p; cases e'; rfl
    | bool b =>
      have p := asD_other q h (fun _ z => nomatch z)
      cases p; cases e'; rfl
    | int i =>
      have p := asD_other q h (fun _ z => nomatch z)
      cases p; cases e'; rfl
    | str y =>
      have p := asD_other q h (fun _ z => nomatch z)
      cases p
      have e2 : (if y.length ≤ 16777216 then some ((y.length : Int) != 0) else Option.none) = some k := e'
      split at e2
      · rename_i hz
        cases e2
        exact ⟨hz, rfl⟩
      · cases e2
    | dict _ => cases e'
def tru (f : EF) : TF := fun Γ S => (f Γ S).bind fun v S => match truS v S with
  | some k => .ok k S
  | none => .no
theorem t_tru (hK : X.K = M.K) (ha : DE X M W a fa) (he : ∀ whole, isTrue a X.env whole = (do let v ← whole; standAt a.pos; holding [v] (truthy v)) := by intro _; rfl) : DT X M W a (tru fa) :=
  (pt_truth ha he).weak fun σ H Q h => by
    obtain ⟨g, Γ, S, r0, v0, p⟩ := h
    refine step r0 v0 p fun u H1 g1 S1 v gr r1 v1 q1 p1 => ?_
    split at p1
    · rename_i k e
      exact ⟨k, by rw [hK]; exact truS_ok r1 q1 e, p1.now r1 rfl⟩
    · exact p1.elim

/-! ### and, or, not as tests -/
abbrev DW (X : Cx) (M : Mi) (W : WX) (e : Expr) (f : TF) : Prop := PW X e (tT M W f)
def tAndF (ta tb : TF) : TF := fun Γ S => (ta Γ S).bind fun k S => if k = true then tb Γ S else .ok false S
def tOrF (ta tb : TF) : TF := fun Γ S => (ta Γ S).bind fun k S => if k = true then .ok true S else tb Γ S
def tNotF (ta : TF) : TF := fun Γ S => (ta Γ S).bind fun k S => .ok (!k) S
theorem w_and1 (ha : DT X M W a ta) : DW X M W (.BoolOp .And [a] pos) ta := pw_and1 ha
theorem w_or1 (ha : DT X M W a ta) : DW X M W (.BoolOp .Or [a] pos) ta := pw_or1 ha
theorem w_and (ha : DT X M W a ta) (hb : DW X M W (.BoolOp .And (b :: rest) pos) tb) : DW X M W (.BoolOp .And (a :: b :: rest) pos) (tAndF ta tb) :=
  (pw_and ha hb).weak fun σ H Q h => by
    obtain ⟨g, Γ, S, r0, v0, p⟩ := h
    refine step r0 v0 p fun u H1 g1 S1 v gr r1 v1 q1 p1 => ?_
    cases q1
    cases u with
    | true => exact ⟨g1, Γ, S1, r1, v1, p1⟩
    | false => exact p1.now r1 rfl
theorem w_or (ha : DT X M W a ta) (hb : DW X M W (.BoolOp .Or (b :: rest) pos) tb) : DW X M W (.BoolOp .Or (a :: b :: rest) pos) (tOrF ta tb) :=
  (pw_or ha hb).weak fun σ H Q h => by
    obtain ⟨g, Γ, S, r0, v0, p⟩ := h
    refine step r0 v0 p fun u H1 g1 S1 v gr r1 v1 q1 p1 => ?_
    cases q1
    cases u with
    | true => exact p1.now r1 rfl
    | false => exact ⟨g1, Γ, S1, r1, v1, p1⟩
theorem t_w {e : Expr} {f : TF} (h : DW X M W e f) : DT X M W e f := h.pt
theorem t_not (ha : DT X M W a ta) : DT X M W (.UnaryOp .Not a pos) (tNotF ta) :=
  (pt_not ha).weak fun σ H Q h => by
    obtain ⟨g, Γ, S, r0, v0, p⟩ := h
    refine step r0 v0 p fun u H1 g1 S1 v gr r1 v1 q1 p1 => ?_
    cases q1
    exact p1.now r1 rfl
/-! ### .. as values -/
def eAndF (fa fb : EF) : EF := fun Γ S => (fa Γ S).bind fun v S => match truS v S with
  | some true => fb Γ S
  | some false => .ok v S
  | none => .no
def eOrF (fa fb : EF) : EF := fun Γ S => (fa Γ S).bind fun v S => match truS v S with
  | some true => .ok v S
  | some false => fb Γ S
  | none => .no
def eNotF (fa : EF) : EF := fun Γ S => (fa Γ S).bind fun v S => match truS v S with
  | some k => .ok (.d (.bool (!k))) S
  | none => .no
theorem d_one {op : BoolOp} (ha : DE X M W a fa) : DE X M W (.BoolOp op [a] pos) fa := pe_one ha
theorem d_andv (hK : X.K = M.K) (ha : DE X M W a fa) (hb : DE X M W (.BoolOp .And (b :: rest) pos) fb) : DE X M W (.BoolOp .And (a :: b :: rest) pos) (eAndF fa fb) :=
  (pe_andT ha hb).weak fun σ H Q h => by
    obtain ⟨g, Γ, S, r0, v0, p⟩ := h
    refine step r0 v0 p fun u H1 g1 S1 v gr r1 v1 q1 p1 => ?_
    split at p1
    · rename_i e
      exact ⟨true, by rw [hK]; exact truS_ok r1 q1 e, iteT ⟨g1, Γ, S1, r1, v1, p1⟩⟩
    · rename_i e
      exact ⟨false, by rw [hK]; exact truS_ok r1 q1 e, iteF (p1.now r1 q1)⟩
    · exact p1.elim
theorem d_orv (hK : X.K = M.K) (ha : DE X M W a fa) (hb : DE X M W (.BoolOp .Or (b :: rest) pos) fb) : DE X M W (.BoolOp .Or (a :: b :: rest) pos) (eOrF fa fb) :=
  (pe_orT ha hb).weak fun σ H Q h => by
    obtain ⟨g, Γ, S, r0, v0, p⟩ := h
    refine step r0 v0 p fun u H1 g1 S1 v gr r1 v1 q1 p1 => ?_
    split at p1
    · rename_i e
      exact ⟨true, by rw [hK]; exact truS_ok r1 q1 e, iteT (p1.now r1 q1)⟩
    · rename_i e
      exact ⟨false, by rw [hK]; exact truS_ok r1 q1 e, iteF ⟨g1, Γ, S1, r1, v1, p1⟩⟩
    · exact p1.elim
theorem d_notv (hK : X.K = M.K) (ha : DE X M W a fa) : DE X M W (.UnaryOp .Not a pos) (eNotF fa) :=
  (pe_notT ha).weak fun σ H Q h => by
    obtain ⟨g, Γ, S, r0, v0, p⟩ := h
    refine step r0 v0 p fun u H1 g1 S1 v gr r1 v1 q1 p1 => ?_
    split at p1
    · rename_i k e
      exact ⟨k, by rw [hK]; exact truS_ok r1 q1 e, p1.now r1 (.bl _)⟩
    · exact p1.elim
def eIf (t : TF) (fa fb : EF) : EF := fun Γ S => (t Γ S).bind fun k S => if k = true then fa Γ S else fb Γ S
theorem d_if (hc : DT X M W c ta) (ha : DE X M W a fa) (hb : DE X M W b fb) : DE X M W (.IfExp c a b pos) (eIf ta fa fb) :=
  (pe_ifExp hc ha hb).weak fun σ H Q h => by
    obtain ⟨g, Γ, S, r0, v0, p⟩ := h
    refine step r0 v0 p fun u H1 g1 S1 v gr r1 v1 q1 p1 => ?_
    cases q1
    cases u with
    | true => exact ⟨g1, Γ, S1, r1, v1, p1⟩
    | false => exact ⟨g1, Γ, S1, r1, v1, p1⟩

/-! ### a < b < c -/
def eChain (op op' : SV → SV → Store → Out SV) (fa fb fc : EF) : EF := fun Γ S => (fa Γ S).bind fun v S => (fb Γ S).bind fun w S => (op v w S).bind fun z S => match z with
  | .d (.bool true) => (fc Γ S).bind fun u S => op' w u S
  | .d (.bool false) => .ok (.d (.bool false)) S
  | _ => .no
theorem chain_of {r r' : R2} {op op' : SV → SV → Store → Out SV} (h1 : Sat2 M r op) (h2 : Sat2 M r' op') {σ : St} {H : Hp} {Q : VK} (h : tE M W (eChain op op' fa fb fc) σ H Q) : tChain r r' (tE M W fa) (tE M W fb) (tE M W fc) σ H Q := by
  obtain ⟨g, Γ, S, r0, v0, p⟩ := h
  refine step r0 v0 p fun u H1 g1 S1 v gr rl1 v1 q1 p1 => step rl1 v1 p1 fun u2 H2 g2 S2 w gr2 rl2 v2 q2 p2 => ?_
  refine h1 W σ _ g2 H2 S2 _ _ v w rl2 (gr2.rep q1) q2 (Post.imp (fun z H3 q => ?_) (Post.bind (R := rS M) p2))
  obtain ⟨g3, S3, zv, gr3, rl3, q3, p3⟩ := q
  split at p3
  · cases q3
    refine ⟨true, rfl, ?_⟩
    refine iteT (step rl3 (gr3.vars v2) p3 fun u4 H4 g4 S4 x4 gr4 rl4 v4 q4 p4 => ?_)
    exact h2 W σ _ g4 H4 S4 _ _ w x4 rl4 (gr4.rep (gr3.rep q2)) q4 p4
  · cases q3
    exact ⟨false, rfl, iteF (p3.now rl3 (.bl _))⟩
  · exact p3.elim
theorem d_chain {o o' : CmpOp} {op op' : SV → SV → Store → Out SV} (h1 : CmpD X M o op) (h2 : CmpD X M o' op') (ha : DE X M W a fa) (hb : DE X M W b fb) (hc : DE X M W c fc) (hm : lastMarks [o, o'] [b, c] = false := by with_unfolding_all rfl) :
    DE X M W (.Compare a [o, o'] [b, c] pos) (eChain op op' fa fb fc) := by
  obtain ⟨r, k1, s1⟩ := h1.ok
  obtain ⟨r', k2, s2⟩ := h2.ok
  exact (pe_chain k1 k2 ha hb hc hm).weak fun _ _ _ h => chain_of s1 s2 h
theorem t_chain {o o' : CmpOp} {op op' : SV → SV → Store → Out SV} (h1 : CmpD X M o op) (h2 : CmpD X M o' op') (ha : DE X M W a fa) (hb : DE X M W b fb) (hc : DE X M W c fc) (hm : lastMarks [o, o'] [b, c] = false := by with_unfolding_all rfl) :
    DT X M W (.Compare a [o, o'] [b, c] pos) (tst (eChain op op' fa fb fc)) := by
  obtain ⟨r, k1, s1⟩ := h1.ok
  obtain ⟨r', k2, s2⟩ := h2.ok
  exact (pt_chain k1 k2 ha hb hc hm).weak fun _ _ _ h => tst_of (fun _ _ _ h => chain_of s1 s2 h) h

/-! ### arguments, displays -/
def aNil : AF := fun _ S => .ok [] S
def aCons (f : EF) (r : AF) : AF := fun Γ S => (f Γ S).bind fun v S => (r Γ S).bind fun vs S => .ok (v :: vs) S
theorem da_nil : DA X M W [] aNil := pa_nil.weak fun σ H Q h => by
  obtain ⟨g, Γ, S, r0, v0, p⟩ := h
  exact Post.now p r0 .nil
theorem da_cons {e : Expr} {es : List Expr} {f : EF} {r : AF} (he : DE X M W e f) (hr : DA X M W es r) (hs : starEach (e :: es) X.env = (false, eval e X.env) :: starEach es X.env := by rfl) : DA X M W (e :: es) (aCons f r) :=
  (pa_cons he hr hs).weak fun σ H Q h => by
    obtain ⟨g, Γ, S, r0, v0, p⟩ := h
    refine step r0 v0 p fun u H1 g1 S1 v gr r1 v1 q1 p1 => step r1 v1 p1 fun us H2 g2 S2 vs gr2 r2 v2 q2 p2 => ?_
    exact p2.now r2 (.cons (gr2.rep q1) q2)
/-- values as data -/
def allD : List SV → Store → Option (List PyData)
  | [], _ => some []
  | .d x :: r, S => (allD r S).map (x :: ·)
  | _ :: _, _ => none
theorem allD_ok {g : Gh} {S : Store} : ∀ {us : List V} {vs : List SV} {ds : List PyData}, RepA M.K g us vs → allD vs S = some ds → RpAll M.K g.F us ds
  | _, [], _, .nil, e => by cases e; exact .nil
  | _, .d x :: r, ds, .cons q t, e => by
    unfold allD at e
    cases h : allD r S with
    | none => rw [h] at e; cases e
    | some es =>
      rw [h] at e
      cases e
      exact .cons q (allD_ok t h)
  | _, .cell _ :: _, _, _, e => by cases e
  | _, .scr _ :: _, _, _, e => by cases e
def eTup (f : AF) : EF := fun Γ S => (f Γ S).bind fun vs S => match allD vs S with
  | some ds => if ds.length ≤ 16777216 then .ok (.d (.tuple ds)) S else .no
  | none => .no
def eLst (fin : List PyData → Store → Out SV) (f : AF) : EF := fun Γ S => (f Γ S).bind fun vs S => match allD vs S with
  | some ds => if ds.length ≤ 16777216 then fin ds S else .no
  | none => .no
theorem d_tup {es : List Expr} {k : Nat} {f : AF} (h : DA X M W es f) : DE X M W (.Tuple es k pos) (eTup f) :=
  (pe_tup h).weak fun σ H Q h => by
    obtain ⟨g, Γ, S, r0, v0, p⟩ := h
    refine step r0 v0 p fun us H1 g1 S1 vs gr r1 v1 q1 p1 => ?_
    split at p1
    · rename_i ds e
      split at p1
      · rename_i hz
        have t := allD_ok q1 e
        exact ⟨by rw [t.len]; exact hz, lay_tup r1 hz t p1⟩
      · exact p1.elim
    · exact p1.elim
theorem d_lst {fin : List PyData → Store → Out SV} (hf : Fin M fin) {es : List Expr} {f : AF} (h : DA X M W es f) : DE X M W (.List es pos) (eLst fin f) :=
  (pe_lst h).weak fun σ H Q h => by
    obtain ⟨g, Γ, S, r0, v0, p⟩ := h
    refine step r0 v0 p fun us H1 g1 S1 vs gr r1 v1 q1 p1 => ?_
    split at p1
    · rename_i ds e
      split at p1
      · rename_i hz
        have t := allD_ok q1 e
        exact ⟨by rw [t.len]; exact hz, hf.lay r1 hz t p1⟩
      · exact p1.elim
    · exact p1.elim

/-! ### subscripts, slices -/
def ixS : SV → SV → Store → Out SV := fun v w S => match asD v S, asD w S with
  | some (.list xs), some (.int i) => match atI xs i with
    | some d => .ok (.d d) S
    | none => .no
  | some (.tuple xs), some (.int i) => match atI xs i with
    | some d => .ok (.d d) S
    | none => .no
  | _, _ => .no
theorem atI_rep {K : PySem.W.Frag} {F : Hp} {vs : List V} {ds : List PyData} (h : RpAll K F vs ds) {i : Int} {d : PyData} (e : atI ds i = some d) : ∃ v, atI vs i = some v ∧ Rp K F v d := by
  unfold atI at e ⊢
  rw [h.len]
  cases q : ixN ds.length i with
  | none => rw [q] at e; cases e
  | some j =>
    rw [q] at e
    obtain ⟨v, h1, h2⟩ := h.get e
    exact ⟨v, h1, h2⟩
theorem sat_ix : Sat2 M (rIx M.K) ixS := by
  intro W σ Q g H S x y v w r q1 q2 p
  unfold ixS at p
  split at p
  · rename_i xs i e1 e2
    have a2 := asD_other q2 e2 (fun _ z => nomatch z)
    cases a2
    split at p
    · rename_i d e
      obtain ⟨a, vs, rfl, h1, t1, _⟩ := asD_list r q1 e1
      obtain ⟨u, hu, ru⟩ := atI_rep t1 e
      exact .inl ⟨a, vs, i, u, rfl, rfl, SqL.of h1, hu, p.now r ru⟩
    · exact p.elim
  · rename_i xs i e1 e2
    have a2 := asD_other q2 e2 (fun _ z => nomatch z)
    cases a2
    split at p
    · rename_i d e
      obtain ⟨a, vs, rfl, h1, t1, _, _⟩ := asD_tup q1 e1
      obtain ⟨u, hu, ru⟩ := atI_rep t1 e
      exact .inr (.inl ⟨a, vs, i, u, rfl, rfl, SqT.sub r.sub h1, hu, p.now r ru⟩)
    · exact p.elim
  · exact p.elim
def eIx (fa fb : EF) : EF := eBin ixS fa fb
theorem d_ix (hK : X.K = M.K) (ha : DE X M W a fa) (hb : DE X M W b fb) (hs : PlainIx b := by exact fun _ _ => rfl) : DE X M W (.Subscript a b pos) (eIx fa fb) :=
  (pe_ix (r := rIx M.K) (by rw [← hK]; exact ix_seq) ha hb hs).weak fun _ _ _ h => tOp_of sat_ix h
abbrev OF := Ev → Store → Out (Option Int)
def oNone : OF := fun _ S => .ok none S
def oSome (f : EF) : OF := fun Γ S => (f Γ S).bind fun v S => match v with
  | .d (.int i) => .ok (some i) S
  | _ => .no
def rO : Gh → Option Int → Option Int → Prop := fun _ a b => a = b
abbrev DO (X : Cx) (M : Mi) (W : WX) (e : Option Expr) (f : OF) : Prop := PO X e (tG M W rO f)
theorem PO.weak' {X : Cx} {e : Option Expr} {t t' : TO} (h : PO X e t) (k : ∀ σ H Q, t' σ H Q → t σ H Q) : PO X e t' := ⟨fun pins s σ H Q I z => h.run pins s σ H Q I (k _ _ _ z)⟩
theorem do_none : DO X M W none oNone := PO.weak' po_none fun σ H Q h => by
  obtain ⟨g, Γ, S, r0, v0, p⟩ := h
  exact Post.now p r0 rfl
theorem do_some (ha : DE X M W a fa) : DO X M W (some a) (oSome fa) := PO.weak' (po_some ha) fun σ H Q h => by
  obtain ⟨g, Γ, S, r0, v0, p⟩ := h
  refine step r0 v0 p fun u H1 g1 S1 v gr r1 v1 q1 p1 => ?_
  split at p1
  · cases q1
    exact ⟨_, rfl, p1.now r1 rfl⟩
  · exact p1.elim
def cutD (xs : List PyData) (lo hi : Option Int) : List PyData := (xs.drop (HT.sIx xs.length 0 lo)).take (HT.sIx xs.length xs.length hi - HT.sIx xs.length 0 lo)
theorem cutD_len (xs : List PyData) (lo hi : Option Int) : (cutD xs lo hi).length ≤ xs.length := by
  unfold cutD
  rw [List.length_take, List.length_drop]
  omega
def slS (fin : List PyData → Store → Out SV) (v : SV) (lo hi : Option Int) (S : Store) : Out SV := match asD v S with
  | some (.list xs) => fin (cutD xs lo hi) S
  | some (.tuple xs) => .ok (.d (.tuple (cutD xs lo hi))) S
  | _ => .no
def eSl (fin : List PyData → Store → Out SV) (fa : EF) (fl fh : OF) : EF := fun Γ S => (fa Γ S).bind fun v S => (fl Γ S).bind fun lo S => (fh Γ S).bind fun hi S => slS fin v lo hi S
theorem d_sl (hK : X.K = M.K) {fin : List PyData → Store → Out SV} (hf : Fin M fin) {lo hi : Option Expr} {fl fh : OF} {p2 : Pos} (ha : DE X M W a fa) (hl : DO X M W lo fl) (hh : DO X M W hi fh) : DE X M W (.Subscript a (.Slice lo hi none p2) pos) (eSl fin fa fl fh) :=
  (pe_slice (sl_list.or sl_tupA) ha hl hh).weak fun σ H Q h => by
    obtain ⟨g, Γ, S, r0, v0, p⟩ := h
    refine step r0 v0 p fun u H1 g1 S1 v gr r1 v1 q1 p1 => step r1 v1 p1 fun l H2 g2 S2 lo' gr2 r2 v2 q2 p2 => step r2 v2 p2 fun m H3 g3 S3 hi' gr3 r3 v3 q3 p3 => ?_
    cases q2; cases q3
    have q1' := gr3.rep (gr2.rep q1)
    unfold slS at p3
    split at p3
    · rename_i xs e
      obtain ⟨a, vs, rfl, h1, t1, hz⟩ := asD_list r3 q1' e
      refine .inl ⟨a, vs, rfl, SqL.of h1, hf.lay r3 (Nat.le_trans (cutD_len _ _ _) hz) ?_ p3⟩
      unfold cutV
      rw [t1.len]
      exact (t1.drop _).take _
    · rename_i xs e
      obtain ⟨a, vs, rfl, h1, t1, pp, hz⟩ := asD_tup q1' e
      refine .inr ⟨a, vs, rfl, by rw [hK]; exact SqT.sub r3.sub h1, fun hw => ?_, fun hw => ?_⟩
      · rw [t1.len] at hw
        unfold cutD at p3
        rw [hw.1, hw.2, List.drop_zero, Nat.sub_zero, List.take_length] at p3
        exact p3.now r3 pp
      · refine lay_tup r3 (Nat.le_trans (cutD_len _ _ _) hz) ?_ p3
        unfold cutV
        rw [t1.len]
        exact (t1.drop _).take _
    · exact p3.elim
end
end DL
/-! D4: calls of built-ins and of defs. -/
namespace DL
open PySem L2
section
variable {X : Cx} {M : Mi} {W : WX} {a b c e : Expr} {es : List Expr} {fa fb fc : EF} {af : AF} {pos p : Pos} {x : Str} {id T : String}

def eCall (op : List SV → Store → Out SV) (f : AF) : EF := fun Γ S => (f Γ S).bind fun vs S => op vs S
def SatA (M : Mi) (r : List V → Hp → VK → Prop) (op : List SV → Store → Out SV) : Prop := ∀ (W : WX) (σ : St) (Q : VK) (g : Gh) (H : Hp) (S : Store) (us : List V) (vs : List SV),
  Rel M.K g H S → RepA M.K g us vs → Post M W σ (rS M) Q g H (op vs S) → r us H Q
theorem tCB_of {r : List V → Hp → VK → Prop} {op : List SV → Store → Out SV} (hs : SatA M r op) {σ : St} {H : Hp} {Q : VK} (h : tE M W (eCall op af) σ H Q) : tCB r (tA M W af) σ H Q := by
  obtain ⟨g, Γ, S, r0, v0, p⟩ := h
  exact step r0 v0 p fun us H1 g1 S1 vs gr r1 v1 q1 p1 => hs _ _ _ _ _ _ _ _ r1 q1 p1
theorem d_callB {r : List V → Hp → VK → Prop} {op : List SV → Store → Out SV} (hc : CallR X (.builtin id) r) (hs : SatA M r op) (hg : Gl X x) (hm : X.mg x = none) (hv : bootBuiltins x = some (.builtin id)) (ha : DA X M W (e :: es) af) (hn : x ≠ "__name__" := by decide) (hdb : (x == ("__debug__" : Str)) = false := by decide)
    (he : starEach (e :: es) X.env = (false, eval e X.env) :: starEach es X.env := by rfl) (hpl : (backTo pos (starEach es X.env)).any (·.1) = false := by rfl) : DE X M W (.Call (.Name x p) (e :: es) [] pos) (eCall op af) :=
  (pe_callB hc hg hm hv ha hn hdb he hpl).weak fun _ _ _ h => tCB_of hs h
theorem d_callTy {r : List V → Hp → VK → Prop} {op : List SV → Store → Out SV} (hc : CallR X (.type T) r) (hs : SatA M r op) (hg : Gl X x) (hm : X.mg x = none) (hv : bootBuiltins x = some (.type T)) (ha : DA X M W (e :: es) af) (hn : x ≠ "__name__" := by decide) (hdb : (x == ("__debug__" : Str)) = false := by decide)
    (he : starEach (e :: es) X.env = (false, eval e X.env) :: starEach es X.env := by rfl) (hpl : (backTo pos (starEach es X.env)).any (·.1) = false := by rfl) : DE X M W (.Call (.Name x p) (e :: es) [] pos) (eCall op af) :=
  (pe_callTy hc hg hm hv ha hn hdb he hpl).weak fun _ _ _ h => tCB_of hs h
theorem d_callFun {r : List V → Hp → VK → Prop} {op : List SV → Store → Out SV} (hc : CallR X (.builtin id) r) (hs : SatA M r op) (hg : Gl X x) (hm : X.mg x = some (.builtin id)) (ha : DA X M W (e :: es) af) (hdb : (x == ("__debug__" : Str)) = false := by decide)
    (he : starEach (e :: es) X.env = (false, eval e X.env) :: starEach es X.env := by rfl) (hpl : (backTo pos (starEach es X.env)).any (·.1) = false := by rfl) : DE X M W (.Call (.Name x p) (e :: es) [] pos) (eCall op af) :=
  (pe_callBfun hc hg hm ha hdb he hpl).weak fun _ _ _ h => tCB_of hs h

/-! ### len -/
def lenS : List SV → Store → Out SV := fun vs S => match vs with
  | [v] => match asD v S with
    | some (.list xs) => .ok (.d (.int xs.length)) S
    | some (.tuple xs) => .ok (.d (.int xs.length)) S
    | some (.str x) => if x.length ≤ 16777216 then .ok (.d (.int x.length)) S else .no
    | _ => .no
  | _ => .no
theorem sat_len : SatA M (fun xs H Q => ∃ x n, xs = [x] ∧ LenV M.K x H n ∧ Q (.int n) H) lenS := by
  intro W σ Q g H S us vs r q p
  unfold lenS at p
  split at p
  · cases q with
    | cons q1 q2 =>
      cases q2
      split at p
      · rename_i xs e1
        obtain ⟨a, ws, rfl, h1, t1, hz⟩ := asD_list r q1 e1
        exact ⟨_, ws.length, rfl, .inl ⟨ws, SqL.of h1, rfl⟩, by rw [t1.len]; exact p.now r (.int _)⟩
      · rename_i xs e1
        obtain ⟨a, ws, rfl, h1, t1, _, hz⟩ := asD_tup q1 e1
        exact ⟨_, ws.length, rfl, .inr ⟨ws, SqT.sub r.sub h1, rfl⟩, by rw [t1.len]; exact p.now r (.int _)⟩
      · rename_i y e1
        have a1 := asD_other q1 e1 (fun _ z => nomatch z)
        cases a1
        split at p
        · rename_i hz
          exact ⟨_, y.length, rfl, ⟨hz, rfl⟩, p.now r (.int _)⟩
        · exact p.elim
      · exact p.elim
  · exact p.elim
theorem d_len (hK : X.K = M.K) (hg : Gl X "len") (hm : X.mg "len" = none) (ha : DE X M W a fa) (he : starEach [a] X.env = (false, eval a X.env) :: starEach [] X.env := by rfl) (hpl : (backTo pos (starEach [] X.env)).any (·.1) = false := by rfl) : DE X M W (.Call (.Name "len" p) [a] [] pos) (eCall lenS (aCons fa aNil)) :=
  d_callB (by rw [← hK]; exact call_len) sat_len hg hm PySem.boot_len (da_cons ha da_nil he) (by decide) (by decide) he hpl

/-! ### int, abs, gcd -/
def intS : List SV → Store → Out SV := fun vs S => match vs with
  | [.d (.int i)] => .ok (.d (.int i)) S
  | [.d (.bool b)] => .ok (.d (.int (if b then 1 else 0))) S
  | _ => .no
theorem sat_int : SatA M (fun xs H Q => (∃ i, xs = [.int i] ∧ Q (.int i) H) ∨ ∃ k, xs = [.bl k] ∧ Q (.int (if k then 1 else 0)) H) intS := by
  intro W σ Q g H S us vs r q p
  unfold intS at p
  split at p
  · cases q with
    | cons q1 q2 => cases q2; cases q1; exact .inl ⟨_, rfl, p.now r (.int _)⟩
  · cases q with
    | cons q1 q2 => cases q2; cases q1; exact .inr ⟨_, rfl, p.now r (.int _)⟩
  · exact p.elim
def absS : List SV → Store → Out SV := fun vs S => match vs with
  | [.d (.int i)] => .ok (.d (.int (if i < 0 then -i else i))) S
  | _ => .no
theorem sat_abs : SatA M (fun xs H Q => ∃ i, xs = [.int i] ∧ Q (.int (if i < 0 then -i else i)) H) absS := by
  intro W σ Q g H S us vs r q p
  unfold absS at p
  split at p
  · cases q with
    | cons q1 q2 => cases q2; cases q1; exact ⟨_, rfl, p.now r (.int _)⟩
  · exact p.elim
/-- min, max of two ints -/
def mmS (f : Int → Int → Int) : List SV → Store → Out SV := fun vs S => match vs with
  | [.d (.int i), .d (.int j)] => .ok (.d (.int (f i j))) S
  | _ => .no
theorem sat_mm {f : Int → Int → Int} {r : List V → Hp → VK → Prop} (hr : ∀ i j H (Q : VK), Q (.int (f i j)) H → r [.int i, .int j] H Q) : SatA M r (mmS f) := by
  intro W σ Q g H S us vs r q p
  unfold mmS at p
  split at p
  · cases q with
    | cons q1 q2 =>
      cases q2 with
      | cons q2 q3 => cases q3; cases q1; cases q2; exact hr _ _ _ _ (p.now r (.int _))
  · exact p.elim
theorem sat_gcd : SatA M rGcd (mmS fun i j => (Int.gcd i j : Int)) := sat_mm fun i j H Q q => ⟨i, j, rfl, q⟩

/-! ### list(x), tuple(x) -/
def listS (fin : List PyData → Store → Out SV) : List SV → Store → Out SV := fun vs S => match vs with
  | [v] => match asD v S with
    | some (.list xs) => fin xs S
    | some (.tuple xs) => fin xs S
    | _ => .no
  | _ => .no
theorem sat_list {fin : List PyData → Store → Out SV} (hf : Fin M fin) : SatA M (fun xs H Q => ∃ p ys, xs = [.ref p] ∧ (SqL M.K H p ys ∨ SqT M.K H p ys) ∧ ∀ l, H l = none → Q (.ref l) (upd H l (.lst ys))) (listS fin) := by
  intro W σ Q g H S us vs r q p
  unfold listS at p
  split at p
  · cases q with
    | cons q1 q2 =>
      cases q2
      split at p
      · rename_i xs e1
        obtain ⟨a, ws, rfl, h1, t1, hz⟩ := asD_list r q1 e1
        exact ⟨a, ws, rfl, .inl (SqL.of h1), hf.lay r hz t1 p⟩
      · rename_i xs e1
        obtain ⟨a, ws, rfl, h1, t1, _, hz⟩ := asD_tup q1 e1
        exact ⟨a, ws, rfl, .inr (SqT.sub r.sub h1), hf.lay r hz t1 p⟩
      · exact p.elim
  · exact p.elim
def tupS : List SV → Store → Out SV := fun vs S => match vs with
  | [v] => match asD v S with
    | some (.list xs) => .ok (.d (.tuple xs)) S
    | some (.tuple xs) => .ok (.d (.tuple xs)) S
    | _ => .no
  | _ => .no
theorem sat_tup : SatA M (fun xs H Q => ∃ p ys, xs = [.ref p] ∧ ((SqL M.K H p ys ∧ ∀ l, H l = none → Q (.ref l) (upd H l (.tup ys))) ∨ (SqT M.K H p ys ∧ Q (.ref p) H))) tupS := by
  intro W σ Q g H S us vs r q p
  unfold tupS at p
  split at p
  · cases q with
    | cons q1 q2 =>
      cases q2
      split at p
      · rename_i xs e1
        obtain ⟨a, ws, rfl, h1, t1, hz⟩ := asD_list r q1 e1
        exact ⟨a, ws, rfl, .inl ⟨SqL.of h1, lay_tup r hz t1 p⟩⟩
      · rename_i xs e1
        obtain ⟨a, ws, rfl, h1, t1, pp, hz⟩ := asD_tup q1 e1
        exact ⟨a, ws, rfl, .inr ⟨SqT.sub r.sub h1, p.now r pp⟩⟩
      · exact p.elim
  · exact p.elim
theorem d_list (hK : X.K = M.K) {fin : List PyData → Store → Out SV} (hf : Fin M fin) (hg : Gl X "list") (hm : X.mg "list" = none) (ha : DE X M W a fa) (he : starEach [a] X.env = (false, eval a X.env) :: starEach [] X.env := by rfl) (hpl : (backTo pos (starEach [] X.env)).any (·.1) = false := by rfl) : DE X M W (.Call (.Name "list" p) [a] [] pos) (eCall (listS fin) (aCons fa aNil)) :=
  d_callTy (by rw [← hK]; exact call_list_of) (sat_list hf) hg hm PyProof.Rows.boot_list (da_cons ha da_nil he) (by decide) (by decide) he hpl
theorem d_tuple (hK : X.K = M.K) (hg : Gl X "tuple") (hm : X.mg "tuple" = none) (ha : DE X M W a fa) (he : starEach [a] X.env = (false, eval a X.env) :: starEach [] X.env := by rfl) (hpl : (backTo pos (starEach [] X.env)).any (·.1) = false := by rfl) : DE X M W (.Call (.Name "tuple" p) [a] [] pos) (eCall tupS (aCons fa aNil)) :=
  d_callTy (by rw [← hK]; exact call_tuple_of) sat_tup hg hm PyProof.Rows.boot_tuple (da_cons ha da_nil he) (by decide) (by decide) he hpl
theorem d_int1 (hg : Gl X "int") (hm : X.mg "int" = none) (ha : DE X M W a fa) (he : starEach [a] X.env = (false, eval a X.env) :: starEach [] X.env := by rfl) (hpl : (backTo pos (starEach [] X.env)).any (·.1) = false := by rfl) : DE X M W (.Call (.Name "int" p) [a] [] pos) (eCall intS (aCons fa aNil)) :=
  d_callTy call_int1 sat_int hg hm (by decide +kernel) (da_cons ha da_nil he) (by decide) (by decide) he hpl
theorem d_abs (hg : Gl X "abs") (hm : X.mg "abs" = none) (ha : DE X M W a fa) (he : starEach [a] X.env = (false, eval a X.env) :: starEach [] X.env := by rfl) (hpl : (backTo pos (starEach [] X.env)).any (·.1) = false := by rfl) : DE X M W (.Call (.Name "abs" p) [a] [] pos) (eCall absS (aCons fa aNil)) :=
  d_callB call_abs sat_abs hg hm (by decide +kernel) (da_cons ha da_nil he) (by decide) (by decide) he hpl
theorem d_gcd (hg : Gl X "gcd") (hm : X.mg "gcd" = some (.builtin "math.gcd")) (ha : DE X M W a fa) (hb : DE X M W b fb) (he : starEach [a, b] X.env = (false, eval a X.env) :: starEach [b] X.env := by rfl) (he2 : starEach [b] X.env = (false, eval b X.env) :: starEach [] X.env := by rfl) (hpl : (backTo pos (starEach [b] X.env)).any (·.1) = false := by rfl) :
    DE X M W (.Call (.Name "gcd" p) [a, b] [] pos) (eCall (mmS fun i j => (Int.gcd i j : Int)) (aCons fa (aCons fb aNil))) :=
  d_callFun cr_gcd sat_gcd hg hm (da_cons ha (da_cons hb da_nil he2) he) (by decide) he hpl
theorem d_min2 (hc : X.calm = true) (hg : Gl X "min") (hm : X.mg "min" = none) (ha : DE X M W a fa) (hb : DE X M W b fb) (he : starEach [a, b] X.env = (false, eval a X.env) :: starEach [b] X.env := by rfl) (he2 : starEach [b] X.env = (false, eval b X.env) :: starEach [] X.env := by rfl) (hpl : (backTo pos (starEach [b] X.env)).any (·.1) = false := by rfl) :
    DE X M W (.Call (.Name "min" p) [a, b] [] pos) (eCall (mmS fun i j => if j < i then j else i) (aCons fa (aCons fb aNil))) :=
  d_callB (call_min2 hc) (sat_mm fun i j H Q q => ⟨i, j, rfl, q⟩) hg hm (by decide +kernel) (da_cons ha (da_cons hb da_nil he2) he) (by decide) (by decide) he hpl
theorem d_max2 (hc : X.calm = true) (hg : Gl X "max") (hm : X.mg "max" = none) (ha : DE X M W a fa) (hb : DE X M W b fb) (he : starEach [a, b] X.env = (false, eval a X.env) :: starEach [b] X.env := by rfl) (he2 : starEach [b] X.env = (false, eval b X.env) :: starEach [] X.env := by rfl) (hpl : (backTo pos (starEach [b] X.env)).any (·.1) = false := by rfl) :
    DE X M W (.Call (.Name "max" p) [a, b] [] pos) (eCall (mmS fun i j => if j > i then j else i) (aCons fa (aCons fb aNil))) :=
  d_callB (call_max2 hc) (sat_mm fun i j H Q q => ⟨i, j, rfl, q⟩) hg hm (by decide +kernel) (da_cons ha (da_cons hb da_nil he2) he) (by decide) (by decide) he hpl

/-! ### list(range(..)), tuple(range(..)) -/
def rgD (a b : Int) : List PyData := (List.range (b - a).toNat).map fun (i : Nat) => PyData.int (a + i)
theorem rgD_rep {K : PySem.W.Frag} {F : Hp} (a b : Int) : RpAll K F (rgV a b) (rgD a b) := by
  unfold rgV rgD
  have h : ∀ l : List Nat, RpAll K F (l.map fun (i : Nat) => V.int (a + i)) (l.map fun (i : Nat) => PyData.int (a + i)) := fun l => by
    induction l with
    | nil => exact .nil
    | cons i l ih => exact .cons (.int _) ih
  exact h _
def rgC (a b : Int) : Bool := decide (-(2 ^ 62) ≤ a ∧ a < 2 ^ 62 ∧ -(2 ^ 62) ≤ b ∧ b < 2 ^ 62 ∧ (b - a).toNat ≤ 16777216)
theorem rgC_ok {a b : Int} (h : rgC a b = true) : RgOk a b := of_decide_eq_true (p := -(2 ^ 62) ≤ a ∧ a < 2 ^ 62 ∧ -(2 ^ 62) ≤ b ∧ b < 2 ^ 62 ∧ (b - a).toNat ≤ 16777216) h
theorem rgD_len {a b : Int} (h : rgC a b = true) : (rgD a b).length ≤ 16777216 := by
  unfold rgD
  rw [List.length_map, List.length_range]
  exact (rgC_ok h).2.2.2.2
/-- the bounds of range(..) -/
abbrev RF := Ev → Store → Out (Int × Int)
def rg1 (f : EF) : RF := fun Γ S => (f Γ S).bind fun v S => match v with
  | .d (.int n) => .ok (0, n) S
  | _ => .no
def rg2 (f g : EF) : RF := fun Γ S => (f Γ S).bind fun v S => (g Γ S).bind fun w S => match v, w with
  | .d (.int i), .d (.int j) => .ok (i, j) S
  | _, _ => .no
def DRg (X : Cx) (M : Mi) (W : WX) (e : Expr) (f : RF) : Prop := PRg X e (fun σ H Q => ∃ g Γ S, Rel M.K g H S ∧ Vars M.K g σ Γ ∧ Post M W σ (fun _ (u v : Int × Int) => u = v) (fun u H => Q u.1 u.2 H) g H (f Γ S))
theorem PRg.weak' {X : Cx} {e : Expr} {t t' : St → Hp → (Int → Int → Hp → Prop) → Prop} (h : PRg X e t) (k : ∀ σ H Q, t' σ H Q → t σ H Q) : PRg X e t' := fun pins s σ H Q I z => h pins s σ H Q I (k _ _ _ z)
theorem drg1 (hg : Gl X "range") (hm : X.mg "range" = none) (ha : DE X M W a fa) (na : starEach [a] X.env = (false, eval a X.env) :: starEach [] X.env := by rfl) : DRg X M W (.Call (.Name "range" p) [a] [] pos) (rg1 fa) :=
  PRg.weak' (prg_1 hg hm ha na) fun σ H Q h => by
    obtain ⟨g, Γ, S, r0, v0, p⟩ := h
    refine step r0 v0 p fun u H1 g1 S1 v gr r1 v1 q1 p1 => ?_
    split at p1
    · cases q1
      exact ⟨_, rfl, p1.now (u := (0, _)) r1 rfl⟩
    · exact p1.elim
theorem drg2 (hg : Gl X "range") (hm : X.mg "range" = none) (ha : DE X M W a fa) (hb : DE X M W b fb) (na : starEach [a, b] X.env = (false, eval a X.env) :: starEach [b] X.env := by rfl)
    (nb : starEach [b] X.env = (false, eval b X.env) :: starEach [] X.env := by rfl) (hp : (backTo pos (starEach [b] X.env)).any (·.1) = false := by rfl) : DRg X M W (.Call (.Name "range" p) [a, b] [] pos) (rg2 fa fb) :=
  PRg.weak' (prg_2 hg hm ha hb na nb hp) fun σ H Q h => by
    obtain ⟨g, Γ, S, r0, v0, p⟩ := h
    refine step r0 v0 p fun u H1 g1 S1 v gr r1 v1 q1 p1 => step r1 v1 p1 fun u2 H2 g2 S2 w gr2 r2 v2 q2 p2 => ?_
    split at p2
    · have q1' := gr2.rep q1
      cases q1'; cases q2
      exact ⟨_, _, rfl, rfl, p2.now (u := (_, _)) r2 rfl⟩
    · exact p2.elim
def eLstRg (fin : List PyData → Store → Out SV) (f : RF) : EF := fun Γ S => (f Γ S).bind fun ab S => if rgC ab.1 ab.2 then fin (rgD ab.1 ab.2) S else .no
def eTupRg (f : RF) : EF := fun Γ S => (f Γ S).bind fun ab S => if rgC ab.1 ab.2 then .ok (.d (.tuple (rgD ab.1 ab.2))) S else .no
theorem d_lstRg {fin : List PyData → Store → Out SV} (hf : Fin M fin) {f : RF} (hc : X.calm = true) (hg : Gl X "list") (hm : X.mg "list" = none) (he : DRg X M W e f) (na : starEach [e] X.env = (false, eval e X.env) :: starEach [] X.env := by rfl) : DE X M W (.Call (.Name "list" p) [e] [] pos) (eLstRg fin f) :=
  (pe_listRg hc hg hm he na).weak fun σ H Q h => by
    obtain ⟨g, Γ, S, r0, v0, p⟩ := h
    refine ⟨g, Γ, S, r0, v0, Post.imp (fun u H1 q => ?_) (Post.bind (R := fun _ (u v : Int × Int) => u = v) p)⟩
    obtain ⟨g1, S1, ab, gr, r1, q1, p1⟩ := q
    cases q1
    split at p1
    · rename_i hz
      exact ⟨rgC_ok hz, hf.lay r1 (rgD_len hz) (rgD_rep _ _) p1⟩
    · exact p1.elim
theorem d_tupRg {f : RF} (hc : X.calm = true) (hg : Gl X "tuple") (hm : X.mg "tuple" = none) (he : DRg X M W e f) (na : starEach [e] X.env = (false, eval e X.env) :: starEach [] X.env := by rfl) : DE X M W (.Call (.Name "tuple" p) [e] [] pos) (eTupRg f) :=
  (pe_tupRg hc hg hm he na).weak fun σ H Q h => by
    obtain ⟨g, Γ, S, r0, v0, p⟩ := h
    refine ⟨g, Γ, S, r0, v0, Post.imp (fun u H1 q => ?_) (Post.bind (R := fun _ (u v : Int × Int) => u = v) p)⟩
    obtain ⟨g1, S1, ab, gr, r1, q1, p1⟩ := q
    cases q1
    split at p1
    · rename_i hz
      exact ⟨rgC_ok hz, lay_tup r1 (rgD_len hz) (rgD_rep _ _) p1⟩
    · exact p1.elim

/-! ### isinstance -/
def tyN : PyData → String
  | .none => "NoneType"
  | .bool _ => "bool"
  | .int _ => "int"
  | .str _ => "str"
  | .list _ => "list"
  | .tuple _ => "tuple"
  | .dict _ => "dict"
def isiB (t T : String) : Bool := t == T || (t == "bool" && T == "int")
def okT (T : String) : Bool := ["int", "bool", "str", "list", "tuple", "dict", "NoneType", "float"].contains T
theorem kit_tab : (["NoneType", "bool", "int", "str", "list", "tuple", "dict"].all fun t => ["int", "bool", "str", "list", "tuple", "dict", "NoneType", "float"].all fun T => kitB t T == some (isiB t T)) = true := by decide +kernel
theorem kitB_ok (d : PyData) {T : String} (h : okT T = true) : kitB (tyN d) T = some (isiB (tyN d) T) := by
  have h1 : tyN d ∈ ["NoneType", "bool", "int", "str", "list", "tuple", "dict"] := by cases d <;> simp [tyN]
  have h2 : T ∈ ["int", "bool", "str", "list", "tuple", "dict", "NoneType", "float"] := List.contains_iff_mem.mp h
  exact beq_iff_eq.mp (List.all_eq_true.mp (List.all_eq_true.mp kit_tab _ h1) _ h2)
theorem tyX_ok {g : Gh} {H : Hp} {S : Store} {u : V} {v : SV} {d : PyData} (r : Rel M.K g H S) (q : RepS M.K g u v) (e : asD v S = some d) : TyX M.K H u (.type (tyN d)) := by
  cases d with
  | list xs =>
    obtain ⟨a, ws, rfl, h1, t1, _⟩ := asD_list r q e
    exact .base (.lst h1)
  | tuple xs =>
    obtain ⟨a, ws, rfl, h1, t1, _, _⟩ := asD_tup q e
    rcases SqT.sub r.sub h1 with (h | ⟨o, h⟩) | ⟨o, its, n, h, hc, _⟩
    · exact .base (.tup h)
    · exact .fTuple h
    · exact .kTuple h hc
  | none =>
    have a1 := asD_other q e (fun _ z => nomatch z)
    cases a1; exact .base .non
  | bool b =>
    have a1 := asD_other q e (fun _ z => nomatch z)
    cases a1; exact .base (.bl _)
  | int i =>
    have a1 := asD_other q e (fun _ z => nomatch z)
    cases a1; exact .base (.int _)
  | str y =>
    have a1 := asD_other q e (fun _ z => nomatch z)
    cases a1; exact .base (.str _)
  | dict _ =>
    have a1 := asD_other q e (fun _ z => nomatch z)
    cases a1
def eIsi (T : String) (f : EF) : EF := fun Γ S => (f Γ S).bind fun v S => match asD v S with
  | some d => .ok (.d (.bool (isiB (tyN d) T))) S
  | none => .no
theorem d_isi (hK : X.K = M.K) {T' : String} (hT : okT T' = true) (hg : Gl X "isinstance") (hm : X.mg "isinstance" = none) (ha : DE X M W a fa) (ht : PE X b (tC (.ty T')))
    (he : starEach [a, b] X.env = (false, eval a X.env) :: starEach [b] X.env := by rfl) (he2 : starEach [b] X.env = (false, eval b X.env) :: starEach [] X.env := by rfl) (hpl : (backTo pos (starEach [b] X.env)).any (·.1) = false := by rfl) :
    DE X M W (.Call (.Name "isinstance" p) [a, b] [] pos) (eIsi T' fa) :=
  (pe_callB (r := rIsi M.K) (by rw [← hK]; exact call_isi) hg hm (by decide +kernel) (pa_cons ha (pa_cons ht pa_nil he2) he) (by decide) (by decide) he hpl).weak fun σ H Q h => by
    obtain ⟨g, Γ, S, r0, v0, p⟩ := h
    refine step r0 v0 p fun u H1 g1 S1 v gr r1 v1 q1 p1 => ?_
    split at p1
    · rename_i d e
      exact ⟨u, .ty T', .type (tyN d), .type T', _, rfl, .ty _, tyX_ok r1 q1 e, kit_ty (kitB_ok d hT), p1.now r1 (.bl _)⟩
    · exact p1.elim
/-- isinstance(a, (T1, T2)) -/
def eIsi2 (T1 T2 : String) (f : EF) : EF := fun Γ S => (f Γ S).bind fun v S => match asD v S with
  | some d => .ok (.d (.bool (isiB (tyN d) T1 || isiB (tyN d) T2))) S
  | none => .no
theorem Rel.lay (r : Rel M.K g H S) {q : Addr} (hq : H q = none) (o : HO) : Rel M.K g (upd H q o) S ∧ Grow g H g (upd H q o) := by
  obtain ⟨hF, hB⟩ := r.free hq
  have ne : ∀ b ∈ g.B, b ≠ q := fun b hb e => hB (e ▸ hb)
  refine ⟨⟨fun b u e => ?_, r.nd, r.dis, r.len, fun i a m e1 e2 => ?_⟩, ⟨⟨[], by simp⟩, fun _ _ h => h, fun b u e _ => ?_, fun b hb => .inl hb, fun b u e => .inl e⟩⟩
  · have nb : b ≠ q := fun z => by rw [z, hF] at e; cases e
    rw [upd_ne nb]; exact r.sub _ _ e
  · rw [upd_ne (ne a (List.mem_of_getElem? e1))]; exact r.at_ i a m e1 e2
  · rw [upd_ne (ne_of_none e hq)]; exact e
theorem d_isi2 (hK : X.K = M.K) {T1 T2 : String} {b1 b2 : Expr} {k : Nat} {p2 : Pos} (h1 : okT T1 = true) (h2 : okT T2 = true) (hg : Gl X "isinstance") (hm : X.mg "isinstance" = none) (ha : DE X M W a fa) (t1 : PE X b1 (tC (.ty T1))) (t2 : PE X b2 (tC (.ty T2)))
    (he : starEach [a, .Tuple [b1, b2] k p2] X.env = (false, eval a X.env) :: starEach [.Tuple [b1, b2] k p2] X.env := by rfl) (he2 : starEach [.Tuple [b1, b2] k p2] X.env = (false, eval (.Tuple [b1, b2] k p2) X.env) :: starEach [] X.env := by rfl) (hpl : (backTo pos (starEach [.Tuple [b1, b2] k p2] X.env)).any (·.1) = false := by rfl)
    (hs1 : starEach [b1, b2] X.env = (false, eval b1 X.env) :: starEach [b2] X.env := by rfl) (hs2 : starEach [b2] X.env = (false, eval b2 X.env) :: starEach [] X.env := by rfl) :
    DE X M W (.Call (.Name "isinstance" p) [a, .Tuple [b1, b2] k p2] [] pos) (eIsi2 T1 T2 fa) :=
  (pe_callB (r := rIsiT M.K) (by rw [← hK]; exact call_isiT) hg hm (by decide +kernel) (pa_cons ha (pa_cons (pe_tup (pa_cons t1 (pa_cons t2 pa_nil hs2) hs1)) pa_nil he2) he) (by decide) (by decide) he hpl).weak fun σ H Q h => by
    obtain ⟨g, Γ, S, r0, v0, p⟩ := h
    refine step r0 v0 p fun u H1 g1 S1 v gr r1 v1 q1 p1 => ?_
    split at p1
    · rename_i d e
      refine ⟨by show 2 ≤ sizeLine; decide, fun q hq => ?_⟩
      obtain ⟨r2, gr2⟩ := Rel.lay r1 hq (.tup [.ty T1, .ty T2])
      refine ⟨u, q, [.ty T1, .ty T2], .type (tyN d), [.type T1, .type T2], isiB (tyN d) T1 || isiB (tyN d) T2, rfl, upd_same, .cons (.ty _) (.cons (.ty _) .nil), tyX_ok r2 q1 e, ?_, ?_⟩
      · refine kitAny_cons (kit_ty (kitB_ok d h1)) (fun z => ?_) (fun z => by rw [z]; rfl)
        refine kitAny_cons (kit_ty (kitB_ok d h2)) (fun z' => ?_) (fun z' => by rw [z']; simp)
        rw [z, z']; exact kitAny_nil
      · exact p1 _ _ _ gr2 r2 (.bl _)
    · exact p1.elim

/-! ### all, any -/
def scaD : PyData → Bool
  | .none => true
  | .bool _ => true
  | .int _ => true
  | _ => false
def trB : PyData → Bool
  | .bool b => b
  | .int i => i != 0
  | _ => false
def allS (any : Bool) : List SV → Store → Out SV := fun vs S => match vs with
  | [v] => match asD v S with
    | some (.list xs) => if xs.all scaD then .ok (.d (.bool (if any then xs.any trB else xs.all trB))) S else .no
    | some (.tuple xs) => if xs.all scaD then .ok (.d (.bool (if any then xs.any trB else xs.all trB))) S else .no
    | _ => .no
  | _ => .no
theorem sca_plain : ∀ {xs : List PyData}, xs.all scaD = true → PyData.plainAll xs = true ∧ (∀ x ∈ xs, x.fits63) ∧ (xs.map PyData.truthy = xs.map trB)
  | [], _ => ⟨by simp [PyData.plainAll], fun _ h => (by cases h), rfl⟩
  | x :: xs, h => by
    rw [List.all_cons, Bool.and_eq_true] at h
    obtain ⟨h1, h2, h3⟩ := sca_plain h.2
    have k : x.plain = true ∧ x.fits63 ∧ x.truthy = trB x := by
      cases x with
      | none => exact ⟨by simp [PyData.plain], trivial, rfl⟩
      | bool b => exact ⟨by simp [PyData.plain], trivial, rfl⟩
      | int i => exact ⟨by simp [PyData.plain], trivial, rfl⟩
      | _ => exact absurd h.1 (by simp [scaD])
    refine ⟨by simp [PyData.plainAll, k.1, h1], fun y hy => ?_, by rw [List.map_cons, List.map_cons, h3, k.2.2]⟩
    rcases List.mem_cons.mp hy with rfl | hy
    · exact k.2.1
    · exact h2 y hy
theorem any_eq {xs : List PyData} (h : xs.map PyData.truthy = xs.map trB) : xs.any PyData.truthy = xs.any trB := by
  have e1 : xs.any PyData.truthy = (xs.map PyData.truthy).any id := by simp [List.any_map]
  have e2 : xs.any trB = (xs.map trB).any id := by simp [List.any_map]
  rw [e1, e2, h]
theorem all_eq {xs : List PyData} (h : xs.map PyData.truthy = xs.map trB) : xs.all PyData.truthy = xs.all trB := by
  have e1 : xs.all PyData.truthy = (xs.map PyData.truthy).all id := by simp [List.all_map]
  have e2 : xs.all trB = (xs.map trB).all id := by simp [List.all_map]
  rw [e1, e2, h]
def rAnyD (K : PySem.W.Frag) (any : Bool) : List V → Hp → VK → Prop := fun us H Q => ∃ x ds, us = [x] ∧ (Dp K H x (.list ds) ∨ Dp K H x (.tuple ds)) ∧ ds.all scaD = true ∧ Q (.bl (if any then ds.any trB else ds.all trB)) H
theorem cr_anyD (hc : X.calm = true) : CallR X (.builtin "any") (rAnyD X.K true) := by
  intro pins s σ H xs us Q I r h
  obtain ⟨x, ds, rfl, hd, hs, q⟩ := h
  obtain ⟨u, rfl, ru⟩ := vals1 r
  obtain ⟨p1, p2, p3⟩ := sca_plain hs
  rw [if_pos rfl, ← any_eq p3] at q
  rcases hd with hd | hd
  · cases hd with
    | lst hs ha =>
      cases ru
      obtain ⟨its, rv, ⟨o, n, ho, hc', hd', hdt⟩, _⟩ := I.list hs
      obtain ⟨as, hr⟩ := Dp.readsAll I ds _ its ha rv
      exact PySem.W.any_list_data (I.ok.hd hc) (PlainL.isList ⟨o, n, ho, hc', hd', hdt⟩) (by simpa using hr) p1 p2 fun h' tk k => ⟨.bl _, H, I.kept k, rfl, q⟩
  · cases hd with
    | tup hs ha =>
      cases ru
      obtain ⟨its, rv, ht, _⟩ := I.tuple hs
      obtain ⟨as, hr⟩ := Dp.readsAll I ds _ its ha rv
      exact PySem.W.any_tuple_data (I.ok.hd hc) ht (by simpa using hr) p1 p2 fun h' tk k => ⟨.bl _, H, I.kept k, rfl, q⟩
theorem cr_allD (hc : X.calm = true) : CallR X (.builtin "all") (rAnyD X.K false) := by
  intro pins s σ H xs us Q I r h
  obtain ⟨x, ds, rfl, hd, hs, q⟩ := h
  obtain ⟨u, rfl, ru⟩ := vals1 r
  obtain ⟨p1, p2, p3⟩ := sca_plain hs
  rw [if_neg Bool.false_ne_true, ← all_eq p3] at q
  rcases hd with hd | hd
  · cases hd with
    | lst hs ha =>
      cases ru
      obtain ⟨its, rv, ⟨o, n, ho, hc', hd', hdt⟩, _⟩ := I.list hs
      obtain ⟨as, hr⟩ := Dp.readsAll I ds _ its ha rv
      exact PySem.W.all_list_data (I.ok.hd hc) (PlainL.isList ⟨o, n, ho, hc', hd', hdt⟩) (by simpa using hr) p1 p2 fun h' tk k => ⟨.bl _, H, I.kept k, rfl, q⟩
  · cases hd with
    | tup hs ha =>
      cases ru
      obtain ⟨its, rv, ht, _⟩ := I.tuple hs
      obtain ⟨as, hr⟩ := Dp.readsAll I ds _ its ha rv
      exact PySem.W.all_tuple_data (I.ok.hd hc) ht (by simpa using hr) p1 p2 fun h' tk k => ⟨.bl _, H, I.kept k, rfl, q⟩
theorem sat_any {k : Bool} : SatA M (rAnyD M.K k) (allS k) := by
  intro W σ Q g H S us vs r q p
  unfold allS at p
  split at p
  · cases q with
    | cons q1 q2 =>
      cases q2
      split at p
      · rename_i xs e1
        split at p
        · rename_i hs
          exact ⟨_, xs, rfl, .inl (asD_dp r q1 e1), hs, p.now r (.bl _)⟩
        · exact p.elim
      · rename_i xs e1
        split at p
        · rename_i hs
          exact ⟨_, xs, rfl, .inr (asD_dp r q1 e1), hs, p.now r (.bl _)⟩
        · exact p.elim
      · exact p.elim
  · exact p.elim
theorem d_any (hK : X.K = M.K) (hc : X.calm = true) (hg : Gl X "any") (hm : X.mg "any" = none) (ha : DE X M W a fa) (he : starEach [a] X.env = (false, eval a X.env) :: starEach [] X.env := by rfl) (hpl : (backTo pos (starEach [] X.env)).any (·.1) = false := by rfl) : DE X M W (.Call (.Name "any" p) [a] [] pos) (eCall (allS true) (aCons fa aNil)) :=
  d_callB (by rw [← hK]; exact cr_anyD hc) sat_any hg hm (by decide +kernel) (da_cons ha da_nil he) (by decide) (by decide) he hpl
theorem d_all (hK : X.K = M.K) (hc : X.calm = true) (hg : Gl X "all") (hm : X.mg "all" = none) (ha : DE X M W a fa) (he : starEach [a] X.env = (false, eval a X.env) :: starEach [] X.env := by rfl) (hpl : (backTo pos (starEach [] X.env)).any (·.1) = false := by rfl) : DE X M W (.Call (.Name "all" p) [a] [] pos) (eCall (allS false) (aCons fa aNil)) :=
  d_callB (by rw [← hK]; exact cr_allD hc) sat_any hg hm (by decide +kernel) (da_cons ha da_nil he) (by decide) (by decide) he hpl
end
end DL
/-! D5: statements, targets, defs. -/
namespace DL
open PySem L2

inductive Fl where
  | nx (Γ : Ev)
  | rt (v : SV)
  | bk (Γ : Ev)
  | ct (Γ : Ev)
  | xc (x : Exc) (Γ : Ev)
abbrev SF := Ev → Store → Out Fl
def PostS (M : Mi) (W : WX) (D : Ends) (g : Gh) (H : Hp) : Out Fl → Prop
  | .ok (.nx Γ') S' => ∀ σ' g' H', Grow g H g' H' → Rel M.K g' H' S' → Vars M.K g' σ' Γ' → D.nx σ' H'
  | .ok (.rt v) S' => ∀ u g' H', Grow g H g' H' → Rel M.K g' H' S' → RepS M.K g' u v → D.rt u H'
  | .ok (.bk Γ') S' => ∀ σ' g' H', Grow g H g' H' → Rel M.K g' H' S' → Vars M.K g' σ' Γ' → D.bk σ' H'
  | .ok (.ct Γ') S' => ∀ σ' g' H', Grow g H g' H' → Rel M.K g' H' S' → Vars M.K g' σ' Γ' → D.ct σ' H'
  | .ok (.xc x Γ') S' => ∀ cls d σ' g' H', Grow g H g' H' → Rel M.K g' H' S' → Vars M.K g' σ' Γ' → XRep M g'.F x cls d → W cls d σ' H'
  | .ex _ _ => False
  | .no => False
section
variable {α β : Type} {M : Mi} {W : WX} {D D' : Ends} {R : Gh → β → α → Prop} {g g1 : Gh} {H H1 : Hp} {S S1 : Store} {σ : St} {Γ : Ev}
theorem PostS.grow {o : Out Fl} (r : Rel M.K g1 H1 S1) (a : Grow g H g1 H1) (h : PostS M W D g H o) : PostS M W D g1 H1 o := by
  cases o with
  | ok f S' =>
    cases f with
    | nx _ => exact fun σ' g' H' b r' q => h σ' g' H' (a.trans r b) r' q
    | rt _ => exact fun u g' H' b r' q => h u g' H' (a.trans r b) r' q
    | bk _ => exact fun σ' g' H' b r' q => h σ' g' H' (a.trans r b) r' q
    | ct _ => exact fun σ' g' H' b r' q => h σ' g' H' (a.trans r b) r' q
    | xc _ _ => exact fun c d σ' g' H' b r' q => h c d σ' g' H' (a.trans r b) r' q
  | ex x S' => exact h
  | no => exact h
theorem PostS.imp {o : Out Fl} (h1 : ∀ σ H, D.nx σ H → D'.nx σ H) (h2 : ∀ u H, D.rt u H → D'.rt u H) (h3 : ∀ σ H, D.bk σ H → D'.bk σ H) (h4 : ∀ σ H, D.ct σ H → D'.ct σ H) (h : PostS M W D g H o) : PostS M W D' g H o := by
  cases o with
  | ok f S' =>
    cases f with
    | nx _ => exact fun σ' g' H' b r' q => h1 _ _ (h σ' g' H' b r' q)
    | rt _ => exact fun u g' H' b r' q => h2 _ _ (h u g' H' b r' q)
    | bk _ => exact fun σ' g' H' b r' q => h3 _ _ (h σ' g' H' b r' q)
    | ct _ => exact fun σ' g' H' b r' q => h4 _ _ (h σ' g' H' b r' q)
    | xc _ _ => exact h
  | ex x S' => exact h
  | no => exact h
def sB {α : Type} (o : Out α) (Γ : Ev) (k : α → Store → Out Fl) : Out Fl := match o with
  | .ok a S => k a S
  | .ex x S => .ok (.xc x Γ) S
  | .no => .no
/-- an expression within a statement -/
theorem stepS {f : Ev → Store → Out α} {k : α → Store → Out Fl} {Q : β → Hp → Prop} (r : Rel M.K g H S) (v : Vars M.K g σ Γ) (p : PostS M W D g H (sB (f Γ S) Γ k))
    (kk : ∀ u H1 g1 S1 a, Grow g H g1 H1 → Rel M.K g1 H1 S1 → Vars M.K g1 σ Γ → R g1 u a → PostS M W D g1 H1 (k a S1) → Q u H1) : tG M W R f σ H Q := by
  refine ⟨g, Γ, S, r, v, ?_⟩
  cases h : f Γ S with
  | ok a S' =>
    rw [h] at p
    exact fun u g1 H1 gr r1 q => kk u H1 g1 S' a gr r1 (gr.vars v) q (PostS.grow r1 gr p)
  | ex x S' =>
    rw [h] at p
    exact fun cls d g1 H1 gr r1 q => p cls d σ g1 H1 gr r1 (gr.vars v) q
  | no =>
    rw [h] at p
    exact p
end
def tS (M : Mi) (W : WX) (f : SF) : TS := fun D σ H => ∃ g Γ S, Rel M.K g H S ∧ Vars M.K g σ Γ ∧ PostS M W D g H (f Γ S)
abbrev DS (X : Cx) (M : Mi) (W : WX) (s : Stmt) (f : SF) : Prop := PS X s (tS M W f)
abbrev DSs (X : Cx) (M : Mi) (W : WX) (s : List Stmt) (f : SF) : Prop := PSs X s (tS M W f)
section
variable {X : Cx} {M : Mi} {W : WX} {st : Stmt} {rest : List Stmt} {f h : SF} {e : Expr} {fe : EF} {pos : Pos}
def fNil : SF := fun Γ S => .ok (.nx Γ) S
def fSeq (f h : SF) : SF := fun Γ S => match f Γ S with
  | .ok (.nx Γ') S' => h Γ' S'
  | o => o
theorem ss_nil : DSs X M W [] fNil := pss_nil.weak fun D σ H ⟨g, Γ, S, r, v, p⟩ => p σ g H (Grow.refl _ _) r v
theorem ss_cons (h1 : DS X M W st f) (h2 : DSs X M W rest h) : DSs X M W (st :: rest) (fSeq f h) := (pss_cons h1 h2).weak fun D σ H ⟨g, Γ, S, r, v, p⟩ => by
  refine ⟨g, Γ, S, r, v, ?_⟩
  unfold fSeq at p
  cases q : f Γ S with
  | ok fl S' =>
    rw [q] at p
    cases fl with
    | nx Γ' => exact fun σ' g' H' gr r' v' => ⟨g', Γ', S', r', v', PostS.grow r' gr p⟩
    | rt _ => exact p
    | bk _ => exact p
    | ct _ => exact p
    | xc _ _ => exact p
  | ex x S' => rw [q] at p; exact p
  | no => rw [q] at p; exact p
theorem ss_one (h1 : DS X M W st f) : DSs X M W [st] f := pss_one h1
theorem s_pass : DS X M W (.Pass pos) fNil := ps_pass.weak fun D σ H ⟨g, Γ, S, r, v, p⟩ => p σ g H (Grow.refl _ _) r v
def fBreak : SF := fun Γ S => .ok (.bk Γ) S
def fCont : SF := fun Γ S => .ok (.ct Γ) S
theorem s_break : DS X M W (.Break pos) fBreak := ps_break.weak fun D σ H ⟨g, Γ, S, r, v, p⟩ => p σ g H (Grow.refl _ _) r v
theorem s_cont : DS X M W (.Continue pos) fCont := ps_continue.weak fun D σ H ⟨g, Γ, S, r, v, p⟩ => p σ g H (Grow.refl _ _) r v
def fExpr (fe : EF) : SF := fun Γ S => sB (fe Γ S) Γ fun _ S => .ok (.nx Γ) S
theorem s_expr (he : DE X M W e fe) (hs : swapsWith e none pos.line X.env = pure false := by rfl) : DS X M W (.Expr e pos) (fExpr fe) := (ps_expr he hs).weak fun D σ H ⟨g, Γ, S, r, v, p⟩ =>
  stepS r v p fun u H1 g1 S1 a gr r1 v1 q1 p1 => p1 σ g1 H1 (Grow.refl _ _) r1 v1
def fRet (fe : EF) : SF := fun Γ S => sB (fe Γ S) Γ fun v S => .ok (.rt v) S
theorem s_ret (he : DE X M W e fe) : DS X M W (.Return (some e) pos) (fRet fe) := (ps_ret he).weak fun D σ H ⟨g, Γ, S, r, v, p⟩ =>
  stepS r v p fun u H1 g1 S1 a gr r1 v1 q1 p1 => p1 u g1 H1 (Grow.refl _ _) r1 q1
def fRetN : SF := fun _ S => .ok (.rt (.d .none)) S
theorem s_retN : DS X M W (.Return none pos) fRetN := ps_retN.weak fun D σ H ⟨g, Γ, S, r, v, p⟩ => p .non g H (Grow.refl _ _) r .non
def fIf (t : TF) (f h : SF) : SF := fun Γ S => sB (t Γ S) Γ fun b S => if b = true then f Γ S else h Γ S
theorem s_if {c : Expr} {a b : List Stmt} {t : TF} (hc : DT X M W c t) (ha : DSs X M W a f) (hb : DSs X M W b h) : DS X M W (.If c a b pos) (fIf t f h) := (ps_if hc ha hb).weak fun D σ H ⟨g, Γ, S, r, v, p⟩ =>
  stepS r v p fun u H1 g1 S1 a gr r1 v1 q1 p1 => by
    cases q1
    cases u with
    | true => exact ⟨g1, Γ, S1, r1, v1, p1⟩
    | false => exact ⟨g1, Γ, S1, r1, v1, p1⟩

/-! ### targets -/
abbrev GF := SV → Ev → Store → Out Ev
/-- the slots outside T are as they were -/
abbrev OnlyT (T : List Nat) (σ σ' : St) : Prop := σ'.length = σ.length ∧ ∀ j, j ∉ T → σ'[j]? = σ[j]?
def PostG (M : Mi) (T : List Nat) (σ : St) (Q : St → Hp → Prop) (g : Gh) (H : Hp) : Out Ev → Prop
  | .ok Γ' S' => ∀ σ' g' H', OnlyT T σ σ' → Grow g H g' H' → Rel M.K g' H' S' → Vars M.K g' σ' Γ' → Q σ' H'
  | _ => False
theorem PostG.grow {M : Mi} {T : List Nat} {σ : St} {Q : St → Hp → Prop} {g g1 : Gh} {H H1 : Hp} {S1 : Store} {o : Out Ev} (r : Rel M.K g1 H1 S1) (a : Grow g H g1 H1) (h : PostG M T σ Q g H o) : PostG M T σ Q g1 H1 o := by
  cases o with
  | ok Γ' S' => exact fun σ' g' H' t b r' q => h σ' g' H' t (a.trans r b) r' q
  | ex x S' => exact h
  | no => exact h
def tT1 (M : Mi) (T : List Nat) (gf : GF) : L2.TG := fun u σ H Q => ∃ g Γ S v, Rel M.K g H S ∧ Vars M.K g σ Γ ∧ RepS M.K g u v ∧ PostG M T σ Q g H (gf v Γ S)
abbrev DG (X : Cx) (M : Mi) (T : List Nat) (e : Expr) (gf : GF) : Prop := PG X e (tT1 M T gf)
theorem _root_.L2.PG.weak {X : Cx} {e : Expr} {t t' : L2.TG} (h : PG X e t) (k : ∀ u σ H Q, t' u σ H Q → t u σ H Q) : PG X e t' := ⟨fun pins s σ H v u Q I r z => h.run pins s σ H v u Q I r (k _ _ _ _ z)⟩
theorem _root_.L2.PGs.weak {X : Cx} {e : List Expr} {t t' : L2.TGs} (h : PGs X e t) (k : ∀ u σ H Q, t' u σ H Q → t u σ H Q) : PGs X e t' := ⟨fun pins s σ H v u Q I r z => h.run pins s σ H v u Q I r (k _ _ _ _ z)⟩
def gNm (i : Nat) : GF := fun v Γ S => .ok (Γ.set i (some v)) S
theorem g_nm {i : Nat} {x : Str} (hN : X.N.Nodup) (hi : X.N[i]? = some x) (hx : Loc X.env.scope x) (hf : X.fn x = true ∨ X.env.scope.names.lookup x = some .local := by first | exact .inl rfl | exact .inr rfl | assumption) : DG X M [i] (.Name x pos) (gNm i) :=
  (pg_name hN hi hx hf).weak fun u σ H Q ⟨g, Γ, S, v, r, vs, q, p⟩ => p _ g H ⟨List.length_set, fun j hj => List.getElem?_set_ne (fun e => hj (by simp [e]))⟩ (Grow.refl _ _) r (vs.set q i)
/-- several targets: the items of data -/
def gsNil : List PyData → Ev → Store → Out Ev := fun ds Γ S => match ds with
  | [] => .ok Γ S
  | _ => .no
def gsCons (gf : GF) (gr : List PyData → Ev → Store → Out Ev) : List PyData → Ev → Store → Out Ev := fun ds Γ S => match ds with
  | d :: ds => (gf (.d d) Γ S).bind fun Γ S => gr ds Γ S
  | [] => .no
def tTs (M : Mi) (T : List Nat) (gf : List PyData → Ev → Store → Out Ev) : L2.TGs := fun us σ H Q => ∃ g Γ S ds, Rel M.K g H S ∧ Vars M.K g σ Γ ∧ RpAll M.K g.F us ds ∧ PostG M T σ Q g H (gf ds Γ S)
abbrev DGs (X : Cx) (M : Mi) (T : List Nat) (e : List Expr) (gf : List PyData → Ev → Store → Out Ev) : Prop := PGs X e (tTs M T gf)
theorem gs_nil : DGs X M [] [] gsNil := pgs_nil.weak fun u σ H Q ⟨g, Γ, S, ds, r, vs, q, p⟩ => by
  cases q with
  | nil => exact ⟨rfl, p _ g H ⟨rfl, fun _ _ => rfl⟩ (Grow.refl _ _) r vs⟩
  | cons _ _ => exact p.elim
theorem gs_cons {T1 T2 : List Nat} {es : List Expr} {gf : GF} {gr : List PyData → Ev → Store → Out Ev} (h1 : DG X M T1 e gf) (h2 : DGs X M T2 es gr)
    (hs : (assignEach (e :: es) X.env).map (·.2) = assign e X.env :: (assignEach es X.env).map (·.2) := by rfl) : DGs X M (T1 ++ T2) (e :: es) (gsCons gf gr) := (pgs_cons h1 h2 hs).weak fun u σ H Q ⟨g, Γ, S, ds, r, vs, q, p⟩ => by
  cases q with
  | nil => exact p.elim
  | @cons v vr d dr q1 q2 =>
    refine ⟨v, vr, rfl, g, Γ, S, .d d, r, vs, q1, ?_⟩
    unfold gsCons at p
    cases h : gf (.d d) Γ S with
    | ok Γ' S' =>
      simp only [h, Out.bind] at p
      refine fun σ' g' H' t gr' r' v' => ⟨g', Γ', S', dr, r', v', RpAll.sub gr'.sub _ _ q2, ?_⟩
      cases h2 : gr dr Γ' S' with
      | ok Γ2 S2 =>
        rw [h2] at p
        exact fun σ3 g3 H3 t3 gr3 r3 v3 => p σ3 g3 H3 ⟨t3.1.trans t.1, fun j hj => (t3.2 j (fun z => hj (List.mem_append_right _ z))).trans (t.2 j (fun z => hj (List.mem_append_left _ z)))⟩ (gr'.trans r' gr3) r3 v3
      | ex x S2 => rw [h2] at p; exact p
      | no => rw [h2] at p; exact p
    | ex x S' => simp only [h, Out.bind] at p; exact p.elim
    | no => simp only [h, Out.bind] at p; exact p.elim
def gTupF (n : Nat) (gf : List PyData → Ev → Store → Out Ev) : GF := fun v Γ S => match asD v S with
  | some (.tuple ds) => if ds.length = n then gf ds Γ S else .no
  | _ => .no
theorem g_tup (hK : X.K = M.K) {T : List Nat} {es : List Expr} {k n : Nat} {gf : List PyData → Ev → Store → Out Ev} (hc : X.calm = true) (h : DGs X M T es gf)
    (hn : (assignEach es X.env).length = n := by rfl) (hst : (assignEach es X.env).findIdx? (·.1) = none := by rfl) : DG X M T (.Tuple es k pos) (gTupF n gf) := (pg_tup hc h hn hst).weak fun u σ H Q ⟨g, Γ, S, v, r, vs, q, p⟩ => by
  unfold gTupF at p
  split at p
  · rename_i ds e
    obtain ⟨a, ws, rfl, h1, t1, _, _⟩ := asD_tup q e
    split at p
    · rename_i hl
      exact ⟨a, ws, rfl, by rw [hK]; exact SqT.sub r.sub h1, by rw [t1.len]; exact hl, g, Γ, S, ds, r, vs, t1, p⟩
    · exact p.elim
  · exact p.elim
/-- o[i] = v -/
def setS : SV → SV → SV → Store → Out Unit := fun o w v S => match o, w, v with
  | .cell c, .d (.int k), .d x => match S[c]? with
    | some (.lst xs) => match ixN xs.length k with
      | some j => .ok () (S.set c (.lst (xs.set j x)))
      | none => .no
    | _ => .no
  | _, _, _ => .no
def gSubF (fo fi : EF) : GF := fun v Γ S => (fo Γ S).bind fun o S => (fi Γ S).bind fun w S => (setS o w v S).bind fun _ S => .ok Γ S
theorem g_sub {o i : Expr} {fo fi : EF} (ho : DE X M W o fo) (hi : DE X M W i fi)
    (ha : ∀ v, assign (.Subscript o i pos) X.env v = (do
      let ov ← holding [v] (eval o X.env)
      let iv ← holding [v, ov] (eval i X.env)
      standAt pos
      holding [v, ov, iv] (setItem ov iv v)
      release [v, ov, iv] []) := by intro _; rfl) : DG X M [] (.Subscript o i pos) (gSubF fo fi) := (pg_sub ho hi set_list ha).weak fun u σ H Q ⟨g, Γ, S, v, r, vs, q, p⟩ => by
  unfold gSubF at p
  refine ⟨g, Γ, S, r, vs, ?_⟩
  cases h1 : fo Γ S with
  | ok ov S1 =>
    simp only [h1, Out.bind] at p
    intro u1 g1 H1 gr1 r1 q1
    refine ⟨g1, Γ, S1, r1, gr1.vars vs, ?_⟩
    cases h2 : fi Γ S1 with
    | ok w S2 =>
      simp only [h2, Out.bind] at p
      intro u2 g2 H2 gr2 r2 q2
      cases h3 : setS ov w v S2 with
      | ex x S' => rw [h3] at p; exact p.elim
      | no => rw [h3] at p; exact p.elim
      | ok z S3 =>
      rw [h3] at p
      have p' : PostG M [] σ Q g H (.ok Γ S3) := p
      unfold setS at h3
      split at h3
      · rename_i c k x
        split at h3
        · rename_i xs hs
          split at h3
          · rename_i j hj
            cases h3
            have q1' : RepS M.K g2 u1 (.cell c) := gr2.rep q1
            obtain ⟨a, ha, rfl⟩ := q1'
            cases q2
            obtain ⟨hz, ws, hw, tw⟩ := r2.at_ c a _ ha hs
            have qx : Rp M.K g2.F u x := (gr2.rep (gr1.rep q) : RepS M.K g2 u (.d x))
            refine ⟨a, ws, k, j, rfl, rfl, hw, by rw [tw.len]; exact hj, ?_⟩
            obtain ⟨r3, gr3⟩ := r2.put ha (by rw [List.length_set]; exact hz) (tw.set qx j)
            have vs3 := gr3.vars (gr2.vars (gr1.vars vs))
            exact p' σ g2 _ ⟨rfl, fun _ _ => rfl⟩ ((gr1.trans r1 gr2).trans r2 gr3) r3 vs3
          · cases h3
        · cases h3
      · cases h3
    | ex x S' => simp only [h2, Out.bind] at p; exact p.elim
    | no => simp only [h2, Out.bind] at p; exact p.elim
  | ex x S' => simp only [h1, Out.bind] at p; exact p.elim
  | no => simp only [h1, Out.bind] at p; exact p.elim
/-- target = value -/
def fAsg (fe : EF) (gf : GF) : SF := fun Γ S => sB (fe Γ S) Γ fun v S => match gf v Γ S with
  | .ok Γ' S' => .ok (.nx Γ') S'
  | _ => .no
theorem asg_of {T : List Nat} {te : TE} {gf : GF} (ht : ∀ σ H Q, tE M W fe σ H Q → te σ H Q) {D : Ends} {σ : St} {H : Hp} (h : tS M W (fAsg fe gf) D σ H) : tAsg te (tT1 M T gf) D σ H := by
  obtain ⟨g, Γ, S, r, v, p⟩ := h
  refine ht _ _ _ (stepS r v p fun u H1 g1 S1 a gr r1 v1 q1 p1 => ⟨g1, Γ, S1, a, r1, v1, q1, ?_⟩)
  cases h : gf a Γ S1 with
  | ok Γ' S' => rw [h] at p1; exact fun σ' g' H' _ => p1 σ' g' H'
  | ex x S' => rw [h] at p1; exact p1
  | no => rw [h] at p1; exact p1
theorem s_asg {T : List Nat} {tg : Expr} {gf : GF} (he : DE X M W e fe) (hg : DG X M T tg gf) (hs : swapsWithSole [tg] e pos.line X.env = pure false := by rfl) (hw : swappedStores [tg] e X.env = pure none := by rfl)
    (h1 : (assignEach [tg] X.env).map (·.2) = [assign tg X.env] := by rfl) : DS X M W (.Assign [tg] e pos) (fAsg fe gf) := (ps_asg he hg hs hw h1).weak fun D σ H h => asg_of (fun _ _ _ h => h) h
/-- name = value -/
def fSet (i : Nat) (fe : EF) : SF := fun Γ S => sB (fe Γ S) Γ fun v S => .ok (.nx (Γ.set i (some v))) S
theorem set_of {i : Nat} {te : TE} (ht : ∀ σ H Q, tE M W fe σ H Q → te σ H Q) {D : Ends} {σ : St} {H : Hp} (h : tS M W (fSet i fe) D σ H) : tAsg te (gName i) D σ H := by
  obtain ⟨g, Γ, S, r, v, p⟩ := h
  exact ht _ _ _ (stepS r v p fun u H1 g1 S1 a gr r1 v1 q1 p1 => p1 _ g1 H1 (Grow.refl _ _) r1 (v1.set q1 i))
theorem s_set {i : Nat} {x : Str} {pos' : Pos} (hN : X.N.Nodup) (hi : X.N[i]? = some x) (hx : Loc X.env.scope x) (he : DE X M W e fe) (hs : swapsWith e (some (.Name x pos')) pos.line X.env = pure false := by rfl) (hf : X.fn x = true ∨ X.env.scope.names.lookup x = some .local := by first | exact .inl rfl | exact .inr rfl | assumption) :
    DS X M W (.Assign [.Name x pos'] e pos) (fSet i fe) := (ps_set hN hi hx he hs hf).weak fun D σ H h => set_of (fun _ _ _ h => h) h
/-- a, b = x, y of plain local names -/
def fPar (i j : Nat) (af : AF) : SF := fun Γ S => sB (af Γ S) Γ fun vs S => match vs with
  | [v, w] => .ok (.nx ((Γ.set i (some v)).set j (some w))) S
  | _ => .no
theorem s_par {i j : Nat} {x y : Str} {a b : Expr} {af : AF} {px py pt : Pos} {kt k2 : Nat} {pt2 : Pos} (hc : X.calm = true) (hN : X.N.Nodup) (hi : X.N[i]? = some x) (hj : X.N[j]? = some y) (hij : i ≠ j)
    (hx : X.env.scope.names.lookup x = some .local) (hy : X.env.scope.names.lookup y = some .local) (ha : DA X M W [a, b] af)
    (hw : swappedStores [.Tuple [.Name x px, .Name y py] kt pt] (.Tuple [a, b] k2 pt2) X.env = pure (some [x, y]))
    (hs : swapsWithSole [.Tuple [.Name x px, .Name y py] kt pt] (.Tuple [a, b] k2 pt2) pos.line X.env = pure false := by rfl) :
    DS X M W (.Assign [.Tuple [.Name x px, .Name y py] kt pt] (.Tuple [a, b] k2 pt2) pos) (fPar i j af) := (ps_par hc hN hi hj hij hx hy ha hw hs).weak fun D σ H ⟨g, Γ, S, r, v, p⟩ =>
  stepS r v p fun us H1 g1 S1 vs gr r1 v1 q1 p1 => by
    split at p1
    · cases q1 with
      | cons q1 q2 =>
        cases q2 with
        | cons q2 q3 =>
          cases q3
          exact ⟨_, _, rfl, p1 _ g1 H1 (Grow.refl _ _) r1 ((v1.set q1 i).set q2 j)⟩
    · exact p1.elim
/-- name op= e of ints -/
def fAug (i : Nat) (f : Int → Int → Int) (fe : EF) : SF := fun Γ S => match Γ[i]? with
  | some (some (.d (.int a))) => sB (fe Γ S) Γ fun v S => match v with
    | .d (.int b) => .ok (.nx (Γ.set i (some (.d (.int (f a b)))))) S
    | _ => .no
  | _ => .no
end

/-! ### defs -/
abbrev FD := List SV → Store → Out SV
/-- what a def hands back: a list made within is frozen, the store is as long as before -/
def handF (n : Nat) (v : SV) (S : Store) : Out SV := match v with
  | .d x => .ok (.d x) (S.take n)
  | .scr ns => .ok (.scr ns) (S.take n)
  | .cell i => if i < n then .ok (.cell i) (S.take n) else match S[i]? with
    | some (.lst xs) => .ok (.d (.list xs)) (S.take n)
    | none => .no
/-- .. where a list made within is handed back as a cell -/
def handC (n : Nat) (v : SV) (S : Store) : Out SV := match v with
  | .d x => .ok (.d x) (S.take n)
  | .scr ns => .ok (.scr ns) (S.take n)
  | .cell i => if i < n then .ok (.cell i) (S.take n) else match S[i]? with
    | some m => .ok (.cell n) (S.take n ++ [m])
    | none => .no
def runD (hand : Nat → SV → Store → Out SV) (nN : Nat) (f : SF) : FD := fun ds S => match f (ds.map some ++ List.replicate (nN - ds.length) none) S with
  | .ok (.rt v) S' => hand S.length v S'
  | .ok (.nx _) S' => .ok (.d .none) (S'.take S.length)
  | .ok (.xc x _) S' => .ex x (S'.take S.length)
  | _ => .no
def spD (M : Mi) (n : Nat) (F : FD) : Sp := fun vs H Q E => vs.length = n ∧ ∃ g S ds, Rel M.K g H S ∧ RepA M.K g vs ds ∧ Post M (fun cls d _ H => E cls d H) [] (rS M) Q g H (F ds S)
section
variable {K : PySem.W.Frag} {g g' : Gh} {H H' : Hp} {S S' : Store} {M : Mi}
def Gh.cut (g : Gh) (n : Nat) : Gh := ⟨g.B.take n, g.F⟩
theorem Rel.cut (r : Rel K g' H' S') (gr : Grow g H g' H') (n : Nat) (hn : g.B.length = n) : Rel K (g'.cut n) H' (S'.take n) ∧ Grow g H (g'.cut n) H' ∧ (g'.cut n).B = g.B := by
  obtain ⟨C, e⟩ := gr.pre
  have eB : (g'.cut n).B = g.B := by show g'.B.take n = g.B; rw [e, ← hn]; simp
  have mem : ∀ b, b ∈ (g'.cut n).B → b ∈ g'.B := fun b hb => List.mem_of_mem_take hb
  refine ⟨⟨r.sub, ?_, fun b hb => r.dis b (mem b hb), ?_, fun i a m e1 e2 => ?_⟩, ⟨⟨[], by rw [eB]; simp⟩, gr.sub, gr.frm, fun b hb => .inl (by rw [← eB]; exact hb), gr.newF⟩, eB⟩
  · exact r.nd.sublist (List.take_sublist _ _)
  · show (g'.B.take n).length = (S'.take n).length
    rw [List.length_take, List.length_take, r.len]
  · have e1' : (g'.B.take n)[i]? = some a := e1
    by_cases hi : i < n
    · rw [List.getElem?_take_of_lt hi] at e1' e2
      exact r.at_ i a m e1' e2
    · rw [List.getElem?_take_eq_none (Nat.le_of_not_lt hi)] at e1'; cases e1'
/-- a cell made within is frozen -/
theorem Rel.thaw (r : Rel K g' H' S') (gr : Grow g H g' H') (n : Nat) (hn : g.B.length = n) {i : Nat} (hi : n ≤ i) {a : Addr} (ha : g'.B[i]? = some a) {xs : List PyData} (hS : S'[i]? = some (.lst xs)) :
    ∃ g2, Rel K g2 H' (S'.take n) ∧ Grow g H g2 H' ∧ Rp K g2.F (.ref a) (.list xs) := by
  obtain ⟨hz, vs, hv, tv⟩ := r.at_ i a _ ha hS
  obtain ⟨r2, gr2, eB⟩ := r.cut gr n hn
  have am : a ∈ g'.B := List.mem_of_getElem? ha
  have hF := r.dis a am
  have nB : a ∉ g.B := fun hm => by
    rw [← eB] at hm
    obtain ⟨j, hj, ej⟩ := List.getElem_of_mem hm
    have hjn : j < n := Nat.lt_of_lt_of_le hj (by show (g'.B.take n).length ≤ n; rw [List.length_take]; exact Nat.min_le_left _ _)
    have e1 : g'.B[j]? = some a := by
      have := List.getElem?_eq_getElem hj
      rw [ej] at this
      have t : (g'.B.take n)[j]? = some a := this
      rwa [List.getElem?_take_of_lt hjn] at t
    obtain ⟨h1, e1'⟩ := List.getElem?_eq_some_iff.mp ha
    obtain ⟨h2, e2'⟩ := List.getElem?_eq_some_iff.mp e1
    have := (List.getElem_inj r.nd).mp (e1'.trans e2'.symm)
    omega
  have hn0 : H a = none := by
    rcases gr.newB a am with h | h
    · exact absurd h nB
    · exact h
  have ne : ∀ b ∈ (g'.cut n).B, b ≠ a := fun b hb e => nB (by rw [← eB]; exact e ▸ hb)
  refine ⟨⟨(g'.cut n).B, upd g'.F a (.lst vs)⟩, ⟨fun b u e => ?_, r2.nd, fun b hb => ?_, r2.len, fun j b m e1 e2 => (r2.at_ j b m e1 e2).sub (sub_upd hF)⟩, ⟨gr2.pre, fun b o e => sub_upd hF b o (gr.sub b o e), gr.frm, gr2.newB, fun b u e => ?_⟩, ?_⟩
  · have e' : upd g'.F a (.lst vs) b = some u := e
    by_cases hb : b = a
    · subst hb; rw [upd_same] at e'; cases e'; exact hv
    · rw [upd_ne hb] at e'; exact r.sub _ _ e'
  · show upd g'.F a _ b = none
    rw [upd_ne (ne b hb)]; exact r2.dis b hb
  · have e' : upd g'.F a (.lst vs) b = some u := e
    by_cases hb : b = a
    · subst hb; exact .inr hn0
    · rw [upd_ne hb] at e'; exact gr.newF _ _ e'
  · exact Rp.lst upd_same hz (RpAll.sub (sub_upd hF) _ _ tv)
end
/-- how a def hands back -/
def HandOk (M : Mi) (hand : Nat → SV → Store → Out SV) : Prop := ∀ (W : WX) (σ : St) (Q : VK) (g : Gh) (H : Hp) (g' : Gh) (H' : Hp) (S' : Store) (n : Nat) (u : V) (v : SV),
  g.B.length = n → Grow g H g' H' → Rel M.K g' H' S' → RepS M.K g' u v → Post M W σ (rS M) Q g H (hand n v S') → Q u H'
theorem hand_f {M : Mi} : HandOk M handF := by
  intro W σ Q g H g' H' S' n u v hn gr r q p
  obtain ⟨r2, gr2, eB⟩ := r.cut gr n hn
  unfold handF at p
  split at p
  · exact p u _ _ gr2 r2 q
  · obtain ⟨a, rfl, h⟩ := q
    exact p _ _ _ gr2 r2 ⟨a, rfl, h⟩
  · rename_i i
    obtain ⟨a, ha, rfl⟩ := q
    split at p
    · rename_i hi
      exact p _ _ _ gr2 r2 ⟨a, by show (g'.B.take n)[i]? = some a; rw [List.getElem?_take_of_lt hi]; exact ha, rfl⟩
    · rename_i hi
      split at p
      · rename_i xs hS
        obtain ⟨g2, r3, gr3, q3⟩ := r.thaw gr n hn (Nat.le_of_not_lt hi) ha hS
        exact p _ _ _ gr3 r3 q3
      · exact p.elim
theorem hand_c {M : Mi} : HandOk M handC := by
  intro W σ Q g H g' H' S' n u v hn gr r q p
  obtain ⟨r2, gr2, eB⟩ := r.cut gr n hn
  unfold handC at p
  split at p
  · exact p u _ _ gr2 r2 q
  · obtain ⟨a, rfl, h⟩ := q
    exact p _ _ _ gr2 r2 ⟨a, rfl, h⟩
  · rename_i i
    obtain ⟨a, ha, rfl⟩ := q
    split at p
    · rename_i hi
      exact p _ _ _ gr2 r2 ⟨a, by show (g'.B.take n)[i]? = some a; rw [List.getElem?_take_of_lt hi]; exact ha, rfl⟩
    · rename_i hi
      split at p
      · rename_i m hS
        have am : a ∈ g'.B := List.mem_of_getElem? ha
        have nB : a ∉ (g'.cut n).B := fun hm => by
          obtain ⟨j, hj, ej⟩ := List.getElem_of_mem hm
          have hjn : j < n := Nat.lt_of_lt_of_le hj (by show (g'.B.take n).length ≤ n; rw [List.length_take]; exact Nat.min_le_left _ _)
          have e1 : g'.B[j]? = some a := by
            have := List.getElem?_eq_getElem hj
            rw [ej] at this
            have t : (g'.B.take n)[j]? = some a := this
            rwa [List.getElem?_take_of_lt hjn] at t
          obtain ⟨h1, e1'⟩ := List.getElem?_eq_some_iff.mp ha
          obtain ⟨h2, e2'⟩ := List.getElem?_eq_some_iff.mp e1
          have := (List.getElem_inj r.nd).mp (e1'.trans e2'.symm)
          omega
        have hn0 : H a = none := by
          rcases gr.newB a am with h | h
          · exact absurd (by rw [eB]; exact h) nB
          · exact h
        have hl : (g'.cut n).B.length = n := by rw [eB]; exact hn
        refine p (.ref a) ⟨(g'.cut n).B ++ [a], g'.F⟩ H' ⟨⟨[a], by rw [eB]⟩, gr2.sub, gr2.frm, fun b hb => ?_, gr2.newF⟩ ⟨r.sub, ?_, fun b hb => ?_, ?_, fun j b m' e1 e2 => ?_⟩ ⟨a, ?_, rfl⟩
        · rcases List.mem_append.mp hb with h | h
          · exact gr2.newB b h
          · simp at h; subst h; exact .inr hn0
        · show ((g'.cut n).B ++ [a]).Nodup
          rw [List.nodup_append]
          exact ⟨r2.nd, by simp, fun b hb c hc => by simp at hc; subst hc; exact fun e => nB (e ▸ hb)⟩
        · rcases List.mem_append.mp hb with h | h
          · exact r2.dis b h
          · simp at h; subst h; exact r.dis _ am
        · show ((g'.cut n).B ++ [a]).length = _
          rw [List.length_append, List.length_append, r2.len]; rfl
        · have e1' : ((g'.cut n).B ++ [a])[j]? = some b := e1
          by_cases hj : j < (g'.cut n).B.length
          · rw [List.getElem?_append_left hj] at e1'
            rw [List.getElem?_append_left (by rw [← r2.len]; exact hj)] at e2
            exact r2.at_ j b m' e1' e2
          · have hl2 := (List.getElem?_eq_some_iff.mp e1').1
            rw [List.length_append, List.length_singleton] at hl2
            have ej : j = (g'.cut n).B.length := by omega
            subst ej
            rw [List.getElem?_append_right (Nat.le_refl _), Nat.sub_self] at e1'
            rw [r2.len, List.getElem?_append_right (Nat.le_refl _), Nat.sub_self] at e2
            cases e1'
            cases e2
            exact r.at_ i a m ha hS
        · show ((g'.cut n).B ++ [a])[n]? = some a
          rw [List.getElem?_append_right (by rw [hl]; exact Nat.le_refl _), hl, Nat.sub_self]; rfl
      · exact p.elim
section
variable {P : Program} {w : World} {K : PySem.W.Frag} {mg : Str → Option Value} {base : Heap}
theorem start_vars {K : PySem.W.Frag} {g : Gh} {N : List Str} : ∀ {vs : List V} {ds : List SV}, RepA K g vs ds → Vars K g (L2.start N vs) (ds.map some ++ List.replicate (N.length - ds.length) none) := by
  intro vs ds h
  have hl := h.len
  refine ⟨by unfold L2.start; rw [List.length_append, List.length_append, List.length_map, List.length_map, List.length_replicate, List.length_replicate, hl], fun i x e => ?_⟩
  by_cases hi : i < ds.length
  · rw [List.getElem?_append_left (by simpa using hi), List.getElem?_map] at e
    have key : ∀ {vs : List V} {ds : List SV} {i : Nat} {x : SV}, RepA K g vs ds → ds[i]? = some x → ∃ v, vs[i]? = some v ∧ RepS K g v x := by
      intro vs ds i x h
      induction h generalizing i with
      | nil => intro e; simp at e
      | cons r t ih =>
        intro e
        cases i with
        | zero => simp at e; subst e; exact ⟨_, rfl, r⟩
        | succ i => exact ih (by simpa using e)
    cases q : ds[i]? with
    | none => rw [q] at e; cases e
    | some y =>
      rw [q] at e
      have e' : some (some y) = some (some x) := e
      cases e'
      obtain ⟨v, h1, h2⟩ := key h q
      refine ⟨v, ?_, h2⟩
      unfold L2.start
      have hlt : i < vs.length := by rw [hl]; exact hi
      rw [List.getElem?_append_left (by simpa using hlt), List.getElem?_map, h1]; rfl
  · rw [List.getElem?_append_right (by simpa using Nat.le_of_not_lt hi)] at e
    obtain ⟨_, e2⟩ := List.getElem?_eq_some_iff.mp e
    rw [List.getElem_replicate] at e2
    cases e2
/-- a def that is known -/
structure DefD (P : Program) (w : World) (K : PySem.W.Frag) (mg : Str → Option Value) (base : Heap) (M : Mi) (k : Nat) (name : Str) (n : Nat) (F : FD) : Prop where
  ok : ∃ f fd ps, FnOk P w K mg base (L2.CX P w) k f fd ps (spD M n F) ∧ mg name = some (.ref f) ∧ PySem.W.keepIn K (.ref f) = true ∧ Binds K fd ps []
/-- THE RULE for a def: its body's meaning -/
theorem def_ok {M : Mi} {x qual : Str} {st : Stmt} {f : Addr} {fd : FuncData} {N ps : List Str} {k : Nat} {body : SF} {hand : Nat → SV → Store → Out SV} (hh : HandOk M hand) (F : Fun K x qual st f fd) (S : FnScope N ps (defScope st)) (hm : mg x = some (.ref f)) (hb : Binds K fd ps [])
    (h : ∀ (X : Cx) (W : WX), X.prog = P → X.w = w → X.K = K → X.mg = mg → X.base = base → X.N = N → X.calm = true → X.env.scope = defScope st → (∀ x, X.fn x = true) → Room k X.A → Takes X W → PassesOwn (model X.prog X.w) X.A X.env X.xe → X.stack = X.env :: X.outer → X.env.frame = some X.env.locals → DSs X M W (defBody st) body) :
    DefD P w K mg base M (k + 1) x ps.length (runD hand N.length body) := by
  refine ⟨f, fd, ps, ?_, hm, F.kp, hb⟩
  refine F.okX S (fun vs H Q E h => h.1) fun cdv A outer s H vs Q E hr hsp => ?_
  obtain ⟨hl, g, S0, ds, r, q, p⟩ := hsp
  refine ⟨_, h _ (fun cls d _ H => E cls d H) rfl rfl rfl rfl rfl rfl rfl rfl (fun _ => rfl) hr (takes_of rfl rfl rfl rfl) (passes_of rfl) rfl rfl, g, _, S0, r, start_vars q, ?_⟩
  unfold runD at p
  have hB : g.B.length = S0.length := r.len
  split at p
  · rename_i v S' e
    rw [e]
    exact fun u g' H' gr r' q' => hh _ _ _ _ _ _ _ _ _ _ _ hB gr r' q' p
  · rename_i Γ' S' e
    rw [e]
    intro σ' g' H' gr r' v'
    obtain ⟨r2, gr2, _⟩ := r'.cut gr _ hB
    exact p .non _ _ gr2 r2 .non
  · rename_i x Γ' S' e
    rw [e]
    intro cls d σ' g' H' gr r' v' q'
    obtain ⟨r2, gr2, _⟩ := r'.cut gr _ hB
    exact p cls d _ _ gr2 r2 q'
  · exact p.elim
end
section
variable {X : Cx} {M : Mi} {W : WX} {e : Expr} {es : List Expr} {af : AF} {pos p : Pos} {x : Str}
def eCallD (n : Nat) (F : FD) (af : AF) : EF := fun Γ S => (af Γ S).bind fun vs S => if vs.length = n then F vs S else .no
theorem d_call {k n : Nat} {F : FD} (D : DefD X.prog X.w X.K X.mg X.base M k x n F) (hr : Room k X.A) (tk : Takes X W) (hg : Gl X x) (ha : DA X M W (e :: es) af)
    (hdb : (x == ("__debug__" : Str)) = false := by decide) (he : starEach (e :: es) X.env = (false, eval e X.env) :: starEach es X.env := by rfl) (hpl : (backTo pos (starEach es X.env)).any (·.1) = false := by rfl) :
    DE X M W (.Call (.Name x p) (e :: es) [] pos) (eCallD n F af) := by
  obtain ⟨f, fd, ps, hF, hm, hk, hb⟩ := D.ok
  refine (pe_callSD hF hr hg hm hk hb .nil (fun σ => passAt tk σ) ha hdb he hpl).weak fun σ H Q h => ?_
  obtain ⟨g, Γ, S, r, v, p⟩ := h
  refine step r v p fun us H1 g1 S1 vs gr r1 v1 q1 p1 => ?_
  split at p1
  · rename_i hl
    rw [List.append_nil]
    refine ⟨by rw [q1.len]; exact hl, g1, S1, vs, r1, q1, ?_⟩
    cases h : F vs S1 with
    | ok a S' => rw [h] at p1; exact p1
    | ex x S' => rw [h] at p1; exact p1
    | no => rw [h] at p1; exact p1
  · exact p1.elim
end
end DL
/-! D6: for, while, comprehensions. -/
namespace DL
open PySem L2

/-- what is walked: its items; what must hold of the store at each turn -/
structure Src where
  items : List PyData
  ok : Store → Bool
abbrev IF := Ev → Store → Out Src
def ItR (K : PySem.W.Frag) (g0 : Gh) (J : It) (s : Src) : Prop := ∀ g H S, Rel K g H S → (∃ C, g.B = g0.B ++ C) → Sub g0.F g.F → s.ok S = true →
  J.stop s.items.length H ∧ ∀ i d, s.items[i]? = some d → J.go i H ∧ ∀ x H', J.yld i H x H' → ∃ g', Grow g H g' H' ∧ Rel K g' H' S ∧ Rp K g'.F x d
def rIt (M : Mi) : Gh → It → Src → Prop := fun g J s => s.items.length ≤ 16777216 ∧ ItR M.K g J s
def tI (M : Mi) (W : WX) (f : IF) : TI := tG M W (rIt M) f
abbrev DI (X : Cx) (M : Mi) (W : WX) (tg e : Expr) (f : IF) : Prop := PI X tg e (tI M W f)
theorem _root_.L2.PI.weak {X : Cx} {tg e : Expr} {t t' : TI} (h : PI X tg e t) (k : ∀ σ H Q, t' σ H Q → t σ H Q) : PI X tg e t' := ⟨fun pins s σ H R I z => h.run pins s σ H R I (k _ _ _ z)⟩

/-! ### for -/
def forL (ok : Store → Bool) (gf : GF) (b : SF) : List PyData → SF
  | [] => fun Γ S => if ok S then .ok (.nx Γ) S else .no
  | d :: ds => fun Γ S => if ok S then (match gf (.d d) Γ S with
    | .ok Γ1 S1 => match b Γ1 S1 with
      | .ok (.nx Γ2) S2 => forL ok gf b ds Γ2 S2
      | .ok (.ct Γ2) S2 => forL ok gf b ds Γ2 S2
      | .ok (.bk Γ2) S2 => .ok (.nx Γ2) S2
      | o => o
    | _ => .no) else .no
def fFor (f : IF) (gf : GF) (b : SF) : SF := fun Γ S => sB (f Γ S) Γ fun s S => forL s.ok gf b s.items Γ S
theorem PostS.ok_of {M : Mi} {W : WX} {D : Ends} {g : Gh} {H : Hp} {ok : Store → Bool} {gf : GF} {b : SF} : ∀ {ds : List PyData} {Γ : Ev} {S : Store}, PostS M W D g H (forL ok gf b ds Γ S) → ok S = true
  | [], Γ, S, h => by
    unfold forL at h
    split at h
    · assumption
    · exact h.elim
  | d :: ds, Γ, S, h => by
    unfold forL at h
    split at h
    · assumption
    · exact h.elim
theorem s_for {X : Cx} {M : Mi} {W : WX} {T : List Nat} {tg iter : Expr} {body : List Stmt} {f : IF} {gf : GF} {b : SF} {pos : Pos} (hp : PassesOwn (model X.prog X.w) X.A X.env X.xe) (hc : X.calm = true) (hi : DI X M W tg iter f) (hg : DG X M T tg gf) (hb : DSs X M W body b)
    (hs : ∀ x, foldedSetIterable iter X.env x = pure x := by intro _; rfl) : DS X M W (.For tg iter body [] pos) (fFor f gf b) := (ps_for hp hc hi hg hb hs).weak fun D σ H h => by
  obtain ⟨g0, Γ0, S0, r0, v0, p0⟩ := h
  refine stepS r0 v0 p0 fun J H1 g1 S1 s gr1 r1 v1 q1 p1 => ?_
  obtain ⟨hz, q1⟩ := q1
  refine ⟨fun i m σ H => m = s.items.length - i ∧ i ≤ s.items.length ∧ ∃ g Γ S, Rel M.K g H S ∧ Vars M.K g σ Γ ∧ (∃ C, g.B = g1.B ++ C) ∧ Sub g1.F g.F ∧ PostS M W D g H (forL s.ok gf b (s.items.drop i) Γ S),
    ⟨_, rfl, Nat.zero_le _, g1, Γ0, S1, r1, v1, ⟨[], by simp⟩, fun _ _ h => h, by rw [List.drop_zero]; exact p1⟩, ?_⟩
  rintro i m σ H ⟨rfl, hi, g, Γ, S, r, v, hB, hF, p⟩
  have hok := PostS.ok_of p
  obtain ⟨hst, hgo⟩ := q1 g H S r hB hF hok
  by_cases hlt : i < s.items.length
  · have e : s.items[i]? = some s.items[i] := List.getElem?_eq_getElem hlt
    obtain ⟨go, yl⟩ := hgo i _ e
    refine .inr ⟨go, fun σ' H' => ∃ g Γ S, Rel M.K g H' S ∧ Vars M.K g σ' Γ ∧ (∃ C, g.B = g1.B ++ C) ∧ Sub g1.F g.F ∧ PostS M W D g H' (forL s.ok gf b (s.items.drop (i + 1)) Γ S), fun σ' H' h => ⟨s.items.length - (i + 1), by omega, rfl, hlt, h⟩, fun x H' y => ?_⟩
    obtain ⟨g', gr', r', rp⟩ := yl x H' y
    rw [List.drop_eq_getElem_cons hlt] at p
    unfold forL at p
    rw [if_pos hok] at p
    refine ⟨g', Γ, S, .d s.items[i], r', gr'.vars v, rp, ?_⟩
    cases h1 : gf (.d s.items[i]) Γ S with
    | ok Γ1 S1' =>
      rw [h1] at p
      intro σ2 g2 H2 _ gr2 r2 v2
      refine ⟨g2, Γ1, S1', r2, v2, ?_⟩
      have key : ∀ {g3 : Gh} {H3 : Hp} {S3 : Store}, Grow g2 H2 g3 H3 → Rel M.K g3 H3 S3 → Grow g H g3 H3 ∧ (∃ C, g3.B = g1.B ++ C) ∧ Sub g1.F g3.F := fun {g3 H3 S3} gr3 r3 => by
        have gr := (gr'.trans r' gr2).trans r2 gr3
        refine ⟨gr, ?_, fun b o e => gr.sub _ _ (hF _ _ e)⟩
        obtain ⟨C, e1⟩ := hB
        obtain ⟨C', e2⟩ := gr.pre
        exact ⟨C ++ C', by rw [e2, e1, List.append_assoc]⟩
      cases h2 : b Γ1 S1' with
      | ok fl S2 =>
        simp only [h2] at p
        cases fl with
        | nx Γ2 =>
          intro σ3 g3 H3 gr3 r3 v3
          obtain ⟨k1, k2, k3⟩ := key gr3 r3
          exact ⟨g3, Γ2, S2, r3, v3, k2, k3, PostS.grow r3 k1 p⟩
        | ct Γ2 =>
          intro σ3 g3 H3 gr3 r3 v3
          obtain ⟨k1, k2, k3⟩ := key gr3 r3
          exact ⟨g3, Γ2, S2, r3, v3, k2, k3, PostS.grow r3 k1 p⟩
        | bk Γ2 =>
          intro σ3 g3 H3 gr3 r3 v3
          exact p σ3 g3 H3 (key gr3 r3).1 r3 v3
        | rt v =>
          intro u g3 H3 gr3 r3 q3
          exact p u g3 H3 (key gr3 r3).1 r3 q3
        | xc x Γ2 =>
          intro c d σ3 g3 H3 gr3 r3 v3 q3
          exact p c d σ3 g3 H3 (key gr3 r3).1 r3 v3 q3
      | ex x S2 => simp only [h2] at p; exact p
      | no => simp only [h2] at p; exact p
    | ex x S' => rw [h1] at p; exact p
    | no => rw [h1] at p; exact p
  · have e : i = s.items.length := by omega
    subst e
    rw [List.drop_length] at p
    unfold forL at p
    rw [if_pos hok] at p
    exact .inl ⟨hst, p σ g H (Grow.refl _ _) r v⟩

/-! ### while -/
def whF (t : TF) (b : SF) : Nat → SF
  | 0 => fun _ _ => .no
  | n + 1 => fun Γ S => sB (t Γ S) Γ fun k S => if k = true then (match b Γ S with
    | .ok (.nx Γ') S' => whF t b n Γ' S'
    | .ok (.ct Γ') S' => whF t b n Γ' S'
    | .ok (.bk Γ') S' => .ok (.nx Γ') S'
    | o => o) else .ok (.nx Γ) S
def fWhile (fuel : Ev → Store → Nat) (t : TF) (b : SF) : SF := fun Γ S => whF t b (fuel Γ S) Γ S
theorem s_while {X : Cx} {M : Mi} {W : WX} {c : Expr} {body : List Stmt} {t : TF} {b : SF} {pos : Pos} (fuel : Ev → Store → Nat) (hp : PassesOwn (model X.prog X.w) X.A X.env X.xe) (hc : DT X M W c t) (hb : DSs X M W body b) : DS X M W (.While c body [] pos) (fWhile fuel t b) := (ps_while hp hc hb).weak fun D σ H h => by
  obtain ⟨g0, Γ0, S0, r0, v0, p0⟩ := h
  refine ⟨fun m σ H => ∃ g Γ S, Rel M.K g H S ∧ Vars M.K g σ Γ ∧ PostS M W D g H (whF t b m Γ S), ⟨_, g0, Γ0, S0, r0, v0, p0⟩, ?_⟩
  rintro m σ H ⟨g, Γ, S, r, v, p⟩
  cases m with
  | zero => exact p.elim
  | succ m =>
    unfold whF at p
    refine stepS r v p fun k H1 g1 S1 k' gr1 r1 v1 q1 p1 => ?_
    cases q1
    cases k with
    | false => exact iteF (p1 σ g1 H1 (Grow.refl _ _) r1 v1)
    | true =>
      rw [if_pos rfl] at p1
      refine iteT ⟨fun σ' H' => ∃ g Γ S, Rel M.K g H' S ∧ Vars M.K g σ' Γ ∧ PostS M W D g H' (whF t b m Γ S), fun σ' H' h => ⟨m, Nat.lt_succ_self _, h⟩, g1, Γ, S1, r1, v1, ?_⟩
      cases h2 : b Γ S1 with
      | ok fl S2 =>
        simp only [h2] at p1
        cases fl with
        | nx Γ2 => exact fun σ3 g3 H3 gr3 r3 v3 => ⟨g3, Γ2, S2, r3, v3, PostS.grow r3 gr3 p1⟩
        | ct Γ2 => exact fun σ3 g3 H3 gr3 r3 v3 => ⟨g3, Γ2, S2, r3, v3, PostS.grow r3 gr3 p1⟩
        | bk Γ2 => exact p1
        | rt v => exact p1
        | xc x Γ2 => exact p1
      | ex x S2 => simp only [h2] at p1; exact p1
      | no => simp only [h2] at p1; exact p1

/-! ### what is walked -/
section
variable {X : Cx} {M : Mi} {W : WX} {tg a b : Expr} {fa fb : EF} {pos p : Pos}
def iSeq (K : PySem.W.Frag) (tl : TE) : TI := fun σ H R => tl σ H fun x H1 => ∃ a, x = .ref a ∧ (((∃ xs, SqL K H1 a xs) ∧ R (Itl K a) H1) ∨ ((∃ xs, SqT K H1 a xs) ∧ R (Itt K a) H1))
theorem pi_seq {l : Expr} {tl : TE} (hl : PE X l tl) : PI X tg l (iSeq X.K tl) := by
  refine ⟨fun pins s σ H R I h => ?_⟩
  refine thn (hl.run pins s σ H _ I h) fun v s1 ⟨x, H1, I1, r1, q1⟩ => ?_
  obtain ⟨a, e, q | q⟩ := q1
  · obtain ⟨⟨xs, hq⟩, q⟩ := q
    subst e
    cases r1
    obtain ⟨its, rv, p, hz⟩ := I1.list hq
    refine wpAny_pyIter_list p.isList ?_
    refine ⟨s1.heap.objs.size, [s1.heap.objs.size], _, _, H1, rfl, I1.kept (t' := s1.toks) fun b o e => Heap.get?_push_of_some _ e, turn_list a _, ⟨_, Heap.get?_push_size _ rfl, rfl, rfl⟩, fun b hb => ?_, q⟩
    have e : b = s1.heap.objs.size := by simpa using hb
    subst e
    exact I1.fpOk (Nat.le_refl _) (I1.hok.fresh (Nat.le_refl _))
  · obtain ⟨⟨xs, hq⟩, q⟩ := q
    subst e
    cases r1
    obtain ⟨its, rv, p, hz⟩ := I1.tuple hq
    refine wpAny_pyIter_tuple (show s1.heap.IsTuple a its.toArray from p) ?_
    refine ⟨s1.heap.objs.size, [s1.heap.objs.size], _, _, H1, rfl, I1.kept (t' := s1.toks) fun b o e => Heap.get?_push_of_some _ e, turn_tuple a _, ⟨_, Heap.get?_push_size _ rfl, rfl, rfl⟩, fun b hb => ?_, q⟩
    have e : b = s1.heap.objs.size := by simpa using hb
    subst e
    exact I1.fpOk (Nat.le_refl _) (I1.hok.fresh (Nat.le_refl _))
mutual
/-- whether two data are the same, to the sign -/
def eqP : PyData → PyData → Bool
  | .none, .none => true
  | .bool a, .bool b => a == b
  | .int a, .int b => a == b
  | .str a, .str b => decide (a = b)
  | .list a, .list b => eqPs a b
  | .tuple a, .tuple b => eqPs a b
  | _, _ => false
def eqPs : List PyData → List PyData → Bool
  | [], [] => true
  | a :: as, b :: bs => eqP a b && eqPs as bs
  | _, _ => false
end
mutual
theorem eqP_eq : ∀ (a b : PyData), eqP a b = true → a = b
  | .none, b, h => by cases b <;> simp [eqP] at h ⊢
  | .bool a, b, h => by cases b <;> simp [eqP] at h ⊢ <;> exact h
  | .int a, b, h => by cases b <;> simp [eqP] at h ⊢ <;> exact h
  | .str a, b, h => by cases b <;> simp [eqP] at h ⊢ <;> exact h
  | .list a, b, h => by
    cases b <;> simp [eqP] at h ⊢
    exact eqPs_eq _ _ h
  | .tuple a, b, h => by
    cases b <;> simp [eqP] at h ⊢
    exact eqPs_eq _ _ h
  | .dict a, b, h => by cases b <;> simp [eqP] at h
theorem eqPs_eq : ∀ (a b : List PyData), eqPs a b = true → a = b
  | [], b, h => by cases b <;> simp [eqPs] at h ⊢
  | a :: as, b, h => by
    cases b with
    | nil => simp [eqPs] at h
    | cons b bs =>
      simp only [eqPs, Bool.and_eq_true] at h
      rw [eqP_eq _ _ h.1, eqPs_eq _ _ h.2]
end
/-- a list, a tuple, the script; a cell (it must stay as it is) -/
def srcS : SV → Store → Out Src := fun v S => match v with
  | .d (.list xs) => .ok ⟨xs, fun _ => true⟩ S
  | .d (.tuple xs) => .ok ⟨xs, fun _ => true⟩ S
  | .scr ns => if ns.length ≤ 16777216 then .ok ⟨ns.map .int, fun _ => true⟩ S else .no
  | .cell c => match S[c]? with
    | some (.lst xs) => .ok ⟨xs, fun S => match S[c]? with
      | some (.lst ys) => eqPs ys xs
      | none => false⟩ S
    | none => .no
  | _ => .no
def iSrc (fa : EF) : IF := fun Γ S => (fa Γ S).bind fun v S => srcS v S
theorem itR_list {K : PySem.W.Frag} {g0 : Gh} {a : Addr} {vs : List V} {ds : List PyData} (h : ∀ g H S, Rel K g H S → Sub g0.F g.F → SqL K H a vs) (t : RpAll K g0.F vs ds) : ItR K g0 (Itl K a) ⟨ds, fun _ => true⟩ := by
  intro g H S r hB hF _
  have q := h g H S r hF
  refine ⟨⟨vs, q, by rw [t.len]; exact Nat.le_refl _⟩, fun i d e => ?_⟩
  obtain ⟨v, hv, rv⟩ := t.get e
  refine ⟨⟨vs, v, q, hv⟩, fun x H' y => ?_⟩
  obtain ⟨e1, y⟩ := y
  subst e1
  have := y vs q
  rw [hv] at this
  cases this
  exact ⟨g, Grow.refl _ _, r, Rp.sub hF _ _ rv⟩
theorem itR_tup {K : PySem.W.Frag} {g0 : Gh} {a : Addr} {vs : List V} {ds : List PyData} (h : SqT K g0.F a vs) (t : RpAll K g0.F vs ds) : ItR K g0 (Itt K a) ⟨ds, fun _ => true⟩ := by
  intro g H S r hB hF _
  have q : SqT K H a vs := SqT.sub (fun b o e => r.sub _ _ (hF _ _ e)) h
  refine ⟨⟨vs, q, by rw [t.len]; exact Nat.le_refl _⟩, fun i d e => ?_⟩
  obtain ⟨v, hv, rv⟩ := t.get e
  refine ⟨⟨vs, v, q, hv⟩, fun x H' y => ?_⟩
  obtain ⟨e1, y⟩ := y
  subst e1
  have := y vs q
  rw [hv] at this
  cases this
  exact ⟨g, Grow.refl _ _, r, Rp.sub hF _ _ rv⟩
theorem i_src (hK : X.K = M.K) (ha : DE X M W a fa) : DI X M W tg a (iSrc fa) := (pi_seq ha).weak fun σ H R h => by
  obtain ⟨g, Γ, S, r, v, p⟩ := h
  refine step r v p fun u H1 g1 S1 w gr r1 v1 q1 p1 => ?_
  rw [hK]
  unfold srcS at p1
  split at p1
  · rename_i xs
    cases q1 with
    | lst h1 z t => exact ⟨_, rfl, .inl ⟨⟨_, SqL.of (r1.sub _ _ h1)⟩, p1.now r1 ⟨z, itR_list (fun g H S r hF => SqL.of (r.sub _ _ (hF _ _ h1))) t⟩⟩⟩
  · rename_i xs
    cases q1 with
    | tup h1 z t => exact ⟨_, rfl, .inr ⟨⟨_, SqT.sub r1.sub h1⟩, p1.now r1 ⟨z, itR_tup h1 t⟩⟩⟩
  · rename_i ns
    obtain ⟨c, rfl, h1⟩ := q1
    split at p1
    · rename_i hz
      exact ⟨_, rfl, .inl ⟨⟨_, SqL.sub r1.sub h1⟩, p1.now r1 ⟨by rw [List.length_map]; exact hz, itR_list (fun g H S r hF => SqL.sub (fun b o e => r.sub _ _ (hF _ _ e)) h1) (RpAll.of_ints ns)⟩⟩⟩
    · exact p1.elim
  · rename_i c
    obtain ⟨ad, ha, rfl⟩ := q1
    split at p1
    · rename_i xs hs
      obtain ⟨hz, vs, hv, tv⟩ := r1.at_ c ad _ ha hs
      refine ⟨_, rfl, .inl ⟨⟨_, SqL.of hv⟩, p1.now r1 ⟨hz, fun g H S r hB hF hok => ?_⟩⟩⟩
      obtain ⟨C, eB⟩ := hB
      have ha' : g.B[c]? = some ad := by rw [eB, List.getElem?_append_left (List.getElem?_eq_some_iff.mp ha).1]; exact ha
      cases hS : S[c]? with
      | none => simp only [hS] at hok; cases hok
      | some m =>
        cases m with
        | lst ys =>
          simp only [hS] at hok
          have e := eqPs_eq _ _ hok
          subst e
          obtain ⟨_, ws, hw, tw⟩ := r.at_ c ad _ ha' hS
          have q : SqL M.K H ad ws := SqL.of hw
          refine ⟨⟨ws, q, by rw [tw.len]; exact Nat.le_refl _⟩, fun i d e => ?_⟩
          obtain ⟨v, hv', rv⟩ := tw.get e
          refine ⟨⟨ws, v, q, hv'⟩, fun x H' y => ?_⟩
          obtain ⟨e1, y⟩ := y
          subst e1
          have := y ws q
          rw [hv'] at this
          cases this
          exact ⟨g, Grow.refl _ _, r, rv⟩
    · exact p1.elim
  · exact p1.elim
/-- range(n), range(a, b) -/
def rgSrc (ab : Int × Int) (S : Store) : Out Src := if rgC ab.1 ab.2 then .ok ⟨rgD ab.1 ab.2, fun _ => true⟩ S else .no
def iRg (f : RF) : IF := fun Γ S => (f Γ S).bind rgSrc
theorem itR_rg {K : PySem.W.Frag} {g0 : Gh} (lo : Int) (n : Nat) : ItR K g0 (Itr lo n) ⟨(List.range n).map fun (i : Nat) => PyData.int (lo + i), fun _ => true⟩ := by
  intro g H S r hB hF _
  refine ⟨by show n ≤ _; simp, fun i d e => ?_⟩
  rw [List.getElem?_map] at e
  have hi : i < n := by
    cases q : (List.range n)[i]? with
    | none => rw [q] at e; cases e
    | some j =>
      have := (List.getElem?_eq_some_iff.mp q).1
      simpa using this
  have e2 : (List.range n)[i]? = some i := by simp [hi]
  rw [e2] at e
  cases e
  exact ⟨hi, fun x H' y => by
    obtain ⟨e1, e2⟩ := y
    subst e1 e2
    exact ⟨g, Grow.refl _ _, r, .int _⟩⟩
theorem i_rg1 (hg : Gl X "range") (hm : X.mg "range" = none) (ha : DE X M W a fa) (hs : starEach [a] X.env = (false, eval a X.env) :: starEach [] X.env := by rfl) (hs' : starEach [a] X.env = [(false, eval a X.env)] := by rfl) : DI X M W tg (.Call (.Name "range" p) [a] [] pos) (iRg (rg1 fa)) :=
  (pi_range1 hg hm (pa_cons ha pa_nil hs) hs').weak fun σ H R h => by
    obtain ⟨g, Γ, S, r, v, p⟩ := h
    have p' : Post M W σ (rIt M) R g H ((fa Γ S).bind fun v S => (match v with | .d (.int n) => Out.ok ((0 : Int), n) S | _ => Out.no : Out (Int × Int)).bind rgSrc) := by
      unfold iRg rg1 at p
      cases h : fa Γ S with
      | ok a S' => rw [h] at p; exact p
      | ex x S' => rw [h] at p; exact p
      | no => rw [h] at p; exact p
    refine step r v p' fun u H1 g1 S1 w gr r1 v1 q1 p1 => ?_
    split at p1
    · rename_i n
      cases q1
      have p2 : Post M W σ (rIt M) R g1 H1 (rgSrc (0, n) S1) := p1
      unfold rgSrc at p2
      split at p2
      · rename_i hz
        obtain ⟨h1, h2, h3, h4, h5⟩ := rgC_ok hz
        refine ⟨n, rfl, h3, h4, p2.now r1 ⟨rgD_len hz, ?_⟩⟩
        unfold rgD
        rw [Int.sub_zero]
        exact itR_rg 0 n.toNat
      · exact p2.elim
    · exact p1.elim
theorem i_rg2 (hg : Gl X "range") (hm : X.mg "range" = none) (ha : DE X M W a fa) (hb : DE X M W b fb) (hs : starEach [a, b] X.env = (false, eval a X.env) :: starEach [b] X.env := by rfl) (hs2 : starEach [b] X.env = (false, eval b X.env) :: starEach [] X.env := by rfl) (hs' : starEach [a, b] X.env = [(false, eval a X.env), (false, eval b X.env)] := by rfl) (hs2' : starEach [b] X.env = [(false, eval b X.env)] := by rfl) :
    DI X M W tg (.Call (.Name "range" p) [a, b] [] pos) (iRg (rg2 fa fb)) :=
  (pi_range2 hg hm (pa_cons ha (pa_cons hb pa_nil hs2) hs) hs' hs2').weak fun σ H R h => by
    obtain ⟨g, Γ, S, r, v, p⟩ := h
    have p' : Post M W σ (rIt M) R g H ((fa Γ S).bind fun v S => (fb Γ S).bind fun w S => (match v, w with | .d (.int i), .d (.int j) => Out.ok (i, j) S | _, _ => Out.no : Out (Int × Int)).bind rgSrc) := by
      unfold iRg rg2 at p
      cases h : fa Γ S with
      | ok a S' =>
        rw [h] at p
        simp only [Out.bind] at p ⊢
        cases h2 : fb Γ S' with
        | ok b S2 => rw [h2] at p; exact p
        | ex x S2 => rw [h2] at p; exact p
        | no => rw [h2] at p; exact p
      | ex x S' => rw [h] at p; exact p
      | no => rw [h] at p; exact p
    refine step r v p' fun u H1 g1 S1 w gr r1 v1 q1 p1 => step r1 v1 p1 fun u2 H2 g2 S2 w2 gr2 r2 v2 q2 p2 => ?_
    split at p2
    · rename_i i j
      have q1' := gr2.rep q1
      cases q1'; cases q2
      have p3 : Post M W σ (rIt M) R g2 H2 (rgSrc (i, j) S2) := p2
      unfold rgSrc at p3
      split at p3
      · rename_i hz
        obtain ⟨h1, h2, h3, h4, h5⟩ := rgC_ok hz
        exact ⟨i, j, rfl, ⟨h1, h2, h3, h4⟩, p3.now r2 ⟨rgD_len hz, itR_rg i (j - i).toNat⟩⟩
      · exact p3.elim
    · exact p2.elim
/-- zip(a, b) of two lists, of two tuples -/
def pairD (xs ys : List PyData) : List PyData := (xs.zip ys).map fun p => .tuple [p.1, p.2]
def zipS : SV → SV → Store → Out Src := fun v w S => match v, w with
  | .d (.list xs), .d (.list ys) => .ok ⟨pairD xs ys, fun _ => true⟩ S
  | .d (.tuple xs), .d (.tuple ys) => .ok ⟨pairD xs ys, fun _ => true⟩ S
  | _, _ => .no
def iZip (fa fb : EF) : IF := fun Γ S => (fa Γ S).bind fun v S => (fb Γ S).bind fun w S => zipS v w S
theorem pairD_at {xs ys : List PyData} {i : Nat} {d : PyData} (e : (pairD xs ys)[i]? = some d) : ∃ x y, xs[i]? = some x ∧ ys[i]? = some y ∧ d = .tuple [x, y] := by
  unfold pairD at e
  rw [List.getElem?_map] at e
  cases q : (xs.zip ys)[i]? with
  | none => rw [q] at e; cases e
  | some p =>
    rw [q] at e
    cases e
    rw [List.getElem?_zip_eq_some] at q
    exact ⟨p.1, p.2, q.1, q.2, rfl⟩
theorem pairD_len (xs ys : List PyData) : (pairD xs ys).length = min xs.length ys.length := by unfold pairD; rw [List.length_map, List.length_zip]
/-- a new pair -/
theorem pair_new {K : PySem.W.Frag} {g : Gh} {H : Hp} {S : Store} (r : Rel K g H S) {T : Addr} (hT : H T = none) {u v : V} {x y : PyData} (q1 : Rp K g.F u x) (q2 : Rp K g.F v y) : ∃ g', Grow g H g' (upd H T (.tup [u, v])) ∧ Rel K g' (upd H T (.tup [u, v])) S ∧ Rp K g'.F (.ref T) (.tuple [x, y]) := by
  obtain ⟨r', gr⟩ := r.frz hT (.tup [u, v])
  obtain ⟨hF, _⟩ := r.free hT
  exact ⟨_, gr, r', Rp.tup (.inl (.inl upd_same)) (by show 2 ≤ _; decide) (.cons (Rp.sub (sub_upd hF) _ _ q1) (.cons (Rp.sub (sub_upd hF) _ _ q2) .nil))⟩
theorem i_zip (hK : X.K = M.K) {elts : List Expr} {kk : Nat} {tpos : Pos} (hg : Gl X "zip") (hm : X.mg "zip" = none) (ha : DE X M W a fa) (hb : DE X M W b fb) (hs : starEach [a, b] X.env = (false, eval a X.env) :: starEach [b] X.env := by rfl) (hs2 : starEach [b] X.env = (false, eval b X.env) :: starEach [] X.env := by rfl) (hpl : (backTo pos (starEach [b] X.env)).any (·.1) = false := by rfl) :
    DI X M W (.Tuple elts kk tpos) (.Call (.Name "zip" p) [a, b] [] pos) (iZip fa fb) :=
  (RZ.pi_zipA hg hm (pa_cons ha (pa_cons hb pa_nil hs2) hs) hs hpl).weak fun σ H R h => by
    obtain ⟨g, Γ, S, r, v, p⟩ := h
    refine step r v p fun u H1 g1 S1 w gr r1 v1 q1 p1 => step r1 v1 p1 fun u2 H2 g2 S2 w2 gr2 r2 v2 q2 p2 => ?_
    have q1' := gr2.rep q1
    rw [hK]
    unfold zipS at p2
    split at p2
    · rename_i xs ys
      cases q1' with
      | lst h1 z1 t1 =>
        cases q2 with
        | lst h2 z2 t2 =>
          refine ⟨_, _, _, _, rfl, .inl ⟨SqL.of (r2.sub _ _ h1), SqL.of (r2.sub _ _ h2), p2.now r2 ⟨by rw [pairD_len]; omega, fun g H S r hB hF _ => ?_⟩⟩⟩
          have e1 := r.sub _ _ (hF _ _ h1)
          have e2 := r.sub _ _ (hF _ _ h2)
          have l1 := t1.len
          have l2 := t2.len
          refine ⟨⟨_, _, SqL.of e1, SqL.of e2, ?_⟩, fun i d e => ?_⟩
          · show _ ≤ (pairD xs ys).length ∨ _ ≤ (pairD xs ys).length
            rw [pairD_len]; omega
          · obtain ⟨x, y, hx, hy, rfl⟩ := pairD_at e
            obtain ⟨a1, hu, ru⟩ := t1.get hx
            obtain ⟨b1, hv, rv⟩ := t2.get hy
            refine ⟨⟨_, _, a1, b1, SqL.of e1, SqL.of e2, hu, hv⟩, fun z H' yy => ?_⟩
            obtain ⟨T, a2, b2, rfl, hT, rfl, y1, y2⟩ := yy
            have k1 := y1 _ (SqL.of e1)
            have k2 := y2 _ (SqL.of e2)
            rw [hu] at k1; rw [hv] at k2
            cases k1; cases k2
            exact pair_new r hT (Rp.sub hF _ _ ru) (Rp.sub hF _ _ rv)
    · rename_i xs ys
      cases q1' with
      | tup h1 z1 t1 =>
        cases q2 with
        | tup h2 z2 t2 =>
          refine ⟨_, _, _, _, rfl, .inr ⟨SqT.sub r2.sub h1, SqT.sub r2.sub h2, p2.now r2 ⟨by rw [pairD_len]; omega, fun g H S r hB hF _ => ?_⟩⟩⟩
          have e1 : SqT M.K H _ _ := SqT.sub (fun b o e => r.sub _ _ (hF _ _ e)) h1
          have e2 : SqT M.K H _ _ := SqT.sub (fun b o e => r.sub _ _ (hF _ _ e)) h2
          have l1 := t1.len
          have l2 := t2.len
          refine ⟨⟨_, _, e1, e2, ?_⟩, fun i d e => ?_⟩
          · show _ ≤ (pairD xs ys).length ∨ _ ≤ (pairD xs ys).length
            rw [pairD_len]; omega
          · obtain ⟨x, y, hx, hy, rfl⟩ := pairD_at e
            obtain ⟨a1, hu, ru⟩ := t1.get hx
            obtain ⟨b1, hv, rv⟩ := t2.get hy
            refine ⟨⟨_, _, a1, b1, e1, e2, hu, hv⟩, fun z H' yy => ?_⟩
            obtain ⟨T, a2, b2, rfl, hT, rfl, y1, y2⟩ := yy
            have k1 := y1 _ e1
            have k2 := y2 _ e2
            rw [hu] at k1; rw [hv] at k2
            cases k1; cases k2
            exact pair_new r hT (Rp.sub hF _ _ ru) (Rp.sub hF _ _ rv)
    · exact p2.elim
/-- enumerate(a) of a list -/
def enumD (xs : List PyData) : List PyData := xs.mapIdx fun i x => .tuple [.int i, x]
def enumS : SV → Store → Out Src := fun v S => match v with
  | .d (.list xs) => .ok ⟨enumD xs, fun _ => true⟩ S
  | _ => .no
def iEnm (fa : EF) : IF := fun Γ S => (fa Γ S).bind fun v S => enumS v S
theorem i_enum (hK : X.K = M.K) {elts : List Expr} {kk : Nat} {tpos : Pos} (hg : Gl X "enumerate") (hm : X.mg "enumerate" = none) (ha : DE X M W a fa) (hs : starEach [a] X.env = (false, eval a X.env) :: starEach [] X.env := by rfl) (hs' : starEach [a] X.env = [(false, eval a X.env)] := by rfl) :
    DI X M W (.Tuple elts kk tpos) (.Call (.Name "enumerate" p) [a] [] pos) (iEnm fa) :=
  (pi_enum hg hm (pa_cons ha pa_nil hs) hs').weak fun σ H R h => by
    obtain ⟨g, Γ, S, r, v, p⟩ := h
    refine step r v p fun u H1 g1 S1 w gr r1 v1 q1 p1 => ?_
    rw [hK]
    unfold enumS at p1
    split at p1
    · rename_i xs
      cases q1 with
      | lst h1 z1 t1 =>
        refine ⟨_, _, rfl, SqL.of (r1.sub _ _ h1), p1.now r1 ⟨by unfold enumD; rw [List.length_mapIdx]; exact z1, fun g H S r hB hF _ => ?_⟩⟩
        have e1 := r.sub _ _ (hF _ _ h1)
        refine ⟨⟨_, SqL.of e1, ?_⟩, fun i d e => ?_⟩
        · show _ ≤ (enumD xs).length
          unfold enumD
          rw [List.length_mapIdx, t1.len]; exact Nat.le_refl _
        · have e' : (enumD xs)[i]? = some d := e
          unfold enumD at e'
          rw [List.getElem?_mapIdx] at e'
          cases hx : xs[i]? with
          | none => rw [hx] at e'; cases e'
          | some x =>
            rw [hx] at e'
            cases e'
            obtain ⟨a1, hu, ru⟩ := t1.get hx
            refine ⟨⟨_, a1, SqL.of e1, hu⟩, fun z H' yy => ?_⟩
            obtain ⟨T, a2, rfl, hT, rfl, y1⟩ := yy
            have k1 := y1 _ (SqL.of e1)
            rw [hu] at k1
            cases k1
            exact pair_new r hT (.int _) (Rp.sub hF _ _ ru)
    · exact p1.elim
end

/-! ### comprehensions -/
def lcL (ok : Store → Bool) (gf : GF) (tf : TF) (ef : EF) (vs : List Nat) (Γ : Ev) : List PyData → Store → Out (List PyData)
  | [], S => if ok S then .ok [] S else .no
  | d :: ds, S => if ok S then (match gf (.d d) (wipeE Γ vs) S with
    | .ok Γ1 S1 => match tf Γ1 S1 with
      | .ok true S2 => match ef Γ1 S2 with
        | .ok (.d x) S3 => (lcL ok gf tf ef vs Γ ds S3).bind fun xs S => .ok (x :: xs) S
        | _ => .no
      | .ok false S2 => lcL ok gf tf ef vs Γ ds S2
      | _ => .no
    | _ => .no) else .no
def eLc (fin : List PyData → Store → Out SV) (f : IF) (gf : GF) (tf : TF) (ef : EF) (vs : List Nat) : EF := fun Γ S => (f Γ S).bind fun s S => (lcL s.ok gf tf ef vs Γ s.items S).bind fun xs S => fin xs S
theorem wipe_in {σ : St} {i : Nat} : ∀ {vs : List Nat}, i ∈ vs → i < σ.length → (wipe σ vs)[i]? = some none
  | v :: vs, h, hl => by
    unfold wipe
    by_cases e : v = i
    · subst e
      rw [List.getElem?_set_self (by rw [wipe_length]; exact hl)]
    · rw [List.getElem?_set_ne e]
      rcases List.mem_cons.mp h with h | h
      · exact absurd h.symm e
      · exact wipe_in h hl
theorem wipe_only {σ σ2 : St} {vs T : List Nat} (h : OnlyT T (wipe σ vs) σ2) (hT : ∀ j ∈ T, j ∈ vs) : wipe σ2 vs = wipe σ vs := by
  have hl : σ2.length = σ.length := by rw [h.1, wipe_length]
  apply List.ext_getElem?
  intro j
  by_cases hj : j ∈ vs
  · by_cases hlt : j < σ.length
    · rw [wipe_in hj hlt, wipe_in hj (by rw [hl]; exact hlt)]
    · rw [List.getElem?_eq_none (by rw [wipe_length]; omega), List.getElem?_eq_none (by rw [wipe_length]; omega)]
  · rw [wipe_out hj]
    exact h.2 j (fun z => hj (hT j z))
abbrev W0 : WX := fun _ _ _ _ => False
def PostL (M : Mi) (Q : VK) (g0 : Gh) (H0 : Hp) (p : Addr) (acc : List PyData) (fin : List PyData → Store → Out SV) (W : WX) (σ : St) (o : Out (List PyData)) : Prop := Post M W σ (rS M) Q g0 H0 (o.bind fun xs S => fin (acc ++ xs) S)
section
variable {X : Cx} {M : Mi} {W : WX} {T : List Nat} {tg iter elt : Expr} {ifs : List Expr} {f : IF} {gf : GF} {tf : TF} {ef : EF} {pos : Pos} {scope : Scope} {own : List (Str × Nat)}
/-- a cell's item and the new list grow together: the state of a comprehension's loop -/
theorem lc_of {fin : List PyData → Store → Out SV} (hf : Fin M fin) (hT : ∀ j ∈ T, j ∈ own.map (·.2)) {σ : St} {H : Hp} {Q : VK} (h : tE M W (eLc fin f gf tf ef (own.map (·.2))) σ H Q) :
    tLc (tI M W f) (tT1 M T gf) (tT M W0 tf) (tE M W0 ef) (own.map (·.2)) σ H Q := by
  obtain ⟨g0, Γ, S0, r0, v0, p0⟩ := h
  unfold eLc at p0
  refine step r0 v0 p0 fun J H1 g1 S1 s gr1 r1 v1 q1 p1 => ?_
  obtain ⟨hz, hit⟩ := q1
  intro D hD
  obtain ⟨hFD, hBD⟩ := r1.free hD
  obtain ⟨rD, grD⟩ := Rel.lay r1 hD (.lst [])
  refine ⟨fun i m H => m = s.items.length - i ∧ i ≤ s.items.length ∧ ∃ g S vs acc, Rel M.K g H S ∧ Grow g1 H1 g H ∧ g.F D = none ∧ D ∉ g.B ∧ H D = some (.lst vs) ∧ RpAll M.K g.F vs acc ∧ acc.length ≤ i ∧
      Post M W σ (rS M) Q g1 H1 ((lcL s.ok gf tf ef (own.map (·.2)) Γ (s.items.drop i) S).bind fun xs S => fin (acc ++ xs) S),
    ⟨_, rfl, Nat.zero_le _, g1, S1, [], [], rD, grD, hFD, hBD, upd_same, .nil, Nat.le_refl _, by rw [List.drop_zero]; exact p1⟩, ?_⟩
  rintro i m H2 ⟨rfl, hi, g, S, vs, acc, r, gr, hF, hB, hDv, tacc, hla, p⟩
  have hok : s.ok S = true := by
    cases hd : s.items.drop i with
    | nil =>
      rw [hd] at p
      unfold lcL at p
      cases h : s.ok S with
      | true => rfl
      | false => rw [h] at p; exact p.elim
    | cons d ds =>
      rw [hd] at p
      unfold lcL at p
      cases h : s.ok S with
      | true => rfl
      | false => rw [h] at p; exact p.elim
  obtain ⟨hst, hgo⟩ := hit g H2 S r gr.pre gr.sub hok
  by_cases hlt : i < s.items.length
  · have e : s.items[i]? = some s.items[i] := List.getElem?_eq_getElem hlt
    obtain ⟨go, yl⟩ := hgo i _ e
    rw [List.drop_eq_getElem_cons hlt] at p
    unfold lcL at p
    rw [if_pos hok] at p
    refine .inr ⟨go, fun H' => ∃ g S vs acc, Rel M.K g H' S ∧ Grow g1 H1 g H' ∧ g.F D = none ∧ D ∉ g.B ∧ H' D = some (.lst vs) ∧ RpAll M.K g.F vs acc ∧ acc.length ≤ i + 1 ∧
      Post M W σ (rS M) Q g1 H1 ((lcL s.ok gf tf ef (own.map (·.2)) Γ (s.items.drop (i + 1)) S).bind fun xs S => fin (acc ++ xs) S), fun H' h => ⟨s.items.length - (i + 1), by omega, rfl, hlt, h⟩, fun x H' y => ?_⟩
    obtain ⟨g', gr', r', rp⟩ := yl x H' y
    -- what stays true of the new list through evaluation
    have keep : ∀ {ga gb : Gh} {Ha Hb : Hp} {Sa : Store}, Rel M.K ga Ha Sa → Grow ga Ha gb Hb → ga.F D = none → D ∉ ga.B → (∃ vs, Ha D = some (.lst vs)) → gb.F D = none ∧ D ∉ gb.B ∧ Hb D = Ha D := fun {ga gb Ha Hb Sa} ra gb' k1 k2 k3 => by
      obtain ⟨ws, k3⟩ := k3
      refine ⟨?_, fun hm => ?_, by rw [gb'.frm D _ k3 k2, k3]⟩
      · cases q : gb.F D with
        | none => rfl
        | some o =>
          rcases gb'.newF D o q with z | z
          · rw [k1] at z; cases z
          · rw [k3] at z; cases z
      · rcases gb'.newB D hm with z | z
        · exact k2 z
        · rw [k3] at z; cases z
    obtain ⟨a1, a2, a3⟩ := keep r gr' hF hB ⟨vs, hDv⟩
    have gr1' := gr.trans r gr'
    have vσ : Vars M.K g' (wipe σ (own.map (·.2))) (wipeE Γ (own.map (·.2))) := gr1'.vars v1 |>.wipe _
    refine ⟨g', _, S, .d s.items[i], r', vσ, rp, ?_⟩
    cases h1 : gf (.d s.items[i]) (wipeE Γ (own.map (·.2))) S with
    | ex x S' => rw [h1] at p; exact p.elim
    | no => rw [h1] at p; exact p.elim
    | ok Γ1 S1' =>
      rw [h1] at p
      intro σ2 g2 H3 t2 gr2 r2 v2
      refine ⟨wipe_only t2 hT, ?_⟩
      obtain ⟨b1, b2, b3⟩ := keep r' gr2 a1 a2 ⟨vs, by rw [a3]; exact hDv⟩
      have gr12 := gr1'.trans r' gr2
      refine ⟨g2, Γ1, S1', r2, v2, ?_⟩
      cases h2 : tf Γ1 S1' with
      | ex x S' => simp only [h2] at p; exact p.elim
      | no => simp only [h2] at p; exact p.elim
      | ok b S2 =>
        intro u g3 H4 gr3 r3 q3
        obtain rfl : u = b := q3
        obtain ⟨c1, c2, c3⟩ := keep r2 gr3 b1 b2 ⟨vs, by rw [b3, a3]; exact hDv⟩
        have gr13 := gr12.trans r2 gr3
        have e4 : H4 D = some (.lst vs) := by rw [c3, b3, a3]; exact hDv
        cases u with
        | false =>
          simp only [h2] at p
          exact iteF ⟨g3, S2, vs, acc, r3, gr13, c1, c2, e4, RpAll.sub (fun b o e => gr3.sub _ _ (gr2.sub _ _ (gr'.sub _ _ e))) _ _ tacc, by omega, p⟩
        | true =>
          simp only [h2] at p
          refine iteT ⟨g3, Γ1, S2, r3, gr3.vars v2, ?_⟩
          cases h3 : ef Γ1 S2 with
          | ex x S' => rw [h3] at p; exact p.elim
          | no => rw [h3] at p; exact p.elim
          | ok z S3 =>
            cases z with
            | cell _ => rw [h3] at p; exact p.elim
            | scr _ => rw [h3] at p; exact p.elim
            | d x =>
              rw [h3] at p
              intro y g4 H5 gr4 r4 q4
              obtain ⟨d1, d2, d3⟩ := keep r3 gr4 c1 c2 ⟨vs, e4⟩
              have e5 : H5 D = some (.lst vs) := by rw [d3]; exact e4
              have gr14 := gr13.trans r3 gr4
              have t4 : RpAll M.K g4.F vs acc := RpAll.sub (fun b o e => gr4.sub _ _ (gr3.sub _ _ (gr2.sub _ _ (gr'.sub _ _ e)))) _ _ tacc
              have ne : ∀ b ∈ g4.B, b ≠ D := fun b hb e => d2 (e ▸ hb)
              refine ⟨vs, e5, by rw [t4.len, sizeLine_eq]; omega, g4, S3, vs ++ [y], acc ++ [x], ⟨fun b o e => ?_, r4.nd, r4.dis, r4.len, fun j b m e1 e2 => ?_⟩, ⟨gr14.pre, gr14.sub, fun b o e hb => ?_, gr14.newB, gr14.newF⟩, d1, d2, upd_same, t4.append (.cons q4 .nil), by rw [List.length_append, List.length_singleton]; omega, ?_⟩
              · rw [upd_ne (fun z => by rw [z, d1] at e; cases e)]; exact r4.sub _ _ e
              · rw [upd_ne (ne b (List.mem_of_getElem? e1))]; exact r4.at_ j b m e1 e2
              · rw [upd_ne (ne_of_none e hD)]; exact gr14.frm b o e hb
              · cases h4 : lcL s.ok gf tf ef (own.map (·.2)) Γ (s.items.drop (i + 1)) S3 with
                | ok xs S4 =>
                  simp only [h4, Out.bind] at p ⊢
                  rw [List.append_assoc]
                  exact p
                | ex x' S4 => simp only [h4, Out.bind] at p ⊢; exact p
                | no => simp only [h4, Out.bind] at p; exact p.elim
  · have e : i = s.items.length := by omega
    subst e
    rw [List.drop_length] at p
    unfold lcL at p
    rw [if_pos hok] at p
    refine .inl ⟨hst, ?_⟩
    have p' : Post M W σ (rS M) Q g1 H1 (fin (acc ++ []) S) := p
    rw [List.append_nil] at p'
    exact hf W σ Q g1 H1 g H2 S D vs acc r gr hD hDv hF hB (Nat.le_trans hla hz) tacc p'
/-- [elt for tg in iter if ..] as a value -/
theorem d_lc {fin : List PyData → Store → Out SV} (hf : Fin M fin) (hT : ∀ j ∈ T, j ∈ own.map (·.2)) (hc : X.calm = true) (hN : X.N.Nodup) (hi : DI X M W tg iter f) (ok : BlkOk X.N X.env.scope scope own)
    (hg : ∀ (s : Shared) (H : Hp) (C : Addr) (cl : List (Str × Addr)) (fp : List Addr), DG (X.blk s H scope (compEnvC scope cl C X.env) fp) M T tg gf) (ht : ∀ (s : Shared) (H : Hp) (C : Addr) (cl : List (Str × Addr)) (fp : List Addr), PTs (X.blk s H scope (compEnvC scope cl C X.env) fp) ifs (tT M W0 tf))
    (he : ∀ (s : Shared) (H : Hp) (C : Addr) (cl : List (Str × Addr)) (fp : List Addr), DE (X.blk s H scope (compEnvC scope cl C X.env) fp) M W0 elt ef) (hs : ∀ x, foldedSetIterable iter X.env x = pure x := by intro _; rfl) :
    DE X M W (.ListComp elt [⟨tg, iter, ifs, 0⟩] scope pos) (eLc fin f gf tf ef (own.map (·.2))) := (pe_lc hc hN hi ok hg ht he hs).weak fun _ _ _ h => lc_of hf hT h
/-- name = [elt for ..] on one line -/
theorem s_setLc {fin : List PyData → Store → Out SV} (hf : Fin M fin) {i : Nat} {y : Str} {py spos : Pos} (hT : ∀ j ∈ T, j ∈ own.map (·.2)) (hc : X.calm = true) (hN : X.N.Nodup) (hy : X.N[i]? = some y) (hyl : X.env.scope.names.lookup y = some .local)
    (hsw : swapsWith (.ListComp elt [⟨tg, iter, ifs, 0⟩] scope pos) (some (.Name y py)) spos.line X.env = pure true) (hi : DI X M W tg iter f) (ok : BlkOk X.N X.env.scope scope own)
    (hg : ∀ (s : Shared) (H : Hp) (C : Addr) (cl : List (Str × Addr)) (fp : List Addr), DG (X.blk s H scope (compEnvC scope cl C X.env) fp) M T tg gf) (ht : ∀ (s : Shared) (H : Hp) (C : Addr) (cl : List (Str × Addr)) (fp : List Addr), PTs (X.blk s H scope (compEnvC scope cl C X.env) fp) ifs (tT M W0 tf))
    (he : ∀ (s : Shared) (H : Hp) (C : Addr) (cl : List (Str × Addr)) (fp : List Addr), DE (X.blk s H scope (compEnvC scope cl C X.env) fp) M W0 elt ef) (hs : ∀ x, foldedSetIterable iter X.env x = pure x := by intro _; rfl) :
    DS X M W (.Assign [.Name y py] (.ListComp elt [⟨tg, iter, ifs, 0⟩] scope pos) spos) (fSet i (eLc fin f gf tf ef (own.map (·.2)))) := (ps_setLc hc hN hy hyl hsw hi ok hg ht he hs).weak fun _ _ _ h => set_of (fun _ _ _ h => lc_of hf hT h) h
def tYesF : TF := fun _ S => .ok true S
theorem ts_nil : PTs X [] (tT M W tYesF) := ⟨fun pins s σ H Q I ⟨g, Γ, S, r, v, p⟩ => pts_nil.run pins s σ H Q I (p.now (u := true) r rfl)⟩
theorem ts_one {c : Expr} {t : TF} (h : DT X M W c t) : PTs X [c] (tT M W t) := pts_one h
end
end DL
/-! D7: methods of lists. -/
namespace DL
open PySem L2
def isL (o : SV) (S : Store) : Bool := match o with
  | .cell c => match S[c]? with
    | some (.lst _) => true
    | none => false
  | .d (.list _) => true
  | _ => false
def eMeth (op : SV → List SV → Store → Out SV) (fo : EF) (af : AF) : EF := fun Γ S => (fo Γ S).bind fun o S => if isL o S then (af Γ S).bind fun vs S => op o vs S else .no
def SatM (M : Mi) (r : V → List V → Hp → VK → Prop) (op : SV → List SV → Store → Out SV) : Prop := ∀ (W : WX) (σ : St) (Q : VK) (g : Gh) (H : Hp) (S : Store) (x : V) (o : SV) (us : List V) (vs : List SV),
  Rel M.K g H S → RepS M.K g x o → RepA M.K g us vs → Post M W σ (rS M) Q g H (op o vs S) → r x us H Q
section
variable {X : Cx} {M : Mi} {W : WX} {o e : Expr} {es : List Expr} {fo : EF} {af : AF} {name : Str} {apos cpos : Pos} {id : String} {r : V → List V → Hp → VK → Prop} {op : SV → List SV → Store → Out SV}
theorem isL_ok {g : Gh} {H : Hp} {S : Store} {x : V} {o : SV} (r : Rel M.K g H S) (q : RepS M.K g x o) (h : isL o S = true) : tyV M.K "list" x H := by
  unfold isL at h
  split at h
  · rename_i c
    obtain ⟨a, ha, rfl⟩ := q
    split at h
    · rename_i xs hs
      obtain ⟨_, vs, hv, _⟩ := r.at_ c a _ ha hs
      exact .inl ⟨rfl, vs, SqL.of hv⟩
    · cases h
  · cases q with
    | lst h1 z t => exact .inl ⟨rfl, _, SqL.of (r.sub _ _ h1)⟩
  · cases h
theorem d_bm0 (hK : X.K = M.K) (slot : Slot "list" name id) (hty : typeOf (.builtin id) = pure (.type "method_descriptor")) (hm : MtR X id r) (hs : SatM M r op) (ho : DE X M W o fo)
    (hbase : attributeBase o name X.env (eval o X.env) = eval o X.env := by rfl) (hline : (apos.endLine == cpos.line) = true := by rfl) : DE X M W (.Call (.Attribute o name apos) [] [] cpos) (eMeth op fo aNil) :=
  (pe_bm0 PySem.F.plainAttrs_list slot hty hm ho hbase hline).weak fun σ H Q h => by
    obtain ⟨g, Γ, S, r0, v0, p⟩ := h
    refine step r0 v0 p fun u H1 g1 S1 v gr r1 v1 q1 p1 => ?_
    split at p1
    · rename_i hl
      exact ⟨by rw [hK]; exact isL_ok r1 q1 hl, hs _ _ _ _ _ _ _ _ _ _ r1 q1 .nil p1⟩
    · exact p1.elim
theorem d_bm (hK : X.K = M.K) (slot : Slot "list" name id) (hty : typeOf (.builtin id) = pure (.type "method_descriptor")) (hm : MtR X id r) (hs' : SatM M r op) (ho : DE X M W o fo) (ha : DA X M W (e :: es) af)
    (hbase : attributeBase o name X.env (eval o X.env) = eval o X.env := by rfl)
    (hfew : ((backTo cpos (starEach (e :: es) X.env)).all (fun x => !x.1) && (backToKw cpos (keywordEach [] X.env)).all (fun x => x.1.isSome)
      && decide ((e :: es).length + ([] : List Keyword).length + (if ([] : List Keyword).isEmpty then 0 else 1) < 30)) = true := by rfl)
    (hline : (apos.endLine == cpos.line) = true := by rfl) (hs : starEach (e :: es) X.env = (false, eval e X.env) :: starEach es X.env := by rfl) (hplain : (backTo cpos (starEach es X.env)).any (·.1) = false := by rfl) :
    DE X M W (.Call (.Attribute o name apos) (e :: es) [] cpos) (eMeth op fo af) :=
  (pe_bm PySem.F.plainAttrs_list slot hty hm ho ha hbase hfew hline hs hplain).weak fun σ H Q h => by
    obtain ⟨g, Γ, S, r0, v0, p⟩ := h
    refine step r0 v0 p fun u H1 g1 S1 v gr r1 v1 q1 p1 => ?_
    split at p1
    · rename_i hl
      exact ⟨by rw [hK]; exact isL_ok r1 q1 hl, step r1 v1 p1 fun us H2 g2 S2 vs gr2 r2 v2 q2 p2 => hs' _ _ _ _ _ _ _ _ _ _ r2 (gr2.rep q1) q2 p2⟩
    · exact p1.elim
/-- the cell's list -/
def cellL (o : SV) (S : Store) : Option (Nat × List PyData) := match o with
  | .cell c => match S[c]? with
    | some (.lst xs) => some (c, xs)
    | none => none
  | _ => none
theorem cellL_ok {g : Gh} {H : Hp} {S : Store} {x : V} {o : SV} (r : Rel M.K g H S) (q : RepS M.K g x o) {c : Nat} {xs : List PyData} (h : cellL o S = some (c, xs)) : ∃ a vs, x = .ref a ∧ g.B[c]? = some a ∧ H a = some (.lst vs) ∧ RpAll M.K g.F vs xs ∧ xs.length ≤ 16777216 := by
  unfold cellL at h
  split at h
  · rename_i c'
    obtain ⟨a, ha, rfl⟩ := q
    split at h
    · rename_i ys hs
      cases h
      obtain ⟨hz, vs, hv, t⟩ := r.at_ c a _ ha hs
      exact ⟨a, vs, rfl, ha, hv, t, hz⟩
    · cases h
  · cases h
def appendS : SV → List SV → Store → Out SV := fun o vs S => match cellL o S, vs with
  | some (c, xs), [.d x] => if xs.length < 16777216 then .ok (.d .none) (S.set c (.lst (xs ++ [x]))) else .no
  | _, _ => .no
theorem sat_append : SatM M rAppend appendS := by
  intro W σ Q g H S x o us vs r q1 q2 p
  unfold appendS at p
  split at p
  · rename_i c xs y e
    split at p
    · rename_i hz
      obtain ⟨a, ws, rfl, ha, hv, t, _⟩ := cellL_ok r q1 e
      cases q2 with
      | cons q2 q3 =>
        cases q3
        rename_i u
        have hz' : (xs ++ [y]).length ≤ 16777216 := by rw [List.length_append, List.length_singleton]; exact hz
        obtain ⟨r2, gr2⟩ := r.put ha hz' (t.append (.cons q2 .nil))
        exact ⟨a, ws, u, rfl, rfl, hv, by rw [t.len]; exact hz, p .non g _ gr2 r2 .non⟩
    · exact p.elim
  · exact p.elim
def popS : SV → List SV → Store → Out SV := fun o vs S => match cellL o S, vs with
  | some (c, xs), [] => match xs[xs.length - 1]? with
    | some x => .ok (.d x) (S.set c (.lst xs.dropLast))
    | none => .no
  | _, _ => .no
theorem RpAll.dropLast {K : PySem.W.Frag} {F : Hp} {vs : List V} {ds : List PyData} (h : RpAll K F vs ds) : RpAll K F vs.dropLast ds.dropLast := by
  rw [List.dropLast_eq_take, List.dropLast_eq_take, h.len]
  exact h.take _
theorem sat_pop : SatM M rPop popS := by
  intro W σ Q g H S x o us vs r q1 q2 p
  unfold popS at p
  split at p
  · rename_i c xs e
    split at p
    · rename_i y hy
      obtain ⟨a, ws, rfl, ha, hv, t, hz⟩ := cellL_ok r q1 e
      cases q2
      obtain ⟨u, hu, ru⟩ := t.get hy
      have hz' : xs.dropLast.length ≤ 16777216 := by rw [List.length_dropLast]; omega
      obtain ⟨r2, gr2⟩ := r.put ha hz' t.dropLast
      exact ⟨a, ws, u, rfl, rfl, hv, by rw [t.len]; exact hu, p u g _ gr2 r2 ru⟩
    · exact p.elim
  · exact p.elim
def popAtS : SV → List SV → Store → Out SV := fun o vs S => match cellL o S, vs with
  | some (c, xs), [.d (.int i)] => match ixN xs.length i with
    | some k => match xs[k]? with
      | some x => .ok (.d x) (S.set c (.lst (xs.eraseIdx k)))
      | none => .no
    | none => .no
  | _, _ => .no
theorem sat_popAt : SatM M rPopAt popAtS := by
  intro W σ Q g H S x o us vs r q1 q2 p
  unfold popAtS at p
  split at p
  · rename_i c xs i e
    split at p
    · rename_i k hk
      split at p
      · rename_i y hy
        obtain ⟨a, ws, rfl, ha, hv, t, hz⟩ := cellL_ok r q1 e
        cases q2 with
        | cons q2 q3 =>
          cases q3
          cases q2
          obtain ⟨u, hu, ru⟩ := t.get hy
          have hz' : (xs.eraseIdx k).length ≤ 16777216 := Nat.le_trans (len_erase _ _) hz
          obtain ⟨r2, gr2⟩ := r.put ha hz' (t.eraseIdx k)
          obtain ⟨h1, h2, h3, h4⟩ := ixN_seq hk
          exact ⟨a, ws, i, k, u, rfl, rfl, hv, by omega, by omega, by rw [t.len]; exact h1, hu, p u g _ gr2 r2 ru⟩
      · exact p.elim
    · exact p.elim
  · exact p.elim
def extendS : SV → List SV → Store → Out SV := fun o vs S => match cellL o S, vs with
  | some (c, xs), [w] => match asD w S with
    | some (.list ys) => if xs.length + ys.length ≤ 16777216 then .ok (.d .none) (S.set c (.lst (xs ++ ys))) else .no
    | _ => .no
  | _, _ => .no
theorem sat_extend : SatM M rExtend extendS := by
  intro W σ Q g H S x o us vs r q1 q2 p
  unfold extendS at p
  split at p
  · rename_i c xs w e
    split at p
    · rename_i ys e2
      split at p
      · rename_i hz
        obtain ⟨a, ws, rfl, ha, hv, t, _⟩ := cellL_ok r q1 e
        cases q2 with
        | cons q2 q3 =>
          cases q3
          obtain ⟨b, zs, rfl, hb, t2, _⟩ := asD_list r q2 e2
          have hz' : (xs ++ ys).length ≤ 16777216 := by rw [List.length_append]; exact hz
          obtain ⟨r2, gr2⟩ := r.put ha hz' (t.append t2)
          exact ⟨a, b, ws, zs, rfl, rfl, hv, hb, by rw [t.len, t2.len]; exact hz, p .non g _ gr2 r2 .non⟩
      · exact p.elim
    · exact p.elim
  · exact p.elim
theorem d_append (hK : X.K = M.K) (ho : DE X M W o fo) {fe : EF} (he : DE X M W e fe)
    (hbase : attributeBase o "append" X.env (eval o X.env) = eval o X.env := by rfl)
    (hfew : ((backTo cpos (starEach [e] X.env)).all (fun x => !x.1) && (backToKw cpos (keywordEach [] X.env)).all (fun x => x.1.isSome)
      && decide ([e].length + ([] : List Keyword).length + (if ([] : List Keyword).isEmpty then 0 else 1) < 30)) = true := by rfl)
    (hline : (apos.endLine == cpos.line) = true := by rfl) (hs : starEach [e] X.env = (false, eval e X.env) :: starEach [] X.env := by rfl) (hplain : (backTo cpos (starEach [] X.env)).any (·.1) = false := by rfl) :
    DE X M W (.Call (.Attribute o "append" apos) [e] [] cpos) (eMeth appendS fo (aCons fe aNil)) :=
  d_bm hK PySem.F.slot_list_append PySem.F.type_list_append mt_append sat_append ho (da_cons he da_nil hs) hbase hfew hline hs hplain
theorem d_extend (hK : X.K = M.K) (ho : DE X M W o fo) {fe : EF} (he : DE X M W e fe)
    (hbase : attributeBase o "extend" X.env (eval o X.env) = eval o X.env := by rfl)
    (hfew : ((backTo cpos (starEach [e] X.env)).all (fun x => !x.1) && (backToKw cpos (keywordEach [] X.env)).all (fun x => x.1.isSome)
      && decide ([e].length + ([] : List Keyword).length + (if ([] : List Keyword).isEmpty then 0 else 1) < 30)) = true := by rfl)
    (hline : (apos.endLine == cpos.line) = true := by rfl) (hs : starEach [e] X.env = (false, eval e X.env) :: starEach [] X.env := by rfl) (hplain : (backTo cpos (starEach [] X.env)).any (·.1) = false := by rfl) :
    DE X M W (.Call (.Attribute o "extend" apos) [e] [] cpos) (eMeth extendS fo (aCons fe aNil)) :=
  d_bm hK PySem.F.slot_list_extend PySem.F.type_list_extend mt_extend sat_extend ho (da_cons he da_nil hs) hbase hfew hline hs hplain
theorem d_popAt (hK : X.K = M.K) (ho : DE X M W o fo) {fe : EF} (he : DE X M W e fe)
    (hbase : attributeBase o "pop" X.env (eval o X.env) = eval o X.env := by rfl)
    (hfew : ((backTo cpos (starEach [e] X.env)).all (fun x => !x.1) && (backToKw cpos (keywordEach [] X.env)).all (fun x => x.1.isSome)
      && decide ([e].length + ([] : List Keyword).length + (if ([] : List Keyword).isEmpty then 0 else 1) < 30)) = true := by rfl)
    (hline : (apos.endLine == cpos.line) = true := by rfl) (hs : starEach [e] X.env = (false, eval e X.env) :: starEach [] X.env := by rfl) (hplain : (backTo cpos (starEach [] X.env)).any (·.1) = false := by rfl) :
    DE X M W (.Call (.Attribute o "pop" apos) [e] [] cpos) (eMeth popAtS fo (aCons fe aNil)) :=
  d_bm hK PySem.F.slot_list_pop PySem.F.type_list_pop mt_popAt sat_popAt ho (da_cons he da_nil hs) hbase hfew hline hs hplain
theorem d_pop (hK : X.K = M.K) (ho : DE X M W o fo) (hbase : attributeBase o "pop" X.env (eval o X.env) = eval o X.env := by rfl) (hline : (apos.endLine == cpos.line) = true := by rfl) :
    DE X M W (.Call (.Attribute o "pop" apos) [] [] cpos) (eMeth popS fo aNil) :=
  d_bm0 hK PySem.F.slot_list_pop PySem.F.type_list_pop mt_pop sat_pop ho hbase hline
end
end DL
/-! D8: defs at their contexts, recursion, the end. -/
namespace DL
open PySem L2
abbrev wE (E : XK) : WX := fun cls d _ H => E cls d H
theorem _root_.L2.Room.u64 {k : Nat} {A : Around} (r : Room k A) : A.units + 64 < cLine := r.units
theorem _root_.L2.Room.u65 {k : Nat} {A : Around} (r : Room k A) : A.units + 65 < cLine := by have := r.un; omega
section
variable {P : Program} {w : World} {K : PySem.W.Frag} {mg : Str → Option Value} {base : Heap} {M : Mi}
theorem DefD.mono {j k n : Nat} {name : Str} {F : FD} (D : DefD P w K mg base M j name n F) (h : j ≤ k) : DefD P w K mg base M k name n F := by
  obtain ⟨f, fd, ps, h1, h2⟩ := D.ok
  exact ⟨f, fd, ps, h1.mono h, h2⟩
/-- THE RULE for a def, at its own context -/
theorem def_c {x qual : Str} {st : Stmt} {f : Addr} {fd : FuncData} {N ps : List Str} {n : Nat} {k : Nat} {body : SF} {hand : Nat → SV → Store → Out SV} (hh : HandOk M hand) (F : Fun K x qual st f fd) (S : FnScope N ps (defScope st)) (hn : ps.length = n)
    (h : ∀ (cdv : Value) (A : Around) (outer : List Env) (s : Shared) (H : Hp) (E : XK), Room k (A.deeper (PyProof.Rows.envOfC qual (defScope st) s.heap.objs.size f cdv)) → Takes (cxOf (L2.CX P w) P w K mg base N qual (defScope st) f cdv A outer s H E) (wE E) →
      PassesOwn (model P w) (A.deeper (PyProof.Rows.envOfC qual (defScope st) s.heap.objs.size f cdv)) (PyProof.Rows.envOfC qual (defScope st) s.heap.objs.size f cdv) (cxOf (L2.CX P w) P w K mg base N qual (defScope st) f cdv A outer s H E).xe →
      DSs (cxOf (L2.CX P w) P w K mg base N qual (defScope st) f cdv A outer s H E) M (wE E) (defBody st) body) :
    FnOk P w K mg base (L2.CX P w) (k + 1) f fd ps (spD M n (runD hand N.length body)) := by
  subst hn
  refine F.okX S (fun vs H Q E h => h.1) fun cdv A outer s H vs Q E hr hsp => ?_
  obtain ⟨hl, g, S0, ds, r, q, p⟩ := hsp
  refine ⟨_, h cdv A outer s H E hr (takes_of rfl rfl rfl rfl) (passes_of rfl), g, _, S0, r, start_vars q, ?_⟩
  unfold runD at p
  have hB : g.B.length = S0.length := r.len
  split at p
  · rename_i v S' e
    rw [e]
    exact fun u g' H' gr r' q' => hh _ _ _ _ _ _ _ _ _ _ _ hB gr r' q' p
  · rename_i Γ' S' e
    rw [e]
    intro σ' g' H' gr r' v'
    obtain ⟨r2, gr2, _⟩ := r'.cut gr _ hB
    exact p .non _ _ gr2 r2 .non
  · rename_i x Γ' S' e
    rw [e]
    intro cls d σ' g' H' gr r' v' q'
    obtain ⟨r2, gr2, _⟩ := r'.cut gr _ hB
    exact p cls d _ _ gr2 r2 q'
  · exact p.elim
theorem def_at {x qual : Str} {st : Stmt} {f : Addr} {fd : FuncData} {N ps : List Str} {n : Nat} {k : Nat} {body : SF} {hand : Nat → SV → Store → Out SV} (hh : HandOk M hand) (F : Fun K x qual st f fd) (S : FnScope N ps (defScope st)) (hm : mg x = some (.ref f)) (hb : Binds K fd ps []) (hn : ps.length = n)
    (h : ∀ (cdv : Value) (A : Around) (outer : List Env) (s : Shared) (H : Hp) (E : XK), Room k (A.deeper (PyProof.Rows.envOfC qual (defScope st) s.heap.objs.size f cdv)) → Takes (cxOf (L2.CX P w) P w K mg base N qual (defScope st) f cdv A outer s H E) (wE E) →
      PassesOwn (model P w) (A.deeper (PyProof.Rows.envOfC qual (defScope st) s.heap.objs.size f cdv)) (PyProof.Rows.envOfC qual (defScope st) s.heap.objs.size f cdv) (cxOf (L2.CX P w) P w K mg base N qual (defScope st) f cdv A outer s H E).xe →
      DSs (cxOf (L2.CX P w) P w K mg base N qual (defScope st) f cdv A outer s H E) M (wE E) (defBody st) body) :
    DefD P w K mg base M (k + 1) x n (runD hand N.length body) :=
  ⟨f, fd, ps, def_c hh F S hn h, hm, F.kp, hb⟩
/-- a def of which nothing is said -/
theorem def_no {x qual : Str} {st : Stmt} {f : Addr} {fd : FuncData} {ps : List Str} {n k : Nat} (F : Fun K x qual st f fd) (hm : mg x = some (.ref f)) (hb : Binds K fd ps []) (hn : ps.length = n) : DefD P w K mg base M k x n (fun _ _ => .no) := by
  subst hn
  exact ⟨f, fd, ps, ⟨fun vs H Q E h => h.1, fun A outer s H args us vs Q E hr e0 hbt r h => h.2.elim fun _ h => h.elim fun _ h => h.elim fun _ h => h.2.2.elim⟩, hm, F.kp, hb⟩
/-- what stands behind the top of a def -/
structure FnX (K : PySem.W.Frag) (mg : Str → Option Value) (x : Str) (st : Stmt) (ps : List Str) : Prop where
  ok : ∃ f fd, Fun K x x st f fd ∧ mg x = some (.ref f) ∧ Binds K fd ps []
theorem FnX.at {x : Str} {st : Stmt} {N ps : List Str} {n k : Nat} {body : SF} {hand : Nat → SV → Store → Out SV} (G : FnX K mg x st ps) (hh : HandOk M hand) (S : FnScope N ps (defScope st)) (hn : ps.length = n)
    (h : ∀ (f : Addr) (cdv : Value) (A : Around) (outer : List Env) (s : Shared) (H : Hp) (E : XK), Room k (A.deeper (PyProof.Rows.envOfC x (defScope st) s.heap.objs.size f cdv)) → Takes (cxOf (L2.CX P w) P w K mg base N x (defScope st) f cdv A outer s H E) (wE E) →
      PassesOwn (model P w) (A.deeper (PyProof.Rows.envOfC x (defScope st) s.heap.objs.size f cdv)) (PyProof.Rows.envOfC x (defScope st) s.heap.objs.size f cdv) (cxOf (L2.CX P w) P w K mg base N x (defScope st) f cdv A outer s H E).xe →
      DSs (cxOf (L2.CX P w) P w K mg base N x (defScope st) f cdv A outer s H E) M (wE E) (defBody st) body) :
    DefD P w K mg base M (k + 1) x n (runD hand N.length body) := by
  obtain ⟨f, fd, F, hm, hb⟩ := G.ok
  exact def_at hh F S hm hb hn (h f)
theorem FnX.no {x : Str} {st : Stmt} {ps : List Str} {n k : Nat} (G : FnX K mg x st ps) (hn : ps.length = n) : DefD P w K mg base M k x n (fun _ _ => .no) := by
  obtain ⟨f, fd, F, hm, hb⟩ := G.ok
  exact def_no F hm hb hn
theorem FnX.mk' {x : Str} {st : Stmt} {f : Addr} {ps : List Str} {oc : Value} {od an : Option Addr} {osl : Array (Option Value)} {kV doc pm cdv ct : Value} (l : K.lookup f = some ⟨oc, od, .func (PySem.W.fnOf x x (defArgs st) (defBody st) (defScope st) .none kV doc pm an cdv ct), osl⟩)
    (c : PySem.W.codeIn K cdv x = true) (k : PySem.W.keepIn K (.ref f) = true) (hm : mg x = some (.ref f))
    (h : ∀ (kV doc pm : Value) (an : Option Addr) (cdv ct : Value) (us : List Value), us.length = ps.length → bindArgs (PySem.W.fnOf x x (defArgs st) (defBody st) (defScope st) .none kV doc pm an cdv ct) ⟨us, []⟩ = pure (ps.zip us)) : FnX K mg x st ps :=
  ⟨f, _, fun_mk l c k, hm, (fun_mk l c k).binds h⟩
end

/-- f() of a def that raises nothing -/
def eCall0 (F : FD) : EF := fun _ S => match F [] S with
  | .ok v S' => .ok v S'
  | _ => .no
theorem d_call0 {X : Cx} {M : Mi} {W : WX} {k : Nat} {F : FD} {x : Str} {p pos : Pos} (D : DefD X.prog X.w X.K X.mg X.base M k x 0 F) (hr : Room k X.A) (hg : Gl X x) (hdb : (x == ("__debug__" : Str)) = false := by decide) : DE X M W (.Call (.Name x p) [] [] pos) (eCall0 F) := by
  obtain ⟨f, fd, ps, hF, hm, hk, hb⟩ := D.ok
  refine (pe_call0 (E := E0) hF hr hg hm hk hb .nil passL hdb).weak fun σ H Q h => ?_
  obtain ⟨g, Γ, S, r, v, p⟩ := h
  refine ⟨rfl, g, S, [], r, .nil, ?_⟩
  unfold eCall0 at p
  split at p
  · rename_i v' S' e
    rw [e]
    exact p
  · exact p.elim

/-- a constant of the module -/
theorem d_globD {X : Cx} {M : Mi} {W : WX} {x : Str} {d : PyData} {pos : Pos} (hg : Gl X x) (h : ∃ (u : Value) (v : V), X.mg x = some u ∧ RelV v u ∧ ∀ F, Rp M.K F v d) (hdb : (x == ("__debug__" : Str)) = false := by decide) : DE X M W (.Name x pos) (eC d) := by
  obtain ⟨u, v, h1, h2, h3⟩ := h
  exact d_glob hg h1 h2 h3 hdb

/-! ### the end -/
/-- the law's promise: True at every script -/
def spLaw (K : PySem.W.Frag) : Sp := fun vs H Q _ => ∃ (a : Addr) (ns : List Int), vs = [.ref a] ∧ SqL K H a (ns.map V.int) ∧ ns.length ≤ 63 ∧ ∀ H', Q (.bl true) H'
theorem law_sp {P : Program} {w : World} {K : PySem.W.Frag} {mg : Str → Option Value} {base : Heap} {M : Mi} {k : Nat} {f : Addr} {fd : FuncData} {ps : List Str} {F : FD} (hK : M.K = K) (h : FnOk P w K mg base (L2.CX P w) k f fd ps (spD M 1 F))
    (law : ∀ ns : List Int, ns.length ≤ 63 → F [.scr ns] [] = .ok (.d (.bool true)) []) : FnOk P w K mg base (L2.CX P w) k f fd ps (spLaw K) := by
  subst hK
  refine h.imp fun vs H Q E ⟨a, ns, e, hs, hl, hq⟩ => ?_
  subst e
  refine ⟨rfl, ⟨[], H⟩, [], [.scr ns], ⟨fun _ _ h => h, List.nodup_nil, (fun b hb => absurd (show b ∈ ([] : List Addr) from hb) List.not_mem_nil), rfl, fun i a m h => ?_⟩, .cons ⟨a, rfl, hs⟩ .nil, ?_⟩
  · simp at h
  · rw [law ns hl]
    intro u g' H' _ _ q
    cases q
    exact hq H'
theorem law_end {l : PySem.W.OpenLaw} {k : Nat} {q : Program} {loose : List Str} {XP : (Str → Option Value) → Heap → Prop} {YP : World → Heap → Prop} {d : DefRec} {K : Params → PySem.W.Frag} (hr : Room k callerA) (hn : l.most = some 63) (hdf : d.params.defaults = [])
    (hY : ∀ (w : World) (h : Heap), YP w h → (K w.params).In h)
    (F : ∀ (w : World) (mg : Str → Option Value) (fa : Addr) (h : Heap), (K w.params).In h → h.Ns mainGlobals mg → mg d.name = some (.ref fa) →
      ∃ fd : FuncData, (∀ (s : Shared) (u : Value), BindsTo s fd ⟨[u], []⟩ [("script", u)]) ∧ ∀ base : Heap, (K w.params).In base → base.Ns mainGlobals mg → FnOk l.prog w (K w.params) mg base (L2.CX l.prog w) k fa fd ["script"] (spLaw (K w.params))) :
    PySem.W.WalkO q loose XP YP l.row.toRowW d [] (fun f vs => PySem.call f vs) :=
  L2.walk_of (n := 63) (k := k) (x := "script") (CX := fun w => L2.CX l.prog w) (sp := fun w => spLaw (K w.params)) hn (by decide) hdf hr hY F (fun _ _ a ns hl _ hS => ⟨a, ns, rfl, hS, hl, fun _ => rfl⟩) fun w H s e s' z => by
    obtain ⟨_, _, _, _, _, _, _, _, _, _, _, _, z⟩ := z
    exact z.elim
theorem FnX.of {h : Heap} {K : PySem.W.Frag} {mg : Str → Option Value} {x : Str} {st : Stmt} {f : Addr} {ps : List Str} {oc : Value} {od an : Option Addr} {osl : Array (Option Value)} {kV doc pm cdv ct : Value} (X : K.In h) (G : h.Ns mainGlobals mg) (a : PySem.W.nsIn K mainGlobals x = some (some (.ref f)))
    (l : K.lookup f = some ⟨oc, od, .func (PySem.W.fnOf x x (defArgs st) (defBody st) (defScope st) .none kV doc pm an cdv ct), osl⟩)
    (c : PySem.W.codeIn K cdv x = true) (k : PySem.W.keepIn K (.ref f) = true)
    (hb : ∀ (kV doc pm : Value) (an : Option Addr) (cdv ct : Value) (us : List Value), us.length = ps.length → bindArgs (PySem.W.fnOf x x (defArgs st) (defBody st) (defScope st) .none kV doc pm an cdv ct) ⟨us, []⟩ = pure (ps.zip us)) : FnX K mg x st ps :=
  .mk' l c k (PySem.W.mg_of X G a) hb
/-- the law's own def -/
structure LawX (K : PySem.W.Frag) (mg : Str → Option Value) (st : Stmt) : Prop where
  ok : ∃ f fd, Fun K "law" "law" st f fd ∧ mg "law" = some (.ref f) ∧ ∀ (s : Shared) (u : Value), BindsTo s fd ⟨[u], []⟩ [("script", u)]
theorem LawX.of {h : Heap} {K : PySem.W.Frag} {mg : Str → Option Value} {st : Stmt} {f : Addr} {oc : Value} {od an : Option Addr} {osl : Array (Option Value)} {kV doc pm cdv ct : Value} (X : K.In h) (G : h.Ns mainGlobals mg) (a : PySem.W.nsIn K mainGlobals "law" = some (some (.ref f)))
    (l : K.lookup f = some ⟨oc, od, .func (PySem.W.fnOf "law" "law" (defArgs st) (defBody st) (defScope st) .none kV doc pm an cdv ct), osl⟩)
    (c : PySem.W.codeIn K cdv "law" = true) (k : PySem.W.keepIn K (.ref f) = true)
    (hb : ∀ (kV doc pm : Value) (an : Option Addr) (cdv ct : Value) (u : Value), bindArgs (PySem.W.fnOf "law" "law" (defArgs st) (defBody st) (defScope st) .none kV doc pm an cdv ct) ⟨[u], []⟩ = pure ([("script", u)] : List (Str × Value))) : LawX K mg st :=
  ⟨f, _, fun_mk l c k, PySem.W.mg_of X G a, fun s u => .of_eq (hb ..)⟩
theorem law_fin {l : PySem.W.OpenLaw} {k : Nat} {q : Program} {loose : List Str} {XP : (Str → Option Value) → Heap → Prop} {YP : World → Heap → Prop} {d : DefRec} {K : Params → PySem.W.Frag} {st : Stmt} {F : FD} (Txt : PySem.W.Frag → (Str → Option Value) → Prop) (hr : Room k callerA) (hn : l.most = some 63) (hdf : d.params.defaults = []) (hd : d.name = "law")
    (hY : ∀ (w : World) (h : Heap), YP w h → (K w.params).In h)
    (D : ∀ {P : Program} {w : World} {K : PySem.W.Frag} {mg : Str → Option Value} {base : Heap} {f : Addr} {fd : FuncData}, Txt K mg → Fun K "law" "law" st f fd → FnOk P w K mg base (L2.CX P w) k f fd ["script"] (spD ⟨K, fun _ => none⟩ 1 F))
    (law : ∀ ns : List Int, ns.length ≤ 63 → F [.scr ns] [] = .ok (.d (.bool true)) [])
    (T : ∀ (w : World) (mg : Str → Option Value) (h : Heap), (K w.params).In h → h.Ns mainGlobals mg → Txt (K w.params) mg ∧ LawX (K w.params) mg st) :
    PySem.W.WalkO q loose XP YP l.row.toRowW d [] (fun f vs => PySem.call f vs) := by
  refine law_end (k := k) hr hn hdf hY fun w mg fa h KX G hmg => ?_
  obtain ⟨t, f, fd, Fn, hm, hb⟩ := T w mg h KX G
  rw [hd, hm] at hmg
  cases hmg
  exact ⟨fd, hb, fun base _ _ => law_sp rfl (D t Fn) law⟩
end DL
/-! D9: the module's constants, read in the kernel. -/
namespace DL
open PySem L2
def tupOf : Option Obj → Option (List Value)
  | some ⟨.type "tuple", _, .seq its _, _⟩ => if its.size ≤ sizeLine then some its.toList else none
  | _ => none
def rdAll (f : Value → Option PyData) : List Value → Option (List PyData)
  | [] => some []
  | u :: us => (f u).bind fun d => (rdAll f us).bind fun ds => some (d :: ds)
def rdK (K : PySem.W.Frag) : Nat → Value → Option PyData
  | 0, _ => none
  | n + 1, u => match u with
    | .none => some .none
    | .bool b => some (.bool b)
    | .int i _ => some (.int i)
    | .str x _ => some (.str x)
    | .ref a => (tupOf (K.lookup a)).bind fun us => (rdAll (rdK K n) us).map .tuple
    | _ => none
theorem rdAll_ok {K : PySem.W.Frag} {f : Value → Option PyData} (hf : ∀ u d, f u = some d → ∃ v, RelV v u ∧ ∀ F, Rp K F v d) : ∀ us ds, rdAll f us = some ds → ∃ vs, Vals vs us ∧ ∀ F, RpAll K F vs ds
  | [], ds, e => by
    cases e
    exact ⟨[], .nil, fun _ => .nil⟩
  | u :: us, ds, e => by
    unfold rdAll at e
    cases h1 : f u with
    | none => rw [h1] at e; cases e
    | some d =>
      rw [h1] at e
      cases h2 : rdAll f us with
      | none => rw [h2] at e; cases e
      | some ds' =>
        rw [h2] at e
        cases e
        obtain ⟨v, r, hv⟩ := hf u d h1
        obtain ⟨vs, rs, hvs⟩ := rdAll_ok hf us ds' h2
        exact ⟨v :: vs, .cons r rs, fun F => .cons (hv F) (hvs F)⟩
theorem rdAll_len {f : Value → Option PyData} : ∀ us ds, rdAll f us = some ds → ds.length = us.length
  | [], ds, e => by cases e; rfl
  | u :: us, ds, e => by
    unfold rdAll at e
    cases h1 : f u with
    | none => rw [h1] at e; cases e
    | some d =>
      rw [h1] at e
      cases h2 : rdAll f us with
      | none => rw [h2] at e; cases e
      | some ds' =>
        rw [h2] at e
        cases e
        simp [rdAll_len us ds' h2]
theorem tupOf_ok {o : Option Obj} {us : List Value} (h : tupOf o = some us) : ∃ (o' : Obj) (its : Array Value) (n : Nat), o = some o' ∧ o'.cls = .type "tuple" ∧ o'.data = .seq its n ∧ its.size ≤ sizeLine ∧ its.toList = us := by
  unfold tupOf at h
  split at h
  · rename_i dd its n sl
    split at h
    · rename_i hz
      cases h
      exact ⟨_, its, n, rfl, rfl, rfl, hz, rfl⟩
    · cases h
  · cases h
theorem rdK_ok {K : PySem.W.Frag} : ∀ n u d, rdK K n u = some d → ∃ v, RelV v u ∧ ∀ F, Rp K F v d
  | 0, u, d, e => by cases e
  | n + 1, u, d, e => by
    unfold rdK at e
    split at e
    · cases e; exact ⟨.non, rfl, fun _ => .non⟩
    · cases e; exact ⟨.bl _, rfl, fun _ => .bl _⟩
    · cases e; exact ⟨.int _, ⟨_, rfl⟩, fun _ => .int _⟩
    · cases e; exact ⟨.str _, ⟨_, rfl⟩, fun _ => .str _⟩
    · rename_i a
      cases h : tupOf (K.lookup a) with
      | none => rw [h] at e; cases e
      | some us =>
        rw [h] at e
        cases h2 : rdAll (rdK K n) us with
        | none => simp [h2] at e
        | some ds =>
          simp [h2] at e
          subst e
          obtain ⟨vs, rs, hvs⟩ := rdAll_ok (rdK_ok n) us ds h2
          obtain ⟨o, its, m, e1, e2, e3, e4, e5⟩ := tupOf_ok h
          refine ⟨.ref a, rfl, fun F => .tup (.inr ⟨o, its, m, e1, e2, e3, e4, e5 ▸ rs⟩) ?_ (hvs F)⟩
          rw [rdAll_len us ds h2, ← e5]
          exact Nat.le_trans (by simp) (Nat.le_trans e4 (by decide))
    · cases e
theorem konst {h : Heap} {K : PySem.W.Frag} {mg : Str → Option Value} {x : Str} {u : Value} {d : PyData} (n : Nat) (X : K.In h) (G : h.Ns mainGlobals mg) (a : PySem.W.nsIn K mainGlobals x = some (some u)) (r : rdK K n u = some d) :
    ∃ (u : Value) (v : V), mg x = some u ∧ RelV v u ∧ ∀ F, Rp K F v d := by
  obtain ⟨v, e, hv⟩ := rdK_ok n u d r
  exact ⟨u, v, PySem.W.mg_of X G a, e, hv⟩
end DL
/-! E0: how the layer's meanings are reckoned: equations for simp, and what is told of an outcome. -/
namespace DL
open PySem L2
section
variable {α β : Type}
theorem bind_ok (a : α) (S : Store) (k : α → Store → Out β) : (Out.ok a S).bind k = k a S := rfl
theorem sB_ok (a : α) (S : Store) (Γ : Ev) (k : α → Store → Out Fl) : sB (.ok a S) Γ k = k a S := rfl
/-- the outcome is .ok, and P holds of it -/
structure Out.Ret (o : Out α) (P : α → Store → Prop) : Prop where
  ok : ∃ a S, o = .ok a S ∧ P a S
theorem Out.Ret.of {o : Out α} {a : α} {S : Store} {P : α → Store → Prop} (e : o = .ok a S) (h : P a S) : o.Ret P := ⟨a, S, e, h⟩
theorem Ret_ok (a : α) (S : Store) (P : α → Store → Prop) : (Out.ok a S).Ret P = P a S := propext ⟨fun ⟨_, _, e, h⟩ => by cases e; exact h, fun h => ⟨_, _, rfl, h⟩⟩
theorem Out.Ret.imp {o : Out α} {P Q : α → Store → Prop} (h : o.Ret P) (k : ∀ a S, P a S → Q a S) : o.Ret Q := by
  obtain ⟨a, S, rfl, h⟩ := h
  exact .of rfl (k a S h)
theorem Out.Ret.bind {o : Out α} {f : α → Store → Out β} {P : α → Store → Prop} {Q : β → Store → Prop} (h : o.Ret P) (k : ∀ a S, P a S → (f a S).Ret Q) : (o.bind f).Ret Q := by
  obtain ⟨a, S, rfl, h⟩ := h
  exact k a S h
theorem Out.Ret.sB {o : Out α} {Γ : Ev} {f : α → Store → Out Fl} {P : α → Store → Prop} {Q : Fl → Store → Prop} (h : o.Ret P) (k : ∀ a S, P a S → (f a S).Ret Q) : (DL.sB o Γ f).Ret Q := by
  obtain ⟨a, S, rfl, h⟩ := h
  exact k a S h
end
/-! ### equations -/
theorem eVar_at {i : Nat} {Γ : Ev} {S : Store} {x : SV} (h : Γ[i]? = some (some x)) : eVar i Γ S = .ok x S := by unfold eVar; rw [h]
theorem eVar_0 (a : SV) (Γ : Ev) (S : Store) : eVar 0 (some a :: Γ) S = .ok a S := rfl
theorem eVar_s (i : Nat) (o : Option SV) (Γ : Ev) (S : Store) : eVar (i + 1) (o :: Γ) S = eVar i Γ S := rfl
theorem eC_eq (x : PyData) (Γ : Ev) (S : Store) : eC x Γ S = .ok (.d x) S := rfl
theorem eBin_eq (op : SV → SV → Store → Out SV) (f g : EF) (Γ : Ev) (S : Store) : eBin op f g Γ S = (f Γ S).bind fun v S => (g Γ S).bind fun w S => op v w S := rfl
theorem eUn_eq (op : SV → Store → Out SV) (f : EF) (Γ : Ev) (S : Store) : eUn op f Γ S = (f Γ S).bind fun v S => op v S := rfl
theorem iOp_eq (C : Int → Int → Bool) (f : Int → Int → Int) (i j : Int) (S : Store) (h : C i j = true) : iOp C f (.d (.int i)) (.d (.int j)) S = .ok (.d (.int (f i j))) S := by
  show (if C i j then _ else _) = _
  rw [if_pos h]
theorem iOp0_eq (f : Int → Int → Int) (i j : Int) (S : Store) : iOp0 f (.d (.int i)) (.d (.int j)) S = .ok (.d (.int (f i j))) S := rfl
theorem iCmp_eq (f : Int → Int → Bool) (i j : Int) (S : Store) : iCmp f (.d (.int i)) (.d (.int j)) S = .ok (.d (.bool (f i j))) S := rfl
theorem tst_eq (f : EF) (Γ : Ev) (S : Store) : tst f Γ S = (f Γ S).bind fun v S => match v with
  | .d (.bool b) => .ok b S
  | _ => .no := rfl
theorem addI (fin : List PyData → Store → Out SV) (i j : Int) (S : Store) : addS fin (.d (.int i)) (.d (.int j)) S = .ok (.d (.int (i + j))) S := rfl
theorem mulI (fin : List PyData → Store → Out SV) {i j : Int} (S : Store) (h : mulC i j = true) : mulS fin (.d (.int i)) (.d (.int j)) S = .ok (.d (.int (i * j))) S := by
  show (if mulC i j then _ else _) = _
  rw [if_pos h]
theorem negI (i : Int) (S : Store) : negS (.d (.int i)) S = .ok (.d (.int (-i))) S := rfl
theorem fmod_pos {i j : Int} (h : 0 ≤ j) : Int.fmod i j = i % j := Int.fmod_eq_emod_of_nonneg i h
theorem fdiv_pos {i j : Int} (h : 0 ≤ j) : Int.fdiv i j = i / j := Int.fdiv_eq_ediv_of_nonneg i h
theorem modC_of {i j : Int} (h : j ≠ 0) : modC i j = true := decide_eq_true h
theorem divC_of {i j : Int} (h : j ≠ 0) (h2 : j.natAbs < 1073741824) : divC i j = true := by
  unfold divC
  rw [decide_eq_true (p := j ≠ 0 ∧ j.natAbs < 1073741824) ⟨h, h2⟩]
  rfl
theorem divC_big {i j : Int} (h : 0 < j) (h2 : j.natAbs.log2 < 9000) : divC i j = true := by
  unfold divC
  rw [decide_eq_true (p := 0 < j ∧ j.natAbs.log2 < 9000) ⟨h, h2⟩, Bool.or_true]
theorem mulC_l {i j : Int} (h1 : -(2 ^ 64) < i) (h2 : i < 2 ^ 64) : mulC i j = true := by
  unfold mulC
  rw [decide_eq_true (p := (-(2 ^ 64) < i ∧ i < 2 ^ 64) ∨ (-(2 ^ 64) < j ∧ j < 2 ^ 64)) (.inl ⟨h1, h2⟩)]
  rfl
theorem mulC_r {i j : Int} (h1 : -(2 ^ 64) < j) (h2 : j < 2 ^ 64) : mulC i j = true := by
  unfold mulC
  rw [decide_eq_true (p := (-(2 ^ 64) < i ∧ i < 2 ^ 64) ∨ (-(2 ^ 64) < j ∧ j < 2 ^ 64)) (.inr ⟨h1, h2⟩)]
  rfl
theorem log2_le {a k : Nat} (h : a < 2 ^ k) : a.log2 ≤ k := by
  by_cases e : a = 0
  · subst e; simp
  · exact Nat.le_of_lt ((Nat.log2_lt e).mpr h)
theorem mulC_big {i j : Int} (a b : Nat) (h1 : i.natAbs < 2 ^ a) (h2 : j.natAbs < 2 ^ b) (h : a + b < 1000000) : mulC i j = true := by
  unfold mulC
  have u1 := log2_le h1
  have u2 := log2_le h2
  rw [decide_eq_true (p := i.natAbs.log2 + j.natAbs.log2 < 1000000) (by omega), Bool.or_true]
theorem eAdd_eq (fin : List PyData → Store → Out SV) (f g : EF) (Γ : Ev) (S : Store) : eAddF fin f g Γ S = (f Γ S).bind fun v S => (g Γ S).bind fun w S => addS fin v w S := rfl
theorem eSub_eq (f g : EF) (Γ : Ev) (S : Store) : eSub f g Γ S = (f Γ S).bind fun v S => (g Γ S).bind fun w S => iOp0 (fun i j => i - j) v w S := rfl
theorem eMul_eq (fin : List PyData → Store → Out SV) (f g : EF) (Γ : Ev) (S : Store) : eMulF fin f g Γ S = (f Γ S).bind fun v S => (g Γ S).bind fun w S => mulS fin v w S := rfl
theorem eDiv_eq (f g : EF) (Γ : Ev) (S : Store) : eDiv f g Γ S = (f Γ S).bind fun v S => (g Γ S).bind fun w S => iOp divC Int.fdiv v w S := rfl
theorem eMod_eq (f g : EF) (Γ : Ev) (S : Store) : eMod f g Γ S = (f Γ S).bind fun v S => (g Γ S).bind fun w S => iOp modC Int.fmod v w S := rfl
theorem ePow_eq (f g : EF) (Γ : Ev) (S : Store) : ePow f g Γ S = (f Γ S).bind fun v S => (g Γ S).bind fun w S => iOp powC (fun i j => i ^ j.toNat) v w S := rfl
theorem eXor_eq (f g : EF) (Γ : Ev) (S : Store) : eXor f g Γ S = (f Γ S).bind fun v S => (g Γ S).bind fun w S => iOp0 Builtin.bitXor v w S := rfl
theorem eNeg_eq (f : EF) (Γ : Ev) (S : Store) : eNeg f Γ S = (f Γ S).bind fun v S => negS v S := rfl
theorem eIx_eq (f g : EF) (Γ : Ev) (S : Store) : eIx f g Γ S = (f Γ S).bind fun v S => (g Γ S).bind fun w S => ixS v w S := rfl
theorem eqI_t (i j : Int) (S : Store) : eqS false (.d (.int i)) (.d (.int j)) S = .ok (.d (.bool (decide (i = j)))) S := rfl
theorem eqI_f (i j : Int) (S : Store) : eqS true (.d (.int i)) (.d (.int j)) S = .ok (.d (.bool (decide (i ≠ j)))) S := by
  have e : eqS true (.d (.int i)) (.d (.int j)) S = .ok (.d (.bool (!decide (i = j)))) S := rfl
  rw [e]
  congr 3
  by_cases h : i = j <;> simp [h]
theorem tNot_eq (t : TF) (Γ : Ev) (S : Store) : tNotF t Γ S = (t Γ S).bind fun k S => .ok (!k) S := rfl
theorem tAnd_eq (ta tb : TF) (Γ : Ev) (S : Store) : tAndF ta tb Γ S = (ta Γ S).bind fun k S => if k = true then tb Γ S else .ok false S := rfl
theorem tOr_eq (ta tb : TF) (Γ : Ev) (S : Store) : tOrF ta tb Γ S = (ta Γ S).bind fun k S => if k = true then .ok true S else tb Γ S := rfl
theorem tru_eq (f : EF) (Γ : Ev) (S : Store) : tru f Γ S = (f Γ S).bind fun v S => match truS v S with
  | some k => .ok k S
  | none => .no := rfl
theorem tru_bool (b : Bool) (S : Store) : truS (.d (.bool b)) S = some b := rfl
theorem tru_int (i : Int) (S : Store) : truS (.d (.int i)) S = some (i != 0) := rfl
theorem tru_list (xs : List PyData) (S : Store) : truS (.d (.list xs)) S = some (!xs.isEmpty) := rfl
theorem eAnd_eq (f g : EF) (Γ : Ev) (S : Store) : eAndF f g Γ S = (f Γ S).bind fun v S => match truS v S with
  | some k => if k = true then g Γ S else .ok v S
  | none => .no := by
  unfold eAndF
  congr
  funext v S
  cases truS v S with
  | none => rfl
  | some k => cases k <;> rfl
theorem isi_eq (T : String) (f : EF) (Γ : Ev) (S : Store) : eIsi T f Γ S = (f Γ S).bind fun v S => match asD v S with
  | some d => .ok (.d (.bool (isiB (tyN d) T))) S
  | none => .no := rfl
theorem asD_d (x : PyData) (S : Store) : asD (.d x) S = some x := rfl
theorem eNot_eq (f : EF) (Γ : Ev) (S : Store) : eNotF f Γ S = (f Γ S).bind fun v S => match truS v S with
  | some k => .ok (.d (.bool (!k))) S
  | none => .no := rfl
/-! statements -/
theorem fSet_eq (i : Nat) (f : EF) (Γ : Ev) (S : Store) : fSet i f Γ S = sB (f Γ S) Γ fun v S => .ok (.nx (Γ.set i (some v))) S := rfl
theorem fRet_eq (f : EF) (Γ : Ev) (S : Store) : fRet f Γ S = sB (f Γ S) Γ fun v S => .ok (.rt v) S := rfl
theorem fExpr_eq (f : EF) (Γ : Ev) (S : Store) : fExpr f Γ S = sB (f Γ S) Γ fun v S => .ok (.nx Γ) S := rfl
theorem fIf_eq (t : TF) (f h : SF) (Γ : Ev) (S : Store) : fIf t f h Γ S = sB (t Γ S) Γ fun b S => if b = true then f Γ S else h Γ S := rfl
theorem fAsg_eq (f : EF) (gf : GF) (Γ : Ev) (S : Store) : fAsg f gf Γ S = sB (f Γ S) Γ fun v S => match gf v Γ S with
  | .ok Γ' S' => .ok (.nx Γ') S'
  | _ => .no := rfl
theorem fPar_eq (i j : Nat) (af : AF) (Γ : Ev) (S : Store) : fPar i j af Γ S = sB (af Γ S) Γ fun vs S => match vs with
  | [v, w] => .ok (.nx ((Γ.set i (some v)).set j (some w))) S
  | _ => .no := rfl
/-- what follows a statement -/
def seqK (h : SF) (o : Out Fl) : Out Fl := match o with
  | .ok (.nx Γ) S => h Γ S
  | o => o
theorem fSeq_eq (f h : SF) (Γ : Ev) (S : Store) : fSeq f h Γ S = seqK h (f Γ S) := rfl
theorem seqK_nx (h : SF) (Γ : Ev) (S : Store) : seqK h (.ok (.nx Γ) S) = h Γ S := rfl
theorem seqK_rt (h : SF) (v : SV) (S : Store) : seqK h (.ok (.rt v) S) = .ok (.rt v) S := rfl
theorem seqK_bk (h : SF) (Γ : Ev) (S : Store) : seqK h (.ok (.bk Γ) S) = .ok (.bk Γ) S := rfl
theorem seqK_ct (h : SF) (Γ : Ev) (S : Store) : seqK h (.ok (.ct Γ) S) = .ok (.ct Γ) S := rfl
theorem seqK_ite (h : SF) (c : Prop) [Decidable c] (a b : Out Fl) : seqK h (if c then a else b) = if c then seqK h a else seqK h b := by split <;> rfl
theorem fNil_eq (Γ : Ev) (S : Store) : fNil Γ S = .ok (.nx Γ) S := rfl
theorem fBreak_eq (Γ : Ev) (S : Store) : fBreak Γ S = .ok (.bk Γ) S := rfl
theorem fCont_eq (Γ : Ev) (S : Store) : fCont Γ S = .ok (.ct Γ) S := rfl
theorem gNm_eq (i : Nat) (v : SV) (Γ : Ev) (S : Store) : gNm i v Γ S = .ok (Γ.set i (some v)) S := rfl
theorem gsNil_eq (Γ : Ev) (S : Store) : gsNil [] Γ S = .ok Γ S := rfl
theorem gsCons_eq (gf : GF) (gr : List PyData → Ev → Store → Out Ev) (d : PyData) (ds : List PyData) (Γ : Ev) (S : Store) : gsCons gf gr (d :: ds) Γ S = (gf (.d d) Γ S).bind fun Γ S => gr ds Γ S := rfl
theorem gTup_eq (n : Nat) (gf : List PyData → Ev → Store → Out Ev) (ds : List PyData) (Γ : Ev) (S : Store) (h : ds.length = n) : gTupF n gf (.d (.tuple ds)) Γ S = gf ds Γ S := by
  show (if ds.length = n then _ else _) = _
  rw [if_pos h]
/-! calls -/
theorem aNil_eq (Γ : Ev) (S : Store) : aNil Γ S = .ok [] S := rfl
theorem aCons_eq (f : EF) (r : AF) (Γ : Ev) (S : Store) : aCons f r Γ S = (f Γ S).bind fun v S => (r Γ S).bind fun vs S => .ok (v :: vs) S := rfl
theorem eCall_eq (op : List SV → Store → Out SV) (f : AF) (Γ : Ev) (S : Store) : eCall op f Γ S = (f Γ S).bind fun vs S => op vs S := rfl
theorem eCallD_eq (n : Nat) (F : FD) (f : AF) (Γ : Ev) (S : Store) : eCallD n F f Γ S = (f Γ S).bind fun vs S => if vs.length = n then F vs S else .no := rfl
theorem intS_eq (i : Int) (S : Store) : intS [.d (.int i)] S = .ok (.d (.int i)) S := rfl
theorem absS_eq (i : Int) (S : Store) : absS [.d (.int i)] S = .ok (.d (.int (if i < 0 then -i else i))) S := rfl
theorem mmS_eq (f : Int → Int → Int) (i j : Int) (S : Store) : mmS f [.d (.int i), .d (.int j)] S = .ok (.d (.int (f i j))) S := rfl
theorem len_l (xs : List PyData) (S : Store) : lenS [.d (.list xs)] S = .ok (.d (.int xs.length)) S := rfl
theorem len_t (xs : List PyData) (S : Store) : lenS [.d (.tuple xs)] S = .ok (.d (.int xs.length)) S := rfl
theorem len_c {c : Nat} {xs : List PyData} {S : Store} (h : S[c]? = some (.lst xs)) : lenS [.cell c] S = .ok (.d (.int xs.length)) S := by
  simp only [lenS, asD, h]
theorem all_l {a : Bool} {xs : List PyData} (S : Store) (h : xs.all scaD = true) : allS a [.d (.list xs)] S = .ok (.d (.bool (if a then xs.any trB else xs.all trB))) S := by
  show (if xs.all scaD then _ else _) = _
  rw [if_pos h]
theorem all_t {a : Bool} {xs : List PyData} (S : Store) (h : xs.all scaD = true) : allS a [.d (.tuple xs)] S = .ok (.d (.bool (if a then xs.any trB else xs.all trB))) S := by
  show (if xs.all scaD then _ else _) = _
  rw [if_pos h]
theorem list_l (fin : List PyData → Store → Out SV) (xs : List PyData) (S : Store) : listS fin [.d (.list xs)] S = fin xs S := rfl
theorem list_t (fin : List PyData → Store → Out SV) (xs : List PyData) (S : Store) : listS fin [.d (.tuple xs)] S = fin xs S := rfl
theorem tup_l (xs : List PyData) (S : Store) : tupS [.d (.list xs)] S = .ok (.d (.tuple xs)) S := rfl
theorem tup_t (xs : List PyData) (S : Store) : tupS [.d (.tuple xs)] S = .ok (.d (.tuple xs)) S := rfl
theorem finF_eq (xs : List PyData) (S : Store) : finF xs S = .ok (.d (.list xs)) S := rfl
theorem finC_eq (xs : List PyData) (S : Store) : finC xs S = .ok (.cell S.length) (S ++ [.lst xs]) := rfl
theorem allD_nil (S : Store) : allD [] S = some [] := rfl
theorem allD_cons (x : PyData) (r : List SV) (S : Store) : allD (.d x :: r) S = (allD r S).map (x :: ·) := rfl
theorem eTup_eq (f : AF) (Γ : Ev) (S : Store) : eTup f Γ S = (f Γ S).bind fun vs S => match allD vs S with
  | some ds => if ds.length ≤ 16777216 then .ok (.d (.tuple ds)) S else .no
  | none => .no := rfl
theorem eLst_eq (fin : List PyData → Store → Out SV) (f : AF) (Γ : Ev) (S : Store) : eLst fin f Γ S = (f Γ S).bind fun vs S => match allD vs S with
  | some ds => if ds.length ≤ 16777216 then fin ds S else .no
  | none => .no := rfl
theorem eIf_eq (t : TF) (f g : EF) (Γ : Ev) (S : Store) : eIf t f g Γ S = (t Γ S).bind fun k S => if k = true then f Γ S else g Γ S := rfl
theorem ix_l {xs : List PyData} {i : Int} {x : PyData} (S : Store) (h : atI xs i = some x) : ixS (.d (.list xs)) (.d (.int i)) S = .ok (.d x) S := by
  show (match atI xs i with | some d => _ | none => _) = _
  rw [h]
theorem ix_t {xs : List PyData} {i : Int} {x : PyData} (S : Store) (h : atI xs i = some x) : ixS (.d (.tuple xs)) (.d (.int i)) S = .ok (.d x) S := by
  show (match atI xs i with | some d => _ | none => _) = _
  rw [h]
theorem ix_c {c : Nat} {xs : List PyData} {i : Int} {x : PyData} {S : Store} (hc : S[c]? = some (.lst xs)) (h : atI xs i = some x) : ixS (.cell c) (.d (.int i)) S = .ok (.d x) S := by
  unfold ixS asD
  simp only [hc, h]
theorem ix_nat {α : Type} {xs : List α} {i : Nat} {x : α} (h : xs[i]? = some x) : atI xs (i : Int) = some x := by
  have hl : i < xs.length := by
    rcases Nat.lt_or_ge i xs.length with q | q
    · exact q
    · rw [List.getElem?_eq_none q] at h; cases h
  unfold atI ixN
  rw [if_pos (by omega), if_pos (by omega), Int.toNat_natCast]
  exact h
/-! defs -/
def hand (h : Nat → SV → Store → Out SV) (n : Nat) (o : Out Fl) : Out SV := match o with
  | .ok (.rt v) S' => h n v S'
  | .ok (.nx _) S' => .ok (.d .none) (S'.take n)
  | .ok (.xc x _) S' => .ex x (S'.take n)
  | _ => .no
theorem runD_eq (h : Nat → SV → Store → Out SV) (nN : Nat) (f : SF) (ds : List SV) (S : Store) : runD h nN f ds S = hand h S.length (f (ds.map some ++ List.replicate (nN - ds.length) none) S) := rfl
theorem hand_rt (h : Nat → SV → Store → Out SV) (n : Nat) (v : SV) (S : Store) : hand h n (.ok (.rt v) S) = h n v S := rfl
theorem handF_d (n : Nat) (x : PyData) (S : Store) : handF n (.d x) S = .ok (.d x) (S.take n) := rfl
theorem handF_new {n i : Nat} {xs : List PyData} {S : Store} (h1 : n ≤ i) (h2 : S[i]? = some (.lst xs)) : handF n (.cell i) S = .ok (.d (.list xs)) (S.take n) := by
  unfold handF
  simp only [h2]
  rw [if_neg (by omega)]
theorem take_self (S : Store) : S.take S.length = S := List.take_length
/-! loops -/
theorem srcS_l (xs : List PyData) (S : Store) : srcS (.d (.list xs)) S = .ok ⟨xs, fun _ => true⟩ S := rfl
theorem srcS_t (xs : List PyData) (S : Store) : srcS (.d (.tuple xs)) S = .ok ⟨xs, fun _ => true⟩ S := rfl
theorem iSrc_eq (f : EF) (Γ : Ev) (S : Store) : iSrc f Γ S = (f Γ S).bind fun v S => srcS v S := rfl
theorem iZip_eq (f g : EF) (Γ : Ev) (S : Store) : iZip f g Γ S = (f Γ S).bind fun v S => (g Γ S).bind fun w S => zipS v w S := rfl
theorem zip_l (xs ys : List PyData) (S : Store) : zipS (.d (.list xs)) (.d (.list ys)) S = .ok ⟨pairD xs ys, fun _ => true⟩ S := rfl
theorem iEnm_eq (f : EF) (Γ : Ev) (S : Store) : iEnm f Γ S = (f Γ S).bind fun v S => enumS v S := rfl
theorem enum_l (xs : List PyData) (S : Store) : enumS (.d (.list xs)) S = .ok ⟨enumD xs, fun _ => true⟩ S := rfl
theorem iRg_eq (f : RF) (Γ : Ev) (S : Store) : iRg f Γ S = (f Γ S).bind rgSrc := rfl
theorem rg1_eq (f : EF) (Γ : Ev) (S : Store) : rg1 f Γ S = (f Γ S).bind fun v S => match v with
  | .d (.int i) => .ok ((0 : Int), i) S
  | _ => .no := rfl
theorem rgSrc_eq {a b : Int} (S : Store) (h : rgC a b = true) : rgSrc (a, b) S = .ok ⟨rgD a b, fun _ => true⟩ S := by
  show (if rgC a b then _ else _) = _
  rw [if_pos h]
theorem rgC_of {a b : Int} (h1 : 0 ≤ a) (h2 : a ≤ 16777216) (h3 : b ≤ 16777216) (h4 : 0 ≤ b) : rgC a b = true := by
  unfold rgC
  refine decide_eq_true ?_
  omega
theorem rgC_nat (n : Nat) (h : n ≤ 1000000) : rgC 0 (n : Int) = true := by
  have h2 : (n : Int) ≤ 16777216 := by omega
  have h3 : (0 : Int) ≤ n := by omega
  have h1 : (0 : Int) ≤ 16777216 := by omega
  exact rgC_of (Int.le_refl 0) h1 h2 h3
theorem iRg_ok {f : EF} {Γ : Ev} {S S' : Store} {n : Nat} (h : f Γ S = .ok (.d (.int n)) S') (hn : n ≤ 1000000) : iRg (rg1 f) Γ S = .ok ⟨rgD 0 n, fun _ => true⟩ S' := by
  have e : rg1 f Γ S = .ok (0, (n : Int)) S' := by
    rw [rg1_eq, h, bind_ok]
  rw [iRg_eq, e, bind_ok, rgSrc_eq _ (rgC_nat n hn)]
/-- range(n) of a number -/
theorem rgD_nat (n : Nat) : rgD 0 (n : Int) = (List.range n).map fun (i : Nat) => PyData.int i := by
  unfold rgD
  rw [Int.sub_zero, Int.toNat_natCast]
  refine List.map_congr_left fun i _ => ?_
  rw [Int.zero_add]
/-- a comprehension whose tests and words leave the store as it is -/
theorem lcL_pure {ok : Store → Bool} {gf : GF} {tf : TF} {ef : EF} {vs : List Nat} {Γ : Ev} {S : Store} (c : PyData → Bool) (h : PyData → PyData) (hok : ok S = true) : ∀ xs : List PyData,
    (∀ d ∈ xs, ∃ Γ1, gf (.d d) (wipeE Γ vs) S = .ok Γ1 S ∧ tf Γ1 S = .ok (c d) S ∧ (c d = true → ef Γ1 S = .ok (.d (h d)) S)) → lcL ok gf tf ef vs Γ xs S = .ok ((xs.filter c).map h) S
  | [], _ => by unfold lcL; rw [if_pos hok]; rfl
  | d :: ds, k => by
    obtain ⟨Γ1, h1, h2, h3⟩ := k d (List.mem_cons_self ..)
    have ih := lcL_pure (tf := tf) (ef := ef) c h hok ds fun d' m => k d' (List.mem_cons_of_mem _ m)
    unfold lcL
    rw [if_pos hok]
    simp only [h1, h2]
    cases hc : c d with
    | false =>
      simp only []
      rw [ih, List.filter_cons, hc]
      rfl
    | true =>
      simp only [h3 hc]
      rw [ih, List.filter_cons, hc]
      rfl
theorem tYes_eq (Γ : Ev) (S : Store) : tYesF Γ S = .ok true S := rfl
theorem lcL_map {ok : Store → Bool} {gf : GF} {ef : EF} {vs : List Nat} {Γ : Ev} {S : Store} (h : PyData → PyData) (hok : ok S = true) (xs : List PyData)
    (k : ∀ d ∈ xs, ∃ Γ1, gf (.d d) (wipeE Γ vs) S = .ok Γ1 S ∧ ef Γ1 S = .ok (.d (h d)) S) : lcL ok gf tYesF ef vs Γ xs S = .ok (xs.map h) S := by
  rw [lcL_pure (fun _ => true) h hok xs fun d m => ?_, List.filter_eq_self.mpr (fun _ _ => rfl)]
  obtain ⟨Γ1, h1, h2⟩ := k d m
  exact ⟨Γ1, h1, rfl, fun _ => h2⟩
theorem eLc_eq {fin : List PyData → Store → Out SV} {f : IF} {gf : GF} {tf : TF} {ef : EF} {vs : List Nat} {Γ : Ev} {S S1 : Store} {s : Src} (h : f Γ S = .ok s S1) : eLc fin f gf tf ef vs Γ S = (lcL s.ok gf tf ef vs Γ s.items S1).bind fun xs S => fin xs S := by
  unfold eLc
  rw [h]
  rfl
/-- a comprehension whose words change the store -/
theorem lcL_ret {ok : Store → Bool} {gf : GF} {ef : EF} {vs : List Nat} {Γ : Ev} (I : Store → Prop) (P : PyData → Prop) (hok : ∀ S, I S → ok S = true) : ∀ (xs : List PyData) (S : Store), I S →
    (∀ d ∈ xs, ∀ S, I S → (gf (.d d) (wipeE Γ vs) S).Ret fun Γ1 S1 => (ef Γ1 S1).Ret fun v S2 => (∃ x, v = .d x ∧ P x) ∧ I S2) →
    (lcL ok gf tYesF ef vs Γ xs S).Ret fun ys S' => ys.length = xs.length ∧ (∀ y ∈ ys, P y) ∧ I S'
  | [], S, i, _ => by
    unfold lcL
    rw [if_pos (hok S i), Ret_ok]
    exact ⟨rfl, fun y h => (List.not_mem_nil h).elim, i⟩
  | d :: ds, S, i, k => by
    unfold lcL
    rw [if_pos (hok S i)]
    obtain ⟨Γ1, S1, e1, h1⟩ := (k d (List.mem_cons_self ..) S i).ok
    obtain ⟨v, S2, e2, ⟨x, hx, hP⟩, i2⟩ := h1.ok
    subst hx
    simp only [e1, tYes_eq, e2]
    obtain ⟨ys, S3, e3, h3, h4, i3⟩ := (lcL_ret I P hok ds S2 i2 fun d' m => k d' (List.mem_cons_of_mem _ m)).ok
    rw [e3]
    refine .of rfl ⟨by simp [h3], fun y m => ?_, i3⟩
    rcases List.mem_cons.mp m with e | m
    · exact e ▸ hP
    · exact h4 y m
theorem fFor_eq {f : IF} {gf : GF} {b : SF} {Γ : Ev} {S S1 : Store} {s : Src} (h : f Γ S = .ok s S1) : fFor f gf b Γ S = forL s.ok gf b s.items Γ S1 := by
  unfold fFor
  rw [h]
  rfl
/-- a for loop: what holds of the items that are left, the locals and the store; it ends at the end, or by break, or by return -/
theorem forL_ret {ok : Store → Bool} {gf : GF} {b : SF} (I : List PyData → Ev → Store → Prop) (Q : Fl → Store → Prop) (hok : ∀ ds Γ S, I ds Γ S → ok S = true) (hend : ∀ Γ S, I [] Γ S → Q (.nx Γ) S)
    (hstep : ∀ d ds Γ S, I (d :: ds) Γ S → (gf (.d d) Γ S).Ret fun Γ1 S1 => (b Γ1 S1).Ret fun fl S2 => match fl with
      | .nx Γ2 => I ds Γ2 S2
      | .ct Γ2 => I ds Γ2 S2
      | .bk Γ2 => Q (.nx Γ2) S2
      | .rt v => Q (.rt v) S2
      | .xc x Γ2 => Q (.xc x Γ2) S2) : ∀ (ds : List PyData) (Γ : Ev) (S : Store), I ds Γ S → (forL ok gf b ds Γ S).Ret Q
  | [], Γ, S, i => by
    unfold forL
    rw [if_pos (hok _ _ _ i)]
    exact .of rfl (hend Γ S i)
  | d :: ds, Γ, S, i => by
    unfold forL
    rw [if_pos (hok _ _ _ i)]
    obtain ⟨Γ1, S1, e1, h1⟩ := (hstep d ds Γ S i).ok
    obtain ⟨fl, S2, e2, h2⟩ := h1.ok
    simp only [e1, e2]
    cases fl with
    | nx Γ2 => exact forL_ret I Q hok hend hstep ds Γ2 S2 h2
    | ct Γ2 => exact forL_ret I Q hok hend hstep ds Γ2 S2 h2
    | bk Γ2 => exact .of rfl h2
    | rt v => exact .of rfl h2
    | xc x Γ2 => exact .of rfl h2
/-- a while loop with what is left to do -/
theorem whF_ret {t : TF} {b : SF} (I : Nat → Ev → Store → Prop) (Q : Fl → Store → Prop)
    (hstep : ∀ n Γ S, I n Γ S → (t Γ S).Ret fun k S1 => if k = true then 0 < n ∧ (b Γ S1).Ret fun fl S2 => match fl with
      | .nx Γ2 => I (n - 1) Γ2 S2
      | .ct Γ2 => I (n - 1) Γ2 S2
      | .bk Γ2 => Q (.nx Γ2) S2
      | .rt v => Q (.rt v) S2
      | .xc x Γ2 => Q (.xc x Γ2) S2 else Q (.nx Γ) S1) : ∀ (m n : Nat) (Γ : Ev) (S : Store), n < m → I n Γ S → (whF t b m Γ S).Ret Q
  | 0, n, Γ, S, h, _ => (Nat.not_lt_zero _ h).elim
  | m + 1, n, Γ, S, h, i => by
    unfold whF
    obtain ⟨k, S1, e1, h1⟩ := (hstep n Γ S i).ok
    rw [e1]
    cases k with
    | false => exact .of rfl h1
    | true =>
      obtain ⟨hn, h2⟩ := h1
      obtain ⟨fl, S2, e2, h3⟩ := h2.ok
      simp only [sB_ok, if_true, e2]
      cases fl with
      | nx Γ2 => exact whF_ret I Q hstep m (n - 1) Γ2 S2 (by omega) h3
      | ct Γ2 => exact whF_ret I Q hstep m (n - 1) Γ2 S2 (by omega) h3
      | bk Γ2 => exact .of rfl h3
      | rt v => exact .of rfl h3
      | xc x Γ2 => exact .of rfl h3
/-! the pool: cell 0 with four items -/
theorem pix0 (a b c d : PyData) (R : Store) : ixS (.cell 0) (.d (.int 0)) (.lst [a, b, c, d] :: R) = .ok (.d a) (.lst [a, b, c, d] :: R) := rfl
theorem pix1 (a b c d : PyData) (R : Store) : ixS (.cell 0) (.d (.int 1)) (.lst [a, b, c, d] :: R) = .ok (.d b) (.lst [a, b, c, d] :: R) := rfl
theorem pix2 (a b c d : PyData) (R : Store) : ixS (.cell 0) (.d (.int 2)) (.lst [a, b, c, d] :: R) = .ok (.d c) (.lst [a, b, c, d] :: R) := rfl
theorem pix3 (a b c d : PyData) (R : Store) : ixS (.cell 0) (.d (.int 3)) (.lst [a, b, c, d] :: R) = .ok (.d d) (.lst [a, b, c, d] :: R) := rfl
theorem pset1 (a b c d x : PyData) (R : Store) : setS (.cell 0) (.d (.int 1)) (.d x) (.lst [a, b, c, d] :: R) = .ok () (.lst [a, x, c, d] :: R) := rfl
theorem pset2 (a b c d x : PyData) (R : Store) : setS (.cell 0) (.d (.int 2)) (.d x) (.lst [a, b, c, d] :: R) = .ok () (.lst [a, b, x, d] :: R) := rfl
theorem pset3 (a b c d x : PyData) (R : Store) : setS (.cell 0) (.d (.int 3)) (.d x) (.lst [a, b, c, d] :: R) = .ok () (.lst [a, b, c, x] :: R) := rfl
theorem gSub_eq (fo fi : EF) (v : SV) (Γ : Ev) (S : Store) : gSubF fo fi v Γ S = (fo Γ S).bind fun o S => (fi Γ S).bind fun w S => (setS o w v S).bind fun _ S => .ok Γ S := rfl
/-- the digits' pool -/
def PoolOk (m : MO) : Prop := ∃ (cells : List Int) (at_ rest seed : Int), m = .lst [.list (cells.map .int), .int at_, .int rest, .int seed] ∧ 0 ≤ at_
theorem tk1 {α : Type} (P : α) (R : List α) : (P :: R).take (R.length + 1) = P :: R := by rw [List.take_succ_cons, List.take_length]
end DL
/-! E1: comprehensions over lists of whole numbers. -/
namespace DL
open PySem L2
/-- a list of whole numbers -/
abbrev lst (xs : List Int) : PyData := .list (xs.map .int)
theorem zip_comp {Γ : Ev} {S : Store} {fa fb ef : EF} {gf : GF} {vs : List Nat} {row lead : List Int} (f : Int → Int → Int) (ha : fa Γ S = .ok (.d (lst row)) S) (hb : fb Γ S = .ok (.d (lst lead)) S)
    (h : ∀ p m : Int, p ∈ row → m ∈ lead → ∃ Γ1, gf (.d (.tuple [.int p, .int m])) (wipeE Γ vs) S = .ok Γ1 S ∧ ef Γ1 S = .ok (.d (.int (f p m))) S) : eLc finF (iZip fa fb) gf tYesF ef vs Γ S = .ok (.d (lst (List.zipWith f row lead))) S := by
  let hh : PyData → PyData := fun d => match d with
    | .tuple [.int p, .int m] => .int (f p m)
    | _ => .none
  have e0 : iZip fa fb Γ S = .ok ⟨pairD (row.map .int) (lead.map .int), fun _ => true⟩ S := by
    rw [iZip_eq, ha, bind_ok, hb, bind_ok, zip_l]
  rw [eLc_eq e0, lcL_map hh rfl]
  · rw [bind_ok, finF_eq]
    have : ∀ row lead : List Int, (pairD (row.map PyData.int) (lead.map PyData.int)).map hh = (List.zipWith f row lead).map PyData.int := by
      intro row
      induction row with
      | nil => intro lead; rfl
      | cons p row ih =>
        intro lead
        cases lead with
        | nil => rfl
        | cons m lead =>
          have := ih lead
          simp only [pairD, List.map_cons, List.zip_cons_cons, List.zipWith_cons_cons] at this ⊢
          rw [this]
    rw [this]
  · intro d m
    unfold pairD at m
    obtain ⟨⟨x, y⟩, mz, rfl⟩ := List.mem_map.mp m
    have := List.of_mem_zip mz
    obtain ⟨p, mp, rfl⟩ := List.mem_map.mp this.1
    obtain ⟨q, mq, rfl⟩ := List.mem_map.mp this.2
    exact h p q mp mq
theorem src_comp {Γ : Ev} {S : Store} {fa ef : EF} {gf : GF} {vs : List Nat} {row : List Int} (f : Int → Int) (ha : fa Γ S = .ok (.d (lst row)) S)
    (h : ∀ p : Int, p ∈ row → ∃ Γ1, gf (.d (.int p)) (wipeE Γ vs) S = .ok Γ1 S ∧ ef Γ1 S = .ok (.d (.int (f p))) S) : eLc finF (iSrc fa) gf tYesF ef vs Γ S = .ok (.d (lst (row.map f))) S := by
  let hh : PyData → PyData := fun d => match d with
    | .int p => .int (f p)
    | _ => .none
  have e0 : iSrc fa Γ S = .ok ⟨row.map .int, fun _ => true⟩ S := by
    rw [iSrc_eq, ha, bind_ok, srcS_l]
  rw [eLc_eq e0, lcL_map hh rfl]
  · rw [bind_ok, finF_eq, List.map_map]
    show _ = Out.ok (SV.d (.list ((row.map f).map PyData.int))) S
    rw [List.map_map]
    rfl
  · intro d m
    obtain ⟨p, mp, rfl⟩ := List.mem_map.mp m
    exact h p mp
theorem rg_comp {Γ : Ev} {S : Store} {fa ef : EF} {gf : GF} {vs : List Nat} {n : Nat} (f : Nat → Int) (ha : fa Γ S = .ok (.d (.int n)) S) (hn : n ≤ 1000000)
    (h : ∀ k : Nat, k < n → ∃ Γ1, gf (.d (.int k)) (wipeE Γ vs) S = .ok Γ1 S ∧ ef Γ1 S = .ok (.d (.int (f k))) S) : eLc finF (iRg (rg1 fa)) gf tYesF ef vs Γ S = .ok (.d (lst ((List.range n).map f))) S := by
  let hh : PyData → PyData := fun d => match d with
    | .int p => .int (f p.toNat)
    | _ => .none
  rw [eLc_eq (iRg_ok ha hn), lcL_map hh rfl]
  · rw [bind_ok, finF_eq, rgD_nat, List.map_map]
    show _ = Out.ok (SV.d (.list (((List.range n).map f).map PyData.int))) S
    rw [List.map_map]
    rfl
  · intro d m
    simp only [rgD_nat] at m
    obtain ⟨k, mk, rfl⟩ := List.mem_map.mp m
    exact h k (List.mem_range.mp mk)
theorem getD_zipWith (f : Int → Int → Int) (h0 : f 0 0 = 0) : ∀ (row lead : List Int), row.length = lead.length → ∀ i, (List.zipWith f row lead).getD i 0 = f (row.getD i 0) (lead.getD i 0)
  | [], [], _, i => by simp [h0]
  | x :: row, y :: lead, h, 0 => by simp
  | x :: row, y :: lead, h, i + 1 => by
    have := getD_zipWith f h0 row lead (by simpa using h) i
    simpa using this
theorem getD_map (f : Int → Int) (h0 : f 0 = 0) (row : List Int) (i : Nat) : (row.map f).getD i 0 = f (row.getD i 0) := by
  rcases Nat.lt_or_ge i row.length with h | h
  · simp [List.getD, h]
  · simp [List.getD, h, h0]
theorem eqPs_refl : ∀ {xs : List PyData}, (∀ x ∈ xs, eqP x x = true) → eqPs xs xs = true
  | [], _ => by simp [eqPs]
  | x :: xs, h => by
    simp only [eqPs, Bool.and_eq_true]
    exact ⟨h x (List.mem_cons_self ..), eqPs_refl fun y m => h y (List.mem_cons_of_mem _ m)⟩
theorem eqP_int (i : Int) : eqP (.int i) (.int i) = true := by simp [eqP]
theorem eqP_list {xs : List PyData} (h : ∀ x ∈ xs, eqP x x = true) : eqP (.list xs) (.list xs) = true := by
  simp only [eqP]
  exact eqPs_refl h
theorem eqP_tuple {xs : List PyData} (h : ∀ x ∈ xs, eqP x x = true) : eqP (.tuple xs) (.tuple xs) = true := by
  simp only [eqP]
  exact eqPs_refl h
theorem eqP_lst (xs : List Int) : eqP (lst xs) (lst xs) = true := eqP_list fun x m => by
  obtain ⟨i, _, rfl⟩ := List.mem_map.mp m
  exact eqP_int i
theorem srcS_c {c : Nat} {S : Store} {xs : List PyData} (h : S[c]? = some (.lst xs)) : ∃ ok, srcS (.cell c) S = .ok ⟨xs, ok⟩ S ∧ ∀ S' : Store, S'[c]? = some (.lst xs) → eqPs xs xs = true → ok S' = true := by
  refine ⟨_, by simp only [srcS, h]; exact rfl, fun S' h1 h2 => ?_⟩
  simp only [h1, h2]
end DL
/-! E2: comprehensions over rows of whole numbers. -/
namespace DL
open PySem L2
/-- two lists, each item of each with a partner -/
def Both {α β : Type} (R : α → β → Prop) (xs : List α) (ys : List β) : Prop := xs.length = ys.length ∧ (∀ x ∈ xs, ∃ y ∈ ys, R x y) ∧ ∀ y ∈ ys, ∃ x ∈ xs, R x y
theorem rows_map {ok : Store → Bool} {gf : GF} {ef : EF} {vs : List Nat} {Γ : Ev} {S : Store} (R : List Int → List Int → Prop) (hok : ok S = true) : ∀ (xs : List (List Int)),
    (∀ row ∈ xs, ∃ Γ1, gf (.d (lst row)) (wipeE Γ vs) S = .ok Γ1 S ∧ ∃ r2, ef Γ1 S = .ok (.d (lst r2)) S ∧ R row r2) → ∃ ys : List (List Int), lcL ok gf tYesF ef vs Γ (xs.map lst) S = .ok (ys.map lst) S ∧ Both R xs ys
  | [], _ => by
    refine ⟨[], ?_, rfl, fun x m => (List.not_mem_nil m).elim, fun x m => (List.not_mem_nil m).elim⟩
    show lcL ok gf tYesF ef vs Γ [] S = _
    unfold lcL
    rw [if_pos hok]
    rfl
  | x :: xs, k => by
    obtain ⟨Γ1, h1, r2, h2, h3⟩ := k x (List.mem_cons_self ..)
    obtain ⟨ys, e, hl, ha, hb⟩ := rows_map R hok xs fun r m => k r (List.mem_cons_of_mem _ m)
    refine ⟨r2 :: ys, ?_, by simp [hl], fun r m => ?_, fun r m => ?_⟩
    · show lcL ok gf tYesF ef vs Γ (lst x :: xs.map lst) S = _
      unfold lcL
      rw [if_pos hok]
      simp only [h1, h2, tYes_eq, e, bind_ok]
      rfl
    · rcases List.mem_cons.mp m with rfl | m
      · exact ⟨r2, List.mem_cons_self .., h3⟩
      · obtain ⟨y, my, hy⟩ := ha r m
        exact ⟨y, List.mem_cons_of_mem _ my, hy⟩
    · rcases List.mem_cons.mp m with rfl | m
      · exact ⟨x, List.mem_cons_self .., h3⟩
      · obtain ⟨y, my, hy⟩ := hb r m
        exact ⟨y, List.mem_cons_of_mem _ my, hy⟩
/-- any(row) -/
def nzr (xs : List Int) : Bool := xs.any fun x => x != 0
theorem sca_lst (xs : List Int) : (xs.map PyData.int).all scaD = true := List.all_eq_true.mpr fun x m => by
  obtain ⟨i, _, rfl⟩ := List.mem_map.mp m
  rfl
theorem any_lst (xs : List Int) : (xs.map PyData.int).any trB = nzr xs := by
  rw [List.any_map]
  rfl
theorem rows_filter {ok : Store → Bool} {gf : GF} {tf : TF} {ef : EF} {vs : List Nat} {Γ : Ev} {S : Store} (hok : ok S = true) (xs : List (List Int))
    (k : ∀ row ∈ xs, ∃ Γ1, gf (.d (lst row)) (wipeE Γ vs) S = .ok Γ1 S ∧ tf Γ1 S = .ok (nzr row) S ∧ ef Γ1 S = .ok (.d (lst row)) S) : lcL ok gf tf ef vs Γ (xs.map lst) S = .ok ((xs.filter nzr).map lst) S := by
  let c : PyData → Bool := fun d => match d with
    | .list ds => ds.any trB
    | _ => false
  rw [lcL_pure c id hok]
  · rw [List.map_id, List.filter_map]
    congr 2
    refine congrArg (fun p => List.filter p xs) ?_
    funext row
    exact any_lst row
  · intro d m
    obtain ⟨row, mr, rfl⟩ := List.mem_map.mp m
    obtain ⟨Γ1, h1, h2, h3⟩ := k row mr
    refine ⟨Γ1, h1, ?_, fun _ => h3⟩
    rw [h2]
    congr 1
    exact (any_lst row).symm
/-- the first place that is not 0 -/
theorem first_ok {c : PyData → Bool} {row : List Int} {n : Nat} (hn : row.length = n) (hc : ∀ k : Nat, c (.int k) = decide (row.getD k 0 ≠ 0)) (hz : nzr row = true) : ∃ (t : Nat) (rest : List PyData), (rgD 0 (n : Int)).filter c = .int t :: rest ∧ t < n ∧ row.getD t 0 ≠ 0 := by
  obtain ⟨x, mx, hx⟩ := List.any_eq_true.mp hz
  obtain ⟨i, hi, rfl⟩ := List.getElem_of_mem mx
  have e : row.getD i 0 = row[i] := by simp [List.getD, hi]
  have hx' : row[i] ≠ 0 := bne_iff_ne.mp hx
  have m1 : PyData.int (i : Int) ∈ (rgD 0 (n : Int)).filter c := by
    refine List.mem_filter.mpr ⟨?_, ?_⟩
    · rw [rgD_nat]
      exact List.mem_map.mpr ⟨i, List.mem_range.mpr (by omega), rfl⟩
    · rw [hc, e]
      exact decide_eq_true hx'
  cases hl : (rgD 0 (n : Int)).filter c with
  | nil => rw [hl] at m1; cases m1
  | cons d rest =>
    have md : d ∈ (rgD 0 (n : Int)).filter c := by rw [hl]; exact List.mem_cons_self ..
    obtain ⟨mr, hd⟩ := List.mem_filter.mp md
    rw [rgD_nat] at mr
    obtain ⟨t, mt, rfl⟩ := List.mem_map.mp mr
    rw [hc] at hd
    exact ⟨t, rest, rfl, List.mem_range.mp mt, of_decide_eq_true hd⟩
theorem sl_l (fin : List PyData → Store → Out SV) (xs : List PyData) (lo hi : Option Int) (S : Store) : slS fin (.d (.list xs)) lo hi S = fin (cutD xs lo hi) S := rfl
theorem eSl_eq (fin : List PyData → Store → Out SV) (fa : EF) (fl fh : OF) (Γ : Ev) (S : Store) : eSl fin fa fl fh Γ S = (fa Γ S).bind fun v S => (fl Γ S).bind fun lo S => (fh Γ S).bind fun hi S => slS fin v lo hi S := rfl
theorem oNone_eq (Γ : Ev) (S : Store) : oNone Γ S = .ok none S := rfl
theorem oSome_eq (f : EF) (Γ : Ev) (S : Store) : oSome f Γ S = (f Γ S).bind fun v S => match v with
  | .d (.int i) => .ok (some i) S
  | _ => .no := rfl
theorem cut_tail (x : PyData) (xs : List PyData) : cutD (x :: xs) (some 1) none = xs := by
  have e1 : HT.sIx (x :: xs).length 0 (some ((1 : Nat) : Int)) = 1 := by
    rw [HT.sIx_nat, List.length_cons]
    omega
  have e2 : HT.sIx (x :: xs).length (x :: xs).length none = xs.length + 1 := rfl
  show (List.drop (HT.sIx (x :: xs).length 0 (some ((1 : Nat) : Int))) (x :: xs)).take (HT.sIx (x :: xs).length (x :: xs).length none - HT.sIx (x :: xs).length 0 (some ((1 : Nat) : Int))) = xs
  rw [e1, e2, List.drop_succ_cons, List.drop_zero, Nat.add_sub_cancel, List.take_length]
end DL
/-! M0: how many rows are independent: any two eliminations tell the same number. Over a ring with a prime ideal Z. -/
namespace LinA
variable {R : Type} [Lean.Grind.CommRing R]
/-- the nothings: a prime ideal -/
structure Prm (Z : R → Prop) : Prop where
  zero : Z 0
  add : ∀ a b, Z a → Z b → Z (a + b)
  mul : ∀ a b, Z b → Z (a * b)
  one : ¬ Z 1
  prm : ∀ a b, Z (a * b) → Z a ∨ Z b
abbrev Vec (R : Type) := Nat → R
/-- what rows reach, up to scaling -/
inductive Sp (Z : R → Prop) (A : List (Vec R)) : Vec R → Prop
  | mem {a : Vec R} : a ∈ A → Sp Z A a
  | zero : Sp Z A (fun _ => 0)
  | lin {u w x : Vec R} (c d e : R) : Sp Z A u → Sp Z A w → ¬ Z c → (∀ i, Z (c * x i - d * u i - e * w i)) → Sp Z A x
variable {Z : R → Prop}
theorem Prm.sub (P : Prm Z) {a b : R} (ha : Z a) (hb : Z b) : Z (a - b) := by
  have := P.add _ _ ha (P.mul (-1) b hb)
  have e : a + -1 * b = a - b := by grind
  rwa [e] at this
theorem Prm.mulL (P : Prm Z) {a b : R} (ha : Z a) : Z (a * b) := by
  have := P.mul b a ha
  have e : b * a = a * b := by grind
  rwa [e] at this
theorem Prm.mulN (P : Prm Z) {a b : R} (ha : ¬ Z a) (hb : ¬ Z b) : ¬ Z (a * b) := fun h => (P.prm _ _ h).elim ha hb
theorem Sp.mono {A B : List (Vec R)} (h : ∀ a ∈ A, Sp Z B a) {x : Vec R} (s : Sp Z A x) : Sp Z B x := by
  induction s with
  | mem m => exact h _ m
  | zero => exact .zero
  | lin c d e _ _ hc hx i1 i2 => exact .lin c d e i1 i2 hc hx
theorem Sp.van (P : Prm Z) {A : List (Vec R)} {t : Nat} (h : ∀ a ∈ A, Z (a t)) {x : Vec R} (s : Sp Z A x) : Z (x t) := by
  induction s with
  | mem m => exact h _ m
  | zero => exact P.zero
  | @lin u w x c d e _ _ hc hx i1 i2 =>
    have h1 := P.add _ _ (hx t) (P.add _ _ (P.mul d _ i1) (P.mul e _ i2))
    have e1 : c * x t - d * u t - e * w t + (d * u t + e * w t) = c * x t := by grind
    rw [e1] at h1
    exact (P.prm _ _ h1).elim (fun q => (hc q).elim) id
/-- a row without what c0 gives -/
theorem Sp.cut (P : Prm Z) {c0 : Vec R} {C : List (Vec R)} {x : Vec R} (h : Sp Z (c0 :: C) x) : ∃ (s t : R) (y : Vec R), ¬ Z s ∧ Sp Z C y ∧ ∀ i, Z (s * x i - t * c0 i - y i) := by
  induction h with
  | @mem a m =>
    rcases List.mem_cons.mp m with e | e
    · subst e
      refine ⟨1, 1, fun _ => 0, P.one, .zero, fun i => ?_⟩
      have : (1 : R) * a i - 1 * a i - 0 = 0 := by grind
      rw [this]; exact P.zero
    · refine ⟨1, 0, a, P.one, .mem e, fun i => ?_⟩
      have : (1 : R) * a i - 0 * c0 i - a i = 0 := by grind
      rw [this]; exact P.zero
  | zero =>
    refine ⟨1, 0, fun _ => 0, P.one, .zero, fun i => ?_⟩
    have : (1 : R) * 0 - 0 * c0 i - 0 = 0 := by grind
    rw [this]; exact P.zero
  | @lin u w x c d e _ _ hc hx i1 i2 =>
    obtain ⟨s1, t1, y1, hs1, hy1, h1⟩ := i1
    obtain ⟨s2, t2, y2, hs2, hy2, h2⟩ := i2
    refine ⟨c * (s1 * s2), d * s2 * t1 + e * s1 * t2, fun i => d * s2 * y1 i + e * s1 * y2 i, P.mulN hc (P.mulN hs1 hs2), .lin 1 (d * s2) (e * s1) hy1 hy2 P.one fun i => ?_, fun i => ?_⟩
    · have : (1 : R) * (d * s2 * y1 i + e * s1 * y2 i) - d * s2 * y1 i - e * s1 * y2 i = 0 := by grind
      rw [this]; exact P.zero
    · have : c * (s1 * s2) * x i - (d * s2 * t1 + e * s1 * t2) * c0 i - (d * s2 * y1 i + e * s1 * y2 i) = (s1 * s2) * (c * x i - d * u i - e * w i) + ((d * s2) * (s1 * u i - t1 * c0 i - y1 i) + (e * s1) * (s2 * w i - t2 * c0 i - y2 i)) := by grind
      rw [this]
      exact P.add _ _ (P.mul _ _ (hx i)) (P.add _ _ (P.mul _ _ (h1 i)) (P.mul _ _ (h2 i)))
/-- rows in steps: each with a place where it is something and all behind it nothing -/
inductive Ech (Z : R → Prop) : List (Vec R) → Prop
  | nil : Ech Z []
  | cons {b : Vec R} {B : List (Vec R)} (t : Nat) : ¬ Z (b t) → (∀ x ∈ B, Z (x t)) → Ech Z B → Ech Z (b :: B)
theorem Ech.cut (P : Prm Z) {c0 : Vec R} {C : List (Vec R)} : ∀ {B : List (Vec R)}, Ech Z B → (∀ b ∈ B, Sp Z (c0 :: C) b) →
    (∀ b ∈ B, Sp Z C b) ∨ (∃ (p : Vec R) (s x : R) (y : Vec R) (B' : List (Vec R)), ¬ Z x ∧ Sp Z C y ∧ (∀ i, Z (s * p i - x * c0 i - y i)) ∧ (∀ t, (∀ b ∈ B, Z (b t)) → Z (p t)) ∧
      B'.length + 1 = B.length ∧ Ech Z B' ∧ (∀ b ∈ B', Sp Z C b) ∧ ∀ t, (∀ b ∈ B, Z (b t)) → ∀ b ∈ B', Z (b t))
  | [], _, _ => .inl (fun b h => (List.not_mem_nil h).elim)
  | b :: B, h, hs => by
    cases h with
    | cons t ht hB hE =>
      obtain ⟨s, x, y, hs0, hy, hb⟩ := (hs b (List.mem_cons_self ..)).cut P
      rcases Ech.cut P hE (fun b h => hs b (List.mem_cons_of_mem _ h)) with h1 | ⟨p, sp, xp, yp, B', hxp, hyp, hp, hpt, hl, hE', hB', hv⟩
      · by_cases hx : Z x
        · left
          intro b' m
          rcases List.mem_cons.mp m with e | m
          · subst e
            refine .lin (w := y) s 0 1 .zero hy hs0 fun i => ?_
            have : s * b' i - 0 * (fun _ => (0 : R)) i - 1 * y i = (s * b' i - x * c0 i - y i) + c0 i * x := by grind
            rw [this]
            exact P.add _ _ (hb i) (P.mul _ _ hx)
          · exact h1 b' m
        · right
          exact ⟨b, s, x, y, B, hx, hy, hb, fun t h => h b (List.mem_cons_self ..), rfl, hE, h1, fun t h b m => h b (List.mem_cons_of_mem _ m)⟩
      · right
        refine ⟨p, sp, xp, yp, (fun i => xp * s * b i - x * sp * p i) :: B', hxp, hyp, hp, fun t h => hpt t fun b m => h b (List.mem_cons_of_mem _ m), by simp [hl], .cons t ?_ (hv t hB) hE', fun b' m => ?_, fun t h b' m => ?_⟩
        · intro hz
          have h2 := P.add _ _ hz (P.mul (x * sp) _ (hpt t hB))
          have e : xp * s * b t - x * sp * p t + x * sp * p t = xp * s * b t := by grind
          rw [e] at h2
          exact P.mulN (P.mulN hxp hs0) ht h2
        · rcases List.mem_cons.mp m with e | m
          · subst e
            refine .lin 1 xp (-x) hy hyp P.one fun i => ?_
            have : 1 * (xp * s * b i - x * sp * p i) - xp * y i - -x * yp i = xp * (s * b i - x * c0 i - y i) - x * (sp * p i - xp * c0 i - yp i) := by grind
            rw [this]
            exact P.sub (P.mul _ _ (hb i)) (P.mul _ _ (hp i))
          · exact hB' b' m
        · rcases List.mem_cons.mp m with e | m
          · subst e
            exact P.sub (P.mul _ _ (h b (List.mem_cons_self ..))) (P.mul _ _ (hpt t fun b m => h b (List.mem_cons_of_mem _ m)))
          · exact hv t (fun b m => h b (List.mem_cons_of_mem _ m)) b' m
theorem Ech.le (P : Prm Z) : ∀ {C B : List (Vec R)}, Ech Z B → (∀ b ∈ B, Sp Z C b) → B.length ≤ C.length
  | [], B, h, hs => by
    cases h with
    | nil => exact Nat.le_refl _
    | @cons b B t ht hB hE => exact (ht ((hs b (List.mem_cons_self ..)).van P (fun a m => (List.not_mem_nil m).elim))).elim
  | c0 :: C, B, h, hs => by
    rcases h.cut P hs with h1 | ⟨_, _, _, _, B', _, _, _, _, hl, hE, hB', _⟩
    · exact Nat.le_succ_of_le (Ech.le P h h1)
    · rw [← hl]
      exact Nat.succ_le_succ (Ech.le P hE hB')
/-- an elimination that tells k -/
inductive Elim (Z : R → Prop) : List (Vec R) → Nat → Prop
  | none {A : List (Vec R)} : (∀ a ∈ A, ∀ i, Z (a i)) → Elim Z A 0
  | step {A A' : List (Vec R)} {v : Vec R} {k : Nat} (t : Nat) : Sp Z A v → ¬ Z (v t) → (∀ a ∈ A', Sp Z A a) → (∀ a ∈ A, Sp Z (v :: A') a) → (∀ a ∈ A', Z (a t)) → Elim Z A' k → Elim Z A (k + 1)
theorem Elim.ech (P : Prm Z) {A : List (Vec R)} {k : Nat} (h : Elim Z A k) : ∃ B : List (Vec R), Ech Z B ∧ B.length = k ∧ (∀ b ∈ B, Sp Z A b) ∧ ∀ a ∈ A, Sp Z B a := by
  induction h with
  | none h =>
    refine ⟨[], .nil, rfl, fun b h => (List.not_mem_nil h).elim, fun a m => .lin (w := fun _ => 0) 1 0 0 .zero .zero P.one fun i => ?_⟩
    have : (1 : R) * a i - 0 * 0 - 0 * 0 = a i := by grind
    rw [this]
    exact h a m i
  | @step A A' v k t hv ht h1 h2 h3 _ ih =>
    obtain ⟨B, hE, hl, hB, hA⟩ := ih
    refine ⟨v :: B, .cons t ht (fun x m => (hB x m).van P h3) hE, by simp [hl], fun b m => ?_, fun a m => (h2 a m).mono fun x mx => ?_⟩
    · rcases List.mem_cons.mp m with e | m
      · exact e ▸ hv
      · exact (hB b m).mono h1
    · rcases List.mem_cons.mp mx with e | mx
      · exact .mem (e ▸ List.mem_cons_self ..)
      · exact (hA x mx).mono fun y m => .mem (List.mem_cons_of_mem _ m)
theorem Elim.same (P : Prm Z) {A B : List (Vec R)} {k l : Nat} (hA : Elim Z A k) (hB : Elim Z B l) (h1 : ∀ a ∈ A, Sp Z B a) (h2 : ∀ b ∈ B, Sp Z A b) : k = l := by
  obtain ⟨X, eX, lX, sX, tX⟩ := hA.ech P
  obtain ⟨Y, eY, lY, sY, tY⟩ := hB.ech P
  have u := eX.le P (C := Y) fun b m => ((sX b m).mono h1).mono tY
  have v := eY.le P (C := X) fun b m => ((sY b m).mono h2).mono tX
  omega
end LinA
/-! M1: the field of four; the whole numbers with q; a step of an elimination. -/
namespace LinA
inductive F4 where
  | o | i | w | v
deriving DecidableEq
namespace F4
def add : F4 → F4 → F4
  | o, x => x
  | x, o => x
  | i, i => o | i, w => v | i, v => w
  | w, i => v | w, w => o | w, v => i
  | v, i => w | v, w => i | v, v => o
def mul : F4 → F4 → F4
  | o, _ => o
  | _, o => o
  | i, x => x
  | x, i => x
  | w, w => v | w, v => i
  | v, w => i | v, v => w
def ofN (n : Nat) : F4 := if n % 2 = 0 then o else i
def ofZ (n : Int) : F4 := if n % 2 = 0 then o else i
def pow (x : F4) : Nat → F4
  | 0 => i
  | n + 1 => mul (pow x n) x
instance : Add F4 := ⟨add⟩
instance : Mul F4 := ⟨mul⟩
instance : Neg F4 := ⟨fun x => x⟩
instance : Sub F4 := ⟨add⟩
instance : NatCast F4 := ⟨ofN⟩
instance : IntCast F4 := ⟨ofZ⟩
instance (n : Nat) : OfNat F4 n := ⟨ofN n⟩
instance : SMul Nat F4 := ⟨fun n x => mul (ofN n) x⟩
instance : SMul Int F4 := ⟨fun n x => mul (ofZ n) x⟩
instance : HPow F4 Nat F4 := ⟨pow⟩
theorem ofN_succ (n : Nat) : ofN (n + 1) = add (ofN n) i := by
  unfold ofN
  rcases Nat.mod_two_eq_zero_or_one n with h | h
  · rw [if_neg (by omega), if_pos h]; rfl
  · rw [if_pos (by omega), if_neg (by omega)]; rfl
theorem ofZ_neg (n : Int) : ofZ (-n) = ofZ n := by
  unfold ofZ
  by_cases h : n % 2 = 0
  · rw [if_pos h, if_pos (by omega)]
  · rw [if_neg h, if_neg (by omega)]
theorem ofZ_nat (n : Nat) : ofZ (n : Int) = ofN n := by
  unfold ofZ ofN
  by_cases h : n % 2 = 0
  · rw [if_pos h, if_pos (by omega)]
  · rw [if_neg h, if_neg (by omega)]
instance : Lean.Grind.Semiring F4 where
  add_zero a := by cases a <;> rfl
  add_comm a b := by cases a <;> cases b <;> rfl
  add_assoc a b c := by cases a <;> cases b <;> cases c <;> rfl
  mul_assoc a b c := by cases a <;> cases b <;> cases c <;> rfl
  mul_one a := by cases a <;> rfl
  one_mul a := by cases a <;> rfl
  left_distrib a b c := by cases a <;> cases b <;> cases c <;> rfl
  right_distrib a b c := by cases a <;> cases b <;> cases c <;> rfl
  zero_mul a := by cases a <;> rfl
  mul_zero a := by cases a <;> rfl
  pow_zero a := rfl
  pow_succ a n := rfl
  ofNat_succ n := ofN_succ n
  ofNat_eq_natCast n := rfl
  nsmul_eq_natCast_mul n a := rfl
instance : Lean.Grind.Ring F4 where
  neg_add_cancel a := by cases a <;> rfl
  sub_eq_add_neg a b := rfl
  neg_zsmul n a := by
    show mul (ofZ (-n)) a = mul (ofZ n) a
    rw [ofZ_neg]
  zsmul_natCast_eq_nsmul n a := by
    show mul (ofZ n) a = mul (ofN n) a
    rw [ofZ_nat]
  intCast_ofNat n := ofZ_nat n
  intCast_neg n := ofZ_neg n
instance : Lean.Grind.CommRing F4 where
  mul_comm a b := by cases a <;> cases b <;> rfl
end F4
theorem prm4 : Prm (R := F4) fun x => x = 0 where
  zero := rfl
  add a b ha hb := by subst ha; subst hb; rfl
  mul a b hb := by subst hb; cases a <;> rfl
  one h := nomatch h
  prm a b h := by
    cases a <;> cases b <;> first | exact .inl rfl | exact .inr rfl | exact absurd h (by decide)
theorem prmZ (q : Int) (h1 : ¬ q ∣ 1) (hp : ∀ a b : Int, q ∣ a * b → q ∣ a ∨ q ∣ b) : Prm (R := Int) fun x => q ∣ x where
  zero := Int.dvd_zero q
  add a b ha hb := Int.dvd_add ha hb
  mul a b hb := Int.dvd_trans hb (Int.dvd_mul_left ..)
  one := h1
  prm := hp
section
variable {R : Type} [Lean.Grind.CommRing R] {Z : R → Prop}
/-- r2 is row, with some of v taken away, up to scaling; it is nothing at t -/
def Red (Z : R → Prop) (r2 row v : Vec R) (t : Nat) : Prop := (∃ c d e : R, ¬ Z c ∧ ¬ Z d ∧ ∀ i, Z (c * r2 i - d * row i - e * v i)) ∧ Z (r2 t)
theorem Red.self (P : Prm Z) {row v : Vec R} {t : Nat} (h : Z (row t)) : Red Z row row v t := by
  refine ⟨⟨1, 1, 0, P.one, P.one, fun i => ?_⟩, h⟩
  have : (1 : R) * row i - 1 * row i - 0 * v i = 0 := by grind
  rw [this]
  exact P.zero
theorem Elim.red (P : Prm Z) {A A' rest : List (Vec R)} {v : Vec R} {t k : Nat} (hv : v ∈ A) (hr : ∀ a ∈ rest, a ∈ A) (hA : ∀ a ∈ A, a = v ∨ a ∈ rest ∨ ∀ i, Z (a i)) (ht : ¬ Z (v t))
    (h1 : ∀ a ∈ A', ∃ row ∈ rest, Red Z a row v t) (h2 : ∀ row ∈ rest, ∃ a, Red Z a row v t ∧ (a ∈ A' ∨ ∀ i, Z (a i))) (h : Elim Z A' k) : Elim Z A (k + 1) := by
  have zer : ∀ (B : List (Vec R)) (a : Vec R), (∀ i, Z (a i)) → Sp Z B a := fun B a h => .lin (w := fun _ => 0) 1 0 0 .zero .zero P.one fun i => by
    have : (1 : R) * a i - 0 * (fun _ => (0 : R)) i - 0 * (fun _ => (0 : R)) i = a i := by grind
    rw [this]
    exact h i
  refine .step t (.mem hv) ht (fun a m => ?_) (fun a m => ?_) (fun a m => ?_) h
  · obtain ⟨row, mr, ⟨c, d, e, hc, hd, hi⟩, _⟩ := h1 a m
    exact .lin c d e (.mem (hr row mr)) (.mem hv) hc hi
  · rcases hA a m with rfl | mr | hz
    · exact .mem (List.mem_cons_self ..)
    · obtain ⟨r2, ⟨⟨c, d, e, hc, hd, hi⟩, _⟩, h3⟩ := h2 a mr
      have s2 : Sp Z (v :: A') r2 := h3.elim (fun m => .mem (List.mem_cons_of_mem _ m)) (zer _ _)
      refine .lin d c (-e) s2 (.mem (List.mem_cons_self ..)) hd fun i => ?_
      have : d * a i - c * r2 i - -e * v i = (-1) * (c * r2 i - d * a i - e * v i) := by grind
      rw [this]
      exact P.mul _ _ (hi i)
    · exact zer _ _ hz
  · obtain ⟨row, mr, _, hz⟩ := h1 a m
    exact hz
end
end LinA

namespace G06
open PySem L2 DL

def top (i : Nat) : Stmt := PySem.Challenge.pw_matroidproved_k06_whole_fields.main.body.getD i (.Pass ⟨0, 0, 0, 0⟩)
def k_BACK_FOUR : PyData := (.tuple [.none, (.int 1), (.int 3), (.int 2)])
def k_TIMES_FOUR : PyData := (.tuple [(.tuple [(.int 0), (.int 0), (.int 0), (.int 0)]), (.tuple [(.int 0), (.int 1), (.int 2), (.int 3)]), (.tuple [(.int 0), (.int 2), (.int 3), (.int 1)]), (.tuple [(.int 0), (.int 3), (.int 1), (.int 2)])])
abbrev s_fraction : Stmt := top 4
def N_fraction : List Str := ["top", "under", "common"]
def b_fraction : SF :=
  (fSeq (fSet 2 (eCall (mmS fun i j => (Int.gcd i j : Int)) (aCons (eVar 0) (aCons (eVar 1) aNil))))
  (fSeq (fIf (tst (eBin (iCmp fun i j => decide (i < j)) (eVar 1) (eC (.int 0)))) (fSet 2 (eNeg (eVar 2))) fNil)
  (fRet (eTup (aCons (eDiv (eVar 0) (eVar 2)) (aCons (eDiv (eVar 1) (eVar 2)) aNil))))))
def F_fraction : FD := runD handF 3 b_fraction
abbrev s_field_opposite : Stmt := top 7
def N_field_opposite : List Str := ["q", "a"]
def b_field_opposite : SF :=
  (fSeq (fIf (tst (eBin (eqS false) (eVar 0) (eC (.int 0)))) (fRet (eTup (aCons (eNeg (eIx (eVar 1) (eC (.int 0)))) (aCons (eIx (eVar 1) (eC (.int 1))) aNil)))) fNil)
  (fRet (eIf (tst (eBin (eqS false) (eVar 0) (eC (.int 4)))) (eVar 1) (eMod (eCall intS (aCons (eNeg (eVar 1)) aNil)) (eVar 0)))))
def F_field_opposite : FD := runD handF 2 b_field_opposite
abbrev s_less_times : Stmt := top 9
def E_less_times_1 : EF :=
  (eXor (eVar 5) (eIx (eIx (eC k_TIMES_FOUR) (eVar 4)) (eVar 6)))
def C_less_times_1 : EF :=
  (eLc finF (iZip (eVar 1) (eVar 2)) (gTupF 2 (gsCons (gNm 5) (gsCons (gNm 6) gsNil))) tYesF E_less_times_1 [5, 6])
def E_less_times_2 : EF :=
  (eSub (eMulF finF (eIx (eVar 2) (eVar 3)) (eVar 5)) (eMulF finF (eIx (eVar 1) (eVar 3)) (eVar 6)))
def C_less_times_2 : EF :=
  (eLc finF (iZip (eVar 1) (eVar 2)) (gTupF 2 (gsCons (gNm 5) (gsCons (gNm 6) gsNil))) tYesF E_less_times_2 [5, 6])
def E_less_times_3 : EF :=
  (eMod (eCall intS (aCons (eVar 5) aNil)) (eVar 0))
def C_less_times_3 : EF :=
  (eLc finF (iSrc (eVar 7)) (gNm 5) tYesF E_less_times_3 [5])
def B_less_times_1 : SF :=
  (fSet 8 (eCall (mmS fun i j => (Int.gcd i j : Int)) (aCons (eVar 8) (aCons (eVar 5) aNil))))
def L_less_times_1 : SF :=
  (fFor (iSrc (eVar 7)) (gNm 5) B_less_times_1)
def E_less_times_4 : EF :=
  (eDiv (eVar 5) (eVar 8))
def C_less_times_4 : EF :=
  (eLc finF (iSrc (eVar 7)) (gNm 5) tYesF E_less_times_4 [5])
def N_less_times : List Str := ["q", "row", "lead", "at", "times", "part", "more", "found", "common"]
def b_less_times : SF :=
  (fSeq (fIf (tst (eBin (eqS false) (eVar 0) (eC (.int 4)))) (fSeq (fSet 4 (eIx (eIx (eC k_TIMES_FOUR) (eIx (eVar 1) (eVar 3))) (eIx (eC k_BACK_FOUR) (eIx (eVar 2) (eVar 3)))))
  (fRet C_less_times_1)) fNil)
  (fSeq (fSet 7 C_less_times_2)
  (fSeq (fIf (tru (eVar 0)) (fRet C_less_times_3) fNil)
  (fSeq (fSet 8 (eC (.int 0)))
  (fSeq L_less_times_1
  (fRet (eIf (tst (eBin (iCmp fun i j => decide (j < i)) (eVar 8) (eC (.int 1)))) C_less_times_4 (eVar 7))))))))
def F_less_times : FD := runD handF 9 b_less_times
abbrev s_whole_row : Stmt := top 11
def B_whole_row_1 : SF :=
  (fSet 1 (eMulF finF (eVar 1) (eDiv (eIx (eVar 2) (eC (.int 1))) (eCall (mmS fun i j => (Int.gcd i j : Int)) (aCons (eVar 1) (aCons (eIx (eVar 2) (eC (.int 1))) aNil))))))
def L_whole_row_1 : SF :=
  (fFor (iSrc (eVar 0)) (gNm 2) B_whole_row_1)
def E_whole_row_1 : EF :=
  (eMulF finF (eIx (eVar 2) (eC (.int 0))) (eDiv (eVar 1) (eIx (eVar 2) (eC (.int 1)))))
def C_whole_row_1 : EF :=
  (eLc finF (iSrc (eVar 0)) (gNm 2) tYesF E_whole_row_1 [2])
def N_whole_row : List Str := ["row", "under", "part"]
def b_whole_row : SF :=
  (fSeq (fSet 1 (eC (.int 1)))
  (fSeq L_whole_row_1
  (fRet C_whole_row_1)))
def F_whole_row : FD := runD handF 3 b_whole_row
abbrev s__law_pool : Stmt := top 14
def E__law_pool_1 : EF :=
  (eIf (tst (eBin (iCmp fun i j => decide (j ≤ i)) (eVar 1) (eC (.int 0)))) (eMulF finF (eC (.int 2)) (eVar 1)) (eSub (eMulF finF (eNeg (eC (.int 2))) (eVar 1)) (eC (.int 1))))
def C__law_pool_1 : EF :=
  (eLc finF (iSrc (eVar 0)) (gNm 1) tYesF E__law_pool_1 [1])
def N__law_pool : List Str := ["script", "cell"]
def b__law_pool : SF :=
  (fRet (eLst finC (aCons C__law_pool_1 (aCons (eC (.int 0)) (aCons (eC (.int 0)) (aCons (eC (.int 17)) aNil))))))
def F__law_pool : FD := runD handC 2 b__law_pool
abbrev s__law_is_integer : Stmt := top 17
def N__law_is_integer : List Str := ["actual"]
def b__law_is_integer : SF :=
  (fRet (eAndF (eIsi "int" (eVar 0)) (eNotF (eIsi "bool" (eVar 0)))))
def F__law_is_integer : FD := runD handF 1 b__law_is_integer
abbrev s__law_common : Stmt := top 19
def B__law_common_1 : SF :=
  (fSeq (fIf (tst (eBin (eqS false) (eVar 1) (eC (.int 0)))) fBreak fNil)
  (fPar 0 1 (aCons (eVar 1) (aCons (eSub (eVar 0) (eMulF finF (eVar 1) (eCall intS (aCons (eDiv (eVar 0) (eVar 1)) aNil)))) aNil))))
def L__law_common_1 : SF :=
  (fFor (iRg (rg1 (eC (.int 20000)))) (gNm 2) B__law_common_1)
def N__law_common : List Str := ["one", "other", "turn"]
def b__law_common : SF :=
  (fSeq (fPar 0 1 (aCons (eCall absS (aCons (eVar 0) aNil)) (aCons (eCall absS (aCons (eVar 1) aNil)) aNil)))
  (fSeq L__law_common_1
  (fRet (eVar 0))))
def F__law_common : FD := runD handF 3 b__law_common
abbrev s__law_less_times : Stmt := top 22
def E__law_less_times_1 : EF :=
  (eIx (eIx (eVar 6) (eIx (eIx (eVar 5) (eVar 1)) (eIx (eVar 2) (eVar 7)))) (eIx (eIx (eVar 5) (eVar 3)) (eIx (eVar 4) (eVar 7))))
def C__law_less_times_1 : EF :=
  (eLc finF (iRg (rg1 (eCall lenS (aCons (eVar 2) aNil)))) (gNm 7) tYesF E__law_less_times_1 [7])
def E__law_less_times_2 : EF :=
  (eSub (eMulF finF (eVar 1) (eIx (eVar 2) (eVar 7))) (eMulF finF (eVar 3) (eIx (eVar 4) (eVar 7))))
def C__law_less_times_2 : EF :=
  (eLc finF (iRg (rg1 (eCall lenS (aCons (eVar 2) aNil)))) (gNm 7) tYesF E__law_less_times_2 [7])
def E__law_less_times_3 : EF :=
  (eMod (eCall intS (aCons (eVar 9) aNil)) (eVar 0))
def C__law_less_times_3 : EF :=
  (eLc finF (iSrc (eVar 8)) (gNm 9) tYesF E__law_less_times_3 [9])
def N__law_less_times : List Str := ["q", "times", "row", "other", "lead", "table", "sums", "k", "found", "part"]
def b__law_less_times : SF :=
  (fSeq (fIf (tst (eBin (eqS false) (eVar 0) (eC (.int 4)))) (fSeq (fSet 5 (eLst finF (aCons (eLst finF (aCons (eC (.int 0)) (aCons (eC (.int 0)) (aCons (eC (.int 0)) (aCons (eC (.int 0)) aNil))))) (aCons (eLst finF (aCons (eC (.int 0)) (aCons (eC (.int 1)) (aCons (eC (.int 2)) (aCons (eC (.int 3)) aNil))))) (aCons (eLst finF (aCons (eC (.int 0)) (aCons (eC (.int 2)) (aCons (eC (.int 3)) (aCons (eC (.int 1)) aNil))))) (aCons (eLst finF (aCons (eC (.int 0)) (aCons (eC (.int 3)) (aCons (eC (.int 1)) (aCons (eC (.int 2)) aNil))))) aNil))))))
  (fSeq (fSet 6 (eLst finF (aCons (eLst finF (aCons (eC (.int 0)) (aCons (eC (.int 1)) (aCons (eC (.int 2)) (aCons (eC (.int 3)) aNil))))) (aCons (eLst finF (aCons (eC (.int 1)) (aCons (eC (.int 0)) (aCons (eC (.int 3)) (aCons (eC (.int 2)) aNil))))) (aCons (eLst finF (aCons (eC (.int 2)) (aCons (eC (.int 3)) (aCons (eC (.int 0)) (aCons (eC (.int 1)) aNil))))) (aCons (eLst finF (aCons (eC (.int 3)) (aCons (eC (.int 2)) (aCons (eC (.int 1)) (aCons (eC (.int 0)) aNil))))) aNil))))))
  (fRet C__law_less_times_1))) fNil)
  (fSeq (fSet 8 C__law_less_times_2)
  (fRet (eIf (tst (eBin (eqS false) (eVar 0) (eC (.int 0)))) (eVar 8) C__law_less_times_3))))
def F__law_less_times : FD := runD handF 10 b__law_less_times
abbrev s_field_sum : Stmt := top 5
def N_field_sum : List Str := ["q", "a", "b"]
def b_field_sum : SF :=
  (fSeq (fIf (tst (eBin (eqS false) (eVar 0) (eC (.int 0)))) (fRet (eCallD 2 F_fraction (aCons (eAddF finF (eMulF finF (eIx (eVar 1) (eC (.int 0))) (eIx (eVar 2) (eC (.int 1)))) (eMulF finF (eIx (eVar 2) (eC (.int 0))) (eIx (eVar 1) (eC (.int 1))))) (aCons (eMulF finF (eIx (eVar 1) (eC (.int 1))) (eIx (eVar 2) (eC (.int 1)))) aNil)))) fNil)
  (fRet (eIf (tst (eBin (eqS false) (eVar 0) (eC (.int 4)))) (eXor (eVar 1) (eVar 2)) (eMod (eCall intS (aCons (eAddF finF (eVar 1) (eVar 2)) aNil)) (eVar 0)))))
def F_field_sum : FD := runD handF 3 b_field_sum
abbrev s_field_product : Stmt := top 6
def N_field_product : List Str := ["q", "a", "b"]
def b_field_product : SF :=
  (fSeq (fIf (tst (eBin (eqS false) (eVar 0) (eC (.int 0)))) (fRet (eCallD 2 F_fraction (aCons (eMulF finF (eIx (eVar 1) (eC (.int 0))) (eIx (eVar 2) (eC (.int 0)))) (aCons (eMulF finF (eIx (eVar 1) (eC (.int 1))) (eIx (eVar 2) (eC (.int 1)))) aNil)))) fNil)
  (fRet (eIf (tst (eBin (eqS false) (eVar 0) (eC (.int 4)))) (eIx (eIx (eC k_TIMES_FOUR) (eVar 1)) (eVar 2)) (eMod (eCall intS (aCons (eMulF finF (eVar 1) (eVar 2)) aNil)) (eVar 0)))))
def F_field_product : FD := runD handF 3 b_field_product
abbrev s_field_inverse : Stmt := top 8
def E_field_inverse_1 : EF :=
  (eVar 2)
def T_field_inverse_1 : TF :=
  (tst (eBin (eqS false) (eMod (eCall intS (aCons (eMulF finF (eVar 1) (eVar 2)) aNil)) (eVar 0)) (eC (.int 1))))
def C_field_inverse_1 : EF :=
  (eLc finF (iRg (rg2 (eC (.int 1)) (eVar 0))) (gNm 2) T_field_inverse_1 E_field_inverse_1 [2])
def N_field_inverse : List Str := ["q", "a", "b"]
def b_field_inverse : SF :=
  (fSeq (fIf (tst (eBin (eqS false) (eVar 0) (eC (.int 0)))) (fRet (eCallD 2 F_fraction (aCons (eIx (eVar 1) (eC (.int 1))) (aCons (eIx (eVar 1) (eC (.int 0))) aNil)))) fNil)
  (fRet (eIf (tst (eBin (eqS false) (eVar 0) (eC (.int 4)))) (eIx (eC k_BACK_FOUR) (eVar 1)) (eIx C_field_inverse_1 (eC (.int 0))))))
def F_field_inverse : FD := runD handF 3 b_field_inverse
abbrev s_whole_rank : Stmt := top 10
def E_whole_rank_1 : EF :=
  (eCall (listS finF) (aCons (eVar 3) aNil))
def T_whole_rank_1 : TF :=
  (tru (eCall (allS true) (aCons (eVar 3) aNil)))
def C_whole_rank_1 : EF :=
  (eLc finC (iSrc (eVar 1)) (gNm 3) T_whole_rank_1 E_whole_rank_1 [3])
def E_whole_rank_2 : EF :=
  (eVar 7)
def T_whole_rank_2 : TF :=
  (tru (eVar 8))
def C_whole_rank_2 : EF :=
  (eLc finF (iEnm (eVar 5)) (gTupF 2 (gsCons (gNm 7) (gsCons (gNm 8) gsNil))) T_whole_rank_2 E_whole_rank_2 [7, 8])
def E_whole_rank_3 : EF :=
  (eIf (tru (eIx (eVar 3) (eVar 6))) (eCallD 4 F_less_times (aCons (eVar 0) (aCons (eVar 3) (aCons (eVar 5) (aCons (eVar 6) aNil))))) (eVar 3))
def C_whole_rank_3 : EF :=
  (eLc finC (iSrc (eVar 2)) (gNm 3) tYesF E_whole_rank_3 [3])
def E_whole_rank_4 : EF :=
  (eVar 3)
def T_whole_rank_3 : TF :=
  (tru (eCall (allS true) (aCons (eVar 3) aNil)))
def C_whole_rank_4 : EF :=
  (eLc finC (iSrc (eVar 2)) (gNm 3) T_whole_rank_3 E_whole_rank_4 [3])
def B_whole_rank_1 : SF :=
  (fSeq (fSet 5 (eMeth popS (eVar 2) aNil))
  (fSeq (fSet 6 (eIx C_whole_rank_2 (eC (.int 0))))
  (fSeq (fSet 2 C_whole_rank_3)
  (fSeq (fSet 2 C_whole_rank_4)
  (fSet 4 (eAddF finF (eVar 4) (eC (.int 1))))))))
def L_whole_rank_1 : SF :=
  (fWhile (fun Γ S => 100) (tru (eVar 2)) B_whole_rank_1)
def N_whole_rank : List Str := ["q", "rows", "left", "row", "found", "lead", "at", "place", "part"]
def b_whole_rank : SF :=
  (fSeq (fSet 2 C_whole_rank_1)
  (fSeq (fSet 4 (eC (.int 0)))
  (fSeq L_whole_rank_1
  (fRet (eVar 4)))))
def F_whole_rank : FD := runD handF 9 b_whole_rank
abbrev s__law_ratio : Stmt := top 20
def N__law_ratio : List Str := ["n", "d", "shared"]
def b__law_ratio : SF :=
  (fSeq (fSet 2 (eCallD 2 F__law_common (aCons (eVar 0) (aCons (eVar 1) aNil))))
  (fRet (eTup (aCons (eCall intS (aCons (eDiv (eVar 0) (eVar 2)) aNil)) (aCons (eCall intS (aCons (eDiv (eVar 1) (eVar 2)) aNil)) aNil)))))
def F__law_ratio : FD := runD handF 3 b__law_ratio
abbrev s__law_row_rank : Stmt := top 23
def E__law_row_rank_1 : EF :=
  (eCall (listS finF) (aCons (eVar 4) aNil))
def C__law_row_rank_1 : EF :=
  (eLc finF (iSrc (eVar 1)) (gNm 4) tYesF E__law_row_rank_1 [4])
def E__law_row_rank_2 : EF :=
  (eVar 4)
def T__law_row_rank_1 : TF :=
  (tru (eCall (allS true) (aCons (eVar 4) aNil)))
def C__law_row_rank_2 : EF :=
  (eLc finF (iSrc (eVar 2)) (gNm 4) T__law_row_rank_1 E__law_row_rank_2 [4])
def E__law_row_rank_3 : EF :=
  (eVar 9)
def T__law_row_rank_2 : TF :=
  (tst (eBin (eqS true) (eIx (eVar 7) (eVar 9)) (eC (.int 0))))
def C__law_row_rank_3 : EF :=
  (eLc finF (iRg (rg1 (eCall lenS (aCons (eVar 7) aNil)))) (gNm 9) T__law_row_rank_2 E__law_row_rank_3 [9])
def E__law_row_rank_4 : EF :=
  (eCallD 5 F__law_less_times (aCons (eVar 0) (aCons (eIx (eVar 7) (eVar 8)) (aCons (eVar 4) (aCons (eIx (eVar 4) (eVar 8)) (aCons (eVar 7) aNil))))))
def C__law_row_rank_4 : EF :=
  (eLc finF (iSrc (eSl finF (eVar 6) (oSome (eC (.int 1))) oNone)) (gNm 4) tYesF E__law_row_rank_4 [4])
def B__law_row_rank_1 : SF :=
  (fSeq (fSet 6 C__law_row_rank_2)
  (fSeq (fIf (tNotF (tru (eVar 6))) fBreak fNil)
  (fSeq (fSet 7 (eIx (eVar 6) (eC (.int 0))))
  (fSeq (fSet 8 (eIx C__law_row_rank_3 (eC (.int 0))))
  (fSeq (fSet 2 C__law_row_rank_4)
  (fSet 3 (eAddF finF (eVar 3) (eC (.int 1)))))))))
def L__law_row_rank_1 : SF :=
  (fFor (iRg (rg1 (eCall lenS (aCons (eVar 1) aNil)))) (gNm 5) B__law_row_rank_1)
def N__law_row_rank : List Str := ["q", "rows", "left", "found", "row", "turn", "some", "lead", "at", "k"]
def b__law_row_rank : SF :=
  (fSeq (fPar 2 3 (aCons C__law_row_rank_1 (aCons (eC (.int 0)) aNil)))
  (fSeq L__law_row_rank_1
  (fRet (eVar 3))))
def F__law_row_rank : FD := runD handF 10 b__law_row_rank
abbrev s_field_rank : Stmt := top 12
def E_field_rank_1 : EF :=
  (eCallD 1 F_whole_row (aCons (eVar 2) aNil))
def C_field_rank_1 : EF :=
  (eLc finF (iSrc (eVar 1)) (gNm 2) tYesF E_field_rank_1 [2])
def N_field_rank : List Str := ["q", "rows", "row"]
def b_field_rank : SF :=
  (fRet (eCallD 2 F_whole_rank (aCons (eVar 0) (aCons (eIf (tst (eBin (eqS false) (eVar 0) (eC (.int 0)))) C_field_rank_1 (eVar 1)) aNil))))
def F_field_rank : FD := runD handF 3 b_field_rank
abbrev s__law_sum : Stmt := top 25
def N__law_sum : List Str := ["q", "a", "b"]
def b__law_sum : SF :=
  (fSeq (fIf (tst (eBin (eqS false) (eVar 0) (eC (.int 0)))) (fRet (eCallD 2 F__law_ratio (aCons (eAddF finF (eMulF finF (eIx (eVar 1) (eC (.int 0))) (eIx (eVar 2) (eC (.int 1)))) (eMulF finF (eIx (eVar 2) (eC (.int 0))) (eIx (eVar 1) (eC (.int 1))))) (aCons (eMulF finF (eIx (eVar 1) (eC (.int 1))) (eIx (eVar 2) (eC (.int 1)))) aNil)))) fNil)
  (fSeq (fIf (tst (eBin (eqS false) (eVar 0) (eC (.int 4)))) (fRet (eIx (eIx (eLst finF (aCons (eLst finF (aCons (eC (.int 0)) (aCons (eC (.int 1)) (aCons (eC (.int 2)) (aCons (eC (.int 3)) aNil))))) (aCons (eLst finF (aCons (eC (.int 1)) (aCons (eC (.int 0)) (aCons (eC (.int 3)) (aCons (eC (.int 2)) aNil))))) (aCons (eLst finF (aCons (eC (.int 2)) (aCons (eC (.int 3)) (aCons (eC (.int 0)) (aCons (eC (.int 1)) aNil))))) (aCons (eLst finF (aCons (eC (.int 3)) (aCons (eC (.int 2)) (aCons (eC (.int 1)) (aCons (eC (.int 0)) aNil))))) aNil))))) (eVar 1)) (eVar 2))) fNil)
  (fRet (eMod (eCall intS (aCons (eAddF finF (eVar 1) (eVar 2)) aNil)) (eVar 0)))))
def F__law_sum : FD := runD handF 3 b__law_sum
abbrev s__law_product : Stmt := top 26
def N__law_product : List Str := ["q", "a", "b"]
def b__law_product : SF :=
  (fSeq (fIf (tst (eBin (eqS false) (eVar 0) (eC (.int 0)))) (fRet (eCallD 2 F__law_ratio (aCons (eMulF finF (eIx (eVar 1) (eC (.int 0))) (eIx (eVar 2) (eC (.int 0)))) (aCons (eMulF finF (eIx (eVar 1) (eC (.int 1))) (eIx (eVar 2) (eC (.int 1)))) aNil)))) fNil)
  (fSeq (fIf (tst (eBin (eqS false) (eVar 0) (eC (.int 4)))) (fRet (eIx (eIx (eLst finF (aCons (eLst finF (aCons (eC (.int 0)) (aCons (eC (.int 0)) (aCons (eC (.int 0)) (aCons (eC (.int 0)) aNil))))) (aCons (eLst finF (aCons (eC (.int 0)) (aCons (eC (.int 1)) (aCons (eC (.int 2)) (aCons (eC (.int 3)) aNil))))) (aCons (eLst finF (aCons (eC (.int 0)) (aCons (eC (.int 2)) (aCons (eC (.int 3)) (aCons (eC (.int 1)) aNil))))) (aCons (eLst finF (aCons (eC (.int 0)) (aCons (eC (.int 3)) (aCons (eC (.int 1)) (aCons (eC (.int 2)) aNil))))) aNil))))) (eVar 1)) (eVar 2))) fNil)
  (fRet (eMod (eCall intS (aCons (eMulF finF (eVar 1) (eVar 2)) aNil)) (eVar 0)))))
def F__law_product : FD := runD handF 3 b__law_product
abbrev s__law_rank_of : Stmt := top 27
def B__law_rank_of_1 : SF :=
  (fSet 4 (eMulF finF (eVar 4) (eIx (eVar 5) (eC (.int 1)))))
def L__law_rank_of_1 : SF :=
  (fFor (iSrc (eVar 3)) (gNm 5) B__law_rank_of_1)
def E__law_rank_of_1 : EF :=
  (eCall intS (aCons (eDiv (eMulF finF (eIx (eVar 5) (eC (.int 0))) (eVar 4)) (eIx (eVar 5) (eC (.int 1)))) aNil))
def C__law_rank_of_1 : EF :=
  (eLc finF (iSrc (eVar 3)) (gNm 5) tYesF E__law_rank_of_1 [5])
def B__law_rank_of_2 : SF :=
  (fSeq (fSet 4 (eC (.int 1)))
  (fSeq L__law_rank_of_1
  (fExpr (eMeth appendS (eVar 2) (aCons C__law_rank_of_1 aNil)))))
def L__law_rank_of_2 : SF :=
  (fFor (iSrc (eVar 1)) (gNm 3) B__law_rank_of_2)
def N__law_rank_of : List Str := ["q", "rows", "whole", "row", "under", "part"]
def b__law_rank_of : SF :=
  (fSeq (fIf (tst (eBin (iCmp fun i j => decide (j < i)) (eVar 0) (eC (.int 0)))) (fRet (eCallD 2 F__law_row_rank (aCons (eVar 0) (aCons (eVar 1) aNil)))) fNil)
  (fSeq (fSet 2 (eLst finC aNil))
  (fSeq L__law_rank_of_2
  (fRet (eCallD 2 F__law_row_rank (aCons (eC (.int 0)) (aCons (eVar 2) aNil)))))))
def F__law_rank_of : FD := runD handF 6 b__law_rank_of
abbrev s__law_take : Stmt := top 15
def N__law_take : List Str := ["pool", "many", "digit", "cell", "mixed"]
def b__law_take (F : FD) : SF :=
  (fSeq (fIf (tst (eBin (iCmp fun i j => decide (j < i)) (eIx (eVar 0) (eC (.int 2))) (eC (.int 0)))) (fSeq (fSet 2 (eMod (eCall intS (aCons (eIx (eVar 0) (eC (.int 2))) aNil)) (eVar 1)))
  (fSeq (fAsg (eDiv (eIx (eVar 0) (eC (.int 2))) (eVar 1)) (gSubF (eVar 0) (eC (.int 2))))
  (fRet (eVar 2)))) fNil)
  (fSeq (fSet 3 (eC (.int 0)))
  (fSeq (fIf (tst (eBin (iCmp fun i j => decide (i < j)) (eIx (eVar 0) (eC (.int 1))) (eCall lenS (aCons (eIx (eVar 0) (eC (.int 0))) aNil)))) (fSet 3 (eIx (eIx (eVar 0) (eC (.int 0))) (eIx (eVar 0) (eC (.int 1))))) fNil)
  (fSeq (fAsg (eAddF finF (eIx (eVar 0) (eC (.int 1))) (eC (.int 1))) (gSubF (eVar 0) (eC (.int 1))))
  (fSeq (fIf (tst (eBin (iCmp fun i j => decide (j ≤ i)) (eVar 3) (ePow (eC (.int 10)) (eC (.int 18))))) (fSeq (fAsg (eDiv (eVar 3) (eC (.int 2))) (gSubF (eVar 0) (eC (.int 2))))
  (fRet (eCallD 2 F (aCons (eVar 0) (aCons (eVar 1) aNil))))) fNil)
  (fSeq (fAsg (eMod (eCall intS (aCons (eAddF finF (eAddF finF (eMulF finF (eIx (eVar 0) (eC (.int 3))) (eC (.int 48271))) (eMulF finF (eVar 3) (eC (.int 69621)))) (eMulF finF (eIx (eVar 0) (eC (.int 1))) (eC (.int 613)))) aNil)) (eC (.int 2147483647))) (gSubF (eVar 0) (eC (.int 3))))
  (fSeq (fSet 4 (eMod (eCall intS (aCons (eAddF finF (eAddF finF (eMulF finF (eIx (eVar 0) (eC (.int 3))) (eIx (eVar 0) (eC (.int 3)))) (eMulF finF (eIx (eVar 0) (eC (.int 3))) (eC (.int 7919)))) (eC (.int 104729))) aNil)) (eC (.int 1000000007))))
  (fRet (eMod (eCall intS (aCons (eDiv (eVar 4) (eC (.int 3))) aNil)) (eVar 1))))))))))
def F__law_take_at : Nat → FD
  | 0 => fun _ _ => .no
  | n + 1 => runD handF 5 (b__law_take (F__law_take_at n))
def F__law_take : FD := F__law_take_at 3
abbrev s__law_pick : Stmt := top 16
def N__law_pick : List Str := ["pool", "rows"]
def b__law_pick : SF :=
  (fRet (eIx (eVar 1) (eCallD 2 F__law_take (aCons (eVar 0) (aCons (eCall lenS (aCons (eVar 1) aNil)) aNil)))))
def F__law_pick : FD := runD handF 2 b__law_pick
abbrev s__law_given : Stmt := top 21
def N__law_given : List Str := ["pool", "row"]
def b__law_given : SF :=
  (fRet (eIf (tst (eBin (eqS false) (eCallD 2 F__law_take (aCons (eVar 0) (aCons (eC (.int 2)) aNil))) (eC (.int 0)))) (eCall (listS finF) (aCons (eVar 1) aNil)) (eCall tupS (aCons (eVar 1) aNil))))
def F__law_given : FD := runD handF 2 b__law_given
abbrev s__law_number : Stmt := top 24
def N__law_number : List Str := ["pool", "q"]
def b__law_number : SF :=
  (fSeq (fIf (tst (eBin (eqS false) (eVar 1) (eC (.int 0)))) (fRet (eCallD 2 F__law_ratio (aCons (eSub (eCallD 2 F__law_take (aCons (eVar 0) (aCons (eC (.int 25)) aNil))) (eC (.int 12))) (aCons (eAddF finF (eC (.int 1)) (eCallD 2 F__law_take (aCons (eVar 0) (aCons (eC (.int 9)) aNil)))) aNil)))) fNil)
  (fRet (eCallD 2 F__law_take (aCons (eVar 0) (aCons (eVar 1) aNil)))))
def F__law_number : FD := runD handF 2 b__law_number
abbrev s__law_same : Stmt := top 18
def E__law_same_1 (F : FD) : EF :=
  (eCallD 2 F (aCons (eIx (eVar 0) (eVar 2)) (aCons (eIx (eVar 1) (eVar 2)) aNil)))
def C__law_same_1 (F : FD) : EF :=
  (eLc finF (iRg (rg1 (eCall lenS (aCons (eVar 1) aNil)))) (gNm 2) tYesF (E__law_same_1 F) [2])
def E__law_same_2 (F : FD) : EF :=
  (eCallD 2 F (aCons (eIx (eVar 0) (eVar 2)) (aCons (eIx (eVar 1) (eVar 2)) aNil)))
def C__law_same_2 (F : FD) : EF :=
  (eLc finF (iRg (rg1 (eCall lenS (aCons (eVar 1) aNil)))) (gNm 2) tYesF (E__law_same_2 F) [2])
def N__law_same : List Str := ["actual", "due", "k"]
def b__law_same (F : FD) : SF :=
  (fSeq (fIf (tru (eIsi "tuple" (eVar 1))) (fSeq (fIf (tOrF (tNotF (tru (eIsi "tuple" (eVar 0)))) (tst (eBin (eqS true) (eCall lenS (aCons (eVar 0) aNil)) (eCall lenS (aCons (eVar 1) aNil))))) (fRet (eC (.bool false))) fNil)
  (fRet (eCall (allS false) (aCons (C__law_same_1 F) aNil)))) fNil)
  (fSeq (fIf (tru (eIsi "list" (eVar 1))) (fSeq (fIf (tOrF (tNotF (tru (eIsi "list" (eVar 0)))) (tst (eBin (eqS true) (eCall lenS (aCons (eVar 0) aNil)) (eCall lenS (aCons (eVar 1) aNil))))) (fRet (eC (.bool false))) fNil)
  (fRet (eCall (allS false) (aCons (C__law_same_2 F) aNil)))) fNil)
  (fSeq (fIf (tst (eBin (isNS false) (eVar 1) (eC .none))) (fRet (eBin (isNS false) (eVar 0) (eC .none))) fNil)
  (fSeq (fIf (tru (eIsi "bool" (eVar 1))) (fRet (eAndF (eIsi "bool" (eVar 0)) (eBin (eqS false) (eVar 0) (eVar 1)))) fNil)
  (fSeq (fIf (tru (eIsi "str" (eVar 1))) (fRet (eAndF (eIsi "str" (eVar 0)) (eBin (eqS false) (eVar 0) (eVar 1)))) fNil)
  (fRet (eAndF (eCallD 1 F__law_is_integer (aCons (eVar 0) aNil)) (eBin (eqS false) (eVar 0) (eVar 1)))))))))
def F__law_same_at : Nat → FD
  | 0 => fun _ _ => .no
  | n + 1 => runD handF 3 (b__law_same (F__law_same_at n))
def F__law_same : FD := F__law_same_at 6
abbrev s__law_so : Stmt := top 28
def B__law_so_1 : SF :=
  (fSeq (fPar 5 6 (aCons (eCallD 2 F__law_number (aCons (eVar 0) (aCons (eVar 1) aNil))) (aCons (eCallD 2 F__law_number (aCons (eVar 0) (aCons (eVar 1) aNil))) aNil)))
  (fSeq (fIf (tNotF (tru (eCallD 2 F__law_same (aCons (eTup (aCons (eCallD 3 F_field_sum (aCons (eVar 1) (aCons (eVar 5) (aCons (eVar 6) aNil)))) (aCons (eCallD 3 F_field_product (aCons (eVar 1) (aCons (eVar 5) (aCons (eVar 6) aNil)))) aNil))) (aCons (eTup (aCons (eCallD 3 F__law_sum (aCons (eVar 1) (aCons (eVar 5) (aCons (eVar 6) aNil)))) (aCons (eCallD 3 F__law_product (aCons (eVar 1) (aCons (eVar 5) (aCons (eVar 6) aNil)))) aNil))) aNil))))) (fRet (eC (.bool false))) fNil)
  (fSeq (fIf (tNotF (tru (eCallD 2 F__law_same (aCons (eCallD 3 F__law_sum (aCons (eVar 1) (aCons (eVar 5) (aCons (eCallD 2 F_field_opposite (aCons (eVar 1) (aCons (eVar 5) aNil))) aNil)))) (aCons (eVar 2) aNil))))) (fRet (eC (.bool false))) fNil)
  (fIf (tAndF (tst (eBin (eqS true) (eVar 5) (eVar 2))) (tNotF (tru (eCallD 2 F__law_same (aCons (eCallD 3 F__law_product (aCons (eVar 1) (aCons (eVar 5) (aCons (eCallD 2 F_field_inverse (aCons (eVar 1) (aCons (eVar 5) aNil))) aNil)))) (aCons (eVar 3) aNil)))))) (fRet (eC (.bool false))) fNil))))
def L__law_so_1 : SF :=
  (fFor (iRg (rg1 (eC (.int 8)))) (gNm 4) B__law_so_1)
def E__law_so_1 : EF :=
  (eCallD 2 F__law_pick (aCons (eVar 0) (aCons (eLst finF (aCons (eVar 2) (aCons (eCallD 2 F__law_number (aCons (eVar 0) (aCons (eVar 1) aNil))) aNil))) aNil)))
def C__law_so_1 : EF :=
  (eLc finF (iRg (rg1 (eVar 7))) (gNm 9) tYesF E__law_so_1 [9])
def E__law_so_2 : EF :=
  C__law_so_1
def C__law_so_2 : EF :=
  (eLc finC (iRg (rg1 (eCallD 2 F__law_take (aCons (eVar 0) (aCons (eC (.int 6)) aNil))))) (gNm 4) tYesF E__law_so_2 [4])
def E__law_so_3 : EF :=
  (eCallD 3 F__law_sum (aCons (eVar 1) (aCons (eIx (eIx (eVar 8) (eC (.int 1))) (eVar 9)) (aCons (eCallD 3 F__law_product (aCons (eVar 1) (aCons (eVar 10) (aCons (eIx (eIx (eVar 8) (eNeg (eC (.int 1)))) (eVar 9)) aNil)))) aNil))))
def C__law_so_3 : EF :=
  (eLc finF (iRg (rg1 (eVar 7))) (gNm 9) tYesF E__law_so_3 [9])
def E__law_so_4 : EF :=
  (eCallD 2 F__law_given (aCons (eVar 0) (aCons (eVar 11) aNil)))
def C__law_so_4 : EF :=
  (eLc finF (iSrc (eVar 8)) (gNm 11) tYesF E__law_so_4 [11])
def N__law_so : List Str := ["pool", "q", "none", "one", "turn", "a", "b", "many", "rows", "k", "times", "row"]
def b__law_so : SF :=
  (fSeq (fAsg (eIf (tst (eBin (eqS false) (eVar 1) (eC (.int 0)))) (eTup (aCons (eTup (aCons (eC (.int 0)) (aCons (eC (.int 1)) aNil))) (aCons (eTup (aCons (eC (.int 1)) (aCons (eC (.int 1)) aNil))) aNil))) (eTup (aCons (eC (.int 0)) (aCons (eC (.int 1)) aNil)))) (gTupF 2 (gsCons (gNm 2) (gsCons (gNm 3) gsNil))))
  (fSeq L__law_so_1
  (fSeq (fSet 7 (eCallD 2 F__law_take (aCons (eVar 0) (aCons (eC (.int 5)) aNil))))
  (fSeq (fSet 8 C__law_so_2)
  (fSeq (fIf (tAndF (tst (eBin (iCmp fun i j => decide (j < i)) (eCall lenS (aCons (eVar 8) aNil)) (eC (.int 1)))) (tst (eBin (eqS false) (eCallD 2 F__law_take (aCons (eVar 0) (aCons (eC (.int 2)) aNil))) (eC (.int 0))))) (fSeq (fSet 10 (eCallD 2 F__law_number (aCons (eVar 0) (aCons (eVar 1) aNil))))
  (fAsg C__law_so_3 (gSubF (eVar 8) (eC (.int 0))))) fNil)
  (fRet (eCallD 2 F__law_same (aCons (eCallD 2 F_field_rank (aCons (eVar 1) (aCons (eCallD 2 F__law_given (aCons (eVar 0) (aCons C__law_so_4 aNil))) aNil))) (aCons (eCallD 2 F__law_rank_of (aCons (eVar 1) (aCons (eVar 8) aNil))) aNil)))))))))
def F__law_so : FD := runD handF 12 b__law_so
abbrev s__law_always : Stmt := top 29
def N__law_always : List Str := ["told"]
def b__law_always : SF :=
  (fSeq (fSet 0 (eLst finF (aCons (eCallD 2 F_field_inverse (aCons (eC (.int 0)) (aCons (eTup (aCons (eNeg (eC (.int 2))) (aCons (eC (.int 3)) aNil))) aNil))) (aCons (eCallD 2 F_field_inverse (aCons (eC (.int 4)) (aCons (eC (.int 2)) aNil))) (aCons (eCallD 2 F_field_inverse (aCons (eC (.int 4)) (aCons (eC (.int 3)) aNil))) (aCons (eCallD 2 F_field_opposite (aCons (eC (.int 5)) (aCons (eC (.int 0)) aNil))) (aCons (eCallD 2 F_field_opposite (aCons (eC (.int 0)) (aCons (eTup (aCons (eC (.int 1)) (aCons (eC (.int 2)) aNil))) aNil))) (aCons (eCallD 2 F_field_inverse (aCons (eC (.int 97)) (aCons (eC (.int 2)) aNil))) aNil))))))))
  (fSeq (fSet 0 (eAddF finF (eVar 0) (eLst finF (aCons (eCallD 2 F_field_rank (aCons (eC (.int 0)) (aCons (eTup (aCons (eTup (aCons (eTup (aCons (eC (.int 1)) (aCons (eC (.int 2)) aNil))) (aCons (eTup (aCons (eC (.int 1)) (aCons (eC (.int 3)) aNil))) aNil))) (aCons (eTup (aCons (eTup (aCons (eC (.int 1)) (aCons (eC (.int 1)) aNil))) (aCons (eTup (aCons (eC (.int 1)) (aCons (eC (.int 1)) aNil))) aNil))) aNil))) aNil))) (aCons (eCallD 2 F_field_rank (aCons (eC (.int 0)) (aCons (eTup (aCons (eTup (aCons (eTup (aCons (eC (.int 1)) (aCons (eC (.int 2)) aNil))) (aCons (eTup (aCons (eC (.int 1)) (aCons (eC (.int 3)) aNil))) aNil))) (aCons (eTup (aCons (eTup (aCons (eC (.int 3)) (aCons (eC (.int 1)) aNil))) (aCons (eTup (aCons (eC (.int 2)) (aCons (eC (.int 1)) aNil))) aNil))) aNil))) aNil))) (aCons (eCallD 2 F_field_rank (aCons (eC (.int 3)) (aCons (eTup aNil) aNil))) aNil))))))
  (fRet (eCallD 2 F__law_same (aCons (eVar 0) (aCons (eLst finF (aCons (eTup (aCons (eNeg (eC (.int 3))) (aCons (eC (.int 2)) aNil))) (aCons (eC (.int 3)) (aCons (eC (.int 2)) (aCons (eC (.int 0)) (aCons (eTup (aCons (eNeg (eC (.int 1))) (aCons (eC (.int 2)) aNil))) (aCons (eC (.int 49)) (aCons (eC (.int 2)) (aCons (eC (.int 1)) (aCons (eC (.int 0)) aNil)))))))))) aNil))))))
def F__law_always : FD := runD handF 1 b__law_always
abbrev s_law : Stmt := top 30
def E_law_1 : EF :=
  (eCallD 2 F__law_so (aCons (eVar 1) (aCons (eVar 2) aNil)))
def C_law_1 : EF :=
  (eLc finF (iSrc (eTup (aCons (eC (.int 0)) (aCons (eC (.int 2)) (aCons (eC (.int 4)) (aCons (eCallD 2 F__law_pick (aCons (eVar 1) (aCons (eLst finF (aCons (eC (.int 3)) (aCons (eC (.int 5)) (aCons (eC (.int 7)) (aCons (eC (.int 11)) (aCons (eC (.int 13)) aNil)))))) aNil))) (aCons (eCallD 2 F__law_pick (aCons (eVar 1) (aCons (eLst finF (aCons (eC (.int 31)) (aCons (eC (.int 53)) (aCons (eC (.int 89)) (aCons (eC (.int 97)) aNil))))) aNil))) aNil))))))) (gNm 2) tYesF E_law_1 [2])
def N_law : List Str := ["script", "pool", "q"]
def b_law : SF :=
  (fSeq (fSet 1 (eCallD 1 F__law_pool (aCons (eVar 0) aNil)))
  (fSeq (fIf (tNotF (tru (eCall0 F__law_always))) (fRet (eC (.bool false))) fNil)
  (fRet (eCall (allS false) (aCons C_law_1 aNil)))))
def F_law : FD := runD handF 3 b_law
end G06
namespace G06
open PySem L2 DL
/-! ### 1. fractions -/
theorem gcd_pos {t u : Int} (hu : u ≠ 0) : (0 : Int) < Int.gcd t u := Int.ofNat_lt.mpr (Int.gcd_pos_of_ne_zero_right t hu)
theorem gcd_le {t u : Int} (hu : u ≠ 0) : (Int.gcd t u : Int) ≤ u.natAbs := Int.ofNat_le.mpr (Nat.le_of_dvd (Int.natAbs_pos.mpr hu) (Nat.gcd_dvd_right _ _))
theorem gcd_step {a b : Int} (ha : 0 ≤ a) (hb : 0 ≤ b) : Int.gcd b (a % b) = Int.gcd a b := by
  show Nat.gcd b.natAbs (a % b).natAbs = Nat.gcd a.natAbs b.natAbs
  rw [Int.natAbs_emod_of_nonneg ha, Nat.gcd_comm a.natAbs, Nat.gcd_rec b.natAbs a.natAbs, Nat.gcd_comm]
/-- a fraction in its lowest terms -/
def rat (t u : Int) : PyData := .tuple [.int (t / Int.gcd t u), .int (u / Int.gcd t u)]
theorem fraction_eq (t u : Int) (S : Store) (hu : 0 < u) (hs : u < 1000000) : F_fraction [.d (.int t), .d (.int u)] S = .ok (.d (rat t u)) S := by
  have h0 : ¬ u < 0 := by omega
  have g0 := gcd_pos (t := t) (u := u) (by omega)
  have g1 := gcd_le (t := t) (u := u) (by omega)
  have d1 : ∀ i, divC i (Int.gcd t u) = true := fun i => divC_of (by omega) (by omega)
  simp -implicitDefEqProofs only [F_fraction, b_fraction, fSeq_eq, seqK_nx, seqK_rt, seqK_bk, seqK_ct, seqK_ite, eVar_0, eVar_s, bind_ok, sB_ok, eC_eq, eBin_eq, eUn_eq, iOp0_eq, iCmp_eq, tst_eq, addI, negI, fSet_eq, fRet_eq, fExpr_eq, fIf_eq, fAsg_eq, fPar_eq, fNil_eq, fBreak_eq, fCont_eq, gNm_eq, gsNil_eq, gsCons_eq, aNil_eq, aCons_eq, eCall_eq, eCallD_eq, intS_eq, absS_eq, mmS_eq, len_l, len_t, list_l, list_t, tup_l, tup_t, finF_eq, finC_eq, allD_nil, allD_cons, eTup_eq, eLst_eq, eIf_eq, runD_eq, hand_rt, handF_d, take_self, srcS_l, srcS_t, iSrc_eq, iZip_eq, zip_l, iEnm_eq, enum_l, pix0, pix1, pix2, pix3, pset1, pset2, pset3, gSub_eq, tYes_eq, eAdd_eq, eSub_eq, eMul_eq, eDiv_eq, eMod_eq, ePow_eq, eXor_eq, eNeg_eq, eIx_eq, eqI_t, eqI_f, tNot_eq, tAnd_eq, tOr_eq, tru_eq, tru_bool, tru_int, tru_list, eAnd_eq, eNot_eq, isi_eq, asD_d, List.length_cons, List.length_nil, List.map_cons, List.map_nil, List.cons_append, List.nil_append, List.append_nil, List.set_cons_succ, List.set_cons_zero, List.replicate_succ, List.replicate_zero, Option.map_some, if_true, if_false, reduceIte, Nat.reduceAdd, Nat.reduceSub, Nat.reduceLeDiff, List.length_map, Nat.reduceEqDiff, Bool.false_eq_true, Bool.not_false, Bool.not_true, ne_eq, not_true_eq_false, not_false_eq_true, decide_true, decide_false, eq_self, hand_rt, decide_eq_true_eq, h0, iOp_eq _ _ _ _ _ (d1 _), fdiv_pos (Int.le_of_lt g0)]
  rfl
theorem fraction_neg (t u : Int) (S : Store) (hu : u < 0) (hs : -1000000 < u) : F_fraction [.d (.int t), .d (.int u)] S = .ok (.d (.tuple [.int (t.fdiv (-(Int.gcd t u))), .int (u.fdiv (-(Int.gcd t u)))])) S := by
  have g0 := gcd_pos (t := t) (u := u) (by omega)
  have g1 := gcd_le (t := t) (u := u) (by omega)
  have d1 : ∀ i, divC i (-(Int.gcd t u)) = true := fun i => divC_of (by omega) (by omega)
  simp -implicitDefEqProofs only [F_fraction, b_fraction, fSeq_eq, seqK_nx, seqK_rt, seqK_bk, seqK_ct, seqK_ite, eVar_0, eVar_s, bind_ok, sB_ok, eC_eq, eBin_eq, eUn_eq, iOp0_eq, iCmp_eq, tst_eq, addI, negI, fSet_eq, fRet_eq, fExpr_eq, fIf_eq, fAsg_eq, fPar_eq, fNil_eq, fBreak_eq, fCont_eq, gNm_eq, gsNil_eq, gsCons_eq, aNil_eq, aCons_eq, eCall_eq, eCallD_eq, intS_eq, absS_eq, mmS_eq, len_l, len_t, list_l, list_t, tup_l, tup_t, finF_eq, finC_eq, allD_nil, allD_cons, eTup_eq, eLst_eq, eIf_eq, runD_eq, hand_rt, handF_d, take_self, srcS_l, srcS_t, iSrc_eq, iZip_eq, zip_l, iEnm_eq, enum_l, pix0, pix1, pix2, pix3, pset1, pset2, pset3, gSub_eq, tYes_eq, eAdd_eq, eSub_eq, eMul_eq, eDiv_eq, eMod_eq, ePow_eq, eXor_eq, eNeg_eq, eIx_eq, eqI_t, eqI_f, tNot_eq, tAnd_eq, tOr_eq, tru_eq, tru_bool, tru_int, tru_list, eAnd_eq, eNot_eq, isi_eq, asD_d, List.length_cons, List.length_nil, List.map_cons, List.map_nil, List.cons_append, List.nil_append, List.append_nil, List.set_cons_succ, List.set_cons_zero, List.replicate_succ, List.replicate_zero, Option.map_some, if_true, if_false, reduceIte, Nat.reduceAdd, Nat.reduceSub, Nat.reduceLeDiff, List.length_map, Nat.reduceEqDiff, Bool.false_eq_true, Bool.not_false, Bool.not_true, ne_eq, not_true_eq_false, not_false_eq_true, decide_true, decide_false, eq_self, hand_rt, decide_eq_true_eq, hu, iOp_eq _ _ _ _ _ (d1 _)]
theorem common_eq (n d : Int) (S : Store) (hd : 0 < d) (hd2 : d < 19000) : F__law_common [.d (.int n), .d (.int d)] S = .ok (.d (.int (Int.gcd n d))) S := by
  have e0 : ∀ Γ : Ev, iRg (rg1 (eC (.int 20000))) Γ S = .ok ⟨rgD 0 20000, fun _ => true⟩ S := fun Γ => by
    simp -implicitDefEqProofs only [iRg_eq, rg1_eq, fSeq_eq, seqK_nx, seqK_rt, seqK_bk, seqK_ct, seqK_ite, eVar_0, eVar_s, bind_ok, sB_ok, eC_eq, eBin_eq, eUn_eq, iOp0_eq, iCmp_eq, tst_eq, addI, negI, fSet_eq, fRet_eq, fExpr_eq, fIf_eq, fAsg_eq, fPar_eq, fNil_eq, fBreak_eq, fCont_eq, gNm_eq, gsNil_eq, gsCons_eq, aNil_eq, aCons_eq, eCall_eq, eCallD_eq, intS_eq, absS_eq, mmS_eq, len_l, len_t, list_l, list_t, tup_l, tup_t, finF_eq, finC_eq, allD_nil, allD_cons, eTup_eq, eLst_eq, eIf_eq, runD_eq, hand_rt, handF_d, take_self, srcS_l, srcS_t, iSrc_eq, iZip_eq, zip_l, iEnm_eq, enum_l, pix0, pix1, pix2, pix3, pset1, pset2, pset3, gSub_eq, tYes_eq, eAdd_eq, eSub_eq, eMul_eq, eDiv_eq, eMod_eq, ePow_eq, eXor_eq, eNeg_eq, eIx_eq, eqI_t, eqI_f, tNot_eq, tAnd_eq, tOr_eq, tru_eq, tru_bool, tru_int, tru_list, eAnd_eq, eNot_eq, isi_eq, asD_d, List.length_cons, List.length_nil, List.map_cons, List.map_nil, List.cons_append, List.nil_append, List.append_nil, List.set_cons_succ, List.set_cons_zero, List.replicate_succ, List.replicate_zero, Option.map_some, if_true, if_false, reduceIte, Nat.reduceAdd, Nat.reduceSub, Nat.reduceLeDiff, List.length_map, Nat.reduceEqDiff, Bool.false_eq_true, Bool.not_false, Bool.not_true, ne_eq, not_true_eq_false, not_false_eq_true, decide_true, decide_false, eq_self, hand_rt, decide_eq_true_eq]
    exact rgSrc_eq S (by decide)
  have hl : (rgD 0 20000).length = 20000 := by unfold rgD; simp
  let Q : Fl → Store → Prop := fun fl S' => ∃ o t, fl = .nx [some (.d (.int (Int.gcd n d))), o, t] ∧ S' = S
  let I : List PyData → Ev → Store → Prop := fun ds Γ S' => ∃ one other t, Γ = [some (.d (.int one)), some (.d (.int other)), t] ∧ S' = S ∧ 0 ≤ one ∧ 0 ≤ other ∧ other < 19000 ∧ other < ds.length ∧ Int.gcd one other = Int.gcd n d
  have hq : ∀ (Γ : Ev), I (rgD 0 20000) Γ S → (L__law_common_1 Γ S).Ret Q := fun Γ hI => by
    unfold L__law_common_1
    rw [fFor_eq (e0 Γ)]
    refine forL_ret I Q (fun _ _ _ _ => rfl) (fun Γ S' h => ?_) (fun x ds Γ S' h => ?_) _ Γ S hI
    · obtain ⟨one, other, t, rfl, rfl, h1, h2, h3, h4, h5⟩ := h
      simp at h4
      omega
    · obtain ⟨one, other, t, rfl, rfl, h1, h2, h3, h4, h5⟩ := h
      by_cases ho : other = 0
      · subst ho
        simp -implicitDefEqProofs only [fSeq_eq, seqK_nx, seqK_rt, seqK_bk, seqK_ct, seqK_ite, eVar_0, eVar_s, bind_ok, sB_ok, eC_eq, eBin_eq, eUn_eq, iOp0_eq, iCmp_eq, tst_eq, addI, negI, fSet_eq, fRet_eq, fExpr_eq, fIf_eq, fAsg_eq, fPar_eq, fNil_eq, fBreak_eq, fCont_eq, gNm_eq, gsNil_eq, gsCons_eq, aNil_eq, aCons_eq, eCall_eq, eCallD_eq, intS_eq, absS_eq, mmS_eq, len_l, len_t, list_l, list_t, tup_l, tup_t, finF_eq, finC_eq, allD_nil, allD_cons, eTup_eq, eLst_eq, eIf_eq, runD_eq, hand_rt, handF_d, take_self, srcS_l, srcS_t, iSrc_eq, iZip_eq, zip_l, iEnm_eq, enum_l, pix0, pix1, pix2, pix3, pset1, pset2, pset3, gSub_eq, tYes_eq, eAdd_eq, eSub_eq, eMul_eq, eDiv_eq, eMod_eq, ePow_eq, eXor_eq, eNeg_eq, eIx_eq, eqI_t, eqI_f, tNot_eq, tAnd_eq, tOr_eq, tru_eq, tru_bool, tru_int, tru_list, eAnd_eq, eNot_eq, isi_eq, asD_d, List.length_cons, List.length_nil, List.map_cons, List.map_nil, List.cons_append, List.nil_append, List.append_nil, List.set_cons_succ, List.set_cons_zero, List.replicate_succ, List.replicate_zero, Option.map_some, if_true, if_false, reduceIte, Nat.reduceAdd, Nat.reduceSub, Nat.reduceLeDiff, List.length_map, Nat.reduceEqDiff, Bool.false_eq_true, Bool.not_false, Bool.not_true, ne_eq, not_true_eq_false, not_false_eq_true, decide_true, decide_false, eq_self, hand_rt, decide_eq_true_eq, Ret_ok, B__law_common_1]
        refine ⟨some (.d (.int 0)), some (.d x), ?_, rfl⟩
        rw [← h5, Int.gcd_zero_right, Int.natAbs_of_nonneg h1]
      · have d1 : divC one other = true := divC_of ho (by omega)
        have m1 : ∀ k, mulC other k = true := fun k => mulC_l (by omega) (by omega)
        simp -implicitDefEqProofs only [fSeq_eq, seqK_nx, seqK_rt, seqK_bk, seqK_ct, seqK_ite, eVar_0, eVar_s, bind_ok, sB_ok, eC_eq, eBin_eq, eUn_eq, iOp0_eq, iCmp_eq, tst_eq, addI, negI, fSet_eq, fRet_eq, fExpr_eq, fIf_eq, fAsg_eq, fPar_eq, fNil_eq, fBreak_eq, fCont_eq, gNm_eq, gsNil_eq, gsCons_eq, aNil_eq, aCons_eq, eCall_eq, eCallD_eq, intS_eq, absS_eq, mmS_eq, len_l, len_t, list_l, list_t, tup_l, tup_t, finF_eq, finC_eq, allD_nil, allD_cons, eTup_eq, eLst_eq, eIf_eq, runD_eq, hand_rt, handF_d, take_self, srcS_l, srcS_t, iSrc_eq, iZip_eq, zip_l, iEnm_eq, enum_l, pix0, pix1, pix2, pix3, pset1, pset2, pset3, gSub_eq, tYes_eq, eAdd_eq, eSub_eq, eMul_eq, eDiv_eq, eMod_eq, ePow_eq, eXor_eq, eNeg_eq, eIx_eq, eqI_t, eqI_f, tNot_eq, tAnd_eq, tOr_eq, tru_eq, tru_bool, tru_int, tru_list, eAnd_eq, eNot_eq, isi_eq, asD_d, List.length_cons, List.length_nil, List.map_cons, List.map_nil, List.cons_append, List.nil_append, List.append_nil, List.set_cons_succ, List.set_cons_zero, List.replicate_succ, List.replicate_zero, Option.map_some, if_true, if_false, reduceIte, Nat.reduceAdd, Nat.reduceSub, Nat.reduceLeDiff, List.length_map, Nat.reduceEqDiff, Bool.false_eq_true, Bool.not_false, Bool.not_true, ne_eq, not_true_eq_false, not_false_eq_true, decide_true, decide_false, eq_self, hand_rt, decide_eq_true_eq, Ret_ok, B__law_common_1, ho, iOp_eq _ _ _ _ _ d1, mulI _ _ (m1 _), fdiv_pos h2]
        have e1 : one - other * (one / other) = one % other := by
          have := Int.mul_ediv_add_emod one other
          omega
        have e2 := Int.emod_nonneg one ho
        have e3 := Int.emod_lt_of_pos one (b := other) (by omega)
        rw [e1]
        refine ⟨_, _, _, rfl, rfl, h2, e2, by omega, ?_, ?_⟩
        · simp only [List.length_cons] at h4
          omega
        · rw [← h5]
          exact gcd_step h1 h2
  have a0 : ∀ n : Int, 0 ≤ (if n < 0 then -n else n) := fun n => by split <;> omega
  have hq2 := hq [some (.d (.int (if n < 0 then -n else n))), some (.d (.int (if d < 0 then -d else d))), none] ⟨_, _, _, rfl, rfl, a0 n, a0 d, by split <;> omega, by rw [hl]; split <;> omega, by
    have b0 : ∀ n : Int, (if n < 0 then -n else n).natAbs = n.natAbs := fun n => by split <;> omega
    show Nat.gcd _ _ = Nat.gcd _ _
    rw [b0, b0]⟩
  obtain ⟨fl, S', e, ⟨o, t, rfl, rfl⟩⟩ := hq2.ok
  simp -implicitDefEqProofs only [F__law_common, b__law_common, fSeq_eq, seqK_nx, seqK_rt, seqK_bk, seqK_ct, seqK_ite, eVar_0, eVar_s, bind_ok, sB_ok, eC_eq, eBin_eq, eUn_eq, iOp0_eq, iCmp_eq, tst_eq, addI, negI, fSet_eq, fRet_eq, fExpr_eq, fIf_eq, fAsg_eq, fPar_eq, fNil_eq, fBreak_eq, fCont_eq, gNm_eq, gsNil_eq, gsCons_eq, aNil_eq, aCons_eq, eCall_eq, eCallD_eq, intS_eq, absS_eq, mmS_eq, len_l, len_t, list_l, list_t, tup_l, tup_t, finF_eq, finC_eq, allD_nil, allD_cons, eTup_eq, eLst_eq, eIf_eq, runD_eq, hand_rt, handF_d, take_self, srcS_l, srcS_t, iSrc_eq, iZip_eq, zip_l, iEnm_eq, enum_l, pix0, pix1, pix2, pix3, pset1, pset2, pset3, gSub_eq, tYes_eq, eAdd_eq, eSub_eq, eMul_eq, eDiv_eq, eMod_eq, ePow_eq, eXor_eq, eNeg_eq, eIx_eq, eqI_t, eqI_f, tNot_eq, tAnd_eq, tOr_eq, tru_eq, tru_bool, tru_int, tru_list, eAnd_eq, eNot_eq, isi_eq, asD_d, List.length_cons, List.length_nil, List.map_cons, List.map_nil, List.cons_append, List.nil_append, List.append_nil, List.set_cons_succ, List.set_cons_zero, List.replicate_succ, List.replicate_zero, Option.map_some, if_true, if_false, reduceIte, Nat.reduceAdd, Nat.reduceSub, Nat.reduceLeDiff, List.length_map, Nat.reduceEqDiff, Bool.false_eq_true, Bool.not_false, Bool.not_true, ne_eq, not_true_eq_false, not_false_eq_true, decide_true, decide_false, eq_self, hand_rt, decide_eq_true_eq, e]
theorem ratio_eq (n d : Int) (S : Store) (hd : 0 < d) (hd2 : d < 19000) : F__law_ratio [.d (.int n), .d (.int d)] S = .ok (.d (rat n d)) S := by
  have g0 := gcd_pos (t := n) (u := d) (by omega)
  have g1 := gcd_le (t := n) (u := d) (by omega)
  have d1 : ∀ i, divC i (Int.gcd n d) = true := fun i => divC_of (by omega) (by omega)
  simp -implicitDefEqProofs only [F__law_ratio, b__law_ratio, fSeq_eq, seqK_nx, seqK_rt, seqK_bk, seqK_ct, seqK_ite, eVar_0, eVar_s, bind_ok, sB_ok, eC_eq, eBin_eq, eUn_eq, iOp0_eq, iCmp_eq, tst_eq, addI, negI, fSet_eq, fRet_eq, fExpr_eq, fIf_eq, fAsg_eq, fPar_eq, fNil_eq, fBreak_eq, fCont_eq, gNm_eq, gsNil_eq, gsCons_eq, aNil_eq, aCons_eq, eCall_eq, eCallD_eq, intS_eq, absS_eq, mmS_eq, len_l, len_t, list_l, list_t, tup_l, tup_t, finF_eq, finC_eq, allD_nil, allD_cons, eTup_eq, eLst_eq, eIf_eq, runD_eq, hand_rt, handF_d, take_self, srcS_l, srcS_t, iSrc_eq, iZip_eq, zip_l, iEnm_eq, enum_l, pix0, pix1, pix2, pix3, pset1, pset2, pset3, gSub_eq, tYes_eq, eAdd_eq, eSub_eq, eMul_eq, eDiv_eq, eMod_eq, ePow_eq, eXor_eq, eNeg_eq, eIx_eq, eqI_t, eqI_f, tNot_eq, tAnd_eq, tOr_eq, tru_eq, tru_bool, tru_int, tru_list, eAnd_eq, eNot_eq, isi_eq, asD_d, List.length_cons, List.length_nil, List.map_cons, List.map_nil, List.cons_append, List.nil_append, List.append_nil, List.set_cons_succ, List.set_cons_zero, List.replicate_succ, List.replicate_zero, Option.map_some, if_true, if_false, reduceIte, Nat.reduceAdd, Nat.reduceSub, Nat.reduceLeDiff, List.length_map, Nat.reduceEqDiff, Bool.false_eq_true, Bool.not_false, Bool.not_true, ne_eq, not_true_eq_false, not_false_eq_true, decide_true, decide_false, eq_self, hand_rt, decide_eq_true_eq, common_eq n d _ hd hd2, iOp_eq _ _ _ _ _ (d1 _), fdiv_pos (Int.le_of_lt g0)]
  rfl
/-! ### 2. the pool -/
theorem take_rest (cells : List Int) (at_ rest seed many : Int) (R : Store) (ha : 0 ≤ at_) (hr : 0 < rest) (hm : 0 < many) (hm2 : many < 1000) (n : Nat) :
    (F__law_take_at (n + 1) [.cell 0, .d (.int many)] (.lst [.list (cells.map .int), .int at_, .int rest, .int seed] :: R)).Ret fun v S' => ∃ d P', v = .d (.int d) ∧ 0 ≤ d ∧ d < many ∧ S' = P' :: R ∧ PoolOk P' := by
  have d1 : ∀ i, divC i many = true := fun i => divC_of (by omega) (by omega)
  have m1 : ∀ i, modC i many = true := fun i => modC_of (by omega)
  simp -implicitDefEqProofs only [F__law_take_at, b__law_take, fSeq_eq, seqK_nx, seqK_rt, seqK_bk, seqK_ct, seqK_ite, eVar_0, eVar_s, bind_ok, sB_ok, eC_eq, eBin_eq, eUn_eq, iOp0_eq, iCmp_eq, tst_eq, addI, negI, fSet_eq, fRet_eq, fExpr_eq, fIf_eq, fAsg_eq, fPar_eq, fNil_eq, fBreak_eq, fCont_eq, gNm_eq, gsNil_eq, gsCons_eq, aNil_eq, aCons_eq, eCall_eq, eCallD_eq, intS_eq, absS_eq, mmS_eq, len_l, len_t, list_l, list_t, tup_l, tup_t, finF_eq, finC_eq, allD_nil, allD_cons, eTup_eq, eLst_eq, eIf_eq, runD_eq, hand_rt, handF_d, take_self, srcS_l, srcS_t, iSrc_eq, iZip_eq, zip_l, iEnm_eq, enum_l, pix0, pix1, pix2, pix3, pset1, pset2, pset3, gSub_eq, tYes_eq, eAdd_eq, eSub_eq, eMul_eq, eDiv_eq, eMod_eq, ePow_eq, eXor_eq, eNeg_eq, eIx_eq, eqI_t, eqI_f, tNot_eq, tAnd_eq, tOr_eq, tru_eq, tru_bool, tru_int, tru_list, eAnd_eq, eNot_eq, isi_eq, asD_d, List.length_cons, List.length_nil, List.map_cons, List.map_nil, List.cons_append, List.nil_append, List.append_nil, List.set_cons_succ, List.set_cons_zero, List.replicate_succ, List.replicate_zero, Option.map_some, if_true, if_false, reduceIte, Nat.reduceAdd, Nat.reduceSub, Nat.reduceLeDiff, List.length_map, Nat.reduceEqDiff, Bool.false_eq_true, Bool.not_false, Bool.not_true, ne_eq, not_true_eq_false, not_false_eq_true, decide_true, decide_false, eq_self, hand_rt, decide_eq_true_eq, iOp_eq _ _ _ _ _ (d1 _), iOp_eq _ _ _ _ _ (m1 _), hr, fmod_pos (Int.le_of_lt hm), Ret_ok]
  exact ⟨_, _, rfl, Int.emod_nonneg _ (by omega), Int.emod_lt_of_pos _ hm, tk1 _ _, cells, at_, _, seed, rfl, ha⟩
theorem take_ok (P : MO) (many : Int) (R : Store) (hP : PoolOk P) (hm : 0 < many) (hm2 : many < 1000) : (F__law_take [.cell 0, .d (.int many)] (P :: R)).Ret fun v S' => ∃ d P', v = .d (.int d) ∧ 0 ≤ d ∧ d < many ∧ S' = P' :: R ∧ PoolOk P' := by
  obtain ⟨cells, at_, rest, seed, rfl, ha⟩ := hP
  by_cases hr : 0 < rest
  · exact take_rest cells at_ rest seed many R ha hr hm hm2 2
  · have d1 : ∀ i, divC i 2 = true := fun i => divC_of (by decide) (by decide)
    have d3 : ∀ i, divC i 3 = true := fun i => divC_of (by decide) (by decide)
    have m1 : ∀ i, modC i many = true := fun i => modC_of (by omega)
    have m2 : ∀ i, modC i 2147483647 = true := fun i => modC_of (by decide)
    have m3 : ∀ i, modC i 1000000007 = true := fun i => modC_of (by decide)
    have p1 : powC 10 18 = true := by decide
    have c1 : ∀ i, mulC i 48271 = true := fun i => mulC_r (by decide) (by decide)
    have c2 : ∀ i, mulC i 69621 = true := fun i => mulC_r (by decide) (by decide)
    have c3 : ∀ i, mulC i 613 = true := fun i => mulC_r (by decide) (by decide)
    have c4 : ∀ i, mulC i 7919 = true := fun i => mulC_r (by decide) (by decide)
    have c5 : ∀ i j, mulC (i % 2147483647) j = true := fun i j => mulC_l (by have := Int.emod_nonneg i (b := 2147483647) (by decide); omega) (by have := Int.emod_lt_of_pos i (b := 2147483647) (by decide); omega)
    have q0 : (0 : Int) ≤ 2147483647 := by decide
    have q1 : (0 : Int) ≤ 1000000007 := by decide
    have q2 : (0 : Int) ≤ 3 := by decide
    have q3 : (0 : Int) ≤ 2 := by decide
    show (runD handF 5 (b__law_take (F__law_take_at 2)) _ _).Ret _
    by_cases hl : at_ < cells.length
    · have hx : atI (cells.map PyData.int) at_ = some (.int (cells.getD at_.toNat 0)) := by
        have e1 : at_ = (at_.toNat : Int) := by omega
        have e2 : (cells.map PyData.int)[at_.toNat]? = some (.int (cells.getD at_.toNat 0)) := by
          rw [List.getElem?_map, List.getD, List.getElem?_eq_getElem (show at_.toNat < cells.length by omega)]
          rfl
        rw [e1]
        exact ix_nat e2
      by_cases hc : (10 : Int) ^ (18 : Int).toNat ≤ cells.getD at_.toNat 0
      · have hc2 : (0 : Int) < cells.getD at_.toNat 0 / 2 := by
          have : (10 : Int) ^ (18 : Int).toNat = 1000000000000000000 := by decide
          omega
        obtain ⟨v, S', e, d, P', rfl, h1, h2, rfl, h3⟩ := (take_rest cells (at_ + 1) (cells.getD at_.toNat 0 / 2) seed many R (by omega) hc2 hm hm2 1).ok
        simp -implicitDefEqProofs only [b__law_take, fSeq_eq, seqK_nx, seqK_rt, seqK_bk, seqK_ct, seqK_ite, eVar_0, eVar_s, bind_ok, sB_ok, eC_eq, eBin_eq, eUn_eq, iOp0_eq, iCmp_eq, tst_eq, addI, negI, fSet_eq, fRet_eq, fExpr_eq, fIf_eq, fAsg_eq, fPar_eq, fNil_eq, fBreak_eq, fCont_eq, gNm_eq, gsNil_eq, gsCons_eq, aNil_eq, aCons_eq, eCall_eq, eCallD_eq, intS_eq, absS_eq, mmS_eq, len_l, len_t, list_l, list_t, tup_l, tup_t, finF_eq, finC_eq, allD_nil, allD_cons, eTup_eq, eLst_eq, eIf_eq, runD_eq, hand_rt, handF_d, take_self, srcS_l, srcS_t, iSrc_eq, iZip_eq, zip_l, iEnm_eq, enum_l, pix0, pix1, pix2, pix3, pset1, pset2, pset3, gSub_eq, tYes_eq, eAdd_eq, eSub_eq, eMul_eq, eDiv_eq, eMod_eq, ePow_eq, eXor_eq, eNeg_eq, eIx_eq, eqI_t, eqI_f, tNot_eq, tAnd_eq, tOr_eq, tru_eq, tru_bool, tru_int, tru_list, eAnd_eq, eNot_eq, isi_eq, asD_d, List.length_cons, List.length_nil, List.map_cons, List.map_nil, List.cons_append, List.nil_append, List.append_nil, List.set_cons_succ, List.set_cons_zero, List.replicate_succ, List.replicate_zero, Option.map_some, if_true, if_false, reduceIte, Nat.reduceAdd, Nat.reduceSub, Nat.reduceLeDiff, List.length_map, Nat.reduceEqDiff, Bool.false_eq_true, Bool.not_false, Bool.not_true, ne_eq, not_true_eq_false, not_false_eq_true, decide_true, decide_false, eq_self, hand_rt, decide_eq_true_eq, hr, hl, ix_l _ hx, hc, iOp_eq _ _ _ _ _ p1, iOp_eq _ _ _ _ _ (d1 _), fdiv_pos q3, e, Ret_ok]
        exact ⟨_, _, rfl, h1, h2, tk1 _ _, h3⟩
      · simp -implicitDefEqProofs only [b__law_take, fSeq_eq, seqK_nx, seqK_rt, seqK_bk, seqK_ct, seqK_ite, eVar_0, eVar_s, bind_ok, sB_ok, eC_eq, eBin_eq, eUn_eq, iOp0_eq, iCmp_eq, tst_eq, addI, negI, fSet_eq, fRet_eq, fExpr_eq, fIf_eq, fAsg_eq, fPar_eq, fNil_eq, fBreak_eq, fCont_eq, gNm_eq, gsNil_eq, gsCons_eq, aNil_eq, aCons_eq, eCall_eq, eCallD_eq, intS_eq, absS_eq, mmS_eq, len_l, len_t, list_l, list_t, tup_l, tup_t, finF_eq, finC_eq, allD_nil, allD_cons, eTup_eq, eLst_eq, eIf_eq, runD_eq, hand_rt, handF_d, take_self, srcS_l, srcS_t, iSrc_eq, iZip_eq, zip_l, iEnm_eq, enum_l, pix0, pix1, pix2, pix3, pset1, pset2, pset3, gSub_eq, tYes_eq, eAdd_eq, eSub_eq, eMul_eq, eDiv_eq, eMod_eq, ePow_eq, eXor_eq, eNeg_eq, eIx_eq, eqI_t, eqI_f, tNot_eq, tAnd_eq, tOr_eq, tru_eq, tru_bool, tru_int, tru_list, eAnd_eq, eNot_eq, isi_eq, asD_d, List.length_cons, List.length_nil, List.map_cons, List.map_nil, List.cons_append, List.nil_append, List.append_nil, List.set_cons_succ, List.set_cons_zero, List.replicate_succ, List.replicate_zero, Option.map_some, if_true, if_false, reduceIte, Nat.reduceAdd, Nat.reduceSub, Nat.reduceLeDiff, List.length_map, Nat.reduceEqDiff, Bool.false_eq_true, Bool.not_false, Bool.not_true, ne_eq, not_true_eq_false, not_false_eq_true, decide_true, decide_false, eq_self, hand_rt, decide_eq_true_eq, hr, hl, ix_l _ hx, hc, iOp_eq _ _ _ _ _ p1, iOp_eq _ _ _ _ _ (d3 _), iOp_eq _ _ _ _ _ (m1 _), iOp_eq _ _ _ _ _ (m2 _), iOp_eq _ _ _ _ _ (m3 _), mulI _ _ (c1 _), mulI _ _ (c2 _), mulI _ _ (c3 _), fmod_pos q0, mulI _ _ (c4 _), mulI _ _ (c5 _ _), fmod_pos q1, fdiv_pos q2, fmod_pos (Int.le_of_lt hm), Ret_ok]
        exact ⟨_, _, rfl, Int.emod_nonneg _ (by omega), Int.emod_lt_of_pos _ hm, tk1 _ _, cells, _, _, _, rfl, by omega⟩
    · have hc : ¬ (10 : Int) ^ (18 : Int).toNat ≤ 0 := by decide
      simp -implicitDefEqProofs only [b__law_take, fSeq_eq, seqK_nx, seqK_rt, seqK_bk, seqK_ct, seqK_ite, eVar_0, eVar_s, bind_ok, sB_ok, eC_eq, eBin_eq, eUn_eq, iOp0_eq, iCmp_eq, tst_eq, addI, negI, fSet_eq, fRet_eq, fExpr_eq, fIf_eq, fAsg_eq, fPar_eq, fNil_eq, fBreak_eq, fCont_eq, gNm_eq, gsNil_eq, gsCons_eq, aNil_eq, aCons_eq, eCall_eq, eCallD_eq, intS_eq, absS_eq, mmS_eq, len_l, len_t, list_l, list_t, tup_l, tup_t, finF_eq, finC_eq, allD_nil, allD_cons, eTup_eq, eLst_eq, eIf_eq, runD_eq, hand_rt, handF_d, take_self, srcS_l, srcS_t, iSrc_eq, iZip_eq, zip_l, iEnm_eq, enum_l, pix0, pix1, pix2, pix3, pset1, pset2, pset3, gSub_eq, tYes_eq, eAdd_eq, eSub_eq, eMul_eq, eDiv_eq, eMod_eq, ePow_eq, eXor_eq, eNeg_eq, eIx_eq, eqI_t, eqI_f, tNot_eq, tAnd_eq, tOr_eq, tru_eq, tru_bool, tru_int, tru_list, eAnd_eq, eNot_eq, isi_eq, asD_d, List.length_cons, List.length_nil, List.map_cons, List.map_nil, List.cons_append, List.nil_append, List.append_nil, List.set_cons_succ, List.set_cons_zero, List.replicate_succ, List.replicate_zero, Option.map_some, if_true, if_false, reduceIte, Nat.reduceAdd, Nat.reduceSub, Nat.reduceLeDiff, List.length_map, Nat.reduceEqDiff, Bool.false_eq_true, Bool.not_false, Bool.not_true, ne_eq, not_true_eq_false, not_false_eq_true, decide_true, decide_false, eq_self, hand_rt, decide_eq_true_eq, hr, hl, hc, iOp_eq _ _ _ _ _ p1, iOp_eq _ _ _ _ _ (d3 _), iOp_eq _ _ _ _ _ (m1 _), iOp_eq _ _ _ _ _ (m2 _), iOp_eq _ _ _ _ _ (m3 _), mulI _ _ (c1 _), mulI _ _ (c2 _), mulI _ _ (c3 _), fmod_pos q0, mulI _ _ (c4 _), mulI _ _ (c5 _ _), fmod_pos q1, fdiv_pos q2, fmod_pos (Int.le_of_lt hm), Ret_ok]
      exact ⟨_, _, rfl, Int.emod_nonneg _ (by omega), Int.emod_lt_of_pos _ hm, tk1 _ _, cells, _, _, _, rfl, by omega⟩
theorem pick_ok (P : MO) (xs : List PyData) (R : Store) (hP : PoolOk P) (h1 : 0 < xs.length) (h2 : xs.length < 1000) : (F__law_pick [.cell 0, .d (.list xs)] (P :: R)).Ret fun v S' => ∃ x P', v = .d x ∧ x ∈ xs ∧ S' = P' :: R ∧ PoolOk P' := by
  obtain ⟨v, S', e, d, P', rfl, u1, u2, rfl, u3⟩ := (take_ok P xs.length R hP (by omega) (by omega)).ok
  obtain ⟨k, rfl⟩ : ∃ k : Nat, d = k := ⟨d.toNat, by omega⟩
  have hx : atI xs (k : Int) = some (xs[k]'(by omega)) := ix_nat (List.getElem?_eq_getElem _)
  simp -implicitDefEqProofs only [F__law_pick, b__law_pick, fSeq_eq, seqK_nx, seqK_rt, seqK_bk, seqK_ct, seqK_ite, eVar_0, eVar_s, bind_ok, sB_ok, eC_eq, eBin_eq, eUn_eq, iOp0_eq, iCmp_eq, tst_eq, addI, negI, fSet_eq, fRet_eq, fExpr_eq, fIf_eq, fAsg_eq, fPar_eq, fNil_eq, fBreak_eq, fCont_eq, gNm_eq, gsNil_eq, gsCons_eq, aNil_eq, aCons_eq, eCall_eq, eCallD_eq, intS_eq, absS_eq, mmS_eq, len_l, len_t, list_l, list_t, tup_l, tup_t, finF_eq, finC_eq, allD_nil, allD_cons, eTup_eq, eLst_eq, eIf_eq, runD_eq, hand_rt, handF_d, take_self, srcS_l, srcS_t, iSrc_eq, iZip_eq, zip_l, iEnm_eq, enum_l, pix0, pix1, pix2, pix3, pset1, pset2, pset3, gSub_eq, tYes_eq, eAdd_eq, eSub_eq, eMul_eq, eDiv_eq, eMod_eq, ePow_eq, eXor_eq, eNeg_eq, eIx_eq, eqI_t, eqI_f, tNot_eq, tAnd_eq, tOr_eq, tru_eq, tru_bool, tru_int, tru_list, eAnd_eq, eNot_eq, isi_eq, asD_d, List.length_cons, List.length_nil, List.map_cons, List.map_nil, List.cons_append, List.nil_append, List.append_nil, List.set_cons_succ, List.set_cons_zero, List.replicate_succ, List.replicate_zero, Option.map_some, if_true, if_false, reduceIte, Nat.reduceAdd, Nat.reduceSub, Nat.reduceLeDiff, List.length_map, Nat.reduceEqDiff, Bool.false_eq_true, Bool.not_false, Bool.not_true, ne_eq, not_true_eq_false, not_false_eq_true, decide_true, decide_false, eq_self, hand_rt, decide_eq_true_eq, e, ix_l _ hx, Ret_ok]
  exact ⟨_, P', rfl, List.getElem_mem _, tk1 _ _, u3⟩
/-- a list or a tuple of these -/
def sq (b : Bool) (xs : List PyData) : PyData := if b then .list xs else .tuple xs
theorem given_ok (P : MO) (xs : List PyData) (R : Store) (hP : PoolOk P) : (F__law_given [.cell 0, .d (.list xs)] (P :: R)).Ret fun v S' => ∃ b P', v = .d (sq b xs) ∧ S' = P' :: R ∧ PoolOk P' := by
  obtain ⟨v, S', e, d, P', rfl, u1, u2, rfl, u3⟩ := (take_ok P 2 R hP (by omega) (by omega)).ok
  by_cases hd : d = 0
  · simp -implicitDefEqProofs only [F__law_given, b__law_given, fSeq_eq, seqK_nx, seqK_rt, seqK_bk, seqK_ct, seqK_ite, eVar_0, eVar_s, bind_ok, sB_ok, eC_eq, eBin_eq, eUn_eq, iOp0_eq, iCmp_eq, tst_eq, addI, negI, fSet_eq, fRet_eq, fExpr_eq, fIf_eq, fAsg_eq, fPar_eq, fNil_eq, fBreak_eq, fCont_eq, gNm_eq, gsNil_eq, gsCons_eq, aNil_eq, aCons_eq, eCall_eq, eCallD_eq, intS_eq, absS_eq, mmS_eq, len_l, len_t, list_l, list_t, tup_l, tup_t, finF_eq, finC_eq, allD_nil, allD_cons, eTup_eq, eLst_eq, eIf_eq, runD_eq, hand_rt, handF_d, take_self, srcS_l, srcS_t, iSrc_eq, iZip_eq, zip_l, iEnm_eq, enum_l, pix0, pix1, pix2, pix3, pset1, pset2, pset3, gSub_eq, tYes_eq, eAdd_eq, eSub_eq, eMul_eq, eDiv_eq, eMod_eq, ePow_eq, eXor_eq, eNeg_eq, eIx_eq, eqI_t, eqI_f, tNot_eq, tAnd_eq, tOr_eq, tru_eq, tru_bool, tru_int, tru_list, eAnd_eq, eNot_eq, isi_eq, asD_d, List.length_cons, List.length_nil, List.map_cons, List.map_nil, List.cons_append, List.nil_append, List.append_nil, List.set_cons_succ, List.set_cons_zero, List.replicate_succ, List.replicate_zero, Option.map_some, if_true, if_false, reduceIte, Nat.reduceAdd, Nat.reduceSub, Nat.reduceLeDiff, List.length_map, Nat.reduceEqDiff, Bool.false_eq_true, Bool.not_false, Bool.not_true, ne_eq, not_true_eq_false, not_false_eq_true, decide_true, decide_false, eq_self, hand_rt, decide_eq_true_eq, e, hd, Ret_ok]
    exact ⟨true, P', rfl, tk1 _ _, u3⟩
  · simp -implicitDefEqProofs only [F__law_given, b__law_given, fSeq_eq, seqK_nx, seqK_rt, seqK_bk, seqK_ct, seqK_ite, eVar_0, eVar_s, bind_ok, sB_ok, eC_eq, eBin_eq, eUn_eq, iOp0_eq, iCmp_eq, tst_eq, addI, negI, fSet_eq, fRet_eq, fExpr_eq, fIf_eq, fAsg_eq, fPar_eq, fNil_eq, fBreak_eq, fCont_eq, gNm_eq, gsNil_eq, gsCons_eq, aNil_eq, aCons_eq, eCall_eq, eCallD_eq, intS_eq, absS_eq, mmS_eq, len_l, len_t, list_l, list_t, tup_l, tup_t, finF_eq, finC_eq, allD_nil, allD_cons, eTup_eq, eLst_eq, eIf_eq, runD_eq, hand_rt, handF_d, take_self, srcS_l, srcS_t, iSrc_eq, iZip_eq, zip_l, iEnm_eq, enum_l, pix0, pix1, pix2, pix3, pset1, pset2, pset3, gSub_eq, tYes_eq, eAdd_eq, eSub_eq, eMul_eq, eDiv_eq, eMod_eq, ePow_eq, eXor_eq, eNeg_eq, eIx_eq, eqI_t, eqI_f, tNot_eq, tAnd_eq, tOr_eq, tru_eq, tru_bool, tru_int, tru_list, eAnd_eq, eNot_eq, isi_eq, asD_d, List.length_cons, List.length_nil, List.map_cons, List.map_nil, List.cons_append, List.nil_append, List.append_nil, List.set_cons_succ, List.set_cons_zero, List.replicate_succ, List.replicate_zero, Option.map_some, if_true, if_false, reduceIte, Nat.reduceAdd, Nat.reduceSub, Nat.reduceLeDiff, List.length_map, Nat.reduceEqDiff, Bool.false_eq_true, Bool.not_false, Bool.not_true, ne_eq, not_true_eq_false, not_false_eq_true, decide_true, decide_false, eq_self, hand_rt, decide_eq_true_eq, e, hd, Ret_ok]
    exact ⟨false, P', rfl, tk1 _ _, u3⟩
/-! ### 3. the same -/
def pl : Nat → PyData → Prop
  | 0, _ => False
  | _ + 1, .int _ => True
  | n + 1, .tuple xs => (∀ x ∈ xs, pl n x) ∧ xs.length ≤ 10000
  | n + 1, .list xs => (∀ x ∈ xs, pl n x) ∧ xs.length ≤ 10000
  | _, _ => False
theorem range_mem {n : Nat} {d : PyData} (h : d ∈ rgD 0 (n : Int)) : ∃ i : Nat, i < n ∧ d = .int i := by
  rw [rgD_nat] at h
  obtain ⟨i, h1, rfl⟩ := List.mem_map.mp h
  exact ⟨i, List.mem_range.mp h1, rfl⟩
theorem same_comp1 {F : FD} {xs : List PyData} {S : Store} (hz : xs.length ≤ 10000) (h : ∀ x ∈ xs, F [.d x, .d x] S = .ok (.d (.bool true)) S) :
    C__law_same_1 F [some (.d (.tuple xs)), some (.d (.tuple xs)), none] S = .ok (.d (.list ((rgD 0 (xs.length : Int)).map fun _ => .bool true))) S := by
  have e0 : iRg (rg1 (eCall lenS (aCons (eVar 1) aNil))) [some (.d (.tuple xs)), some (.d (.tuple xs)), none] S = .ok ⟨rgD 0 xs.length, fun _ => true⟩ S := iRg_ok (by simp -implicitDefEqProofs only [fSeq_eq, seqK_nx, seqK_rt, seqK_bk, seqK_ct, seqK_ite, eVar_0, eVar_s, bind_ok, sB_ok, eC_eq, eBin_eq, eUn_eq, iOp0_eq, iCmp_eq, tst_eq, addI, negI, fSet_eq, fRet_eq, fExpr_eq, fIf_eq, fAsg_eq, fPar_eq, fNil_eq, fBreak_eq, fCont_eq, gNm_eq, gsNil_eq, gsCons_eq, aNil_eq, aCons_eq, eCall_eq, eCallD_eq, intS_eq, absS_eq, mmS_eq, len_l, len_t, list_l, list_t, tup_l, tup_t, finF_eq, finC_eq, allD_nil, allD_cons, eTup_eq, eLst_eq, eIf_eq, runD_eq, hand_rt, handF_d, take_self, srcS_l, srcS_t, iSrc_eq, iZip_eq, zip_l, iEnm_eq, enum_l, pix0, pix1, pix2, pix3, pset1, pset2, pset3, gSub_eq, tYes_eq, eAdd_eq, eSub_eq, eMul_eq, eDiv_eq, eMod_eq, ePow_eq, eXor_eq, eNeg_eq, eIx_eq, eqI_t, eqI_f, tNot_eq, tAnd_eq, tOr_eq, tru_eq, tru_bool, tru_int, tru_list, eAnd_eq, eNot_eq, isi_eq, asD_d, List.length_cons, List.length_nil, List.map_cons, List.map_nil, List.cons_append, List.nil_append, List.append_nil, List.set_cons_succ, List.set_cons_zero, List.replicate_succ, List.replicate_zero, Option.map_some, if_true, if_false, reduceIte, Nat.reduceAdd, Nat.reduceSub, Nat.reduceLeDiff, List.length_map, Nat.reduceEqDiff, Bool.false_eq_true, Bool.not_false, Bool.not_true, ne_eq, not_true_eq_false, not_false_eq_true, decide_true, decide_false, eq_self, hand_rt, decide_eq_true_eq]) (by omega)
  unfold C__law_same_1
  rw [eLc_eq e0, lcL_map (fun _ => .bool true) rfl]
  · simp only [bind_ok, finF_eq]
  · intro d m
    obtain ⟨i, hi, rfl⟩ := range_mem m
    refine ⟨_, gNm_eq _ _ _ _, ?_⟩
    have hx := ix_t S (ix_nat (List.getElem?_eq_getElem hi))
    simp -implicitDefEqProofs only [E__law_same_1, wipeE, fSeq_eq, seqK_nx, seqK_rt, seqK_bk, seqK_ct, seqK_ite, eVar_0, eVar_s, bind_ok, sB_ok, eC_eq, eBin_eq, eUn_eq, iOp0_eq, iCmp_eq, tst_eq, addI, negI, fSet_eq, fRet_eq, fExpr_eq, fIf_eq, fAsg_eq, fPar_eq, fNil_eq, fBreak_eq, fCont_eq, gNm_eq, gsNil_eq, gsCons_eq, aNil_eq, aCons_eq, eCall_eq, eCallD_eq, intS_eq, absS_eq, mmS_eq, len_l, len_t, list_l, list_t, tup_l, tup_t, finF_eq, finC_eq, allD_nil, allD_cons, eTup_eq, eLst_eq, eIf_eq, runD_eq, hand_rt, handF_d, take_self, srcS_l, srcS_t, iSrc_eq, iZip_eq, zip_l, iEnm_eq, enum_l, pix0, pix1, pix2, pix3, pset1, pset2, pset3, gSub_eq, tYes_eq, eAdd_eq, eSub_eq, eMul_eq, eDiv_eq, eMod_eq, ePow_eq, eXor_eq, eNeg_eq, eIx_eq, eqI_t, eqI_f, tNot_eq, tAnd_eq, tOr_eq, tru_eq, tru_bool, tru_int, tru_list, eAnd_eq, eNot_eq, isi_eq, asD_d, List.length_cons, List.length_nil, List.map_cons, List.map_nil, List.cons_append, List.nil_append, List.append_nil, List.set_cons_succ, List.set_cons_zero, List.replicate_succ, List.replicate_zero, Option.map_some, if_true, if_false, reduceIte, Nat.reduceAdd, Nat.reduceSub, Nat.reduceLeDiff, List.length_map, Nat.reduceEqDiff, Bool.false_eq_true, Bool.not_false, Bool.not_true, ne_eq, not_true_eq_false, not_false_eq_true, decide_true, decide_false, eq_self, hand_rt, decide_eq_true_eq, hx]
    exact h _ (List.getElem_mem _)
theorem same_comp2 {F : FD} {xs : List PyData} {S : Store} (hz : xs.length ≤ 10000) (h : ∀ x ∈ xs, F [.d x, .d x] S = .ok (.d (.bool true)) S) :
    C__law_same_2 F [some (.d (.list xs)), some (.d (.list xs)), none] S = .ok (.d (.list ((rgD 0 (xs.length : Int)).map fun _ => .bool true))) S := by
  have e0 : iRg (rg1 (eCall lenS (aCons (eVar 1) aNil))) [some (.d (.list xs)), some (.d (.list xs)), none] S = .ok ⟨rgD 0 xs.length, fun _ => true⟩ S := iRg_ok (by simp -implicitDefEqProofs only [fSeq_eq, seqK_nx, seqK_rt, seqK_bk, seqK_ct, seqK_ite, eVar_0, eVar_s, bind_ok, sB_ok, eC_eq, eBin_eq, eUn_eq, iOp0_eq, iCmp_eq, tst_eq, addI, negI, fSet_eq, fRet_eq, fExpr_eq, fIf_eq, fAsg_eq, fPar_eq, fNil_eq, fBreak_eq, fCont_eq, gNm_eq, gsNil_eq, gsCons_eq, aNil_eq, aCons_eq, eCall_eq, eCallD_eq, intS_eq, absS_eq, mmS_eq, len_l, len_t, list_l, list_t, tup_l, tup_t, finF_eq, finC_eq, allD_nil, allD_cons, eTup_eq, eLst_eq, eIf_eq, runD_eq, hand_rt, handF_d, take_self, srcS_l, srcS_t, iSrc_eq, iZip_eq, zip_l, iEnm_eq, enum_l, pix0, pix1, pix2, pix3, pset1, pset2, pset3, gSub_eq, tYes_eq, eAdd_eq, eSub_eq, eMul_eq, eDiv_eq, eMod_eq, ePow_eq, eXor_eq, eNeg_eq, eIx_eq, eqI_t, eqI_f, tNot_eq, tAnd_eq, tOr_eq, tru_eq, tru_bool, tru_int, tru_list, eAnd_eq, eNot_eq, isi_eq, asD_d, List.length_cons, List.length_nil, List.map_cons, List.map_nil, List.cons_append, List.nil_append, List.append_nil, List.set_cons_succ, List.set_cons_zero, List.replicate_succ, List.replicate_zero, Option.map_some, if_true, if_false, reduceIte, Nat.reduceAdd, Nat.reduceSub, Nat.reduceLeDiff, List.length_map, Nat.reduceEqDiff, Bool.false_eq_true, Bool.not_false, Bool.not_true, ne_eq, not_true_eq_false, not_false_eq_true, decide_true, decide_false, eq_self, hand_rt, decide_eq_true_eq]) (by omega)
  unfold C__law_same_2
  rw [eLc_eq e0, lcL_map (fun _ => .bool true) rfl]
  · simp only [bind_ok, finF_eq]
  · intro d m
    obtain ⟨i, hi, rfl⟩ := range_mem m
    refine ⟨_, gNm_eq _ _ _ _, ?_⟩
    have hx := ix_l S (ix_nat (List.getElem?_eq_getElem hi))
    simp -implicitDefEqProofs only [E__law_same_2, wipeE, fSeq_eq, seqK_nx, seqK_rt, seqK_bk, seqK_ct, seqK_ite, eVar_0, eVar_s, bind_ok, sB_ok, eC_eq, eBin_eq, eUn_eq, iOp0_eq, iCmp_eq, tst_eq, addI, negI, fSet_eq, fRet_eq, fExpr_eq, fIf_eq, fAsg_eq, fPar_eq, fNil_eq, fBreak_eq, fCont_eq, gNm_eq, gsNil_eq, gsCons_eq, aNil_eq, aCons_eq, eCall_eq, eCallD_eq, intS_eq, absS_eq, mmS_eq, len_l, len_t, list_l, list_t, tup_l, tup_t, finF_eq, finC_eq, allD_nil, allD_cons, eTup_eq, eLst_eq, eIf_eq, runD_eq, hand_rt, handF_d, take_self, srcS_l, srcS_t, iSrc_eq, iZip_eq, zip_l, iEnm_eq, enum_l, pix0, pix1, pix2, pix3, pset1, pset2, pset3, gSub_eq, tYes_eq, eAdd_eq, eSub_eq, eMul_eq, eDiv_eq, eMod_eq, ePow_eq, eXor_eq, eNeg_eq, eIx_eq, eqI_t, eqI_f, tNot_eq, tAnd_eq, tOr_eq, tru_eq, tru_bool, tru_int, tru_list, eAnd_eq, eNot_eq, isi_eq, asD_d, List.length_cons, List.length_nil, List.map_cons, List.map_nil, List.cons_append, List.nil_append, List.append_nil, List.set_cons_succ, List.set_cons_zero, List.replicate_succ, List.replicate_zero, Option.map_some, if_true, if_false, reduceIte, Nat.reduceAdd, Nat.reduceSub, Nat.reduceLeDiff, List.length_map, Nat.reduceEqDiff, Bool.false_eq_true, Bool.not_false, Bool.not_true, ne_eq, not_true_eq_false, not_false_eq_true, decide_true, decide_false, eq_self, hand_rt, decide_eq_true_eq, hx]
    exact h _ (List.getElem_mem _)
theorem trues {α : Type} (xs : List α) : (xs.map fun _ => PyData.bool true).all scaD = true ∧ (xs.map fun _ => PyData.bool true).all trB = true := by
  constructor <;> rw [List.all_eq_true] <;> intro x h <;> obtain ⟨_, _, rfl⟩ := List.mem_map.mp h <;> rfl
theorem same_int (F : FD) (i j : Int) (S : Store) : runD handF 3 (b__law_same F) [.d (.int i), .d (.int j)] S = .ok (.d (.bool (decide (i = j)))) S := by
  have t1 : isiB "int" "tuple" = false := by decide
  have t2 : isiB "int" "list" = false := by decide
  have t3 : isiB "int" "bool" = false := by decide
  have t4 : isiB "int" "str" = false := by decide
  have t5 : isiB "int" "int" = true := by decide
  simp -implicitDefEqProofs only [b__law_same, F__law_is_integer, b__law_is_integer, isNS, tyN, fSeq_eq, seqK_nx, seqK_rt, seqK_bk, seqK_ct, seqK_ite, eVar_0, eVar_s, bind_ok, sB_ok, eC_eq, eBin_eq, eUn_eq, iOp0_eq, iCmp_eq, tst_eq, addI, negI, fSet_eq, fRet_eq, fExpr_eq, fIf_eq, fAsg_eq, fPar_eq, fNil_eq, fBreak_eq, fCont_eq, gNm_eq, gsNil_eq, gsCons_eq, aNil_eq, aCons_eq, eCall_eq, eCallD_eq, intS_eq, absS_eq, mmS_eq, len_l, len_t, list_l, list_t, tup_l, tup_t, finF_eq, finC_eq, allD_nil, allD_cons, eTup_eq, eLst_eq, eIf_eq, runD_eq, hand_rt, handF_d, take_self, srcS_l, srcS_t, iSrc_eq, iZip_eq, zip_l, iEnm_eq, enum_l, pix0, pix1, pix2, pix3, pset1, pset2, pset3, gSub_eq, tYes_eq, eAdd_eq, eSub_eq, eMul_eq, eDiv_eq, eMod_eq, ePow_eq, eXor_eq, eNeg_eq, eIx_eq, eqI_t, eqI_f, tNot_eq, tAnd_eq, tOr_eq, tru_eq, tru_bool, tru_int, tru_list, eAnd_eq, eNot_eq, isi_eq, asD_d, List.length_cons, List.length_nil, List.map_cons, List.map_nil, List.cons_append, List.nil_append, List.append_nil, List.set_cons_succ, List.set_cons_zero, List.replicate_succ, List.replicate_zero, Option.map_some, if_true, if_false, reduceIte, Nat.reduceAdd, Nat.reduceSub, Nat.reduceLeDiff, List.length_map, Nat.reduceEqDiff, Bool.false_eq_true, Bool.not_false, Bool.not_true, ne_eq, not_true_eq_false, not_false_eq_true, decide_true, decide_false, eq_self, hand_rt, decide_eq_true_eq, t1, t2, t3, t4, t5]
theorem same_tup (F : FD) {xs : List PyData} {S : Store} (hz : xs.length ≤ 10000) (h : ∀ x ∈ xs, F [.d x, .d x] S = .ok (.d (.bool true)) S) : runD handF 3 (b__law_same F) [.d (.tuple xs), .d (.tuple xs)] S = .ok (.d (.bool true)) S := by
  have t1 : isiB "tuple" "tuple" = true := by decide
  have hc := same_comp1 hz h
  obtain ⟨z1, z2⟩ := trues (rgD 0 (xs.length : Int))
  simp -implicitDefEqProofs only [b__law_same, tyN, fSeq_eq, seqK_nx, seqK_rt, seqK_bk, seqK_ct, seqK_ite, eVar_0, eVar_s, bind_ok, sB_ok, eC_eq, eBin_eq, eUn_eq, iOp0_eq, iCmp_eq, tst_eq, addI, negI, fSet_eq, fRet_eq, fExpr_eq, fIf_eq, fAsg_eq, fPar_eq, fNil_eq, fBreak_eq, fCont_eq, gNm_eq, gsNil_eq, gsCons_eq, aNil_eq, aCons_eq, eCall_eq, eCallD_eq, intS_eq, absS_eq, mmS_eq, len_l, len_t, list_l, list_t, tup_l, tup_t, finF_eq, finC_eq, allD_nil, allD_cons, eTup_eq, eLst_eq, eIf_eq, runD_eq, hand_rt, handF_d, take_self, srcS_l, srcS_t, iSrc_eq, iZip_eq, zip_l, iEnm_eq, enum_l, pix0, pix1, pix2, pix3, pset1, pset2, pset3, gSub_eq, tYes_eq, eAdd_eq, eSub_eq, eMul_eq, eDiv_eq, eMod_eq, ePow_eq, eXor_eq, eNeg_eq, eIx_eq, eqI_t, eqI_f, tNot_eq, tAnd_eq, tOr_eq, tru_eq, tru_bool, tru_int, tru_list, eAnd_eq, eNot_eq, isi_eq, asD_d, List.length_cons, List.length_nil, List.map_cons, List.map_nil, List.cons_append, List.nil_append, List.append_nil, List.set_cons_succ, List.set_cons_zero, List.replicate_succ, List.replicate_zero, Option.map_some, if_true, if_false, reduceIte, Nat.reduceAdd, Nat.reduceSub, Nat.reduceLeDiff, List.length_map, Nat.reduceEqDiff, Bool.false_eq_true, Bool.not_false, Bool.not_true, ne_eq, not_true_eq_false, not_false_eq_true, decide_true, decide_false, eq_self, hand_rt, decide_eq_true_eq, t1, hc, all_l _ z1, z2]
theorem same_lst (F : FD) {xs : List PyData} {S : Store} (hz : xs.length ≤ 10000) (h : ∀ x ∈ xs, F [.d x, .d x] S = .ok (.d (.bool true)) S) : runD handF 3 (b__law_same F) [.d (.list xs), .d (.list xs)] S = .ok (.d (.bool true)) S := by
  have t1 : isiB "list" "tuple" = false := by decide
  have t2 : isiB "list" "list" = true := by decide
  have hc := same_comp2 hz h
  obtain ⟨z1, z2⟩ := trues (rgD 0 (xs.length : Int))
  simp -implicitDefEqProofs only [b__law_same, tyN, fSeq_eq, seqK_nx, seqK_rt, seqK_bk, seqK_ct, seqK_ite, eVar_0, eVar_s, bind_ok, sB_ok, eC_eq, eBin_eq, eUn_eq, iOp0_eq, iCmp_eq, tst_eq, addI, negI, fSet_eq, fRet_eq, fExpr_eq, fIf_eq, fAsg_eq, fPar_eq, fNil_eq, fBreak_eq, fCont_eq, gNm_eq, gsNil_eq, gsCons_eq, aNil_eq, aCons_eq, eCall_eq, eCallD_eq, intS_eq, absS_eq, mmS_eq, len_l, len_t, list_l, list_t, tup_l, tup_t, finF_eq, finC_eq, allD_nil, allD_cons, eTup_eq, eLst_eq, eIf_eq, runD_eq, hand_rt, handF_d, take_self, srcS_l, srcS_t, iSrc_eq, iZip_eq, zip_l, iEnm_eq, enum_l, pix0, pix1, pix2, pix3, pset1, pset2, pset3, gSub_eq, tYes_eq, eAdd_eq, eSub_eq, eMul_eq, eDiv_eq, eMod_eq, ePow_eq, eXor_eq, eNeg_eq, eIx_eq, eqI_t, eqI_f, tNot_eq, tAnd_eq, tOr_eq, tru_eq, tru_bool, tru_int, tru_list, eAnd_eq, eNot_eq, isi_eq, asD_d, List.length_cons, List.length_nil, List.map_cons, List.map_nil, List.cons_append, List.nil_append, List.append_nil, List.set_cons_succ, List.set_cons_zero, List.replicate_succ, List.replicate_zero, Option.map_some, if_true, if_false, reduceIte, Nat.reduceAdd, Nat.reduceSub, Nat.reduceLeDiff, List.length_map, Nat.reduceEqDiff, Bool.false_eq_true, Bool.not_false, Bool.not_true, ne_eq, not_true_eq_false, not_false_eq_true, decide_true, decide_false, eq_self, hand_rt, decide_eq_true_eq, t1, t2, hc, all_l _ z1, z2]
theorem same_at : ∀ (n : Nat) (x : PyData) (S : Store), pl n x → F__law_same_at n [.d x, .d x] S = .ok (.d (.bool true)) S := by
  intro n
  induction n with
  | zero => exact fun x S h => h.elim
  | succ n ih =>
    intro x S h
    cases x with
    | int i =>
      have := same_int (F__law_same_at n) i i S
      rw [decide_eq_true rfl] at this
      exact this
    | tuple xs =>
      obtain ⟨h1, h2⟩ : (∀ x ∈ xs, pl n x) ∧ xs.length ≤ 10000 := h
      exact same_tup _ h2 fun x m => ih x S (h1 x m)
    | list xs =>
      obtain ⟨h1, h2⟩ : (∀ x ∈ xs, pl n x) ∧ xs.length ≤ 10000 := h
      exact same_lst _ h2 fun x m => ih x S (h1 x m)
    | none => exact h.elim
    | bool b => exact h.elim
    | str x => exact h.elim
    | dict d => exact h.elim
end G06
namespace G06
open PySem L2 DL
/-! ### 4. numbers -/
/-- a fraction of small numbers -/
def Fr (B : Nat) (x : PyData) : Prop := ∃ n d : Int, x = .tuple [.int n, .int d] ∧ 0 < d ∧ d.natAbs ≤ B ∧ n.natAbs ≤ B ∧ Int.gcd n d = 1
def Num (q : Int) (B : Nat) (x : PyData) : Prop := if q = 0 then Fr B x else ∃ a : Int, x = .int a ∧ 0 ≤ a ∧ a < q
theorem rat_fr {n d : Int} {B : Nat} (h0 : 0 < d) (h1 : d.natAbs ≤ B) (h2 : n.natAbs ≤ B) : Fr B (rat n d) := by
  have g0 := gcd_pos (t := n) (u := d) (by omega)
  have g1 := gcd_le (t := n) (u := d) (by omega)
  refine ⟨_, _, rfl, Int.ediv_pos_of_pos_of_dvd h0 (by omega) (Int.gcd_dvd_right ..), Nat.le_trans (Int.natAbs_ediv_le_natAbs _ _) h1, Nat.le_trans (Int.natAbs_ediv_le_natAbs _ _) h2, Int.gcd_ediv_gcd_ediv_gcd_of_ne_zero_right (by omega)⟩
theorem nabs_mul {a b : Int} {A B : Nat} (h1 : a.natAbs ≤ A) (h2 : b.natAbs ≤ B) : (a * b).natAbs ≤ A * B := by
  rw [Int.natAbs_mul]
  exact Nat.mul_le_mul h1 h2
theorem nabs_add {a b : Int} {A B : Nat} (h1 : a.natAbs ≤ A) (h2 : b.natAbs ≤ B) : (a + b).natAbs ≤ A + B := Nat.le_trans (Int.natAbs_add_le _ _) (Nat.add_le_add h1 h2)
def QP : List Int := [2, 3, 5, 7, 11, 13, 31, 53, 89, 97]
theorem number_ok (P : MO) (q : Int) (R : Store) (hP : PoolOk P) (hq : 0 ≤ q) (hq2 : q < 1000) : (F__law_number [.cell 0, .d (.int q)] (P :: R)).Ret fun v S' => ∃ x P', v = .d x ∧ Num q 12 x ∧ S' = P' :: R ∧ PoolOk P' := by
  by_cases h0 : q = 0
  · subst h0
    obtain ⟨v, S', e, d, P1, rfl, u1, u2, rfl, u3⟩ := (take_ok P 25 R hP (by omega) (by omega)).ok
    obtain ⟨v, S', e', d', P2, rfl, w1, w2, rfl, w3⟩ := (take_ok P1 9 R u3 (by omega) (by omega)).ok
    simp -implicitDefEqProofs only [F__law_number, b__law_number, fSeq_eq, seqK_nx, seqK_rt, seqK_bk, seqK_ct, seqK_ite, eVar_0, eVar_s, bind_ok, sB_ok, eC_eq, eBin_eq, eUn_eq, iOp0_eq, iCmp_eq, tst_eq, addI, negI, fSet_eq, fRet_eq, fExpr_eq, fIf_eq, fAsg_eq, fPar_eq, fNil_eq, fBreak_eq, fCont_eq, gNm_eq, gsNil_eq, gsCons_eq, aNil_eq, aCons_eq, eCall_eq, eCallD_eq, intS_eq, absS_eq, mmS_eq, len_l, len_t, list_l, list_t, tup_l, tup_t, finF_eq, finC_eq, allD_nil, allD_cons, eTup_eq, eLst_eq, eIf_eq, runD_eq, hand_rt, handF_d, take_self, srcS_l, srcS_t, iSrc_eq, iZip_eq, zip_l, iEnm_eq, enum_l, pix0, pix1, pix2, pix3, pset1, pset2, pset3, gSub_eq, tYes_eq, eAdd_eq, eSub_eq, eMul_eq, eDiv_eq, eMod_eq, ePow_eq, eXor_eq, eNeg_eq, eIx_eq, eqI_t, eqI_f, tNot_eq, tAnd_eq, tOr_eq, tru_eq, tru_bool, tru_int, tru_list, eAnd_eq, eNot_eq, isi_eq, asD_d, List.length_cons, List.length_nil, List.map_cons, List.map_nil, List.cons_append, List.nil_append, List.append_nil, List.set_cons_succ, List.set_cons_zero, List.replicate_succ, List.replicate_zero, Option.map_some, if_true, if_false, reduceIte, Nat.reduceAdd, Nat.reduceSub, Nat.reduceLeDiff, List.length_map, Nat.reduceEqDiff, Bool.false_eq_true, Bool.not_false, Bool.not_true, ne_eq, not_true_eq_false, not_false_eq_true, decide_true, decide_false, eq_self, hand_rt, decide_eq_true_eq, e, e', ratio_eq (d - 12) (1 + d') _ (by omega) (by omega), Ret_ok]
    exact ⟨_, P2, rfl, (if_pos rfl).mpr (rat_fr (by omega) (by omega) (by omega)), tk1 _ _, w3⟩
  · obtain ⟨v, S', e, d, P1, rfl, u1, u2, rfl, u3⟩ := (take_ok P q R hP (by omega) (by omega)).ok
    simp -implicitDefEqProofs only [F__law_number, b__law_number, fSeq_eq, seqK_nx, seqK_rt, seqK_bk, seqK_ct, seqK_ite, eVar_0, eVar_s, bind_ok, sB_ok, eC_eq, eBin_eq, eUn_eq, iOp0_eq, iCmp_eq, tst_eq, addI, negI, fSet_eq, fRet_eq, fExpr_eq, fIf_eq, fAsg_eq, fPar_eq, fNil_eq, fBreak_eq, fCont_eq, gNm_eq, gsNil_eq, gsCons_eq, aNil_eq, aCons_eq, eCall_eq, eCallD_eq, intS_eq, absS_eq, mmS_eq, len_l, len_t, list_l, list_t, tup_l, tup_t, finF_eq, finC_eq, allD_nil, allD_cons, eTup_eq, eLst_eq, eIf_eq, runD_eq, hand_rt, handF_d, take_self, srcS_l, srcS_t, iSrc_eq, iZip_eq, zip_l, iEnm_eq, enum_l, pix0, pix1, pix2, pix3, pset1, pset2, pset3, gSub_eq, tYes_eq, eAdd_eq, eSub_eq, eMul_eq, eDiv_eq, eMod_eq, ePow_eq, eXor_eq, eNeg_eq, eIx_eq, eqI_t, eqI_f, tNot_eq, tAnd_eq, tOr_eq, tru_eq, tru_bool, tru_int, tru_list, eAnd_eq, eNot_eq, isi_eq, asD_d, List.length_cons, List.length_nil, List.map_cons, List.map_nil, List.cons_append, List.nil_append, List.append_nil, List.set_cons_succ, List.set_cons_zero, List.replicate_succ, List.replicate_zero, Option.map_some, if_true, if_false, reduceIte, Nat.reduceAdd, Nat.reduceSub, Nat.reduceLeDiff, List.length_map, Nat.reduceEqDiff, Bool.false_eq_true, Bool.not_false, Bool.not_true, ne_eq, not_true_eq_false, not_false_eq_true, decide_true, decide_false, eq_self, hand_rt, decide_eq_true_eq, e, h0, Ret_ok]
    exact ⟨_, P1, rfl, (if_neg h0).mpr ⟨d, rfl, u1, u2⟩, tk1 _ _, u3⟩
theorem pix (a b : PyData) (S : Store) : ixS (.d (.tuple [a, b])) (.d (.int 0)) S = .ok (.d a) S ∧ ixS (.d (.tuple [a, b])) (.d (.int 1)) S = .ok (.d b) S := ⟨rfl, rfl⟩
theorem small_l {i : Int} (j : Int) {B : Nat} (h : i.natAbs ≤ B) (hB : B ≤ 1000000) : mulC i j = true := mulC_l (by omega) (by omega)
theorem sum0 {a b : PyData} {A B : Nat} (S : Store) (ha : Fr A a) (hb : Fr B b) (hA : A ≤ 1000) (hB : B ≤ 1000) (h : A * B < 19000) : ∃ s, F_field_sum [.d (.int 0), .d a, .d b] S = .ok (.d s) S ∧ F__law_sum [.d (.int 0), .d a, .d b] S = .ok (.d s) S ∧ Fr (A * B + B * A) s := by
  obtain ⟨n, d, rfl, h0, h1, h2, h3⟩ := ha
  obtain ⟨m, e, rfl, k0, k1, k2, k3⟩ := hb
  have p0 : 0 < d * e := Int.mul_pos h0 k0
  have p1 := nabs_mul h1 k1
  have p2 : d * e < 19000 := by omega
  refine ⟨rat (n * e + m * d) (d * e), ?_, ?_, rat_fr p0 (Nat.le_trans p1 (by omega)) (nabs_add (nabs_mul h2 k1) (nabs_mul k2 h1))⟩
  · simp -implicitDefEqProofs only [F_field_sum, b_field_sum, fSeq_eq, seqK_nx, seqK_rt, seqK_bk, seqK_ct, seqK_ite, eVar_0, eVar_s, bind_ok, sB_ok, eC_eq, eBin_eq, eUn_eq, iOp0_eq, iCmp_eq, tst_eq, addI, negI, fSet_eq, fRet_eq, fExpr_eq, fIf_eq, fAsg_eq, fPar_eq, fNil_eq, fBreak_eq, fCont_eq, gNm_eq, gsNil_eq, gsCons_eq, aNil_eq, aCons_eq, eCall_eq, eCallD_eq, intS_eq, absS_eq, mmS_eq, len_l, len_t, list_l, list_t, tup_l, tup_t, finF_eq, finC_eq, allD_nil, allD_cons, eTup_eq, eLst_eq, eIf_eq, runD_eq, hand_rt, handF_d, take_self, srcS_l, srcS_t, iSrc_eq, iZip_eq, zip_l, iEnm_eq, enum_l, pix0, pix1, pix2, pix3, pset1, pset2, pset3, gSub_eq, tYes_eq, eAdd_eq, eSub_eq, eMul_eq, eDiv_eq, eMod_eq, ePow_eq, eXor_eq, eNeg_eq, eIx_eq, eqI_t, eqI_f, tNot_eq, tAnd_eq, tOr_eq, tru_eq, tru_bool, tru_int, tru_list, eAnd_eq, eNot_eq, isi_eq, asD_d, List.length_cons, List.length_nil, List.map_cons, List.map_nil, List.cons_append, List.nil_append, List.append_nil, List.set_cons_succ, List.set_cons_zero, List.replicate_succ, List.replicate_zero, Option.map_some, if_true, if_false, reduceIte, Nat.reduceAdd, Nat.reduceSub, Nat.reduceLeDiff, List.length_map, Nat.reduceEqDiff, Bool.false_eq_true, Bool.not_false, Bool.not_true, ne_eq, not_true_eq_false, not_false_eq_true, decide_true, decide_false, eq_self, hand_rt, decide_eq_true_eq, pix, mulI _ _ (small_l _ h2 (by omega)), mulI _ _ (small_l _ k2 (by omega)), mulI _ _ (small_l _ h1 (by omega)), fraction_eq (n * e + m * d) (d * e) _ p0 (by omega)]
  · simp -implicitDefEqProofs only [F__law_sum, b__law_sum, fSeq_eq, seqK_nx, seqK_rt, seqK_bk, seqK_ct, seqK_ite, eVar_0, eVar_s, bind_ok, sB_ok, eC_eq, eBin_eq, eUn_eq, iOp0_eq, iCmp_eq, tst_eq, addI, negI, fSet_eq, fRet_eq, fExpr_eq, fIf_eq, fAsg_eq, fPar_eq, fNil_eq, fBreak_eq, fCont_eq, gNm_eq, gsNil_eq, gsCons_eq, aNil_eq, aCons_eq, eCall_eq, eCallD_eq, intS_eq, absS_eq, mmS_eq, len_l, len_t, list_l, list_t, tup_l, tup_t, finF_eq, finC_eq, allD_nil, allD_cons, eTup_eq, eLst_eq, eIf_eq, runD_eq, hand_rt, handF_d, take_self, srcS_l, srcS_t, iSrc_eq, iZip_eq, zip_l, iEnm_eq, enum_l, pix0, pix1, pix2, pix3, pset1, pset2, pset3, gSub_eq, tYes_eq, eAdd_eq, eSub_eq, eMul_eq, eDiv_eq, eMod_eq, ePow_eq, eXor_eq, eNeg_eq, eIx_eq, eqI_t, eqI_f, tNot_eq, tAnd_eq, tOr_eq, tru_eq, tru_bool, tru_int, tru_list, eAnd_eq, eNot_eq, isi_eq, asD_d, List.length_cons, List.length_nil, List.map_cons, List.map_nil, List.cons_append, List.nil_append, List.append_nil, List.set_cons_succ, List.set_cons_zero, List.replicate_succ, List.replicate_zero, Option.map_some, if_true, if_false, reduceIte, Nat.reduceAdd, Nat.reduceSub, Nat.reduceLeDiff, List.length_map, Nat.reduceEqDiff, Bool.false_eq_true, Bool.not_false, Bool.not_true, ne_eq, not_true_eq_false, not_false_eq_true, decide_true, decide_false, eq_self, hand_rt, decide_eq_true_eq, pix, mulI _ _ (small_l _ h2 (by omega)), mulI _ _ (small_l _ k2 (by omega)), mulI _ _ (small_l _ h1 (by omega)), ratio_eq (n * e + m * d) (d * e) _ p0 p2]
theorem prod0 {a b : PyData} {A B : Nat} (S : Store) (ha : Fr A a) (hb : Fr B b) (hA : A ≤ 1000) (hB : B ≤ 1000) (h : A * B < 19000) : ∃ s, F_field_product [.d (.int 0), .d a, .d b] S = .ok (.d s) S ∧ F__law_product [.d (.int 0), .d a, .d b] S = .ok (.d s) S ∧ Fr (A * B) s := by
  obtain ⟨n, d, rfl, h0, h1, h2, h3⟩ := ha
  obtain ⟨m, e, rfl, k0, k1, k2, k3⟩ := hb
  have p0 : 0 < d * e := Int.mul_pos h0 k0
  have p1 := nabs_mul h1 k1
  have p2 : d * e < 19000 := by omega
  refine ⟨rat (n * m) (d * e), ?_, ?_, rat_fr p0 p1 (nabs_mul h2 k2)⟩
  · simp -implicitDefEqProofs only [F_field_product, b_field_product, fSeq_eq, seqK_nx, seqK_rt, seqK_bk, seqK_ct, seqK_ite, eVar_0, eVar_s, bind_ok, sB_ok, eC_eq, eBin_eq, eUn_eq, iOp0_eq, iCmp_eq, tst_eq, addI, negI, fSet_eq, fRet_eq, fExpr_eq, fIf_eq, fAsg_eq, fPar_eq, fNil_eq, fBreak_eq, fCont_eq, gNm_eq, gsNil_eq, gsCons_eq, aNil_eq, aCons_eq, eCall_eq, eCallD_eq, intS_eq, absS_eq, mmS_eq, len_l, len_t, list_l, list_t, tup_l, tup_t, finF_eq, finC_eq, allD_nil, allD_cons, eTup_eq, eLst_eq, eIf_eq, runD_eq, hand_rt, handF_d, take_self, srcS_l, srcS_t, iSrc_eq, iZip_eq, zip_l, iEnm_eq, enum_l, pix0, pix1, pix2, pix3, pset1, pset2, pset3, gSub_eq, tYes_eq, eAdd_eq, eSub_eq, eMul_eq, eDiv_eq, eMod_eq, ePow_eq, eXor_eq, eNeg_eq, eIx_eq, eqI_t, eqI_f, tNot_eq, tAnd_eq, tOr_eq, tru_eq, tru_bool, tru_int, tru_list, eAnd_eq, eNot_eq, isi_eq, asD_d, List.length_cons, List.length_nil, List.map_cons, List.map_nil, List.cons_append, List.nil_append, List.append_nil, List.set_cons_succ, List.set_cons_zero, List.replicate_succ, List.replicate_zero, Option.map_some, if_true, if_false, reduceIte, Nat.reduceAdd, Nat.reduceSub, Nat.reduceLeDiff, List.length_map, Nat.reduceEqDiff, Bool.false_eq_true, Bool.not_false, Bool.not_true, ne_eq, not_true_eq_false, not_false_eq_true, decide_true, decide_false, eq_self, hand_rt, decide_eq_true_eq, pix, mulI _ _ (small_l _ h2 (by omega)), mulI _ _ (small_l _ h1 (by omega)), fraction_eq (n * m) (d * e) _ p0 (by omega)]
  · simp -implicitDefEqProofs only [F__law_product, b__law_product, fSeq_eq, seqK_nx, seqK_rt, seqK_bk, seqK_ct, seqK_ite, eVar_0, eVar_s, bind_ok, sB_ok, eC_eq, eBin_eq, eUn_eq, iOp0_eq, iCmp_eq, tst_eq, addI, negI, fSet_eq, fRet_eq, fExpr_eq, fIf_eq, fAsg_eq, fPar_eq, fNil_eq, fBreak_eq, fCont_eq, gNm_eq, gsNil_eq, gsCons_eq, aNil_eq, aCons_eq, eCall_eq, eCallD_eq, intS_eq, absS_eq, mmS_eq, len_l, len_t, list_l, list_t, tup_l, tup_t, finF_eq, finC_eq, allD_nil, allD_cons, eTup_eq, eLst_eq, eIf_eq, runD_eq, hand_rt, handF_d, take_self, srcS_l, srcS_t, iSrc_eq, iZip_eq, zip_l, iEnm_eq, enum_l, pix0, pix1, pix2, pix3, pset1, pset2, pset3, gSub_eq, tYes_eq, eAdd_eq, eSub_eq, eMul_eq, eDiv_eq, eMod_eq, ePow_eq, eXor_eq, eNeg_eq, eIx_eq, eqI_t, eqI_f, tNot_eq, tAnd_eq, tOr_eq, tru_eq, tru_bool, tru_int, tru_list, eAnd_eq, eNot_eq, isi_eq, asD_d, List.length_cons, List.length_nil, List.map_cons, List.map_nil, List.cons_append, List.nil_append, List.append_nil, List.set_cons_succ, List.set_cons_zero, List.replicate_succ, List.replicate_zero, Option.map_some, if_true, if_false, reduceIte, Nat.reduceAdd, Nat.reduceSub, Nat.reduceLeDiff, List.length_map, Nat.reduceEqDiff, Bool.false_eq_true, Bool.not_false, Bool.not_true, ne_eq, not_true_eq_false, not_false_eq_true, decide_true, decide_false, eq_self, hand_rt, decide_eq_true_eq, pix, mulI _ _ (small_l _ h2 (by omega)), mulI _ _ (small_l _ h1 (by omega)), ratio_eq (n * m) (d * e) _ p0 p2]
/-- nothing, and one -/
def nul (q : Int) : PyData := if q = 0 then .tuple [.int 0, .int 1] else .int 0
def eins (q : Int) : PyData := if q = 0 then .tuple [.int 1, .int 1] else .int 1
theorem opp0 {a : PyData} {A : Nat} (S : Store) (ha : Fr A a) (hA : A ≤ 100) : ∃ o, F_field_opposite [.d (.int 0), .d a] S = .ok (.d o) S ∧ F__law_sum [.d (.int 0), .d a, .d o] S = .ok (.d (nul 0)) S := by
  obtain ⟨n, d, rfl, h0, h1, h2, h3⟩ := ha
  have p0 : 0 < d * d := Int.mul_pos h0 h0
  have p1 := nabs_mul h1 h1
  have p3 := Nat.mul_le_mul hA hA
  have p2 : d * d < 19000 := by omega
  refine ⟨.tuple [.int (-n), .int d], ?_, ?_⟩
  · simp -implicitDefEqProofs only [F_field_opposite, b_field_opposite, fSeq_eq, seqK_nx, seqK_rt, seqK_bk, seqK_ct, seqK_ite, eVar_0, eVar_s, bind_ok, sB_ok, eC_eq, eBin_eq, eUn_eq, iOp0_eq, iCmp_eq, tst_eq, addI, negI, fSet_eq, fRet_eq, fExpr_eq, fIf_eq, fAsg_eq, fPar_eq, fNil_eq, fBreak_eq, fCont_eq, gNm_eq, gsNil_eq, gsCons_eq, aNil_eq, aCons_eq, eCall_eq, eCallD_eq, intS_eq, absS_eq, mmS_eq, len_l, len_t, list_l, list_t, tup_l, tup_t, finF_eq, finC_eq, allD_nil, allD_cons, eTup_eq, eLst_eq, eIf_eq, runD_eq, hand_rt, handF_d, take_self, srcS_l, srcS_t, iSrc_eq, iZip_eq, zip_l, iEnm_eq, enum_l, pix0, pix1, pix2, pix3, pset1, pset2, pset3, gSub_eq, tYes_eq, eAdd_eq, eSub_eq, eMul_eq, eDiv_eq, eMod_eq, ePow_eq, eXor_eq, eNeg_eq, eIx_eq, eqI_t, eqI_f, tNot_eq, tAnd_eq, tOr_eq, tru_eq, tru_bool, tru_int, tru_list, eAnd_eq, eNot_eq, isi_eq, asD_d, List.length_cons, List.length_nil, List.map_cons, List.map_nil, List.cons_append, List.nil_append, List.append_nil, List.set_cons_succ, List.set_cons_zero, List.replicate_succ, List.replicate_zero, Option.map_some, if_true, if_false, reduceIte, Nat.reduceAdd, Nat.reduceSub, Nat.reduceLeDiff, List.length_map, Nat.reduceEqDiff, Bool.false_eq_true, Bool.not_false, Bool.not_true, ne_eq, not_true_eq_false, not_false_eq_true, decide_true, decide_false, eq_self, hand_rt, decide_eq_true_eq, pix]
  · have e0 : n * d + -n * d = 0 := by rw [Int.neg_mul]; omega
    simp -implicitDefEqProofs only [F__law_sum, b__law_sum, fSeq_eq, seqK_nx, seqK_rt, seqK_bk, seqK_ct, seqK_ite, eVar_0, eVar_s, bind_ok, sB_ok, eC_eq, eBin_eq, eUn_eq, iOp0_eq, iCmp_eq, tst_eq, addI, negI, fSet_eq, fRet_eq, fExpr_eq, fIf_eq, fAsg_eq, fPar_eq, fNil_eq, fBreak_eq, fCont_eq, gNm_eq, gsNil_eq, gsCons_eq, aNil_eq, aCons_eq, eCall_eq, eCallD_eq, intS_eq, absS_eq, mmS_eq, len_l, len_t, list_l, list_t, tup_l, tup_t, finF_eq, finC_eq, allD_nil, allD_cons, eTup_eq, eLst_eq, eIf_eq, runD_eq, hand_rt, handF_d, take_self, srcS_l, srcS_t, iSrc_eq, iZip_eq, zip_l, iEnm_eq, enum_l, pix0, pix1, pix2, pix3, pset1, pset2, pset3, gSub_eq, tYes_eq, eAdd_eq, eSub_eq, eMul_eq, eDiv_eq, eMod_eq, ePow_eq, eXor_eq, eNeg_eq, eIx_eq, eqI_t, eqI_f, tNot_eq, tAnd_eq, tOr_eq, tru_eq, tru_bool, tru_int, tru_list, eAnd_eq, eNot_eq, isi_eq, asD_d, List.length_cons, List.length_nil, List.map_cons, List.map_nil, List.cons_append, List.nil_append, List.append_nil, List.set_cons_succ, List.set_cons_zero, List.replicate_succ, List.replicate_zero, Option.map_some, if_true, if_false, reduceIte, Nat.reduceAdd, Nat.reduceSub, Nat.reduceLeDiff, List.length_map, Nat.reduceEqDiff, Bool.false_eq_true, Bool.not_false, Bool.not_true, ne_eq, not_true_eq_false, not_false_eq_true, decide_true, decide_false, eq_self, hand_rt, decide_eq_true_eq, pix, mulI _ _ (small_l _ h2 (by omega)), mulI _ _ (small_l (i := -n) _ (by rw [Int.natAbs_neg]; exact h2) (by omega)), mulI _ _ (small_l _ h1 (by omega)), e0, ratio_eq 0 (d * d) _ p0 p2]
    have g : (Int.gcd 0 (d * d) : Int) = d * d := by rw [Int.gcd_zero_left]; omega
    simp only [rat, g, Int.zero_ediv, Int.ediv_self (show d * d ≠ 0 by omega), nul, if_true]
theorem eqNul (n d : Int) (S : Store) : eqS true (.d (.tuple [.int n, .int d])) (.d (.tuple [.int 0, .int 1])) S = .ok (.d (.bool (!(decide (n = 0) && (decide (d = 1) && true))))) S := rfl
theorem inv0 {a : PyData} {A : Nat} (S : Store) (ha : Fr A a) (hA : A ≤ 100) : ∃ c, eqS true (.d a) (.d (nul 0)) S = .ok (.d (.bool c)) S ∧ (c = true → ∃ o, F_field_inverse [.d (.int 0), .d a] S = .ok (.d o) S ∧ F__law_product [.d (.int 0), .d a, .d o] S = .ok (.d (eins 0)) S) := by
  obtain ⟨n, d, rfl, h0, h1, h2, h3⟩ := ha
  refine ⟨_, eqNul n d S, fun hc => ?_⟩
  have hn : n ≠ 0 := by
    intro e
    subst e
    rw [Int.gcd_zero_left] at h3
    have : d = 1 := by omega
    subst this
    exact absurd hc (by decide)
  have p1 := nabs_mul h2 h1
  have p3 := Nat.mul_le_mul hA hA
  have h3' : Int.gcd d n = 1 := by rw [Int.gcd_comm]; exact h3
  rcases Int.lt_or_gt_of_ne hn with hneg | hpos
  · refine ⟨.tuple [.int (-d), .int (-n)], ?_, ?_⟩
    · simp -implicitDefEqProofs only [F_field_inverse, b_field_inverse, fSeq_eq, seqK_nx, seqK_rt, seqK_bk, seqK_ct, seqK_ite, eVar_0, eVar_s, bind_ok, sB_ok, eC_eq, eBin_eq, eUn_eq, iOp0_eq, iCmp_eq, tst_eq, addI, negI, fSet_eq, fRet_eq, fExpr_eq, fIf_eq, fAsg_eq, fPar_eq, fNil_eq, fBreak_eq, fCont_eq, gNm_eq, gsNil_eq, gsCons_eq, aNil_eq, aCons_eq, eCall_eq, eCallD_eq, intS_eq, absS_eq, mmS_eq, len_l, len_t, list_l, list_t, tup_l, tup_t, finF_eq, finC_eq, allD_nil, allD_cons, eTup_eq, eLst_eq, eIf_eq, runD_eq, hand_rt, handF_d, take_self, srcS_l, srcS_t, iSrc_eq, iZip_eq, zip_l, iEnm_eq, enum_l, pix0, pix1, pix2, pix3, pset1, pset2, pset3, gSub_eq, tYes_eq, eAdd_eq, eSub_eq, eMul_eq, eDiv_eq, eMod_eq, ePow_eq, eXor_eq, eNeg_eq, eIx_eq, eqI_t, eqI_f, tNot_eq, tAnd_eq, tOr_eq, tru_eq, tru_bool, tru_int, tru_list, eAnd_eq, eNot_eq, isi_eq, asD_d, List.length_cons, List.length_nil, List.map_cons, List.map_nil, List.cons_append, List.nil_append, List.append_nil, List.set_cons_succ, List.set_cons_zero, List.replicate_succ, List.replicate_zero, Option.map_some, if_true, if_false, reduceIte, Nat.reduceAdd, Nat.reduceSub, Nat.reduceLeDiff, List.length_map, Nat.reduceEqDiff, Bool.false_eq_true, Bool.not_false, Bool.not_true, ne_eq, not_true_eq_false, not_false_eq_true, decide_true, decide_false, eq_self, hand_rt, decide_eq_true_eq, pix, fraction_neg d n _ hneg (by omega), h3']
      have e1 : ∀ x : Int, x.fdiv (-((1 : Nat) : Int)) = -x := fun x => by
        show x.fdiv (-1) = -x
        rw [Int.fdiv_neg (by decide), Int.fdiv_one, if_pos ⟨x, (Int.one_mul x).symm⟩]
      simp only [e1]
    · have e2 : n * -d = -(n * d) := Int.mul_neg ..
      have e3 : d * -n = -(n * d) := by rw [Int.mul_neg, Int.mul_comm]
      have e4 : 0 < -(n * d) := by
        have := Int.mul_neg_of_neg_of_pos hneg h0
        omega
      simp -implicitDefEqProofs only [F__law_product, b__law_product, fSeq_eq, seqK_nx, seqK_rt, seqK_bk, seqK_ct, seqK_ite, eVar_0, eVar_s, bind_ok, sB_ok, eC_eq, eBin_eq, eUn_eq, iOp0_eq, iCmp_eq, tst_eq, addI, negI, fSet_eq, fRet_eq, fExpr_eq, fIf_eq, fAsg_eq, fPar_eq, fNil_eq, fBreak_eq, fCont_eq, gNm_eq, gsNil_eq, gsCons_eq, aNil_eq, aCons_eq, eCall_eq, eCallD_eq, intS_eq, absS_eq, mmS_eq, len_l, len_t, list_l, list_t, tup_l, tup_t, finF_eq, finC_eq, allD_nil, allD_cons, eTup_eq, eLst_eq, eIf_eq, runD_eq, hand_rt, handF_d, take_self, srcS_l, srcS_t, iSrc_eq, iZip_eq, zip_l, iEnm_eq, enum_l, pix0, pix1, pix2, pix3, pset1, pset2, pset3, gSub_eq, tYes_eq, eAdd_eq, eSub_eq, eMul_eq, eDiv_eq, eMod_eq, ePow_eq, eXor_eq, eNeg_eq, eIx_eq, eqI_t, eqI_f, tNot_eq, tAnd_eq, tOr_eq, tru_eq, tru_bool, tru_int, tru_list, eAnd_eq, eNot_eq, isi_eq, asD_d, List.length_cons, List.length_nil, List.map_cons, List.map_nil, List.cons_append, List.nil_append, List.append_nil, List.set_cons_succ, List.set_cons_zero, List.replicate_succ, List.replicate_zero, Option.map_some, if_true, if_false, reduceIte, Nat.reduceAdd, Nat.reduceSub, Nat.reduceLeDiff, List.length_map, Nat.reduceEqDiff, Bool.false_eq_true, Bool.not_false, Bool.not_true, ne_eq, not_true_eq_false, not_false_eq_true, decide_true, decide_false, eq_self, hand_rt, decide_eq_true_eq, pix, mulI _ _ (small_l _ h2 (by omega)), mulI _ _ (small_l _ h1 (by omega)), e2, e3, ratio_eq (-(n * d)) (-(n * d)) _ e4 (by omega)]
      have g : (Int.gcd (-(n * d)) (-(n * d)) : Int) = -(n * d) := by rw [Int.gcd_self]; omega
      simp only [rat, g, Int.ediv_self (show -(n * d) ≠ 0 by omega), eins, if_true]
  · refine ⟨.tuple [.int d, .int n], ?_, ?_⟩
    · simp -implicitDefEqProofs only [F_field_inverse, b_field_inverse, fSeq_eq, seqK_nx, seqK_rt, seqK_bk, seqK_ct, seqK_ite, eVar_0, eVar_s, bind_ok, sB_ok, eC_eq, eBin_eq, eUn_eq, iOp0_eq, iCmp_eq, tst_eq, addI, negI, fSet_eq, fRet_eq, fExpr_eq, fIf_eq, fAsg_eq, fPar_eq, fNil_eq, fBreak_eq, fCont_eq, gNm_eq, gsNil_eq, gsCons_eq, aNil_eq, aCons_eq, eCall_eq, eCallD_eq, intS_eq, absS_eq, mmS_eq, len_l, len_t, list_l, list_t, tup_l, tup_t, finF_eq, finC_eq, allD_nil, allD_cons, eTup_eq, eLst_eq, eIf_eq, runD_eq, hand_rt, handF_d, take_self, srcS_l, srcS_t, iSrc_eq, iZip_eq, zip_l, iEnm_eq, enum_l, pix0, pix1, pix2, pix3, pset1, pset2, pset3, gSub_eq, tYes_eq, eAdd_eq, eSub_eq, eMul_eq, eDiv_eq, eMod_eq, ePow_eq, eXor_eq, eNeg_eq, eIx_eq, eqI_t, eqI_f, tNot_eq, tAnd_eq, tOr_eq, tru_eq, tru_bool, tru_int, tru_list, eAnd_eq, eNot_eq, isi_eq, asD_d, List.length_cons, List.length_nil, List.map_cons, List.map_nil, List.cons_append, List.nil_append, List.append_nil, List.set_cons_succ, List.set_cons_zero, List.replicate_succ, List.replicate_zero, Option.map_some, if_true, if_false, reduceIte, Nat.reduceAdd, Nat.reduceSub, Nat.reduceLeDiff, List.length_map, Nat.reduceEqDiff, Bool.false_eq_true, Bool.not_false, Bool.not_true, ne_eq, not_true_eq_false, not_false_eq_true, decide_true, decide_false, eq_self, hand_rt, decide_eq_true_eq, pix, fraction_eq d n _ hpos (by omega), rat, h3', Int.natCast_one, Int.ediv_one]
    · have e3 : d * n = n * d := Int.mul_comm ..
      have e4 : 0 < n * d := Int.mul_pos hpos h0
      simp -implicitDefEqProofs only [F__law_product, b__law_product, fSeq_eq, seqK_nx, seqK_rt, seqK_bk, seqK_ct, seqK_ite, eVar_0, eVar_s, bind_ok, sB_ok, eC_eq, eBin_eq, eUn_eq, iOp0_eq, iCmp_eq, tst_eq, addI, negI, fSet_eq, fRet_eq, fExpr_eq, fIf_eq, fAsg_eq, fPar_eq, fNil_eq, fBreak_eq, fCont_eq, gNm_eq, gsNil_eq, gsCons_eq, aNil_eq, aCons_eq, eCall_eq, eCallD_eq, intS_eq, absS_eq, mmS_eq, len_l, len_t, list_l, list_t, tup_l, tup_t, finF_eq, finC_eq, allD_nil, allD_cons, eTup_eq, eLst_eq, eIf_eq, runD_eq, hand_rt, handF_d, take_self, srcS_l, srcS_t, iSrc_eq, iZip_eq, zip_l, iEnm_eq, enum_l, pix0, pix1, pix2, pix3, pset1, pset2, pset3, gSub_eq, tYes_eq, eAdd_eq, eSub_eq, eMul_eq, eDiv_eq, eMod_eq, ePow_eq, eXor_eq, eNeg_eq, eIx_eq, eqI_t, eqI_f, tNot_eq, tAnd_eq, tOr_eq, tru_eq, tru_bool, tru_int, tru_list, eAnd_eq, eNot_eq, isi_eq, asD_d, List.length_cons, List.length_nil, List.map_cons, List.map_nil, List.cons_append, List.nil_append, List.append_nil, List.set_cons_succ, List.set_cons_zero, List.replicate_succ, List.replicate_zero, Option.map_some, if_true, if_false, reduceIte, Nat.reduceAdd, Nat.reduceSub, Nat.reduceLeDiff, List.length_map, Nat.reduceEqDiff, Bool.false_eq_true, Bool.not_false, Bool.not_true, ne_eq, not_true_eq_false, not_false_eq_true, decide_true, decide_false, eq_self, hand_rt, decide_eq_true_eq, pix, mulI _ _ (small_l _ h2 (by omega)), mulI _ _ (small_l _ h1 (by omega)), e3, ratio_eq (n * d) (n * d) _ e4 (by omega)]
      have g : (Int.gcd (n * d) (n * d) : Int) = n * d := by rw [Int.gcd_self]; omega
      simp only [rat, g, Int.ediv_self (show n * d ≠ 0 by omega), eins, if_true]
/-! .. of four -/
theorem four {a : Int} (h0 : 0 ≤ a) (h1 : a < 4) : a = 0 ∨ a = 1 ∨ a = 2 ∨ a = 3 := by omega
def sum4 (a b : Nat) : Nat := ([[0, 1, 2, 3], [1, 0, 3, 2], [2, 3, 0, 1], [3, 2, 1, 0]].getD a []).getD b 0
def prod4 (a b : Nat) : Nat := ([[0, 0, 0, 0], [0, 1, 2, 3], [0, 2, 3, 1], [0, 3, 1, 2]].getD a []).getD b 0
theorem cast4 {F : FD} {as : List SV} {x : PyData} (h : ∀ S, F as S = .ok (.d x) (S.take S.length)) (S : Store) : F as S = .ok (.d x) S := by rw [h, take_self]
theorem sum4_ok {a b : Int} (S : Store) (ha0 : 0 ≤ a) (ha : a < 4) (hb0 : 0 ≤ b) (hb : b < 4) : ∃ s : Int, F_field_sum [.d (.int 4), .d (.int a), .d (.int b)] S = .ok (.d (.int s)) S ∧ F__law_sum [.d (.int 4), .d (.int a), .d (.int b)] S = .ok (.d (.int s)) S ∧ s = sum4 a.toNat b.toNat ∧ 0 ≤ s ∧ s < 4 := by
  rcases four ha0 ha with rfl | rfl | rfl | rfl <;> rcases four hb0 hb with rfl | rfl | rfl | rfl <;> exact ⟨_, cast4 (fun S => rfl) S, cast4 (fun S => rfl) S, by decide, by decide, by decide⟩
theorem prod4_ok {a b : Int} (S : Store) (ha0 : 0 ≤ a) (ha : a < 4) (hb0 : 0 ≤ b) (hb : b < 4) : ∃ s : Int, F_field_product [.d (.int 4), .d (.int a), .d (.int b)] S = .ok (.d (.int s)) S ∧ F__law_product [.d (.int 4), .d (.int a), .d (.int b)] S = .ok (.d (.int s)) S ∧ s = prod4 a.toNat b.toNat ∧ 0 ≤ s ∧ s < 4 := by
  rcases four ha0 ha with rfl | rfl | rfl | rfl <;> rcases four hb0 hb with rfl | rfl | rfl | rfl <;> exact ⟨_, cast4 (fun S => rfl) S, cast4 (fun S => rfl) S, by decide, by decide, by decide⟩
theorem opp4 {a : Int} (S : Store) (ha0 : 0 ≤ a) (ha : a < 4) : ∃ o, F_field_opposite [.d (.int 4), .d (.int a)] S = .ok (.d o) S ∧ F__law_sum [.d (.int 4), .d (.int a), .d o] S = .ok (.d (nul 4)) S := by
  rcases four ha0 ha with rfl | rfl | rfl | rfl <;> exact ⟨_, cast4 (fun S => rfl) S, cast4 (fun S => rfl) S⟩
theorem inv4 {a : Int} (S : Store) (ha0 : 0 ≤ a) (ha : a < 4) (hn : a ≠ 0) : ∃ o, F_field_inverse [.d (.int 4), .d (.int a)] S = .ok (.d o) S ∧ F__law_product [.d (.int 4), .d (.int a), .d o] S = .ok (.d (eins 4)) S := by
  rcases four ha0 ha with rfl | rfl | rfl | rfl
  · exact absurd rfl hn
  all_goals exact ⟨_, cast4 (fun S => rfl) S, cast4 (fun S => rfl) S⟩
/-! .. of primes -/
theorem inv_tab : (([2, 3, 5, 7, 11, 13, 31, 53, 89, 97] : List Nat).all fun q => (List.range q).all fun a => a == 0 || (List.range q).any fun b => a * b % q == 1) = true := by decide +kernel
theorem prm_tab : (([2, 3, 5, 7, 11, 13, 31, 53, 89, 97] : List Nat).all fun q => (List.range q).all fun a => (List.range q).all fun b => a * b % q != 0 || a == 0 || b == 0) = true := by decide +kernel
theorem qp_nat {q : Int} (h : q ∈ QP) : ∃ k : Nat, q = k ∧ k ∈ ([2, 3, 5, 7, 11, 13, 31, 53, 89, 97] : List Nat) ∧ 1 < k ∧ k ≤ 97 ∧ k ≠ 4 := by
  unfold QP at h
  simp only [List.mem_cons, List.not_mem_nil, or_false] at h
  rcases h with rfl | rfl | rfl | rfl | rfl | rfl | rfl | rfl | rfl | rfl
  · exact ⟨2, rfl, by decide⟩
  · exact ⟨3, rfl, by decide⟩
  · exact ⟨5, rfl, by decide⟩
  · exact ⟨7, rfl, by decide⟩
  · exact ⟨11, rfl, by decide⟩
  · exact ⟨13, rfl, by decide⟩
  · exact ⟨31, rfl, by decide⟩
  · exact ⟨53, rfl, by decide⟩
  · exact ⟨89, rfl, by decide⟩
  · exact ⟨97, rfl, by decide⟩
theorem qp_inv {q a : Int} (h : q ∈ QP) (h0 : 0 < a) (h1 : a < q) : ∃ b : Int, 1 ≤ b ∧ b < q ∧ a * b % q = 1 := by
  obtain ⟨k, rfl, hk, h2, h3, _⟩ := qp_nat h
  obtain ⟨c, rfl⟩ : ∃ c : Nat, a = c := ⟨a.toNat, by omega⟩
  have t := List.all_eq_true.mp (List.all_eq_true.mp inv_tab k hk) c (List.mem_range.mpr (by omega))
  have hc : (c == 0) = false := beq_false_of_ne (by omega)
  rw [hc, Bool.false_or] at t
  obtain ⟨b, m, e⟩ := List.any_eq_true.mp t
  have e' : c * b % k = 1 := eq_of_beq e
  have hb : b ≠ 0 := by
    intro z
    subst z
    simp at e'
  refine ⟨b, by omega, by have := List.mem_range.mp m; omega, ?_⟩
  rw [← Int.natCast_mul, ← Int.natCast_emod, e']
  rfl
theorem qp_prm {q a b : Int} (h : q ∈ QP) (hz : q ∣ a * b) : q ∣ a ∨ q ∣ b := by
  obtain ⟨k, rfl, hk, h2, h3, _⟩ := qp_nat h
  have ka : (0 : Int) < k := by omega
  have ea := Int.emod_nonneg a (b := (k : Int)) (by omega)
  have eb := Int.emod_nonneg b (b := (k : Int)) (by omega)
  have la := Int.emod_lt_of_pos a ka
  have lb := Int.emod_lt_of_pos b ka
  have t := List.all_eq_true.mp (List.all_eq_true.mp (List.all_eq_true.mp prm_tab k hk) (a % k).toNat (List.mem_range.mpr (by omega))) (b % k).toNat (List.mem_range.mpr (by omega))
  have hm : (a % k).toNat * (b % k).toNat % k = 0 := by
    have e1 : (((a % k).toNat * (b % k).toNat % k : Nat) : Int) = 0 := by
      rw [Int.natCast_emod, Int.natCast_mul, Int.toNat_of_nonneg ea, Int.toNat_of_nonneg eb, ← Int.mul_emod]
      exact Int.emod_eq_zero_of_dvd hz
    omega
  rw [hm] at t
  have t' : (a % k).toNat = 0 ∨ (b % k).toNat = 0 := by
    simp at t
    omega
  rcases t' with e | e
  · left; exact Int.dvd_of_emod_eq_zero (by omega)
  · right; exact Int.dvd_of_emod_eq_zero (by omega)
theorem sumP {q : Int} (hq : q ∈ QP) (a b : Int) (S : Store) : F_field_sum [.d (.int q), .d (.int a), .d (.int b)] S = .ok (.d (.int ((a + b) % q))) S ∧ F__law_sum [.d (.int q), .d (.int a), .d (.int b)] S = .ok (.d (.int ((a + b) % q))) S := by
  obtain ⟨k, rfl, hk, h2, h3, h4⟩ := qp_nat hq
  have z0 : ¬ ((k : Int) = 0) := by omega
  have z4 : ¬ ((k : Int) = 4) := by omega
  have m1 : ∀ i, modC i (k : Int) = true := fun i => modC_of z0
  constructor
  · simp -implicitDefEqProofs only [F_field_sum, b_field_sum, fSeq_eq, seqK_nx, seqK_rt, seqK_bk, seqK_ct, seqK_ite, eVar_0, eVar_s, bind_ok, sB_ok, eC_eq, eBin_eq, eUn_eq, iOp0_eq, iCmp_eq, tst_eq, addI, negI, fSet_eq, fRet_eq, fExpr_eq, fIf_eq, fAsg_eq, fPar_eq, fNil_eq, fBreak_eq, fCont_eq, gNm_eq, gsNil_eq, gsCons_eq, aNil_eq, aCons_eq, eCall_eq, eCallD_eq, intS_eq, absS_eq, mmS_eq, len_l, len_t, list_l, list_t, tup_l, tup_t, finF_eq, finC_eq, allD_nil, allD_cons, eTup_eq, eLst_eq, eIf_eq, runD_eq, hand_rt, handF_d, take_self, srcS_l, srcS_t, iSrc_eq, iZip_eq, zip_l, iEnm_eq, enum_l, pix0, pix1, pix2, pix3, pset1, pset2, pset3, gSub_eq, tYes_eq, eAdd_eq, eSub_eq, eMul_eq, eDiv_eq, eMod_eq, ePow_eq, eXor_eq, eNeg_eq, eIx_eq, eqI_t, eqI_f, tNot_eq, tAnd_eq, tOr_eq, tru_eq, tru_bool, tru_int, tru_list, eAnd_eq, eNot_eq, isi_eq, asD_d, List.length_cons, List.length_nil, List.map_cons, List.map_nil, List.cons_append, List.nil_append, List.append_nil, List.set_cons_succ, List.set_cons_zero, List.replicate_succ, List.replicate_zero, Option.map_some, if_true, if_false, reduceIte, Nat.reduceAdd, Nat.reduceSub, Nat.reduceLeDiff, List.length_map, Nat.reduceEqDiff, Bool.false_eq_true, Bool.not_false, Bool.not_true, ne_eq, not_true_eq_false, not_false_eq_true, decide_true, decide_false, eq_self, hand_rt, decide_eq_true_eq, z0, z4, iOp_eq _ _ _ _ _ (m1 _), fmod_pos (Int.natCast_nonneg k)]
  · simp -implicitDefEqProofs only [F__law_sum, b__law_sum, fSeq_eq, seqK_nx, seqK_rt, seqK_bk, seqK_ct, seqK_ite, eVar_0, eVar_s, bind_ok, sB_ok, eC_eq, eBin_eq, eUn_eq, iOp0_eq, iCmp_eq, tst_eq, addI, negI, fSet_eq, fRet_eq, fExpr_eq, fIf_eq, fAsg_eq, fPar_eq, fNil_eq, fBreak_eq, fCont_eq, gNm_eq, gsNil_eq, gsCons_eq, aNil_eq, aCons_eq, eCall_eq, eCallD_eq, intS_eq, absS_eq, mmS_eq, len_l, len_t, list_l, list_t, tup_l, tup_t, finF_eq, finC_eq, allD_nil, allD_cons, eTup_eq, eLst_eq, eIf_eq, runD_eq, hand_rt, handF_d, take_self, srcS_l, srcS_t, iSrc_eq, iZip_eq, zip_l, iEnm_eq, enum_l, pix0, pix1, pix2, pix3, pset1, pset2, pset3, gSub_eq, tYes_eq, eAdd_eq, eSub_eq, eMul_eq, eDiv_eq, eMod_eq, ePow_eq, eXor_eq, eNeg_eq, eIx_eq, eqI_t, eqI_f, tNot_eq, tAnd_eq, tOr_eq, tru_eq, tru_bool, tru_int, tru_list, eAnd_eq, eNot_eq, isi_eq, asD_d, List.length_cons, List.length_nil, List.map_cons, List.map_nil, List.cons_append, List.nil_append, List.append_nil, List.set_cons_succ, List.set_cons_zero, List.replicate_succ, List.replicate_zero, Option.map_some, if_true, if_false, reduceIte, Nat.reduceAdd, Nat.reduceSub, Nat.reduceLeDiff, List.length_map, Nat.reduceEqDiff, Bool.false_eq_true, Bool.not_false, Bool.not_true, ne_eq, not_true_eq_false, not_false_eq_true, decide_true, decide_false, eq_self, hand_rt, decide_eq_true_eq, z0, z4, iOp_eq _ _ _ _ _ (m1 _), fmod_pos (Int.natCast_nonneg k)]
theorem prodP {q : Int} (hq : q ∈ QP) (a b : Int) (S : Store) (h0 : 0 ≤ a) (h1 : a < q) : F_field_product [.d (.int q), .d (.int a), .d (.int b)] S = .ok (.d (.int ((a * b) % q))) S ∧ F__law_product [.d (.int q), .d (.int a), .d (.int b)] S = .ok (.d (.int ((a * b) % q))) S := by
  obtain ⟨k, rfl, hk, h2, h3, h4⟩ := qp_nat hq
  have z0 : ¬ ((k : Int) = 0) := by omega
  have z4 : ¬ ((k : Int) = 4) := by omega
  have m1 : ∀ i, modC i (k : Int) = true := fun i => modC_of z0
  have m2 : ∀ j, mulC a j = true := fun j => mulC_l (by omega) (by omega)
  constructor
  · simp -implicitDefEqProofs only [F_field_product, b_field_product, fSeq_eq, seqK_nx, seqK_rt, seqK_bk, seqK_ct, seqK_ite, eVar_0, eVar_s, bind_ok, sB_ok, eC_eq, eBin_eq, eUn_eq, iOp0_eq, iCmp_eq, tst_eq, addI, negI, fSet_eq, fRet_eq, fExpr_eq, fIf_eq, fAsg_eq, fPar_eq, fNil_eq, fBreak_eq, fCont_eq, gNm_eq, gsNil_eq, gsCons_eq, aNil_eq, aCons_eq, eCall_eq, eCallD_eq, intS_eq, absS_eq, mmS_eq, len_l, len_t, list_l, list_t, tup_l, tup_t, finF_eq, finC_eq, allD_nil, allD_cons, eTup_eq, eLst_eq, eIf_eq, runD_eq, hand_rt, handF_d, take_self, srcS_l, srcS_t, iSrc_eq, iZip_eq, zip_l, iEnm_eq, enum_l, pix0, pix1, pix2, pix3, pset1, pset2, pset3, gSub_eq, tYes_eq, eAdd_eq, eSub_eq, eMul_eq, eDiv_eq, eMod_eq, ePow_eq, eXor_eq, eNeg_eq, eIx_eq, eqI_t, eqI_f, tNot_eq, tAnd_eq, tOr_eq, tru_eq, tru_bool, tru_int, tru_list, eAnd_eq, eNot_eq, isi_eq, asD_d, List.length_cons, List.length_nil, List.map_cons, List.map_nil, List.cons_append, List.nil_append, List.append_nil, List.set_cons_succ, List.set_cons_zero, List.replicate_succ, List.replicate_zero, Option.map_some, if_true, if_false, reduceIte, Nat.reduceAdd, Nat.reduceSub, Nat.reduceLeDiff, List.length_map, Nat.reduceEqDiff, Bool.false_eq_true, Bool.not_false, Bool.not_true, ne_eq, not_true_eq_false, not_false_eq_true, decide_true, decide_false, eq_self, hand_rt, decide_eq_true_eq, z0, z4, iOp_eq _ _ _ _ _ (m1 _), mulI _ _ (m2 _), fmod_pos (Int.natCast_nonneg k)]
  · simp -implicitDefEqProofs only [F__law_product, b__law_product, fSeq_eq, seqK_nx, seqK_rt, seqK_bk, seqK_ct, seqK_ite, eVar_0, eVar_s, bind_ok, sB_ok, eC_eq, eBin_eq, eUn_eq, iOp0_eq, iCmp_eq, tst_eq, addI, negI, fSet_eq, fRet_eq, fExpr_eq, fIf_eq, fAsg_eq, fPar_eq, fNil_eq, fBreak_eq, fCont_eq, gNm_eq, gsNil_eq, gsCons_eq, aNil_eq, aCons_eq, eCall_eq, eCallD_eq, intS_eq, absS_eq, mmS_eq, len_l, len_t, list_l, list_t, tup_l, tup_t, finF_eq, finC_eq, allD_nil, allD_cons, eTup_eq, eLst_eq, eIf_eq, runD_eq, hand_rt, handF_d, take_self, srcS_l, srcS_t, iSrc_eq, iZip_eq, zip_l, iEnm_eq, enum_l, pix0, pix1, pix2, pix3, pset1, pset2, pset3, gSub_eq, tYes_eq, eAdd_eq, eSub_eq, eMul_eq, eDiv_eq, eMod_eq, ePow_eq, eXor_eq, eNeg_eq, eIx_eq, eqI_t, eqI_f, tNot_eq, tAnd_eq, tOr_eq, tru_eq, tru_bool, tru_int, tru_list, eAnd_eq, eNot_eq, isi_eq, asD_d, List.length_cons, List.length_nil, List.map_cons, List.map_nil, List.cons_append, List.nil_append, List.append_nil, List.set_cons_succ, List.set_cons_zero, List.replicate_succ, List.replicate_zero, Option.map_some, if_true, if_false, reduceIte, Nat.reduceAdd, Nat.reduceSub, Nat.reduceLeDiff, List.length_map, Nat.reduceEqDiff, Bool.false_eq_true, Bool.not_false, Bool.not_true, ne_eq, not_true_eq_false, not_false_eq_true, decide_true, decide_false, eq_self, hand_rt, decide_eq_true_eq, z0, z4, iOp_eq _ _ _ _ _ (m1 _), mulI _ _ (m2 _), fmod_pos (Int.natCast_nonneg k)]
theorem oppP {q : Int} (hq : q ∈ QP) (a : Int) (S : Store) : ∃ o, F_field_opposite [.d (.int q), .d (.int a)] S = .ok (.d o) S ∧ F__law_sum [.d (.int q), .d (.int a), .d o] S = .ok (.d (nul q)) S := by
  refine ⟨.int (-a % q), ?_, ?_⟩
  · obtain ⟨k, rfl, hk, h2, h3, h4⟩ := qp_nat hq
    have z0 : ¬ ((k : Int) = 0) := by omega
    have z4 : ¬ ((k : Int) = 4) := by omega
    have m1 : ∀ i, modC i (k : Int) = true := fun i => modC_of z0
    simp -implicitDefEqProofs only [F_field_opposite, b_field_opposite, fSeq_eq, seqK_nx, seqK_rt, seqK_bk, seqK_ct, seqK_ite, eVar_0, eVar_s, bind_ok, sB_ok, eC_eq, eBin_eq, eUn_eq, iOp0_eq, iCmp_eq, tst_eq, addI, negI, fSet_eq, fRet_eq, fExpr_eq, fIf_eq, fAsg_eq, fPar_eq, fNil_eq, fBreak_eq, fCont_eq, gNm_eq, gsNil_eq, gsCons_eq, aNil_eq, aCons_eq, eCall_eq, eCallD_eq, intS_eq, absS_eq, mmS_eq, len_l, len_t, list_l, list_t, tup_l, tup_t, finF_eq, finC_eq, allD_nil, allD_cons, eTup_eq, eLst_eq, eIf_eq, runD_eq, hand_rt, handF_d, take_self, srcS_l, srcS_t, iSrc_eq, iZip_eq, zip_l, iEnm_eq, enum_l, pix0, pix1, pix2, pix3, pset1, pset2, pset3, gSub_eq, tYes_eq, eAdd_eq, eSub_eq, eMul_eq, eDiv_eq, eMod_eq, ePow_eq, eXor_eq, eNeg_eq, eIx_eq, eqI_t, eqI_f, tNot_eq, tAnd_eq, tOr_eq, tru_eq, tru_bool, tru_int, tru_list, eAnd_eq, eNot_eq, isi_eq, asD_d, List.length_cons, List.length_nil, List.map_cons, List.map_nil, List.cons_append, List.nil_append, List.append_nil, List.set_cons_succ, List.set_cons_zero, List.replicate_succ, List.replicate_zero, Option.map_some, if_true, if_false, reduceIte, Nat.reduceAdd, Nat.reduceSub, Nat.reduceLeDiff, List.length_map, Nat.reduceEqDiff, Bool.false_eq_true, Bool.not_false, Bool.not_true, ne_eq, not_true_eq_false, not_false_eq_true, decide_true, decide_false, eq_self, hand_rt, decide_eq_true_eq, z0, z4, iOp_eq _ _ _ _ _ (m1 _), fmod_pos (Int.natCast_nonneg k)]
  · rw [(sumP hq a (-a % q) S).2]
    obtain ⟨k, rfl, hk, h2, h3, h4⟩ := qp_nat hq
    have z0 : ¬ ((k : Int) = 0) := by omega
    rw [Int.add_emod_emod, show a + -a = 0 by omega, Int.zero_emod, nul, if_neg z0]
theorem invP {q : Int} (hq : q ∈ QP) (a : Int) (S : Store) (h0 : 0 < a) (h1 : a < q) : ∃ o, F_field_inverse [.d (.int q), .d (.int a)] S = .ok (.d o) S ∧ F__law_product [.d (.int q), .d (.int a), .d o] S = .ok (.d (eins q)) S := by
  obtain ⟨b, hb0, hb1, hb⟩ := qp_inv hq h0 h1
  obtain ⟨k, rfl, hk, h2, h3, h4⟩ := qp_nat hq
  have z0 : ¬ ((k : Int) = 0) := by omega
  have z4 : ¬ ((k : Int) = 4) := by omega
  have m1 : ∀ i, modC i (k : Int) = true := fun i => modC_of z0
  have m2 : ∀ j, mulC a j = true := fun j => mulC_l (by omega) (by omega)
  let c : PyData → Bool := fun d => match d with
    | .int j => decide (a * j % (k : Int) = 1)
    | _ => false
  have e0 : iRg (rg2 (eC (.int 1)) (eVar 0)) [some (.d (.int k)), some (.d (.int a)), none] S = .ok ⟨rgD 1 k, fun _ => true⟩ S := by
    have u2 : (k : Int) ≤ 16777216 := by omega
    have u3 : (0 : Int) ≤ k := by omega
    simp -implicitDefEqProofs only [iRg_eq, rg2, fSeq_eq, seqK_nx, seqK_rt, seqK_bk, seqK_ct, seqK_ite, eVar_0, eVar_s, bind_ok, sB_ok, eC_eq, eBin_eq, eUn_eq, iOp0_eq, iCmp_eq, tst_eq, addI, negI, fSet_eq, fRet_eq, fExpr_eq, fIf_eq, fAsg_eq, fPar_eq, fNil_eq, fBreak_eq, fCont_eq, gNm_eq, gsNil_eq, gsCons_eq, aNil_eq, aCons_eq, eCall_eq, eCallD_eq, intS_eq, absS_eq, mmS_eq, len_l, len_t, list_l, list_t, tup_l, tup_t, finF_eq, finC_eq, allD_nil, allD_cons, eTup_eq, eLst_eq, eIf_eq, runD_eq, hand_rt, handF_d, take_self, srcS_l, srcS_t, iSrc_eq, iZip_eq, zip_l, iEnm_eq, enum_l, pix0, pix1, pix2, pix3, pset1, pset2, pset3, gSub_eq, tYes_eq, eAdd_eq, eSub_eq, eMul_eq, eDiv_eq, eMod_eq, ePow_eq, eXor_eq, eNeg_eq, eIx_eq, eqI_t, eqI_f, tNot_eq, tAnd_eq, tOr_eq, tru_eq, tru_bool, tru_int, tru_list, eAnd_eq, eNot_eq, isi_eq, asD_d, List.length_cons, List.length_nil, List.map_cons, List.map_nil, List.cons_append, List.nil_append, List.append_nil, List.set_cons_succ, List.set_cons_zero, List.replicate_succ, List.replicate_zero, Option.map_some, if_true, if_false, reduceIte, Nat.reduceAdd, Nat.reduceSub, Nat.reduceLeDiff, List.length_map, Nat.reduceEqDiff, Bool.false_eq_true, Bool.not_false, Bool.not_true, ne_eq, not_true_eq_false, not_false_eq_true, decide_true, decide_false, eq_self, hand_rt, decide_eq_true_eq]
    rw [rgSrc_eq S (rgC_of (by decide) (by decide) u2 u3)]
  have e1 : C_field_inverse_1 [some (.d (.int k)), some (.d (.int a)), none] S = .ok (.d (.list ((rgD 1 k).filter c))) S := by
    unfold C_field_inverse_1
    rw [eLc_eq e0, lcL_pure c id rfl]
    · simp only [bind_ok, finF_eq, List.map_id]
    · intro d m
      obtain ⟨j, _, rfl⟩ := List.mem_map.mp m
      refine ⟨_, gNm_eq _ _ _ _, ?_, fun _ => ?_⟩
      · simp -implicitDefEqProofs only [T_field_inverse_1, wipeE, fSeq_eq, seqK_nx, seqK_rt, seqK_bk, seqK_ct, seqK_ite, eVar_0, eVar_s, bind_ok, sB_ok, eC_eq, eBin_eq, eUn_eq, iOp0_eq, iCmp_eq, tst_eq, addI, negI, fSet_eq, fRet_eq, fExpr_eq, fIf_eq, fAsg_eq, fPar_eq, fNil_eq, fBreak_eq, fCont_eq, gNm_eq, gsNil_eq, gsCons_eq, aNil_eq, aCons_eq, eCall_eq, eCallD_eq, intS_eq, absS_eq, mmS_eq, len_l, len_t, list_l, list_t, tup_l, tup_t, finF_eq, finC_eq, allD_nil, allD_cons, eTup_eq, eLst_eq, eIf_eq, runD_eq, hand_rt, handF_d, take_self, srcS_l, srcS_t, iSrc_eq, iZip_eq, zip_l, iEnm_eq, enum_l, pix0, pix1, pix2, pix3, pset1, pset2, pset3, gSub_eq, tYes_eq, eAdd_eq, eSub_eq, eMul_eq, eDiv_eq, eMod_eq, ePow_eq, eXor_eq, eNeg_eq, eIx_eq, eqI_t, eqI_f, tNot_eq, tAnd_eq, tOr_eq, tru_eq, tru_bool, tru_int, tru_list, eAnd_eq, eNot_eq, isi_eq, asD_d, List.length_cons, List.length_nil, List.map_cons, List.map_nil, List.cons_append, List.nil_append, List.append_nil, List.set_cons_succ, List.set_cons_zero, List.replicate_succ, List.replicate_zero, Option.map_some, if_true, if_false, reduceIte, Nat.reduceAdd, Nat.reduceSub, Nat.reduceLeDiff, List.length_map, Nat.reduceEqDiff, Bool.false_eq_true, Bool.not_false, Bool.not_true, ne_eq, not_true_eq_false, not_false_eq_true, decide_true, decide_false, eq_self, hand_rt, decide_eq_true_eq, iOp_eq _ _ _ _ _ (m1 _), mulI _ _ (m2 _), fmod_pos (Int.natCast_nonneg k), c]
      · simp -implicitDefEqProofs only [E_field_inverse_1, wipeE, fSeq_eq, seqK_nx, seqK_rt, seqK_bk, seqK_ct, seqK_ite, eVar_0, eVar_s, bind_ok, sB_ok, eC_eq, eBin_eq, eUn_eq, iOp0_eq, iCmp_eq, tst_eq, addI, negI, fSet_eq, fRet_eq, fExpr_eq, fIf_eq, fAsg_eq, fPar_eq, fNil_eq, fBreak_eq, fCont_eq, gNm_eq, gsNil_eq, gsCons_eq, aNil_eq, aCons_eq, eCall_eq, eCallD_eq, intS_eq, absS_eq, mmS_eq, len_l, len_t, list_l, list_t, tup_l, tup_t, finF_eq, finC_eq, allD_nil, allD_cons, eTup_eq, eLst_eq, eIf_eq, runD_eq, hand_rt, handF_d, take_self, srcS_l, srcS_t, iSrc_eq, iZip_eq, zip_l, iEnm_eq, enum_l, pix0, pix1, pix2, pix3, pset1, pset2, pset3, gSub_eq, tYes_eq, eAdd_eq, eSub_eq, eMul_eq, eDiv_eq, eMod_eq, ePow_eq, eXor_eq, eNeg_eq, eIx_eq, eqI_t, eqI_f, tNot_eq, tAnd_eq, tOr_eq, tru_eq, tru_bool, tru_int, tru_list, eAnd_eq, eNot_eq, isi_eq, asD_d, List.length_cons, List.length_nil, List.map_cons, List.map_nil, List.cons_append, List.nil_append, List.append_nil, List.set_cons_succ, List.set_cons_zero, List.replicate_succ, List.replicate_zero, Option.map_some, if_true, if_false, reduceIte, Nat.reduceAdd, Nat.reduceSub, Nat.reduceLeDiff, List.length_map, Nat.reduceEqDiff, Bool.false_eq_true, Bool.not_false, Bool.not_true, ne_eq, not_true_eq_false, not_false_eq_true, decide_true, decide_false, eq_self, hand_rt, decide_eq_true_eq, id]
  have hm : PyData.int b ∈ (rgD 1 k).filter c := by
    have hr : PyData.int b ∈ rgD 1 k := by
      unfold rgD
      refine List.mem_map.mpr ⟨(b - 1).toNat, List.mem_range.mpr ?_, ?_⟩
      · omega
      · rw [Int.toNat_of_nonneg (by omega)]
        rw [show 1 + (b - 1) = b by omega]
    exact List.mem_filter.mpr ⟨hr, decide_eq_true hb⟩
  cases hl : (rgD 1 k).filter c with
  | nil => rw [hl] at hm; cases hm
  | cons x xs =>
    have hx : x ∈ (rgD 1 k).filter c := by rw [hl]; exact List.mem_cons_self ..
    obtain ⟨mx, cx⟩ := List.mem_filter.mp hx
    obtain ⟨j, _, rfl⟩ := List.mem_map.mp mx
    have ix : atI (PyData.int (1 + (j : Int)) :: xs) 0 = some (.int (1 + j)) := ix_nat (i := 0) rfl
    refine ⟨.int (1 + j), ?_, ?_⟩
    · rw [hl] at e1
      simp -implicitDefEqProofs only [F_field_inverse, b_field_inverse, fSeq_eq, seqK_nx, seqK_rt, seqK_bk, seqK_ct, seqK_ite, eVar_0, eVar_s, bind_ok, sB_ok, eC_eq, eBin_eq, eUn_eq, iOp0_eq, iCmp_eq, tst_eq, addI, negI, fSet_eq, fRet_eq, fExpr_eq, fIf_eq, fAsg_eq, fPar_eq, fNil_eq, fBreak_eq, fCont_eq, gNm_eq, gsNil_eq, gsCons_eq, aNil_eq, aCons_eq, eCall_eq, eCallD_eq, intS_eq, absS_eq, mmS_eq, len_l, len_t, list_l, list_t, tup_l, tup_t, finF_eq, finC_eq, allD_nil, allD_cons, eTup_eq, eLst_eq, eIf_eq, runD_eq, hand_rt, handF_d, take_self, srcS_l, srcS_t, iSrc_eq, iZip_eq, zip_l, iEnm_eq, enum_l, pix0, pix1, pix2, pix3, pset1, pset2, pset3, gSub_eq, tYes_eq, eAdd_eq, eSub_eq, eMul_eq, eDiv_eq, eMod_eq, ePow_eq, eXor_eq, eNeg_eq, eIx_eq, eqI_t, eqI_f, tNot_eq, tAnd_eq, tOr_eq, tru_eq, tru_bool, tru_int, tru_list, eAnd_eq, eNot_eq, isi_eq, asD_d, List.length_cons, List.length_nil, List.map_cons, List.map_nil, List.cons_append, List.nil_append, List.append_nil, List.set_cons_succ, List.set_cons_zero, List.replicate_succ, List.replicate_zero, Option.map_some, if_true, if_false, reduceIte, Nat.reduceAdd, Nat.reduceSub, Nat.reduceLeDiff, List.length_map, Nat.reduceEqDiff, Bool.false_eq_true, Bool.not_false, Bool.not_true, ne_eq, not_true_eq_false, not_false_eq_true, decide_true, decide_false, eq_self, hand_rt, decide_eq_true_eq, z0, z4, e1, ix_l _ ix]
    · rw [(prodP hq a (1 + j) S (by omega) h1).2, of_decide_eq_true (show decide (a * (1 + (j : Int)) % (k : Int) = 1) = true from cx), eins, if_neg z0]
end G06
namespace G06
open PySem L2 DL
def QS (q : Int) : Prop := q = 0 ∨ q = 4 ∨ q ∈ QP
theorem QS.lo {q : Int} (h : QS q) : 0 ≤ q ∧ q < 1000 := by
  rcases h with rfl | rfl | h
  · decide
  · decide
  · obtain ⟨k, rfl, _, h2, h3, _⟩ := qp_nat h
    omega
theorem num_pl {q : Int} {B : Nat} {x : PyData} (h : Num q B x) (n : Nat) : pl (n + 2) x := by
  unfold Num at h
  split at h
  · obtain ⟨n, d, rfl, _⟩ := h
    refine ⟨fun x m => ?_, by simp⟩
    simp only [List.mem_cons, List.not_mem_nil, or_false] at m
    rcases m with rfl | rfl <;> trivial
  · obtain ⟨a, rfl, _⟩ := h
    trivial
theorem nul_pl (q : Int) (n : Nat) : pl (n + 2) (nul q) ∧ pl (n + 2) (eins q) := by
  unfold nul eins
  split <;> constructor
  · refine ⟨fun x m => ?_, by simp⟩
    simp only [List.mem_cons, List.not_mem_nil, or_false] at m
    rcases m with rfl | rfl <;> trivial
  · refine ⟨fun x m => ?_, by simp⟩
    simp only [List.mem_cons, List.not_mem_nil, or_false] at m
    rcases m with rfl | rfl <;> trivial
  · trivial
  · trivial
theorem sum_ok {q : Int} (hq : QS q) {a b : PyData} {A B : Nat} (S : Store) (ha : Num q A a) (hb : Num q B b) (hA : A ≤ 1000) (hB : B ≤ 1000) (hAB : A * B < 19000) : ∃ s, F_field_sum [.d (.int q), .d a, .d b] S = .ok (.d s) S ∧ F__law_sum [.d (.int q), .d a, .d b] S = .ok (.d s) S ∧ Num q (A * B + B * A) s := by
  rcases hq with rfl | rfl | hq
  · obtain ⟨s, h1, h2, h3⟩ := sum0 S ha hb hA hB hAB
    exact ⟨s, h1, h2, h3⟩
  · obtain ⟨x, rfl, x0, x1⟩ := ha
    obtain ⟨y, rfl, y0, y1⟩ := hb
    obtain ⟨s, h1, h2, _, h4, h5⟩ := sum4_ok S x0 x1 y0 y1
    exact ⟨_, h1, h2, s, rfl, h4, h5⟩
  · obtain ⟨k, rfl, _, h2, h3, _⟩ := qp_nat hq
    have z : ¬ ((k : Int) = 0) := by omega
    have ha' := (if_neg z).mp ha
    have hb' := (if_neg z).mp hb
    obtain ⟨x, rfl, x0, x1⟩ := ha'
    obtain ⟨y, rfl, y0, y1⟩ := hb'
    obtain ⟨h1, h2⟩ := sumP hq x y S
    exact ⟨_, h1, h2, (if_neg z).mpr ⟨_, rfl, Int.emod_nonneg _ z, Int.emod_lt_of_pos _ (by omega)⟩⟩
theorem prod_ok {q : Int} (hq : QS q) {a b : PyData} {A B : Nat} (S : Store) (ha : Num q A a) (hb : Num q B b) (hA : A ≤ 1000) (hB : B ≤ 1000) (hAB : A * B < 19000) : ∃ s, F_field_product [.d (.int q), .d a, .d b] S = .ok (.d s) S ∧ F__law_product [.d (.int q), .d a, .d b] S = .ok (.d s) S ∧ Num q (A * B) s := by
  rcases hq with rfl | rfl | hq
  · obtain ⟨s, h1, h2, h3⟩ := prod0 S ha hb hA hB hAB
    exact ⟨s, h1, h2, h3⟩
  · obtain ⟨x, rfl, x0, x1⟩ := ha
    obtain ⟨y, rfl, y0, y1⟩ := hb
    obtain ⟨s, h1, h2, _, h4, h5⟩ := prod4_ok S x0 x1 y0 y1
    exact ⟨_, h1, h2, s, rfl, h4, h5⟩
  · obtain ⟨k, rfl, _, h2, h3, _⟩ := qp_nat hq
    have z : ¬ ((k : Int) = 0) := by omega
    have ha' := (if_neg z).mp ha
    have hb' := (if_neg z).mp hb
    obtain ⟨x, rfl, x0, x1⟩ := ha'
    obtain ⟨y, rfl, y0, y1⟩ := hb'
    obtain ⟨h1, h2⟩ := prodP hq x y S x0 x1
    exact ⟨_, h1, h2, (if_neg z).mpr ⟨_, rfl, Int.emod_nonneg _ z, Int.emod_lt_of_pos _ (by omega)⟩⟩
theorem opp_ok {q : Int} (hq : QS q) {a : PyData} (S : Store) (ha : Num q 12 a) : ∃ o, F_field_opposite [.d (.int q), .d a] S = .ok (.d o) S ∧ F__law_sum [.d (.int q), .d a, .d o] S = .ok (.d (nul q)) S := by
  rcases hq with rfl | rfl | hq
  · exact opp0 S ha (by decide)
  · obtain ⟨x, rfl, x0, x1⟩ := ha
    exact opp4 S x0 x1
  · obtain ⟨k, rfl, _, h2, h3, _⟩ := qp_nat hq
    have z : ¬ ((k : Int) = 0) := by omega
    obtain ⟨x, rfl, x0, x1⟩ := (if_neg z).mp ha
    exact oppP hq x S
theorem inv_ok {q : Int} (hq : QS q) {a : PyData} (S : Store) (ha : Num q 12 a) : ∃ c, eqS true (.d a) (.d (nul q)) S = .ok (.d (.bool c)) S ∧ (c = true → ∃ o, F_field_inverse [.d (.int q), .d a] S = .ok (.d o) S ∧ F__law_product [.d (.int q), .d a, .d o] S = .ok (.d (eins q)) S) := by
  rcases hq with rfl | rfl | hq
  · exact inv0 S ha (by decide)
  · obtain ⟨x, rfl, x0, x1⟩ := ha
    exact ⟨_, eqI_f x 0 S, fun h => inv4 S x0 x1 (of_decide_eq_true h)⟩
  · obtain ⟨k, rfl, _, h2, h3, _⟩ := qp_nat hq
    have z : ¬ ((k : Int) = 0) := by omega
    obtain ⟨x, rfl, x0, x1⟩ := (if_neg z).mp ha
    have e : nul (k : Int) = .int 0 := if_neg z
    rw [e]
    exact ⟨_, eqI_f x 0 S, fun h => invP hq x S (by have := of_decide_eq_true h; omega) x1⟩
theorem same_ok {x : PyData} (h : pl 6 x) (S : Store) : F__law_same [.d x, .d x] S = .ok (.d (.bool true)) S := same_at 6 x S h
theorem turn_ok {q : Int} (hq : QS q) (P : MO) (R : Store) (hP : PoolOk P) (t a b : Option SV) : (B__law_so_1 [some (.cell 0), some (.d (.int q)), some (.d (nul q)), some (.d (eins q)), t, a, b, none, none, none, none, none] (P :: R)).Ret
    fun fl S' => ∃ a b P', fl = .nx [some (.cell 0), some (.d (.int q)), some (.d (nul q)), some (.d (eins q)), t, a, b, none, none, none, none, none] ∧ S' = P' :: R ∧ PoolOk P' := by
  obtain ⟨v, S', e1, x, P1, rfl, hx, rfl, u1⟩ := (number_ok P q R hP hq.lo.1 hq.lo.2).ok
  obtain ⟨v, S', e2, y, P2, rfl, hy, rfl, u2⟩ := (number_ok P1 q R u1 hq.lo.1 hq.lo.2).ok
  obtain ⟨s, s1, s2, s3⟩ := sum_ok hq (P2 :: R) hx hy (by decide) (by decide) (by decide)
  obtain ⟨p, p1, p2, p3⟩ := prod_ok hq (P2 :: R) hx hy (by decide) (by decide) (by decide)
  obtain ⟨o, o1, o2⟩ := opp_ok hq (P2 :: R) hx
  obtain ⟨c, c1, c2⟩ := inv_ok hq (P2 :: R) hx
  have pk : pl 6 (.tuple [s, p]) := ⟨fun z m => by
    simp only [List.mem_cons, List.not_mem_nil, or_false] at m
    rcases m with rfl | rfl
    · exact num_pl s3 3
    · exact num_pl p3 3, by simp⟩
  have k1 := same_ok pk (P2 :: R)
  have k2 := same_ok (nul_pl q 4).1 (P2 :: R)
  have k3 := same_ok (nul_pl q 4).2 (P2 :: R)
  cases c with
  | false =>
    simp -implicitDefEqProofs only [B__law_so_1, fSeq_eq, seqK_nx, seqK_rt, seqK_bk, seqK_ct, seqK_ite, eVar_0, eVar_s, bind_ok, sB_ok, eC_eq, eBin_eq, eUn_eq, iOp0_eq, iCmp_eq, tst_eq, addI, negI, fSet_eq, fRet_eq, fExpr_eq, fIf_eq, fAsg_eq, fPar_eq, fNil_eq, fBreak_eq, fCont_eq, gNm_eq, gsNil_eq, gsCons_eq, aNil_eq, aCons_eq, eCall_eq, eCallD_eq, intS_eq, absS_eq, mmS_eq, len_l, len_t, list_l, list_t, tup_l, tup_t, finF_eq, finC_eq, allD_nil, allD_cons, eTup_eq, eLst_eq, eIf_eq, runD_eq, hand_rt, handF_d, take_self, srcS_l, srcS_t, iSrc_eq, iZip_eq, zip_l, iEnm_eq, enum_l, pix0, pix1, pix2, pix3, pset1, pset2, pset3, gSub_eq, tYes_eq, eAdd_eq, eSub_eq, eMul_eq, eDiv_eq, eMod_eq, ePow_eq, eXor_eq, eNeg_eq, eIx_eq, eqI_t, eqI_f, tNot_eq, tAnd_eq, tOr_eq, tru_eq, tru_bool, tru_int, tru_list, eAnd_eq, eNot_eq, isi_eq, asD_d, List.length_cons, List.length_nil, List.map_cons, List.map_nil, List.cons_append, List.nil_append, List.append_nil, List.set_cons_succ, List.set_cons_zero, List.replicate_succ, List.replicate_zero, Option.map_some, if_true, if_false, reduceIte, Nat.reduceAdd, Nat.reduceSub, Nat.reduceLeDiff, List.length_map, Nat.reduceEqDiff, Bool.false_eq_true, Bool.not_false, Bool.not_true, ne_eq, not_true_eq_false, not_false_eq_true, decide_true, decide_false, eq_self, hand_rt, decide_eq_true_eq, e1, e2, s1, s2, p1, p2, o1, o2, c1, k1, k2, Ret_ok]
    exact ⟨_, _, P2, rfl, rfl, u2⟩
  | true =>
    obtain ⟨i, i1, i2⟩ := c2 rfl
    simp -implicitDefEqProofs only [B__law_so_1, fSeq_eq, seqK_nx, seqK_rt, seqK_bk, seqK_ct, seqK_ite, eVar_0, eVar_s, bind_ok, sB_ok, eC_eq, eBin_eq, eUn_eq, iOp0_eq, iCmp_eq, tst_eq, addI, negI, fSet_eq, fRet_eq, fExpr_eq, fIf_eq, fAsg_eq, fPar_eq, fNil_eq, fBreak_eq, fCont_eq, gNm_eq, gsNil_eq, gsCons_eq, aNil_eq, aCons_eq, eCall_eq, eCallD_eq, intS_eq, absS_eq, mmS_eq, len_l, len_t, list_l, list_t, tup_l, tup_t, finF_eq, finC_eq, allD_nil, allD_cons, eTup_eq, eLst_eq, eIf_eq, runD_eq, hand_rt, handF_d, take_self, srcS_l, srcS_t, iSrc_eq, iZip_eq, zip_l, iEnm_eq, enum_l, pix0, pix1, pix2, pix3, pset1, pset2, pset3, gSub_eq, tYes_eq, eAdd_eq, eSub_eq, eMul_eq, eDiv_eq, eMod_eq, ePow_eq, eXor_eq, eNeg_eq, eIx_eq, eqI_t, eqI_f, tNot_eq, tAnd_eq, tOr_eq, tru_eq, tru_bool, tru_int, tru_list, eAnd_eq, eNot_eq, isi_eq, asD_d, List.length_cons, List.length_nil, List.map_cons, List.map_nil, List.cons_append, List.nil_append, List.append_nil, List.set_cons_succ, List.set_cons_zero, List.replicate_succ, List.replicate_zero, Option.map_some, if_true, if_false, reduceIte, Nat.reduceAdd, Nat.reduceSub, Nat.reduceLeDiff, List.length_map, Nat.reduceEqDiff, Bool.false_eq_true, Bool.not_false, Bool.not_true, ne_eq, not_true_eq_false, not_false_eq_true, decide_true, decide_false, eq_self, hand_rt, decide_eq_true_eq, e1, e2, s1, s2, p1, p2, o1, o2, c1, k1, k2, i1, i2, k3, Ret_ok]
    exact ⟨_, _, P2, rfl, rfl, u2⟩
theorem turns_ok {q : Int} (hq : QS q) (P : MO) (R : Store) (hP : PoolOk P) : (L__law_so_1 [some (.cell 0), some (.d (.int q)), some (.d (nul q)), some (.d (eins q)), none, none, none, none, none, none, none, none] (P :: R)).Ret
    fun fl S' => ∃ t a b P', fl = .nx [some (.cell 0), some (.d (.int q)), some (.d (nul q)), some (.d (eins q)), t, a, b, none, none, none, none, none] ∧ S' = P' :: R ∧ PoolOk P' := by
  have e0 : ∀ (Γ : Ev) S, iRg (rg1 (eC (.int 8))) Γ S = .ok ⟨rgD 0 8, fun _ => true⟩ S := fun Γ S => by
    simp -implicitDefEqProofs only [iRg_eq, rg1_eq, fSeq_eq, seqK_nx, seqK_rt, seqK_bk, seqK_ct, seqK_ite, eVar_0, eVar_s, bind_ok, sB_ok, eC_eq, eBin_eq, eUn_eq, iOp0_eq, iCmp_eq, tst_eq, addI, negI, fSet_eq, fRet_eq, fExpr_eq, fIf_eq, fAsg_eq, fPar_eq, fNil_eq, fBreak_eq, fCont_eq, gNm_eq, gsNil_eq, gsCons_eq, aNil_eq, aCons_eq, eCall_eq, eCallD_eq, intS_eq, absS_eq, mmS_eq, len_l, len_t, list_l, list_t, tup_l, tup_t, finF_eq, finC_eq, allD_nil, allD_cons, eTup_eq, eLst_eq, eIf_eq, runD_eq, hand_rt, handF_d, take_self, srcS_l, srcS_t, iSrc_eq, iZip_eq, zip_l, iEnm_eq, enum_l, pix0, pix1, pix2, pix3, pset1, pset2, pset3, gSub_eq, tYes_eq, eAdd_eq, eSub_eq, eMul_eq, eDiv_eq, eMod_eq, ePow_eq, eXor_eq, eNeg_eq, eIx_eq, eqI_t, eqI_f, tNot_eq, tAnd_eq, tOr_eq, tru_eq, tru_bool, tru_int, tru_list, eAnd_eq, eNot_eq, isi_eq, asD_d, List.length_cons, List.length_nil, List.map_cons, List.map_nil, List.cons_append, List.nil_append, List.append_nil, List.set_cons_succ, List.set_cons_zero, List.replicate_succ, List.replicate_zero, Option.map_some, if_true, if_false, reduceIte, Nat.reduceAdd, Nat.reduceSub, Nat.reduceLeDiff, List.length_map, Nat.reduceEqDiff, Bool.false_eq_true, Bool.not_false, Bool.not_true, ne_eq, not_true_eq_false, not_false_eq_true, decide_true, decide_false, eq_self, hand_rt, decide_eq_true_eq]
    exact rgSrc_eq S (by decide)
  unfold L__law_so_1
  rw [fFor_eq (e0 _ _)]
  refine forL_ret (fun _ Γ S => ∃ t a b P', Γ = [some (.cell 0), some (.d (.int q)), some (.d (nul q)), some (.d (eins q)), t, a, b, none, none, none, none, none] ∧ S = P' :: R ∧ PoolOk P') _ (fun _ _ _ _ => rfl)
    (fun Γ S h => ?_) (fun d ds Γ S h => ?_) _ _ _ ⟨none, none, none, P, rfl, rfl, hP⟩
  · obtain ⟨t, a, b, P', rfl, rfl, h⟩ := h
    exact ⟨t, a, b, P', rfl, rfl, h⟩
  · obtain ⟨t, a, b, P', rfl, rfl, h⟩ := h
    rw [gNm_eq, Ret_ok]
    refine (turn_ok hq P' R h (some (.d d)) a b).imp fun fl S ⟨a, b, P2, h1, h2, h3⟩ => ?_
    subst h1
    exact ⟨_, a, b, P2, rfl, h2, h3⟩
end G06
namespace G06
open PySem L2 DL LinA
/-! ### 5. rows -/
def Val (q : Int) (b : Nat) (x : Int) : Prop := if q = 0 then x.natAbs < 2 ^ b else 0 ≤ x ∧ x < q
def RowOk (q : Int) (b n : Nat) (xs : List Int) : Prop := xs.length = n ∧ ∀ x ∈ xs, Val q b x
theorem Val.mono {q : Int} {b c : Nat} {x : Int} (h : Val q b x) (hc : b ≤ c) : Val q c x := by
  unfold Val at h ⊢
  by_cases h0 : q = 0
  · rw [if_pos h0] at h ⊢
    exact Nat.lt_of_lt_of_le h (Nat.pow_le_pow_right (by decide) hc)
  · rw [if_neg h0] at h ⊢
    exact h
theorem RowOk.mono {q : Int} {b c n : Nat} {xs : List Int} (h : RowOk q b n xs) (hc : b ≤ c) : RowOk q c n xs := ⟨h.1, fun x m => (h.2 x m).mono hc⟩
theorem Val.zero {q : Int} {b : Nat} (hq : QS q) : Val q b 0 := by
  unfold Val
  split
  · exact Nat.pow_pos (by decide)
  · have := hq.lo
    omega
def vec {R : Type} (φ : Int → R) (xs : List Int) : Vec R := fun i => φ (xs.getD i 0)
theorem RowOk.get {q : Int} {b n : Nat} {xs : List Int} (h : RowOk q b n xs) (hq : QS q) (i : Nat) : Val q b (xs.getD i 0) := by
  rcases Nat.lt_or_ge i xs.length with hl | hl
  · have : xs.getD i 0 = xs[i] := by simp [List.getD, hl]
    rw [this]
    exact h.2 _ (List.getElem_mem _)
  · have : xs.getD i 0 = 0 := by simp [List.getD, hl]
    rw [this]
    exact .zero hq
theorem row_at {xs : List Int} {i : Nat} (h : i < xs.length) (S : Store) : ixS (.d (lst xs)) (.d (.int i)) S = .ok (.d (.int (xs.getD i 0))) S := by
  refine ix_l S (ix_nat ?_)
  simp [List.getD, h]
theorem bound_mul {l p r m : Int} {b : Nat} (h1 : l.natAbs < 2 ^ b) (h2 : p.natAbs < 2 ^ b) (h3 : r.natAbs < 2 ^ b) (h4 : m.natAbs < 2 ^ b) : (l * p - r * m).natAbs < 2 ^ (2 * b + 1) := by
  have e1 : (l * p).natAbs < 2 ^ b * 2 ^ b := by rw [Int.natAbs_mul]; exact Nat.mul_lt_mul'' h1 h2
  have e2 : (r * m).natAbs < 2 ^ b * 2 ^ b := by rw [Int.natAbs_mul]; exact Nat.mul_lt_mul'' h3 h4
  have e3 : 2 ^ (2 * b + 1) = 2 ^ b * 2 ^ b * 2 := by rw [Nat.pow_succ, Nat.two_mul, Nat.pow_add]
  omega
/-! program, whole numbers: the list before it is cut -/
theorem found_ok {q : Int} {row lead : List Int} {b n t : Nat} (hq4 : q ≠ 4) (hq : QS q) (hr : RowOk q b n row) (hl : RowOk q b n lead) (ht : t < n) (hb : b ≤ 4300) (o4 o7 o8 : Option SV) (S : Store) :
    C_less_times_2 [some (.d (.int q)), some (.d (lst row)), some (.d (lst lead)), some (.d (.int t)), o4, none, none, o7, o8] S = .ok (.d (lst (List.zipWith (fun p m => lead.getD t 0 * p - row.getD t 0 * m) row lead))) S := by
  refine zip_comp _ rfl rfl fun p m mp mm => ⟨_, rfl, ?_⟩
  have m1 : ∀ x ∈ row ++ lead, ∀ y ∈ row ++ lead, mulC x y = true := by
    intro x hx y hy
    have vx : Val q b x := (List.mem_append.mp hx).elim (hr.2 x) (hl.2 x)
    have vy : Val q b y := (List.mem_append.mp hy).elim (hr.2 y) (hl.2 y)
    unfold Val at vx vy
    by_cases h0 : q = 0
    · rw [if_pos h0] at vx vy
      exact mulC_big b b vx vy (by omega)
    · rw [if_neg h0] at vx vy
      have := hq.lo
      exact mulC_l (by omega) (by omega)
  have g : ∀ (xs : List Int), t < xs.length → xs.getD t 0 ∈ xs := fun xs h => by
    have : xs.getD t 0 = xs[t] := by simp [List.getD, h]
    rw [this]
    exact List.getElem_mem _
  have a1 : t < row.length := by rw [hr.1]; exact ht
  have a2 : t < lead.length := by rw [hl.1]; exact ht
  have c1 := m1 _ (List.mem_append.mpr (.inr (g lead a2))) p (List.mem_append.mpr (.inl mp))
  have c2 := m1 _ (List.mem_append.mpr (.inl (g row a1))) m (List.mem_append.mpr (.inr mm))
  simp -implicitDefEqProofs only [E_less_times_2, wipeE, fSeq_eq, seqK_nx, seqK_rt, seqK_bk, seqK_ct, seqK_ite, eVar_0, eVar_s, bind_ok, sB_ok, eC_eq, eBin_eq, eUn_eq, iOp0_eq, iCmp_eq, tst_eq, addI, negI, fSet_eq, fRet_eq, fExpr_eq, fIf_eq, fAsg_eq, fPar_eq, fNil_eq, fBreak_eq, fCont_eq, gNm_eq, gsNil_eq, gsCons_eq, aNil_eq, aCons_eq, eCall_eq, eCallD_eq, intS_eq, absS_eq, mmS_eq, len_l, len_t, list_l, list_t, tup_l, tup_t, finF_eq, finC_eq, allD_nil, allD_cons, eTup_eq, eLst_eq, eIf_eq, runD_eq, hand_rt, handF_d, take_self, srcS_l, srcS_t, iSrc_eq, iZip_eq, zip_l, iEnm_eq, enum_l, pix0, pix1, pix2, pix3, pset1, pset2, pset3, gSub_eq, tYes_eq, eAdd_eq, eSub_eq, eMul_eq, eDiv_eq, eMod_eq, ePow_eq, eXor_eq, eNeg_eq, eIx_eq, eqI_t, eqI_f, tNot_eq, tAnd_eq, tOr_eq, tru_eq, tru_bool, tru_int, tru_list, eAnd_eq, eNot_eq, isi_eq, asD_d, List.length_cons, List.length_nil, List.map_cons, List.map_nil, List.cons_append, List.nil_append, List.append_nil, List.set_cons_succ, List.set_cons_zero, List.replicate_succ, List.replicate_zero, Option.map_some, if_true, if_false, reduceIte, Nat.reduceAdd, Nat.reduceSub, Nat.reduceLeDiff, List.length_map, Nat.reduceEqDiff, Bool.false_eq_true, Bool.not_false, Bool.not_true, ne_eq, not_true_eq_false, not_false_eq_true, decide_true, decide_false, eq_self, hand_rt, decide_eq_true_eq, row_at a1, row_at a2, mulI _ _ c1, mulI _ _ c2]
theorem lessP_prime {q : Int} {row lead : List Int} {b n t : Nat} (hq : q ∈ QP) (hr : RowOk q b n row) (hl : RowOk q b n lead) (ht : t < n) (hb : b ≤ 4300) (S : Store) :
    ∃ r2, F_less_times [.d (.int q), .d (lst row), .d (lst lead), .d (.int t)] S = .ok (.d (lst r2)) S ∧ RowOk q (2 * b + 1) n r2 ∧ (∀ i, r2.getD i 0 = (lead.getD t 0 * row.getD i 0 - row.getD t 0 * lead.getD i 0) % q) := by
  obtain ⟨k, rfl, hk, h2, h3, h4⟩ := qp_nat hq
  have z0 : ¬ ((k : Int) = 0) := by omega
  have z4 : ¬ ((k : Int) = 4) := by omega
  have zt : ((k : Int) != 0) = true := bne_iff_ne.mpr z0
  have m1 : ∀ i, modC i (k : Int) = true := fun i => modC_of z0
  have e1 := found_ok (o4 := none) (o7 := none) (o8 := none) z4 (.inr (.inr hq)) hr hl ht hb S
  have e2 : ∀ o4 o6 o8 found, C_less_times_3 [some (.d (.int (k : Int))), some (.d (lst row)), some (.d (lst lead)), some (.d (.int t)), o4, none, o6, some (.d (lst found)), o8] S = .ok (.d (lst (found.map fun x => x % (k : Int)))) S := by
    intro o4 o6 o8 found
    refine src_comp _ rfl fun p mp => ⟨_, rfl, ?_⟩
    simp -implicitDefEqProofs only [E_less_times_3, wipeE, fSeq_eq, seqK_nx, seqK_rt, seqK_bk, seqK_ct, seqK_ite, eVar_0, eVar_s, bind_ok, sB_ok, eC_eq, eBin_eq, eUn_eq, iOp0_eq, iCmp_eq, tst_eq, addI, negI, fSet_eq, fRet_eq, fExpr_eq, fIf_eq, fAsg_eq, fPar_eq, fNil_eq, fBreak_eq, fCont_eq, gNm_eq, gsNil_eq, gsCons_eq, aNil_eq, aCons_eq, eCall_eq, eCallD_eq, intS_eq, absS_eq, mmS_eq, len_l, len_t, list_l, list_t, tup_l, tup_t, finF_eq, finC_eq, allD_nil, allD_cons, eTup_eq, eLst_eq, eIf_eq, runD_eq, hand_rt, handF_d, take_self, srcS_l, srcS_t, iSrc_eq, iZip_eq, zip_l, iEnm_eq, enum_l, pix0, pix1, pix2, pix3, pset1, pset2, pset3, gSub_eq, tYes_eq, eAdd_eq, eSub_eq, eMul_eq, eDiv_eq, eMod_eq, ePow_eq, eXor_eq, eNeg_eq, eIx_eq, eqI_t, eqI_f, tNot_eq, tAnd_eq, tOr_eq, tru_eq, tru_bool, tru_int, tru_list, eAnd_eq, eNot_eq, isi_eq, asD_d, List.length_cons, List.length_nil, List.map_cons, List.map_nil, List.cons_append, List.nil_append, List.append_nil, List.set_cons_succ, List.set_cons_zero, List.replicate_succ, List.replicate_zero, Option.map_some, if_true, if_false, reduceIte, Nat.reduceAdd, Nat.reduceSub, Nat.reduceLeDiff, List.length_map, Nat.reduceEqDiff, Bool.false_eq_true, Bool.not_false, Bool.not_true, ne_eq, not_true_eq_false, not_false_eq_true, decide_true, decide_false, eq_self, hand_rt, decide_eq_true_eq, iOp_eq _ _ _ _ _ (m1 _), fmod_pos (Int.natCast_nonneg k)]
  refine ⟨(List.zipWith (fun p m => lead.getD t 0 * p - row.getD t 0 * m) row lead).map fun x => x % (k : Int), ?_, ⟨?_, ?_⟩, fun i => ?_⟩
  · simp -implicitDefEqProofs only [F_less_times, b_less_times, fSeq_eq, seqK_nx, seqK_rt, seqK_bk, seqK_ct, seqK_ite, eVar_0, eVar_s, bind_ok, sB_ok, eC_eq, eBin_eq, eUn_eq, iOp0_eq, iCmp_eq, tst_eq, addI, negI, fSet_eq, fRet_eq, fExpr_eq, fIf_eq, fAsg_eq, fPar_eq, fNil_eq, fBreak_eq, fCont_eq, gNm_eq, gsNil_eq, gsCons_eq, aNil_eq, aCons_eq, eCall_eq, eCallD_eq, intS_eq, absS_eq, mmS_eq, len_l, len_t, list_l, list_t, tup_l, tup_t, finF_eq, finC_eq, allD_nil, allD_cons, eTup_eq, eLst_eq, eIf_eq, runD_eq, hand_rt, handF_d, take_self, srcS_l, srcS_t, iSrc_eq, iZip_eq, zip_l, iEnm_eq, enum_l, pix0, pix1, pix2, pix3, pset1, pset2, pset3, gSub_eq, tYes_eq, eAdd_eq, eSub_eq, eMul_eq, eDiv_eq, eMod_eq, ePow_eq, eXor_eq, eNeg_eq, eIx_eq, eqI_t, eqI_f, tNot_eq, tAnd_eq, tOr_eq, tru_eq, tru_bool, tru_int, tru_list, eAnd_eq, eNot_eq, isi_eq, asD_d, List.length_cons, List.length_nil, List.map_cons, List.map_nil, List.cons_append, List.nil_append, List.append_nil, List.set_cons_succ, List.set_cons_zero, List.replicate_succ, List.replicate_zero, Option.map_some, if_true, if_false, reduceIte, Nat.reduceAdd, Nat.reduceSub, Nat.reduceLeDiff, List.length_map, Nat.reduceEqDiff, Bool.false_eq_true, Bool.not_false, Bool.not_true, ne_eq, not_true_eq_false, not_false_eq_true, decide_true, decide_false, eq_self, hand_rt, decide_eq_true_eq, z0, z4, e1, zt, e2]
  · rw [List.length_map, List.length_zipWith, hr.1, hl.1, Nat.min_self]
  · intro x m
    obtain ⟨y, _, rfl⟩ := List.mem_map.mp m
    unfold Val
    rw [if_neg z0]
    exact ⟨Int.emod_nonneg _ z0, Int.emod_lt_of_pos _ (by omega)⟩
  · rw [getD_map (fun x => x % (k : Int)) (Int.zero_emod _), getD_zipWith _ (by rw [Int.mul_zero, Int.mul_zero]; rfl) _ _ (by rw [hr.1, hl.1])]
/-! .. over the fractions -/
theorem lessP_zero {row lead : List Int} {b n t : Nat} (hr : RowOk 0 b n row) (hl : RowOk 0 b n lead) (ht : t < n) (hb : b ≤ 4300) (S : Store) :
    ∃ r2 c, F_less_times [.d (.int 0), .d (lst row), .d (lst lead), .d (.int t)] S = .ok (.d (lst r2)) S ∧ RowOk 0 (2 * b + 1) n r2 ∧ c ≠ 0 ∧ (∀ i, c * r2.getD i 0 = (lead.getD t 0 * row.getD i 0 - row.getD t 0 * lead.getD i 0)) := by
  have e1 := found_ok (q := 0) (o4 := none) (o7 := none) (o8 := none) (by decide) (.inl rfl) hr hl ht hb S
  generalize hf : List.zipWith (fun p m => lead.getD t 0 * p - row.getD t 0 * m) row lead = found at e1
  have hfl : found.length = n := by rw [← hf, List.length_zipWith, hr.1, hl.1, Nat.min_self]
  have hfg : ∀ i, found.getD i 0 = lead.getD t 0 * row.getD i 0 - row.getD t 0 * lead.getD i 0 := fun i => by
    rw [← hf, getD_zipWith _ (by rw [Int.mul_zero, Int.mul_zero]; rfl) _ _ (by rw [hr.1, hl.1])]
  have hfb : ∀ x ∈ found, x.natAbs < 2 ^ (2 * b + 1) := by
    intro x m
    obtain ⟨i, hi, rfl⟩ := List.getElem_of_mem m
    have : found[i] = found.getD i 0 := by simp [List.getD, hi]
    rw [this, hfg]
    exact bound_mul (hl.get (.inl rfl) t) (hr.get (.inl rfl) i) (hr.get (.inl rfl) t) (hl.get (.inl rfl) i)
  have lp : (L_less_times_1 [some (.d (.int 0)), some (.d (lst row)), some (.d (lst lead)), some (.d (.int t)), none, none, none, some (.d (lst found)), some (.d (.int 0))] S).Ret fun fl S' => ∃ g x5, fl = .nx [some (.d (.int 0)), some (.d (lst row)), some (.d (lst lead)), some (.d (.int t)), none, x5, none, some (.d (lst found)), some (.d (.int g))] ∧ S' = S ∧ (∀ x ∈ found, g ∣ x) ∧ (g = 0 ∨ ∃ x ∈ found, x ≠ 0 ∧ g ∣ x) := by
    unfold L_less_times_1
    have e0 : iSrc (eVar 7) [some (.d (.int 0)), some (.d (lst row)), some (.d (lst lead)), some (.d (.int t)), none, none, none, some (.d (lst found)), some (.d (.int 0))] S = .ok ⟨found.map .int, fun _ => true⟩ S := rfl
    rw [fFor_eq e0]
    refine forL_ret (fun ds Γ S' => ∃ g x5 rest, ds = rest.map .int ∧ (∀ x ∈ rest, x ∈ found) ∧ Γ = [some (.d (.int 0)), some (.d (lst row)), some (.d (lst lead)), some (.d (.int t)), none, x5, none, some (.d (lst found)), some (.d (.int g))] ∧ S' = S ∧ (∀ x ∈ found, g ∣ x ∨ x ∈ rest) ∧ (g = 0 ∨ ∃ x ∈ found, x ≠ 0 ∧ g ∣ x)) _ (fun _ _ _ _ => rfl)
      (fun Γ S' h => ?_) (fun d ds Γ S' h => ?_) _ _ _ ⟨0, none, found, rfl, fun _ h => h, rfl, rfl, fun _ h => .inr h, .inl rfl⟩
    · obtain ⟨g, x5, rest, hd, _, rfl, rfl, h1, h2⟩ := h
      have : rest = [] := List.map_eq_nil_iff.mp hd.symm
      subst this
      exact ⟨g, x5, rfl, rfl, fun x m => (h1 x m).resolve_right (List.not_mem_nil), h2⟩
    · obtain ⟨g, x5, rest, hd, hr, rfl, rfl, h1, h2⟩ := h
      cases rest with
      | nil => cases hd
      | cons y rest =>
        obtain ⟨rfl, rfl⟩ : d = .int y ∧ ds = rest.map .int := by
          injection hd with a b
          exact ⟨a, b⟩
        simp -implicitDefEqProofs only [B_less_times_1, fSeq_eq, seqK_nx, seqK_rt, seqK_bk, seqK_ct, seqK_ite, eVar_0, eVar_s, bind_ok, sB_ok, eC_eq, eBin_eq, eUn_eq, iOp0_eq, iCmp_eq, tst_eq, addI, negI, fSet_eq, fRet_eq, fExpr_eq, fIf_eq, fAsg_eq, fPar_eq, fNil_eq, fBreak_eq, fCont_eq, gNm_eq, gsNil_eq, gsCons_eq, aNil_eq, aCons_eq, eCall_eq, eCallD_eq, intS_eq, absS_eq, mmS_eq, len_l, len_t, list_l, list_t, tup_l, tup_t, finF_eq, finC_eq, allD_nil, allD_cons, eTup_eq, eLst_eq, eIf_eq, runD_eq, hand_rt, handF_d, take_self, srcS_l, srcS_t, iSrc_eq, iZip_eq, zip_l, iEnm_eq, enum_l, pix0, pix1, pix2, pix3, pset1, pset2, pset3, gSub_eq, tYes_eq, eAdd_eq, eSub_eq, eMul_eq, eDiv_eq, eMod_eq, ePow_eq, eXor_eq, eNeg_eq, eIx_eq, eqI_t, eqI_f, tNot_eq, tAnd_eq, tOr_eq, tru_eq, tru_bool, tru_int, tru_list, eAnd_eq, eNot_eq, isi_eq, asD_d, List.length_cons, List.length_nil, List.map_cons, List.map_nil, List.cons_append, List.nil_append, List.append_nil, List.set_cons_succ, List.set_cons_zero, List.replicate_succ, List.replicate_zero, Option.map_some, if_true, if_false, reduceIte, Nat.reduceAdd, Nat.reduceSub, Nat.reduceLeDiff, List.length_map, Nat.reduceEqDiff, Bool.false_eq_true, Bool.not_false, Bool.not_true, ne_eq, not_true_eq_false, not_false_eq_true, decide_true, decide_false, eq_self, hand_rt, decide_eq_true_eq, Ret_ok]
        refine ⟨Int.gcd g y, some (.d (.int y)), rest, rfl, fun x m => hr x (List.mem_cons_of_mem _ m), rfl, trivial, fun x m => ?_, ?_⟩
        · rcases h1 x m with h | h
          · exact .inl (Int.dvd_trans (Int.gcd_dvd_left ..) h)
          · rcases List.mem_cons.mp h with h | h
            · exact .inl (h ▸ Int.gcd_dvd_right ..)
            · exact .inr h
        · by_cases hy : y = 0
          · rcases h2 with h | ⟨x, m, hx, hd⟩
            · left
              rw [h, hy]
              rfl
            · exact .inr ⟨x, m, hx, Int.dvd_trans (Int.gcd_dvd_left ..) hd⟩
          · exact .inr ⟨y, hr y (List.mem_cons_self ..), hy, Int.gcd_dvd_right ..⟩
  obtain ⟨fl, S', e2, g, x5, rfl, rfl, g1, g2⟩ := lp.ok
  have zt : ((0 : Int) != 0) = false := rfl
  by_cases hg : 1 < g
  · have gb : g.natAbs.log2 < 9000 := by
      rcases g2 with h | ⟨x, m, hx, hd⟩
      · omega
      · have k1 : g.natAbs ≤ x.natAbs := Nat.le_of_dvd (Int.natAbs_pos.mpr hx) (Int.natAbs_dvd_natAbs.mpr hd)
        have k2 := log2_le (Nat.lt_of_le_of_lt k1 (hfb x m))
        omega
    have e3 : ∀ o5 o6, C_less_times_4 [some (.d (.int 0)), some (.d (lst row)), some (.d (lst lead)), some (.d (.int t)), none, o5, o6, some (.d (lst found)), some (.d (.int g))] S' = .ok (.d (lst (found.map fun x => x / g))) S' := by
      intro o5 o6
      refine src_comp _ rfl fun p mp => ⟨_, rfl, ?_⟩
      simp -implicitDefEqProofs only [E_less_times_4, wipeE, fSeq_eq, seqK_nx, seqK_rt, seqK_bk, seqK_ct, seqK_ite, eVar_0, eVar_s, bind_ok, sB_ok, eC_eq, eBin_eq, eUn_eq, iOp0_eq, iCmp_eq, tst_eq, addI, negI, fSet_eq, fRet_eq, fExpr_eq, fIf_eq, fAsg_eq, fPar_eq, fNil_eq, fBreak_eq, fCont_eq, gNm_eq, gsNil_eq, gsCons_eq, aNil_eq, aCons_eq, eCall_eq, eCallD_eq, intS_eq, absS_eq, mmS_eq, len_l, len_t, list_l, list_t, tup_l, tup_t, finF_eq, finC_eq, allD_nil, allD_cons, eTup_eq, eLst_eq, eIf_eq, runD_eq, hand_rt, handF_d, take_self, srcS_l, srcS_t, iSrc_eq, iZip_eq, zip_l, iEnm_eq, enum_l, pix0, pix1, pix2, pix3, pset1, pset2, pset3, gSub_eq, tYes_eq, eAdd_eq, eSub_eq, eMul_eq, eDiv_eq, eMod_eq, ePow_eq, eXor_eq, eNeg_eq, eIx_eq, eqI_t, eqI_f, tNot_eq, tAnd_eq, tOr_eq, tru_eq, tru_bool, tru_int, tru_list, eAnd_eq, eNot_eq, isi_eq, asD_d, List.length_cons, List.length_nil, List.map_cons, List.map_nil, List.cons_append, List.nil_append, List.append_nil, List.set_cons_succ, List.set_cons_zero, List.replicate_succ, List.replicate_zero, Option.map_some, if_true, if_false, reduceIte, Nat.reduceAdd, Nat.reduceSub, Nat.reduceLeDiff, List.length_map, Nat.reduceEqDiff, Bool.false_eq_true, Bool.not_false, Bool.not_true, ne_eq, not_true_eq_false, not_false_eq_true, decide_true, decide_false, eq_self, hand_rt, decide_eq_true_eq, iOp_eq _ _ _ _ _ (divC_big (by omega) gb), fdiv_pos (show 0 ≤ g by omega)]
    refine ⟨found.map fun x => x / g, g, ?_, ⟨by rw [List.length_map, hfl], fun x m => ?_⟩, by omega, fun i => ?_⟩
    · simp -implicitDefEqProofs only [F_less_times, b_less_times, fSeq_eq, seqK_nx, seqK_rt, seqK_bk, seqK_ct, seqK_ite, eVar_0, eVar_s, bind_ok, sB_ok, eC_eq, eBin_eq, eUn_eq, iOp0_eq, iCmp_eq, tst_eq, addI, negI, fSet_eq, fRet_eq, fExpr_eq, fIf_eq, fAsg_eq, fPar_eq, fNil_eq, fBreak_eq, fCont_eq, gNm_eq, gsNil_eq, gsCons_eq, aNil_eq, aCons_eq, eCall_eq, eCallD_eq, intS_eq, absS_eq, mmS_eq, len_l, len_t, list_l, list_t, tup_l, tup_t, finF_eq, finC_eq, allD_nil, allD_cons, eTup_eq, eLst_eq, eIf_eq, runD_eq, hand_rt, handF_d, take_self, srcS_l, srcS_t, iSrc_eq, iZip_eq, zip_l, iEnm_eq, enum_l, pix0, pix1, pix2, pix3, pset1, pset2, pset3, gSub_eq, tYes_eq, eAdd_eq, eSub_eq, eMul_eq, eDiv_eq, eMod_eq, ePow_eq, eXor_eq, eNeg_eq, eIx_eq, eqI_t, eqI_f, tNot_eq, tAnd_eq, tOr_eq, tru_eq, tru_bool, tru_int, tru_list, eAnd_eq, eNot_eq, isi_eq, asD_d, List.length_cons, List.length_nil, List.map_cons, List.map_nil, List.cons_append, List.nil_append, List.append_nil, List.set_cons_succ, List.set_cons_zero, List.replicate_succ, List.replicate_zero, Option.map_some, if_true, if_false, reduceIte, Nat.reduceAdd, Nat.reduceSub, Nat.reduceLeDiff, List.length_map, Nat.reduceEqDiff, Bool.false_eq_true, Bool.not_false, Bool.not_true, ne_eq, not_true_eq_false, not_false_eq_true, decide_true, decide_false, eq_self, hand_rt, decide_eq_true_eq, e1, zt, e2, hg, e3, (by decide : ¬ ((0 : Int) = 4))]
    · obtain ⟨y, my, rfl⟩ := List.mem_map.mp m
      exact Nat.lt_of_le_of_lt (Int.natAbs_ediv_le_natAbs _ _) (hfb y my)
    · rw [getD_map (fun x => x / g) (Int.zero_ediv _), ← hfg]
      refine Int.mul_ediv_cancel' ?_
      rcases Nat.lt_or_ge i found.length with hi | hi
      · have : found.getD i 0 = found[i] := by simp [List.getD, hi]
        rw [this]
        exact g1 _ (List.getElem_mem _)
      · have : found.getD i 0 = 0 := by simp [List.getD, hi]
        rw [this]
        exact Int.dvd_zero _
  · refine ⟨found, 1, ?_, ⟨hfl, fun x m => hfb x m⟩, by decide, fun i => by rw [Int.one_mul, hfg]⟩
    simp -implicitDefEqProofs only [F_less_times, b_less_times, fSeq_eq, seqK_nx, seqK_rt, seqK_bk, seqK_ct, seqK_ite, eVar_0, eVar_s, bind_ok, sB_ok, eC_eq, eBin_eq, eUn_eq, iOp0_eq, iCmp_eq, tst_eq, addI, negI, fSet_eq, fRet_eq, fExpr_eq, fIf_eq, fAsg_eq, fPar_eq, fNil_eq, fBreak_eq, fCont_eq, gNm_eq, gsNil_eq, gsCons_eq, aNil_eq, aCons_eq, eCall_eq, eCallD_eq, intS_eq, absS_eq, mmS_eq, len_l, len_t, list_l, list_t, tup_l, tup_t, finF_eq, finC_eq, allD_nil, allD_cons, eTup_eq, eLst_eq, eIf_eq, runD_eq, hand_rt, handF_d, take_self, srcS_l, srcS_t, iSrc_eq, iZip_eq, zip_l, iEnm_eq, enum_l, pix0, pix1, pix2, pix3, pset1, pset2, pset3, gSub_eq, tYes_eq, eAdd_eq, eSub_eq, eMul_eq, eDiv_eq, eMod_eq, ePow_eq, eXor_eq, eNeg_eq, eIx_eq, eqI_t, eqI_f, tNot_eq, tAnd_eq, tOr_eq, tru_eq, tru_bool, tru_int, tru_list, eAnd_eq, eNot_eq, isi_eq, asD_d, List.length_cons, List.length_nil, List.map_cons, List.map_nil, List.cons_append, List.nil_append, List.append_nil, List.set_cons_succ, List.set_cons_zero, List.replicate_succ, List.replicate_zero, Option.map_some, if_true, if_false, reduceIte, Nat.reduceAdd, Nat.reduceSub, Nat.reduceLeDiff, List.length_map, Nat.reduceEqDiff, Bool.false_eq_true, Bool.not_false, Bool.not_true, ne_eq, not_true_eq_false, not_false_eq_true, decide_true, decide_false, eq_self, hand_rt, decide_eq_true_eq, e1, zt, e2, hg, (by decide : ¬ ((0 : Int) = 4))]
end G06
namespace G06
open PySem L2 DL LinA
theorem getD_range (f : Nat → Int) (n i : Nat) : ((List.range n).map f).getD i 0 = if i < n then f i else 0 := by
  by_cases h : i < n
  · simp [List.getD, h]
  · simp [List.getD, h]
theorem getD_out {xs : List Int} {i : Nat} (h : xs.length ≤ i) : xs.getD i 0 = 0 := by simp [List.getD, h]
theorem lessL_int {q : Int} {row lead : List Int} {b n t : Nat} (hq : QS q) (h4 : q ≠ 4) (hr : RowOk q b n row) (hl : RowOk q b n lead) (hn : n ≤ 1000) (hb : b ≤ 4300) (S : Store) :
    ∃ r2, F__law_less_times [.d (.int q), .d (.int (lead.getD t 0)), .d (lst row), .d (.int (row.getD t 0)), .d (lst lead)] S = .ok (.d (lst r2)) S ∧ RowOk q (2 * b + 1) n r2 ∧
      (∀ i, r2.getD i 0 = if q = 0 then lead.getD t 0 * row.getD i 0 - row.getD t 0 * lead.getD i 0 else (lead.getD t 0 * row.getD i 0 - row.getD t 0 * lead.getD i 0) % q) := by
  have m1 : ∀ x y, Val q b x → Val q b y → mulC x y = true := by
    intro x y vx vy
    unfold Val at vx vy
    by_cases h0 : q = 0
    · rw [if_pos h0] at vx vy
      exact mulC_big b b vx vy (by omega)
    · rw [if_neg h0] at vx vy
      have := hq.lo
      exact mulC_l (by omega) (by omega)
  let f : Nat → Int := fun i => lead.getD t 0 * row.getD i 0 - row.getD t 0 * lead.getD i 0
  have hlen : row.length = n := hr.1
  have e1 : ∀ o5 o6 o7 o8 o9, C__law_less_times_2 [some (.d (.int q)), some (.d (.int (lead.getD t 0))), some (.d (lst row)), some (.d (.int (row.getD t 0))), some (.d (lst lead)), o5, o6, o7, o8, o9] S = .ok (.d (lst ((List.range n).map f))) S := by
    intro o5 o6 o7 o8 o9
    have el : eCall lenS (aCons (eVar 2) aNil) [some (.d (.int q)), some (.d (.int (lead.getD t 0))), some (.d (lst row)), some (.d (.int (row.getD t 0))), some (.d (lst lead)), o5, o6, o7, o8, o9] S = .ok (.d (.int n)) S := by
      simp -implicitDefEqProofs only [fSeq_eq, seqK_nx, seqK_rt, seqK_bk, seqK_ct, seqK_ite, eVar_0, eVar_s, bind_ok, sB_ok, eC_eq, eBin_eq, eUn_eq, iOp0_eq, iCmp_eq, tst_eq, addI, negI, fSet_eq, fRet_eq, fExpr_eq, fIf_eq, fAsg_eq, fPar_eq, fNil_eq, fBreak_eq, fCont_eq, gNm_eq, gsNil_eq, gsCons_eq, aNil_eq, aCons_eq, eCall_eq, eCallD_eq, intS_eq, absS_eq, mmS_eq, len_l, len_t, list_l, list_t, tup_l, tup_t, finF_eq, finC_eq, allD_nil, allD_cons, eTup_eq, eLst_eq, eIf_eq, runD_eq, hand_rt, handF_d, take_self, srcS_l, srcS_t, iSrc_eq, iZip_eq, zip_l, iEnm_eq, enum_l, pix0, pix1, pix2, pix3, pset1, pset2, pset3, gSub_eq, tYes_eq, eAdd_eq, eSub_eq, eMul_eq, eDiv_eq, eMod_eq, ePow_eq, eXor_eq, eNeg_eq, eIx_eq, eqI_t, eqI_f, tNot_eq, tAnd_eq, tOr_eq, tru_eq, tru_bool, tru_int, tru_list, eAnd_eq, eNot_eq, isi_eq, asD_d, List.length_cons, List.length_nil, List.map_cons, List.map_nil, List.cons_append, List.nil_append, List.append_nil, List.set_cons_succ, List.set_cons_zero, List.replicate_succ, List.replicate_zero, Option.map_some, if_true, if_false, reduceIte, Nat.reduceAdd, Nat.reduceSub, Nat.reduceLeDiff, List.length_map, Nat.reduceEqDiff, Bool.false_eq_true, Bool.not_false, Bool.not_true, ne_eq, not_true_eq_false, not_false_eq_true, decide_true, decide_false, eq_self, hand_rt, decide_eq_true_eq, hlen]
    refine rg_comp f el (by omega) fun k hk => ⟨_, rfl, ?_⟩
    have a1 : k < row.length := by rw [hr.1]; exact hk
    have a2 : k < lead.length := by rw [hl.1]; exact hk
    simp -implicitDefEqProofs only [E__law_less_times_2, wipeE, fSeq_eq, seqK_nx, seqK_rt, seqK_bk, seqK_ct, seqK_ite, eVar_0, eVar_s, bind_ok, sB_ok, eC_eq, eBin_eq, eUn_eq, iOp0_eq, iCmp_eq, tst_eq, addI, negI, fSet_eq, fRet_eq, fExpr_eq, fIf_eq, fAsg_eq, fPar_eq, fNil_eq, fBreak_eq, fCont_eq, gNm_eq, gsNil_eq, gsCons_eq, aNil_eq, aCons_eq, eCall_eq, eCallD_eq, intS_eq, absS_eq, mmS_eq, len_l, len_t, list_l, list_t, tup_l, tup_t, finF_eq, finC_eq, allD_nil, allD_cons, eTup_eq, eLst_eq, eIf_eq, runD_eq, hand_rt, handF_d, take_self, srcS_l, srcS_t, iSrc_eq, iZip_eq, zip_l, iEnm_eq, enum_l, pix0, pix1, pix2, pix3, pset1, pset2, pset3, gSub_eq, tYes_eq, eAdd_eq, eSub_eq, eMul_eq, eDiv_eq, eMod_eq, ePow_eq, eXor_eq, eNeg_eq, eIx_eq, eqI_t, eqI_f, tNot_eq, tAnd_eq, tOr_eq, tru_eq, tru_bool, tru_int, tru_list, eAnd_eq, eNot_eq, isi_eq, asD_d, List.length_cons, List.length_nil, List.map_cons, List.map_nil, List.cons_append, List.nil_append, List.append_nil, List.set_cons_succ, List.set_cons_zero, List.replicate_succ, List.replicate_zero, Option.map_some, if_true, if_false, reduceIte, Nat.reduceAdd, Nat.reduceSub, Nat.reduceLeDiff, List.length_map, Nat.reduceEqDiff, Bool.false_eq_true, Bool.not_false, Bool.not_true, ne_eq, not_true_eq_false, not_false_eq_true, decide_true, decide_false, eq_self, hand_rt, decide_eq_true_eq, row_at a1, row_at a2, mulI _ _ (m1 _ _ (hl.get hq t) (hr.get hq k)), mulI _ _ (m1 _ _ (hr.get hq t) (hl.get hq k))]
    rfl
  have fb : q = 0 → ∀ k, (f k).natAbs < 2 ^ (2 * b + 1) := fun h0 k => by
    have g1 := hl.get hq t
    have g2 := hr.get hq k
    have g3 := hr.get hq t
    have g4 := hl.get hq k
    unfold Val at g1 g2 g3 g4
    rw [if_pos h0] at g1 g2 g3 g4
    exact bound_mul g1 g2 g3 g4
  by_cases h0 : q = 0
  · refine ⟨(List.range n).map f, ?_, ⟨by simp, fun x m => ?_⟩, fun i => ?_⟩
    · simp -implicitDefEqProofs only [F__law_less_times, b__law_less_times, fSeq_eq, seqK_nx, seqK_rt, seqK_bk, seqK_ct, seqK_ite, eVar_0, eVar_s, bind_ok, sB_ok, eC_eq, eBin_eq, eUn_eq, iOp0_eq, iCmp_eq, tst_eq, addI, negI, fSet_eq, fRet_eq, fExpr_eq, fIf_eq, fAsg_eq, fPar_eq, fNil_eq, fBreak_eq, fCont_eq, gNm_eq, gsNil_eq, gsCons_eq, aNil_eq, aCons_eq, eCall_eq, eCallD_eq, intS_eq, absS_eq, mmS_eq, len_l, len_t, list_l, list_t, tup_l, tup_t, finF_eq, finC_eq, allD_nil, allD_cons, eTup_eq, eLst_eq, eIf_eq, runD_eq, hand_rt, handF_d, take_self, srcS_l, srcS_t, iSrc_eq, iZip_eq, zip_l, iEnm_eq, enum_l, pix0, pix1, pix2, pix3, pset1, pset2, pset3, gSub_eq, tYes_eq, eAdd_eq, eSub_eq, eMul_eq, eDiv_eq, eMod_eq, ePow_eq, eXor_eq, eNeg_eq, eIx_eq, eqI_t, eqI_f, tNot_eq, tAnd_eq, tOr_eq, tru_eq, tru_bool, tru_int, tru_list, eAnd_eq, eNot_eq, isi_eq, asD_d, List.length_cons, List.length_nil, List.map_cons, List.map_nil, List.cons_append, List.nil_append, List.append_nil, List.set_cons_succ, List.set_cons_zero, List.replicate_succ, List.replicate_zero, Option.map_some, if_true, if_false, reduceIte, Nat.reduceAdd, Nat.reduceSub, Nat.reduceLeDiff, List.length_map, Nat.reduceEqDiff, Bool.false_eq_true, Bool.not_false, Bool.not_true, ne_eq, not_true_eq_false, not_false_eq_true, decide_true, decide_false, eq_self, hand_rt, decide_eq_true_eq, e1, h0, h4, (by decide : ¬ ((0 : Int) = 4))]
      subst h0
      simp -implicitDefEqProofs only [e1, fSeq_eq, seqK_nx, seqK_rt, seqK_bk, seqK_ct, seqK_ite, eVar_0, eVar_s, bind_ok, sB_ok, eC_eq, eBin_eq, eUn_eq, iOp0_eq, iCmp_eq, tst_eq, addI, negI, fSet_eq, fRet_eq, fExpr_eq, fIf_eq, fAsg_eq, fPar_eq, fNil_eq, fBreak_eq, fCont_eq, gNm_eq, gsNil_eq, gsCons_eq, aNil_eq, aCons_eq, eCall_eq, eCallD_eq, intS_eq, absS_eq, mmS_eq, len_l, len_t, list_l, list_t, tup_l, tup_t, finF_eq, finC_eq, allD_nil, allD_cons, eTup_eq, eLst_eq, eIf_eq, runD_eq, hand_rt, handF_d, take_self, srcS_l, srcS_t, iSrc_eq, iZip_eq, zip_l, iEnm_eq, enum_l, pix0, pix1, pix2, pix3, pset1, pset2, pset3, gSub_eq, tYes_eq, eAdd_eq, eSub_eq, eMul_eq, eDiv_eq, eMod_eq, ePow_eq, eXor_eq, eNeg_eq, eIx_eq, eqI_t, eqI_f, tNot_eq, tAnd_eq, tOr_eq, tru_eq, tru_bool, tru_int, tru_list, eAnd_eq, eNot_eq, isi_eq, asD_d, List.length_cons, List.length_nil, List.map_cons, List.map_nil, List.cons_append, List.nil_append, List.append_nil, List.set_cons_succ, List.set_cons_zero, List.replicate_succ, List.replicate_zero, Option.map_some, if_true, if_false, reduceIte, Nat.reduceAdd, Nat.reduceSub, Nat.reduceLeDiff, List.length_map, Nat.reduceEqDiff, Bool.false_eq_true, Bool.not_false, Bool.not_true, ne_eq, not_true_eq_false, not_false_eq_true, decide_true, decide_false, eq_self, hand_rt, decide_eq_true_eq]
    · obtain ⟨k, _, rfl⟩ := List.mem_map.mp m
      unfold Val
      rw [if_pos h0]
      exact fb h0 k
    · rw [getD_range, if_pos h0]
      split
      · rfl
      · rw [getD_out (xs := row) (i := i) (by rw [hr.1]; omega), getD_out (xs := lead) (i := i) (by rw [hl.1]; omega), Int.mul_zero, Int.mul_zero]
        rfl
  · have m2 : ∀ i, modC i q = true := fun i => modC_of h0
    have hq0 := hq.lo
    have e2 : ∀ o5 o6 o7 o9, C__law_less_times_3 [some (.d (.int q)), some (.d (.int (lead.getD t 0))), some (.d (lst row)), some (.d (.int (row.getD t 0))), some (.d (lst lead)), o5, o6, o7, some (.d (lst ((List.range n).map f))), o9] S = .ok (.d (lst (((List.range n).map f).map fun x => x % q))) S := by
      intro o5 o6 o7 o9
      refine src_comp _ rfl fun p mp => ⟨_, rfl, ?_⟩
      simp -implicitDefEqProofs only [E__law_less_times_3, wipeE, fSeq_eq, seqK_nx, seqK_rt, seqK_bk, seqK_ct, seqK_ite, eVar_0, eVar_s, bind_ok, sB_ok, eC_eq, eBin_eq, eUn_eq, iOp0_eq, iCmp_eq, tst_eq, addI, negI, fSet_eq, fRet_eq, fExpr_eq, fIf_eq, fAsg_eq, fPar_eq, fNil_eq, fBreak_eq, fCont_eq, gNm_eq, gsNil_eq, gsCons_eq, aNil_eq, aCons_eq, eCall_eq, eCallD_eq, intS_eq, absS_eq, mmS_eq, len_l, len_t, list_l, list_t, tup_l, tup_t, finF_eq, finC_eq, allD_nil, allD_cons, eTup_eq, eLst_eq, eIf_eq, runD_eq, hand_rt, handF_d, take_self, srcS_l, srcS_t, iSrc_eq, iZip_eq, zip_l, iEnm_eq, enum_l, pix0, pix1, pix2, pix3, pset1, pset2, pset3, gSub_eq, tYes_eq, eAdd_eq, eSub_eq, eMul_eq, eDiv_eq, eMod_eq, ePow_eq, eXor_eq, eNeg_eq, eIx_eq, eqI_t, eqI_f, tNot_eq, tAnd_eq, tOr_eq, tru_eq, tru_bool, tru_int, tru_list, eAnd_eq, eNot_eq, isi_eq, asD_d, List.length_cons, List.length_nil, List.map_cons, List.map_nil, List.cons_append, List.nil_append, List.append_nil, List.set_cons_succ, List.set_cons_zero, List.replicate_succ, List.replicate_zero, Option.map_some, if_true, if_false, reduceIte, Nat.reduceAdd, Nat.reduceSub, Nat.reduceLeDiff, List.length_map, Nat.reduceEqDiff, Bool.false_eq_true, Bool.not_false, Bool.not_true, ne_eq, not_true_eq_false, not_false_eq_true, decide_true, decide_false, eq_self, hand_rt, decide_eq_true_eq, iOp_eq _ _ _ _ _ (m2 _), fmod_pos hq0.1]
    refine ⟨((List.range n).map f).map fun x => x % q, ?_, ⟨by simp, fun x m => ?_⟩, fun i => ?_⟩
    · simp -implicitDefEqProofs only [F__law_less_times, b__law_less_times, fSeq_eq, seqK_nx, seqK_rt, seqK_bk, seqK_ct, seqK_ite, eVar_0, eVar_s, bind_ok, sB_ok, eC_eq, eBin_eq, eUn_eq, iOp0_eq, iCmp_eq, tst_eq, addI, negI, fSet_eq, fRet_eq, fExpr_eq, fIf_eq, fAsg_eq, fPar_eq, fNil_eq, fBreak_eq, fCont_eq, gNm_eq, gsNil_eq, gsCons_eq, aNil_eq, aCons_eq, eCall_eq, eCallD_eq, intS_eq, absS_eq, mmS_eq, len_l, len_t, list_l, list_t, tup_l, tup_t, finF_eq, finC_eq, allD_nil, allD_cons, eTup_eq, eLst_eq, eIf_eq, runD_eq, hand_rt, handF_d, take_self, srcS_l, srcS_t, iSrc_eq, iZip_eq, zip_l, iEnm_eq, enum_l, pix0, pix1, pix2, pix3, pset1, pset2, pset3, gSub_eq, tYes_eq, eAdd_eq, eSub_eq, eMul_eq, eDiv_eq, eMod_eq, ePow_eq, eXor_eq, eNeg_eq, eIx_eq, eqI_t, eqI_f, tNot_eq, tAnd_eq, tOr_eq, tru_eq, tru_bool, tru_int, tru_list, eAnd_eq, eNot_eq, isi_eq, asD_d, List.length_cons, List.length_nil, List.map_cons, List.map_nil, List.cons_append, List.nil_append, List.append_nil, List.set_cons_succ, List.set_cons_zero, List.replicate_succ, List.replicate_zero, Option.map_some, if_true, if_false, reduceIte, Nat.reduceAdd, Nat.reduceSub, Nat.reduceLeDiff, List.length_map, Nat.reduceEqDiff, Bool.false_eq_true, Bool.not_false, Bool.not_true, ne_eq, not_true_eq_false, not_false_eq_true, decide_true, decide_false, eq_self, hand_rt, decide_eq_true_eq, e1, h0, h4, e2]
    · obtain ⟨y, _, rfl⟩ := List.mem_map.mp m
      unfold Val
      rw [if_neg h0]
      exact ⟨Int.emod_nonneg _ h0, Int.emod_lt_of_pos _ (by omega)⟩
    · rw [getD_map (fun x => x % q) (Int.zero_emod _), getD_range, if_neg h0]
      split
      · rfl
      · rw [getD_out (xs := row) (i := i) (by rw [hr.1]; omega), getD_out (xs := lead) (i := i) (by rw [hl.1]; omega), Int.mul_zero, Int.mul_zero]
        rfl
/-! .. of four -/
def f4 (x : Int) : F4 := if x = 1 then .i else if x = 2 then .w else if x = 3 then .v else .o
def rowT (a : Nat) : List PyData := (([[0, 0, 0, 0], [0, 1, 2, 3], [0, 2, 3, 1], [0, 3, 1, 2]] : List (List Int)).getD a []).map .int
def rowS (a : Nat) : List PyData := (([[0, 1, 2, 3], [1, 0, 3, 2], [2, 3, 0, 1], [3, 2, 1, 0]] : List (List Int)).getD a []).map .int
def tabT : List PyData := [.list (rowT 0), .list (rowT 1), .list (rowT 2), .list (rowT 3)]
def tabS : List PyData := [.list (rowS 0), .list (rowS 1), .list (rowS 2), .list (rowS 3)]
def back4 (a : Nat) : Nat := [0, 1, 3, 2].getD a 0
theorem tm1 {a : Int} (h0 : 0 ≤ a) (h1 : a < 4) (S : Store) : ixS (.d k_TIMES_FOUR) (.d (.int a)) S = .ok (.d (.tuple (rowT a.toNat))) S ∧ ixS (.d (.list tabT)) (.d (.int a)) S = .ok (.d (.list (rowT a.toNat))) S ∧ ixS (.d (.list tabS)) (.d (.int a)) S = .ok (.d (.list (rowS a.toNat))) S := by
  rcases four h0 h1 with rfl | rfl | rfl | rfl <;> exact ⟨rfl, rfl, rfl⟩
theorem tm2 {a c : Int} (h0 : 0 ≤ a) (h1 : a < 4) (k0 : 0 ≤ c) (k1 : c < 4) (S : Store) : ixS (.d (.tuple (rowT a.toNat))) (.d (.int c)) S = .ok (.d (.int (prod4 a.toNat c.toNat))) S ∧ ixS (.d (.list (rowT a.toNat))) (.d (.int c)) S = .ok (.d (.int (prod4 a.toNat c.toNat))) S ∧ ixS (.d (.list (rowS a.toNat))) (.d (.int c)) S = .ok (.d (.int (sum4 a.toNat c.toNat))) S ∧ Builtin.bitXor a c = sum4 a.toNat c.toNat := by
  rcases four h0 h1 with rfl | rfl | rfl | rfl <;> rcases four k0 k1 with rfl | rfl | rfl | rfl <;> exact ⟨rfl, rfl, rfl, by decide⟩
theorem tm3 {a : Int} (h0 : 0 < a) (h1 : a < 4) (S : Store) : ixS (.d k_BACK_FOUR) (.d (.int a)) S = .ok (.d (.int (back4 a.toNat))) S := by
  rcases four (Int.le_of_lt h0) h1 with rfl | rfl | rfl | rfl
  · exact absurd h0 (by decide)
  all_goals rfl
theorem lt4 {a c : Int} (h0 : 0 ≤ a) (h1 : a < 4) (k0 : 0 ≤ c) (k1 : c < 4) : (sum4 a.toNat c.toNat : Int) < 4 ∧ (prod4 a.toNat c.toNat : Int) < 4 ∧ f4 (sum4 a.toNat c.toNat) = f4 a + f4 c ∧ f4 (prod4 a.toNat c.toNat) = f4 a * f4 c := by
  rcases four h0 h1 with rfl | rfl | rfl | rfl <;> rcases four k0 k1 with rfl | rfl | rfl | rfl <;> decide
theorem lt4b {a : Int} (h0 : 0 < a) (h1 : a < 4) : (back4 a.toNat : Int) < 4 ∧ f4 (back4 a.toNat) * f4 a = 1 ∧ f4 a ≠ 0 := by
  rcases four (Int.le_of_lt h0) h1 with rfl | rfl | rfl | rfl
  · exact absurd h0 (by decide)
  all_goals decide
theorem val4 {b : Nat} {x : Int} (h : Val 4 b x) : 0 ≤ x ∧ x < 4 := h
theorem lessP_four {row lead : List Int} {b n t : Nat} (hr : RowOk 4 b n row) (hl : RowOk 4 b n lead) (ht : t < n) (h0 : lead.getD t 0 ≠ 0) (S : Store) :
    ∃ r2, F_less_times [.d (.int 4), .d (lst row), .d (lst lead), .d (.int t)] S = .ok (.d (lst r2)) S ∧ RowOk 4 (2 * b + 1) n r2 ∧ (∀ i, f4 (r2.getD i 0) = f4 (row.getD i 0) + (f4 (row.getD t 0) * f4 (back4 (lead.getD t 0).toNat)) * f4 (lead.getD i 0)) := by
  have hq : QS 4 := .inr (.inl rfl)
  have a1 : t < row.length := by rw [hr.1]; exact ht
  have a2 : t < lead.length := by rw [hl.1]; exact ht
  have v1 := val4 (hr.get hq t)
  have v2 := val4 (hl.get hq t)
  have v3 := lt4b (a := lead.getD t 0) (by omega) v2.2
  have v4 := lt4 v1.1 v1.2 (Int.natCast_nonneg _) v3.1
  let tms : Int := prod4 (row.getD t 0).toNat (back4 (lead.getD t 0).toNat)
  have hv4 : tms < 4 := v4.2.1
  have tms0 : 0 ≤ tms := Int.natCast_nonneg _
  let f : Int → Int → Int := fun p m => sum4 p.toNat (prod4 tms.toNat m.toNat)
  have e1 : C_less_times_1 [some (.d (.int 4)), some (.d (lst row)), some (.d (lst lead)), some (.d (.int t)), some (.d (.int tms)), none, none, none, none] S = .ok (.d (lst (List.zipWith f row lead))) S := by
    refine zip_comp f rfl rfl fun p m mp mm => ⟨_, rfl, ?_⟩
    have w1 := val4 (hr.2 p mp)
    have w2 := val4 (hl.2 m mm)
    have w3 := lt4 tms0 hv4 w2.1 w2.2
    simp -implicitDefEqProofs only [E_less_times_1, wipeE, fSeq_eq, seqK_nx, seqK_rt, seqK_bk, seqK_ct, seqK_ite, eVar_0, eVar_s, bind_ok, sB_ok, eC_eq, eBin_eq, eUn_eq, iOp0_eq, iCmp_eq, tst_eq, addI, negI, fSet_eq, fRet_eq, fExpr_eq, fIf_eq, fAsg_eq, fPar_eq, fNil_eq, fBreak_eq, fCont_eq, gNm_eq, gsNil_eq, gsCons_eq, aNil_eq, aCons_eq, eCall_eq, eCallD_eq, intS_eq, absS_eq, mmS_eq, len_l, len_t, list_l, list_t, tup_l, tup_t, finF_eq, finC_eq, allD_nil, allD_cons, eTup_eq, eLst_eq, eIf_eq, runD_eq, hand_rt, handF_d, take_self, srcS_l, srcS_t, iSrc_eq, iZip_eq, zip_l, iEnm_eq, enum_l, pix0, pix1, pix2, pix3, pset1, pset2, pset3, gSub_eq, tYes_eq, eAdd_eq, eSub_eq, eMul_eq, eDiv_eq, eMod_eq, ePow_eq, eXor_eq, eNeg_eq, eIx_eq, eqI_t, eqI_f, tNot_eq, tAnd_eq, tOr_eq, tru_eq, tru_bool, tru_int, tru_list, eAnd_eq, eNot_eq, isi_eq, asD_d, List.length_cons, List.length_nil, List.map_cons, List.map_nil, List.cons_append, List.nil_append, List.append_nil, List.set_cons_succ, List.set_cons_zero, List.replicate_succ, List.replicate_zero, Option.map_some, if_true, if_false, reduceIte, Nat.reduceAdd, Nat.reduceSub, Nat.reduceLeDiff, List.length_map, Nat.reduceEqDiff, Bool.false_eq_true, Bool.not_false, Bool.not_true, ne_eq, not_true_eq_false, not_false_eq_true, decide_true, decide_false, eq_self, hand_rt, decide_eq_true_eq, (tm1 tms0 hv4 S).1, (tm2 tms0 hv4 w2.1 w2.2 S).1, (tm2 w1.1 w1.2 (Int.natCast_nonneg _) w3.2.1 S).2.2.2]
    rfl
  have hz : f 0 0 = 0 := by
    show ((sum4 0 (prod4 tms.toNat 0) : Nat) : Int) = 0
    rcases four tms0 hv4 with h | h | h | h <;> rw [h] <;> decide
  refine ⟨List.zipWith f row lead, ?_, ⟨by rw [List.length_zipWith, hr.1, hl.1, Nat.min_self], fun x m => ?_⟩, fun i => ?_⟩
  · simp -implicitDefEqProofs only [F_less_times, b_less_times, fSeq_eq, seqK_nx, seqK_rt, seqK_bk, seqK_ct, seqK_ite, eVar_0, eVar_s, bind_ok, sB_ok, eC_eq, eBin_eq, eUn_eq, iOp0_eq, iCmp_eq, tst_eq, addI, negI, fSet_eq, fRet_eq, fExpr_eq, fIf_eq, fAsg_eq, fPar_eq, fNil_eq, fBreak_eq, fCont_eq, gNm_eq, gsNil_eq, gsCons_eq, aNil_eq, aCons_eq, eCall_eq, eCallD_eq, intS_eq, absS_eq, mmS_eq, len_l, len_t, list_l, list_t, tup_l, tup_t, finF_eq, finC_eq, allD_nil, allD_cons, eTup_eq, eLst_eq, eIf_eq, runD_eq, hand_rt, handF_d, take_self, srcS_l, srcS_t, iSrc_eq, iZip_eq, zip_l, iEnm_eq, enum_l, pix0, pix1, pix2, pix3, pset1, pset2, pset3, gSub_eq, tYes_eq, eAdd_eq, eSub_eq, eMul_eq, eDiv_eq, eMod_eq, ePow_eq, eXor_eq, eNeg_eq, eIx_eq, eqI_t, eqI_f, tNot_eq, tAnd_eq, tOr_eq, tru_eq, tru_bool, tru_int, tru_list, eAnd_eq, eNot_eq, isi_eq, asD_d, List.length_cons, List.length_nil, List.map_cons, List.map_nil, List.cons_append, List.nil_append, List.append_nil, List.set_cons_succ, List.set_cons_zero, List.replicate_succ, List.replicate_zero, Option.map_some, if_true, if_false, reduceIte, Nat.reduceAdd, Nat.reduceSub, Nat.reduceLeDiff, List.length_map, Nat.reduceEqDiff, Bool.false_eq_true, Bool.not_false, Bool.not_true, ne_eq, not_true_eq_false, not_false_eq_true, decide_true, decide_false, eq_self, hand_rt, decide_eq_true_eq, row_at a1, row_at a2, (tm1 v1.1 v1.2 S).1, tm3 (show 0 < lead.getD t 0 by omega) v2.2, (tm2 v1.1 v1.2 (Int.natCast_nonneg _) v3.1 S).1]
    rw [show (prod4 (row.getD t 0).toNat ((back4 (lead.getD t 0).toNat : Nat) : Int).toNat : Int) = tms from rfl, e1]
    simp -implicitDefEqProofs only [fSeq_eq, seqK_nx, seqK_rt, seqK_bk, seqK_ct, seqK_ite, eVar_0, eVar_s, bind_ok, sB_ok, eC_eq, eBin_eq, eUn_eq, iOp0_eq, iCmp_eq, tst_eq, addI, negI, fSet_eq, fRet_eq, fExpr_eq, fIf_eq, fAsg_eq, fPar_eq, fNil_eq, fBreak_eq, fCont_eq, gNm_eq, gsNil_eq, gsCons_eq, aNil_eq, aCons_eq, eCall_eq, eCallD_eq, intS_eq, absS_eq, mmS_eq, len_l, len_t, list_l, list_t, tup_l, tup_t, finF_eq, finC_eq, allD_nil, allD_cons, eTup_eq, eLst_eq, eIf_eq, runD_eq, hand_rt, handF_d, take_self, srcS_l, srcS_t, iSrc_eq, iZip_eq, zip_l, iEnm_eq, enum_l, pix0, pix1, pix2, pix3, pset1, pset2, pset3, gSub_eq, tYes_eq, eAdd_eq, eSub_eq, eMul_eq, eDiv_eq, eMod_eq, ePow_eq, eXor_eq, eNeg_eq, eIx_eq, eqI_t, eqI_f, tNot_eq, tAnd_eq, tOr_eq, tru_eq, tru_bool, tru_int, tru_list, eAnd_eq, eNot_eq, isi_eq, asD_d, List.length_cons, List.length_nil, List.map_cons, List.map_nil, List.cons_append, List.nil_append, List.append_nil, List.set_cons_succ, List.set_cons_zero, List.replicate_succ, List.replicate_zero, Option.map_some, if_true, if_false, reduceIte, Nat.reduceAdd, Nat.reduceSub, Nat.reduceLeDiff, List.length_map, Nat.reduceEqDiff, Bool.false_eq_true, Bool.not_false, Bool.not_true, ne_eq, not_true_eq_false, not_false_eq_true, decide_true, decide_false, eq_self, hand_rt, decide_eq_true_eq]
  · obtain ⟨i, hi, rfl⟩ := List.getElem_of_mem m
    rw [List.getElem_zipWith]
    have hi' : i < row.length ∧ i < lead.length := by rw [List.length_zipWith] at hi; omega
    have w1 := val4 (hr.2 row[i] (List.getElem_mem _))
    have w2 := val4 (hl.2 lead[i] (List.getElem_mem _))
    have w3 := lt4 tms0 hv4 w2.1 w2.2
    exact ⟨Int.natCast_nonneg _, (lt4 w1.1 w1.2 (Int.natCast_nonneg _) w3.2.1).1⟩
  · rw [getD_zipWith f hz _ _ (by rw [hr.1, hl.1])]
    have w1 := val4 (hr.get hq i)
    have w2 := val4 (hl.get hq i)
    have w3 := lt4 tms0 hv4 w2.1 w2.2
    have w4 := lt4 w1.1 w1.2 (Int.natCast_nonneg _) w3.2.1
    show f4 (sum4 (row.getD i 0).toNat ((prod4 tms.toNat (lead.getD i 0).toNat : Nat) : Int).toNat : Nat) = _
    rw [w4.2.2.1, w3.2.2.2, show f4 tms = f4 (row.getD t 0) * f4 (back4 (lead.getD t 0).toNat : Nat) from v4.2.2.2]
theorem lessL_four {row lead : List Int} {b n t : Nat} (hr : RowOk 4 b n row) (hl : RowOk 4 b n lead) (hn : n ≤ 1000) (S : Store) :
    ∃ r2, F__law_less_times [.d (.int 4), .d (.int (lead.getD t 0)), .d (lst row), .d (.int (row.getD t 0)), .d (lst lead)] S = .ok (.d (lst r2)) S ∧ RowOk 4 (2 * b + 1) n r2 ∧ (∀ i, f4 (r2.getD i 0) = f4 (lead.getD t 0) * f4 (row.getD i 0) + f4 (row.getD t 0) * f4 (lead.getD i 0)) := by
  have hq : QS 4 := .inr (.inl rfl)
  have v1 := val4 (hr.get hq t)
  have v2 := val4 (hl.get hq t)
  let f : Nat → Int := fun k => sum4 (prod4 (lead.getD t 0).toNat (row.getD k 0).toNat) (prod4 (row.getD t 0).toNat (lead.getD k 0).toNat)
  have hlen : row.length = n := hr.1
  have hs : ∀ k, f4 (f k) = f4 (lead.getD t 0) * f4 (row.getD k 0) + f4 (row.getD t 0) * f4 (lead.getD k 0) ∧ 0 ≤ f k ∧ f k < 4 := fun k => by
    have w1 := val4 (hr.get hq k)
    have w2 := val4 (hl.get hq k)
    have w3 := lt4 v2.1 v2.2 w1.1 w1.2
    have w4 := lt4 v1.1 v1.2 w2.1 w2.2
    have w5 := lt4 (Int.natCast_nonneg _) w3.2.1 (Int.natCast_nonneg _) w4.2.1
    refine ⟨?_, Int.natCast_nonneg _, w5.1⟩
    have := w5.2.2.1
    rw [w3.2.2.2, w4.2.2.2] at this
    exact this
  have e1 : ∀ o7 o8 o9, C__law_less_times_1 [some (.d (.int 4)), some (.d (.int (lead.getD t 0))), some (.d (lst row)), some (.d (.int (row.getD t 0))), some (.d (lst lead)), some (.d (.list tabT)), some (.d (.list tabS)), o7, o8, o9] S = .ok (.d (lst ((List.range n).map f))) S := by
    intro o7 o8 o9
    have el : eCall lenS (aCons (eVar 2) aNil) [some (.d (.int 4)), some (.d (.int (lead.getD t 0))), some (.d (lst row)), some (.d (.int (row.getD t 0))), some (.d (lst lead)), some (.d (.list tabT)), some (.d (.list tabS)), o7, o8, o9] S = .ok (.d (.int n)) S := by
      simp -implicitDefEqProofs only [fSeq_eq, seqK_nx, seqK_rt, seqK_bk, seqK_ct, seqK_ite, eVar_0, eVar_s, bind_ok, sB_ok, eC_eq, eBin_eq, eUn_eq, iOp0_eq, iCmp_eq, tst_eq, addI, negI, fSet_eq, fRet_eq, fExpr_eq, fIf_eq, fAsg_eq, fPar_eq, fNil_eq, fBreak_eq, fCont_eq, gNm_eq, gsNil_eq, gsCons_eq, aNil_eq, aCons_eq, eCall_eq, eCallD_eq, intS_eq, absS_eq, mmS_eq, len_l, len_t, list_l, list_t, tup_l, tup_t, finF_eq, finC_eq, allD_nil, allD_cons, eTup_eq, eLst_eq, eIf_eq, runD_eq, hand_rt, handF_d, take_self, srcS_l, srcS_t, iSrc_eq, iZip_eq, zip_l, iEnm_eq, enum_l, pix0, pix1, pix2, pix3, pset1, pset2, pset3, gSub_eq, tYes_eq, eAdd_eq, eSub_eq, eMul_eq, eDiv_eq, eMod_eq, ePow_eq, eXor_eq, eNeg_eq, eIx_eq, eqI_t, eqI_f, tNot_eq, tAnd_eq, tOr_eq, tru_eq, tru_bool, tru_int, tru_list, eAnd_eq, eNot_eq, isi_eq, asD_d, List.length_cons, List.length_nil, List.map_cons, List.map_nil, List.cons_append, List.nil_append, List.append_nil, List.set_cons_succ, List.set_cons_zero, List.replicate_succ, List.replicate_zero, Option.map_some, if_true, if_false, reduceIte, Nat.reduceAdd, Nat.reduceSub, Nat.reduceLeDiff, List.length_map, Nat.reduceEqDiff, Bool.false_eq_true, Bool.not_false, Bool.not_true, ne_eq, not_true_eq_false, not_false_eq_true, decide_true, decide_false, eq_self, hand_rt, decide_eq_true_eq, hlen]
    refine rg_comp f el (by omega) fun k hk => ⟨_, rfl, ?_⟩
    have a1 : k < row.length := by rw [hr.1]; exact hk
    have a2 : k < lead.length := by rw [hl.1]; exact hk
    have w1 := val4 (hr.get hq k)
    have w2 := val4 (hl.get hq k)
    have w3 := lt4 v2.1 v2.2 w1.1 w1.2
    have w4 := lt4 v1.1 v1.2 w2.1 w2.2
    simp -implicitDefEqProofs only [E__law_less_times_1, wipeE, fSeq_eq, seqK_nx, seqK_rt, seqK_bk, seqK_ct, seqK_ite, eVar_0, eVar_s, bind_ok, sB_ok, eC_eq, eBin_eq, eUn_eq, iOp0_eq, iCmp_eq, tst_eq, addI, negI, fSet_eq, fRet_eq, fExpr_eq, fIf_eq, fAsg_eq, fPar_eq, fNil_eq, fBreak_eq, fCont_eq, gNm_eq, gsNil_eq, gsCons_eq, aNil_eq, aCons_eq, eCall_eq, eCallD_eq, intS_eq, absS_eq, mmS_eq, len_l, len_t, list_l, list_t, tup_l, tup_t, finF_eq, finC_eq, allD_nil, allD_cons, eTup_eq, eLst_eq, eIf_eq, runD_eq, hand_rt, handF_d, take_self, srcS_l, srcS_t, iSrc_eq, iZip_eq, zip_l, iEnm_eq, enum_l, pix0, pix1, pix2, pix3, pset1, pset2, pset3, gSub_eq, tYes_eq, eAdd_eq, eSub_eq, eMul_eq, eDiv_eq, eMod_eq, ePow_eq, eXor_eq, eNeg_eq, eIx_eq, eqI_t, eqI_f, tNot_eq, tAnd_eq, tOr_eq, tru_eq, tru_bool, tru_int, tru_list, eAnd_eq, eNot_eq, isi_eq, asD_d, List.length_cons, List.length_nil, List.map_cons, List.map_nil, List.cons_append, List.nil_append, List.append_nil, List.set_cons_succ, List.set_cons_zero, List.replicate_succ, List.replicate_zero, Option.map_some, if_true, if_false, reduceIte, Nat.reduceAdd, Nat.reduceSub, Nat.reduceLeDiff, List.length_map, Nat.reduceEqDiff, Bool.false_eq_true, Bool.not_false, Bool.not_true, ne_eq, not_true_eq_false, not_false_eq_true, decide_true, decide_false, eq_self, hand_rt, decide_eq_true_eq, row_at a1, row_at a2, (tm1 v2.1 v2.2 S).2.1, (tm1 v1.1 v1.2 S).2.1, (tm2 v2.1 v2.2 w1.1 w1.2 S).2.1, (tm2 v1.1 v1.2 w2.1 w2.2 S).2.1, (tm1 (Int.natCast_nonneg _) w3.2.1 S).2.2, (tm2 (Int.natCast_nonneg _) w3.2.1 (Int.natCast_nonneg _) w4.2.1 S).2.2.1]
    rfl
  refine ⟨(List.range n).map f, ?_, ⟨by simp, fun x m => ?_⟩, fun i => ?_⟩
  · have tT : (PyData.list [.list [.int 0, .int 0, .int 0, .int 0], .list [.int 0, .int 1, .int 2, .int 3], .list [.int 0, .int 2, .int 3, .int 1], .list [.int 0, .int 3, .int 1, .int 2]]) = .list tabT := rfl
    have tS : (PyData.list [.list [.int 0, .int 1, .int 2, .int 3], .list [.int 1, .int 0, .int 3, .int 2], .list [.int 2, .int 3, .int 0, .int 1], .list [.int 3, .int 2, .int 1, .int 0]]) = .list tabS := rfl
    simp -implicitDefEqProofs only [F__law_less_times, b__law_less_times, fSeq_eq, seqK_nx, seqK_rt, seqK_bk, seqK_ct, seqK_ite, eVar_0, eVar_s, bind_ok, sB_ok, eC_eq, eBin_eq, eUn_eq, iOp0_eq, iCmp_eq, tst_eq, addI, negI, fSet_eq, fRet_eq, fExpr_eq, fIf_eq, fAsg_eq, fPar_eq, fNil_eq, fBreak_eq, fCont_eq, gNm_eq, gsNil_eq, gsCons_eq, aNil_eq, aCons_eq, eCall_eq, eCallD_eq, intS_eq, absS_eq, mmS_eq, len_l, len_t, list_l, list_t, tup_l, tup_t, finF_eq, finC_eq, allD_nil, allD_cons, eTup_eq, eLst_eq, eIf_eq, runD_eq, hand_rt, handF_d, take_self, srcS_l, srcS_t, iSrc_eq, iZip_eq, zip_l, iEnm_eq, enum_l, pix0, pix1, pix2, pix3, pset1, pset2, pset3, gSub_eq, tYes_eq, eAdd_eq, eSub_eq, eMul_eq, eDiv_eq, eMod_eq, ePow_eq, eXor_eq, eNeg_eq, eIx_eq, eqI_t, eqI_f, tNot_eq, tAnd_eq, tOr_eq, tru_eq, tru_bool, tru_int, tru_list, eAnd_eq, eNot_eq, isi_eq, asD_d, List.length_cons, List.length_nil, List.map_cons, List.map_nil, List.cons_append, List.nil_append, List.append_nil, List.set_cons_succ, List.set_cons_zero, List.replicate_succ, List.replicate_zero, Option.map_some, if_true, if_false, reduceIte, Nat.reduceAdd, Nat.reduceSub, Nat.reduceLeDiff, List.length_map, Nat.reduceEqDiff, Bool.false_eq_true, Bool.not_false, Bool.not_true, ne_eq, not_true_eq_false, not_false_eq_true, decide_true, decide_false, eq_self, hand_rt, decide_eq_true_eq, tT, tS, e1]
  · obtain ⟨k, _, rfl⟩ := List.mem_map.mp m
    exact (hs k).2
  · rw [getD_range]
    split
    · exact (hs i).1
    · rw [getD_out (xs := row) (i := i) (by rw [hr.1]; omega), getD_out (xs := lead) (i := i) (by rw [hl.1]; omega)]
      have : f4 0 = 0 := rfl
      rw [this, Lean.Grind.Semiring.mul_zero, Lean.Grind.Semiring.mul_zero]
      rfl
end G06
namespace G06
open PySem L2 DL LinA
/-! ### 6. what both eliminations need of a field -/
structure Fld (q : Int) (R : Type) [Lean.Grind.CommRing R] (φ : Int → R) (Z : R → Prop) : Prop where
  P : Prm Z
  hq : QS q
  z0 : Z (φ 0)
  nz : ∀ b x, Val q b x → x ≠ 0 → ¬ Z (φ x)
  lessP : ∀ (S : Store) (b n : Nat) (row lead : List Int) (t : Nat), RowOk q b n row → RowOk q b n lead → t < n → lead.getD t 0 ≠ 0 → b ≤ 4300 →
    ∃ r2, F_less_times [.d (.int q), .d (lst row), .d (lst lead), .d (.int t)] S = .ok (.d (lst r2)) S ∧ RowOk q (2 * b + 1) n r2 ∧ Red Z (vec φ r2) (vec φ row) (vec φ lead) t
  lessL : ∀ (S : Store) (b n : Nat) (row lead : List Int) (t : Nat), RowOk q b n row → RowOk q b n lead → t < n → lead.getD t 0 ≠ 0 → n ≤ 1000 → b ≤ 4300 →
    ∃ r2, F__law_less_times [.d (.int q), .d (.int (lead.getD t 0)), .d (lst row), .d (.int (row.getD t 0)), .d (lst lead)] S = .ok (.d (lst r2)) S ∧ RowOk q (2 * b + 1) n r2 ∧ Red Z (vec φ r2) (vec φ row) (vec φ lead) t
theorem fld0 : Fld 0 Int id (fun x => (0 : Int) ∣ x) where
  P := prmZ 0 (by decide) fun a b h => by
    have := Int.mul_eq_zero.mp (Int.zero_dvd.mp h)
    exact this.imp Int.zero_dvd.mpr Int.zero_dvd.mpr
  hq := .inl rfl
  z0 := Int.dvd_zero _
  nz b x _ h z := h (Int.zero_dvd.mp z)
  lessP S b n row lead t hr hl ht h0 hb := by
    obtain ⟨r2, c, h1, h2, h3, h4⟩ := lessP_zero hr hl ht hb S
    refine ⟨r2, h1, h2, ⟨c, lead.getD t 0, -(row.getD t 0), fun z => h3 (Int.zero_dvd.mp z), fun z => h0 (Int.zero_dvd.mp z), fun i => ?_⟩, ?_⟩
    · rw [show c * vec id r2 i = lead.getD t 0 * row.getD i 0 - row.getD t 0 * lead.getD i 0 from h4 i]
      rw [show lead.getD t 0 * row.getD i 0 - row.getD t 0 * lead.getD i 0 - lead.getD t 0 * vec id row i - -row.getD t 0 * vec id lead i = 0 by simp only [vec, id]; grind]
      exact Int.dvd_zero _
    · have e := h4 t
      rw [show lead.getD t 0 * row.getD t 0 - row.getD t 0 * lead.getD t 0 = 0 by grind] at e
      rcases Int.mul_eq_zero.mp e with e | e
      · exact absurd e h3
      · exact Int.zero_dvd.mpr e
  lessL S b n row lead t hr hl ht h0 hn hb := by
    obtain ⟨r2, h1, h2, h4⟩ := lessL_int (t := t) (.inl rfl) (by decide) hr hl hn hb S
    simp only [if_true] at h4
    refine ⟨r2, h1, h2, ⟨1, lead.getD t 0, -(row.getD t 0), by decide, fun z => h0 (Int.zero_dvd.mp z), fun i => ?_⟩, ?_⟩
    · rw [show (1 : Int) * vec id r2 i = lead.getD t 0 * row.getD i 0 - row.getD t 0 * lead.getD i 0 from (Int.one_mul _).trans (h4 i)]
      rw [show lead.getD t 0 * row.getD i 0 - row.getD t 0 * lead.getD i 0 - lead.getD t 0 * vec id row i - -row.getD t 0 * vec id lead i = 0 by simp only [vec, id]; grind]
      exact Int.dvd_zero _
    · show (0 : Int) ∣ r2.getD t 0
      rw [h4 t, show lead.getD t 0 * row.getD t 0 - row.getD t 0 * lead.getD t 0 = 0 by grind]
      exact Int.dvd_zero _
theorem fldP {q : Int} (hq : q ∈ QP) : Fld q Int id (fun x => q ∣ x) := by
  obtain ⟨k, hk, _, hk1, hk2, hk4⟩ := qp_nat hq
  have z0 : q ≠ 0 := by omega
  have nz : ∀ b x, Val q b x → x ≠ 0 → ¬ q ∣ x := fun b x v h z => by
    unfold Val at v
    rw [if_neg z0] at v
    have := Int.le_of_dvd (by omega) z
    omega
  have key : ∀ (row lead r2 : List Int) (b n t : Nat), RowOk q b n lead → lead.getD t 0 ≠ 0 → (∀ i, r2.getD i 0 = (lead.getD t 0 * row.getD i 0 - row.getD t 0 * lead.getD i 0) % q) → Red (fun x => q ∣ x) (vec id r2) (vec id row) (vec id lead) t := fun row lead r2 b n t hl h0 h4 => by
    refine ⟨⟨1, lead.getD t 0, -(row.getD t 0), fun z => ?_, nz b _ (hl.get (.inr (.inr hq)) t) h0, fun i => ?_⟩, ?_⟩
    · have := Int.le_of_dvd (by decide) z
      omega
    · show q ∣ 1 * r2.getD i 0 - lead.getD t 0 * row.getD i 0 - -row.getD t 0 * lead.getD i 0
      rw [h4 i]
      have e := Int.mul_ediv_add_emod (lead.getD t 0 * row.getD i 0 - row.getD t 0 * lead.getD i 0) q
      refine ⟨-((lead.getD t 0 * row.getD i 0 - row.getD t 0 * lead.getD i 0) / q), ?_⟩
      grind
    · show q ∣ r2.getD t 0
      rw [h4 t, show lead.getD t 0 * row.getD t 0 - row.getD t 0 * lead.getD t 0 = 0 by grind]
      exact ⟨0, by simp⟩
  exact {
    P := prmZ q (fun z => by have := Int.le_of_dvd (by decide) z; omega) fun a b h => qp_prm hq h
    hq := .inr (.inr hq)
    z0 := Int.dvd_zero _
    nz := nz
    lessP := fun S b n row lead t hr hl ht h0 hb => by
      obtain ⟨r2, h1, h2, h4⟩ := lessP_prime hq hr hl ht hb S
      exact ⟨r2, h1, h2, key row lead r2 b n t hl h0 h4⟩
    lessL := fun S b n row lead t hr hl ht h0 hn hb => by
      obtain ⟨r2, h1, h2, h4⟩ := lessL_int (t := t) (.inr (.inr hq)) (by omega) hr hl hn hb S
      simp only [if_neg z0] at h4
      exact ⟨r2, h1, h2, key row lead r2 b n t hl h0 h4⟩ }
theorem f4_nz {b : Nat} {x : Int} (v : Val 4 b x) (h : x ≠ 0) : f4 x ≠ 0 := (lt4b (by have := val4 v; omega) (val4 v).2).2.2
theorem fld4 : Fld 4 F4 f4 (fun x => x = 0) where
  P := prm4
  hq := .inr (.inl rfl)
  z0 := rfl
  nz b x v h := f4_nz v h
  lessP S b n row lead t hr hl ht h0 hb := by
    obtain ⟨r2, h1, h2, h4⟩ := lessP_four hr hl ht h0 S
    refine ⟨r2, h1, h2, ⟨1, 1, f4 (row.getD t 0) * f4 (back4 (lead.getD t 0).toNat), prm4.one, prm4.one, fun i => ?_⟩, ?_⟩
    · show 1 * f4 (r2.getD i 0) - 1 * f4 (row.getD i 0) - f4 (row.getD t 0) * f4 (back4 (lead.getD t 0).toNat) * f4 (lead.getD i 0) = 0
      rw [h4 i]
      grind
    · show f4 (r2.getD t 0) = 0
      rw [h4 t]
      have w := (lt4b (a := lead.getD t 0) (by have := val4 (hl.get (.inr (.inl rfl)) t); omega) (val4 (hl.get (.inr (.inl rfl)) t)).2).2.1
      have e : f4 (row.getD t 0) + f4 (row.getD t 0) * f4 (back4 (lead.getD t 0).toNat) * f4 (lead.getD t 0) = f4 (row.getD t 0) + f4 (row.getD t 0) := by grind
      rw [e]
      cases f4 (row.getD t 0) <;> rfl
  lessL S b n row lead t hr hl ht h0 hn hb := by
    obtain ⟨r2, h1, h2, h4⟩ := lessL_four (t := t) hr hl hn S
    refine ⟨r2, h1, h2, ⟨1, f4 (lead.getD t 0), f4 (row.getD t 0), prm4.one, f4_nz (hl.get (.inr (.inl rfl)) t) h0, fun i => ?_⟩, ?_⟩
    · show 1 * f4 (r2.getD i 0) - f4 (lead.getD t 0) * f4 (row.getD i 0) - f4 (row.getD t 0) * f4 (lead.getD i 0) = 0
      rw [h4 i]
      grind
    · show f4 (r2.getD t 0) = 0
      rw [h4 t]
      have : ∀ x y : F4, x * y + y * x = 0 := fun x y => by cases x <;> cases y <;> rfl
      exact this _ _
end G06
namespace G06
open PySem L2 DL LinA
/-! ### 7. the law's elimination -/
theorem zero_row {q : Int} {R : Type} [Lean.Grind.CommRing R] {φ : Int → R} {Z : R → Prop} (Fl : Fld q R φ Z) {row : List Int} (h : nzr row = false) : ∀ i, Z (vec φ row i) := by
  intro i
  have : row.getD i 0 = 0 := by
    rcases Nat.lt_or_ge i row.length with hi | hi
    · have e : row.getD i 0 = row[i] := by simp [List.getD, hi]
      rw [e]
      have := List.any_eq_false.mp h row[i] (List.getElem_mem _)
      simpa using this
    · exact getD_out hi
  show Z (φ (row.getD i 0))
  rw [this]
  exact Fl.z0
/-- one step of an elimination of rows of whole numbers -/
theorem elim_rows {q : Int} {R : Type} [Lean.Grind.CommRing R] {φ : Int → R} {Z : R → Prop} (Fl : Fld q R φ Z) {b n t k : Nat} {left rest ys : List (List Int)} {lead : List Int} (hlead : RowOk q b n lead) (ht : lead.getD t 0 ≠ 0)
    (h1 : lead ∈ left) (h2 : ∀ r ∈ rest, r ∈ left) (h3 : ∀ r ∈ left, r = lead ∨ r ∈ rest ∨ nzr r = false) (zs : List (List Int)) (hz1 : ∀ z ∈ zs, z ∈ ys) (hz2 : ∀ y ∈ ys, y ∈ zs ∨ nzr y = false) (hb : Both (fun row r2 => Red Z (vec φ r2) (vec φ row) (vec φ lead) t) rest ys) (h : Elim Z (zs.map (vec φ)) k) : Elim Z (left.map (vec φ)) (k + 1) := by
  refine Elim.red Fl.P (A := left.map (vec φ)) (A' := zs.map (vec φ)) (rest := rest.map (vec φ)) (v := vec φ lead) (t := t) (List.mem_map.mpr ⟨lead, h1, rfl⟩) (fun a m => ?_) (fun a m => ?_) (Fl.nz b _ (hlead.get Fl.hq t) ht) (fun a m => ?_) (fun a m => ?_) h
  · obtain ⟨r, mr, rfl⟩ := List.mem_map.mp m
    exact List.mem_map.mpr ⟨r, h2 r mr, rfl⟩
  · obtain ⟨r, mr, rfl⟩ := List.mem_map.mp m
    rcases h3 r mr with rfl | h | h
    · exact .inl rfl
    · exact .inr (.inl (List.mem_map.mpr ⟨r, h, rfl⟩))
    · exact .inr (.inr (zero_row Fl h))
  · obtain ⟨r, mr, rfl⟩ := List.mem_map.mp m
    obtain ⟨x, mx, hx⟩ := hb.2.2 r (hz1 r mr)
    exact ⟨_, List.mem_map.mpr ⟨x, mx, rfl⟩, hx⟩
  · obtain ⟨r, mr, rfl⟩ := List.mem_map.mp m
    obtain ⟨y, my, hy⟩ := hb.2.1 r mr
    refine ⟨_, hy, ?_⟩
    rcases hz2 y my with h | h
    · exact .inl (List.mem_map.mpr ⟨y, h, rfl⟩)
    · exact .inr (zero_row Fl h)
theorem row_rank_ok {q : Int} {R : Type} [Lean.Grind.CommRing R] {φ : Int → R} {Z : R → Prop} (Fl : Fld q R φ Z) {n c : Nat} {rows : List (List Int)} (hr : ∀ r ∈ rows, RowOk q 127 n r) (hn : n ≤ 1000) (hl : rows.length ≤ 5) (S : Store) (hc : S[c]? = some (.lst (rows.map lst))) :
    ∃ k : Nat, F__law_row_rank [.d (.int q), .cell c] S = .ok (.d (.int k)) S ∧ Elim Z (rows.map (vec φ)) k := by
  have e1 : ∀ o2 o3 o5 o6 o7 o8, C__law_row_rank_1 [some (.d (.int q)), some (.cell c), o2, o3, none, o5, o6, o7, o8, none] S = .ok (.d (.list (rows.map lst))) S := by
    intro o2 o3 o5 o6 o7 o8
    obtain ⟨ok, h1, h2⟩ := srcS_c hc
    have hok : ok S = true := h2 S hc (eqPs_refl fun x m => by
      obtain ⟨r, _, rfl⟩ := List.mem_map.mp m
      exact eqP_lst r)
    unfold C__law_row_rank_1
    have e0 : iSrc (eVar 1) [some (.d (.int q)), some (.cell c), o2, o3, none, o5, o6, o7, o8, none] S = .ok ⟨rows.map lst, ok⟩ S := by
      rw [iSrc_eq]
      simp -implicitDefEqProofs only [fSeq_eq, seqK_nx, seqK_rt, seqK_bk, seqK_ct, seqK_ite, eVar_0, eVar_s, bind_ok, sB_ok, eC_eq, eBin_eq, eUn_eq, iOp0_eq, iCmp_eq, tst_eq, addI, negI, fSet_eq, fRet_eq, fExpr_eq, fIf_eq, fAsg_eq, fPar_eq, fNil_eq, fBreak_eq, fCont_eq, gNm_eq, gsNil_eq, gsCons_eq, aNil_eq, aCons_eq, eCall_eq, eCallD_eq, intS_eq, absS_eq, mmS_eq, len_l, len_t, list_l, list_t, tup_l, tup_t, finF_eq, finC_eq, allD_nil, allD_cons, eTup_eq, eLst_eq, eIf_eq, runD_eq, hand_rt, handF_d, take_self, srcS_l, srcS_t, iSrc_eq, iZip_eq, zip_l, iEnm_eq, enum_l, pix0, pix1, pix2, pix3, pset1, pset2, pset3, gSub_eq, tYes_eq, eAdd_eq, eSub_eq, eMul_eq, eDiv_eq, eMod_eq, ePow_eq, eXor_eq, eNeg_eq, eIx_eq, eqI_t, eqI_f, tNot_eq, tAnd_eq, tOr_eq, tru_eq, tru_bool, tru_int, tru_list, eAnd_eq, eNot_eq, isi_eq, asD_d, List.length_cons, List.length_nil, List.map_cons, List.map_nil, List.cons_append, List.nil_append, List.append_nil, List.set_cons_succ, List.set_cons_zero, List.replicate_succ, List.replicate_zero, Option.map_some, if_true, if_false, reduceIte, Nat.reduceAdd, Nat.reduceSub, Nat.reduceLeDiff, List.length_map, Nat.reduceEqDiff, Bool.false_eq_true, Bool.not_false, Bool.not_true, ne_eq, not_true_eq_false, not_false_eq_true, decide_true, decide_false, eq_self, hand_rt, decide_eq_true_eq, sl_l, eSl_eq, oNone_eq, oSome_eq, h1]
    rw [eLc_eq e0, lcL_map id hok]
    · rw [List.map_id, bind_ok, finF_eq]
    · intro d m
      obtain ⟨r, _, rfl⟩ := List.mem_map.mp m
      refine ⟨_, rfl, ?_⟩
      simp -implicitDefEqProofs only [E__law_row_rank_1, wipeE, fSeq_eq, seqK_nx, seqK_rt, seqK_bk, seqK_ct, seqK_ite, eVar_0, eVar_s, bind_ok, sB_ok, eC_eq, eBin_eq, eUn_eq, iOp0_eq, iCmp_eq, tst_eq, addI, negI, fSet_eq, fRet_eq, fExpr_eq, fIf_eq, fAsg_eq, fPar_eq, fNil_eq, fBreak_eq, fCont_eq, gNm_eq, gsNil_eq, gsCons_eq, aNil_eq, aCons_eq, eCall_eq, eCallD_eq, intS_eq, absS_eq, mmS_eq, len_l, len_t, list_l, list_t, tup_l, tup_t, finF_eq, finC_eq, allD_nil, allD_cons, eTup_eq, eLst_eq, eIf_eq, runD_eq, hand_rt, handF_d, take_self, srcS_l, srcS_t, iSrc_eq, iZip_eq, zip_l, iEnm_eq, enum_l, pix0, pix1, pix2, pix3, pset1, pset2, pset3, gSub_eq, tYes_eq, eAdd_eq, eSub_eq, eMul_eq, eDiv_eq, eMod_eq, ePow_eq, eXor_eq, eNeg_eq, eIx_eq, eqI_t, eqI_f, tNot_eq, tAnd_eq, tOr_eq, tru_eq, tru_bool, tru_int, tru_list, eAnd_eq, eNot_eq, isi_eq, asD_d, List.length_cons, List.length_nil, List.map_cons, List.map_nil, List.cons_append, List.nil_append, List.append_nil, List.set_cons_succ, List.set_cons_zero, List.replicate_succ, List.replicate_zero, Option.map_some, if_true, if_false, reduceIte, Nat.reduceAdd, Nat.reduceSub, Nat.reduceLeDiff, List.length_map, Nat.reduceEqDiff, Bool.false_eq_true, Bool.not_false, Bool.not_true, ne_eq, not_true_eq_false, not_false_eq_true, decide_true, decide_false, eq_self, hand_rt, decide_eq_true_eq, sl_l, eSl_eq, oNone_eq, oSome_eq, id]
  have lp : (L__law_row_rank_1 [some (.d (.int q)), some (.cell c), some (.d (.list (rows.map lst))), some (.d (.int 0)), none, none, none, none, none, none] S).Ret
      fun fl S' => ∃ (k : Nat) (o2 o5 o6 o7 o8 : Option SV), fl = .nx [some (.d (.int q)), some (.cell c), o2, some (.d (.int k)), none, o5, o6, o7, o8, none] ∧ S' = S ∧ Elim Z (rows.map (vec φ)) k := by
    unfold L__law_row_rank_1
    have e0 : iRg (rg1 (eCall lenS (aCons (eVar 1) aNil))) [some (.d (.int q)), some (.cell c), some (.d (.list (rows.map lst))), some (.d (.int 0)), none, none, none, none, none, none] S = .ok ⟨rgD 0 rows.length, fun _ => true⟩ S := iRg_ok (by
      simp -implicitDefEqProofs only [fSeq_eq, seqK_nx, seqK_rt, seqK_bk, seqK_ct, seqK_ite, eVar_0, eVar_s, bind_ok, sB_ok, eC_eq, eBin_eq, eUn_eq, iOp0_eq, iCmp_eq, tst_eq, addI, negI, fSet_eq, fRet_eq, fExpr_eq, fIf_eq, fAsg_eq, fPar_eq, fNil_eq, fBreak_eq, fCont_eq, gNm_eq, gsNil_eq, gsCons_eq, aNil_eq, aCons_eq, eCall_eq, eCallD_eq, intS_eq, absS_eq, mmS_eq, len_l, len_t, list_l, list_t, tup_l, tup_t, finF_eq, finC_eq, allD_nil, allD_cons, eTup_eq, eLst_eq, eIf_eq, runD_eq, hand_rt, handF_d, take_self, srcS_l, srcS_t, iSrc_eq, iZip_eq, zip_l, iEnm_eq, enum_l, pix0, pix1, pix2, pix3, pset1, pset2, pset3, gSub_eq, tYes_eq, eAdd_eq, eSub_eq, eMul_eq, eDiv_eq, eMod_eq, ePow_eq, eXor_eq, eNeg_eq, eIx_eq, eqI_t, eqI_f, tNot_eq, tAnd_eq, tOr_eq, tru_eq, tru_bool, tru_int, tru_list, eAnd_eq, eNot_eq, isi_eq, asD_d, List.length_cons, List.length_nil, List.map_cons, List.map_nil, List.cons_append, List.nil_append, List.append_nil, List.set_cons_succ, List.set_cons_zero, List.replicate_succ, List.replicate_zero, Option.map_some, if_true, if_false, reduceIte, Nat.reduceAdd, Nat.reduceSub, Nat.reduceLeDiff, List.length_map, Nat.reduceEqDiff, Bool.false_eq_true, Bool.not_false, Bool.not_true, ne_eq, not_true_eq_false, not_false_eq_true, decide_true, decide_false, eq_self, hand_rt, decide_eq_true_eq, sl_l, eSl_eq, oNone_eq, oSome_eq, len_c hc]) (by omega)
    rw [fFor_eq e0]
    have hdl : (rgD 0 (rows.length : Int)).length = rows.length := by rw [rgD_nat]; simp
    refine forL_ret (fun ds Γ S' => ∃ (left : List (List Int)) (k b : Nat) (o5 o6 o7 o8 : Option SV), Γ = [some (.d (.int q)), some (.cell c), some (.d (.list (left.map lst))), some (.d (.int k)), none, o5, o6, o7, o8, none] ∧ S' = S ∧ (∀ r ∈ left, RowOk q b n r) ∧ left.length ≤ ds.length ∧ ds.length ≤ rows.length ∧ b + 1 ≤ 128 * 2 ^ (rows.length - ds.length) ∧ (∀ j, Elim Z (left.map (vec φ)) j → Elim Z (rows.map (vec φ)) (k + j))) _ (fun _ _ _ _ => rfl)
      (fun Γ S' h => ?_) (fun d ds Γ S' h => ?_) _ _ _ ⟨rows, 0, 127, none, none, none, none, rfl, rfl, hr, by show _ ≤ (rgD 0 (rows.length : Int)).length; omega, by show (rgD 0 (rows.length : Int)).length ≤ _; omega, by simp [hdl], fun j h => by rw [Nat.zero_add]; exact h⟩
    · obtain ⟨left, k, b, o5, o6, o7, o8, rfl, rfl, h1, h2, h3, h4, h5⟩ := h
      have : left = [] := List.eq_nil_of_length_eq_zero (by simpa using h2)
      subst this
      exact ⟨k, _, _, _, _, _, rfl, rfl, h5 0 (.none fun a m => (List.not_mem_nil m).elim)⟩
    · obtain ⟨left, k, b, o5, o6, o7, o8, rfl, rfl, h1, h2, h3, h4, h5⟩ := h
      have hb : b ≤ 4300 := by
        have : 2 ^ (rows.length - (d :: ds).length) ≤ 2 ^ 5 := Nat.pow_le_pow_right (by decide) (by omega)
        omega
      have e2 : ∀ o2 o3 o5 o6 o7 o8, o2 = some (.d (.list (left.map lst))) → C__law_row_rank_2 [some (.d (.int q)), some (.cell c), o2, o3, none, o5, o6, o7, o8, none] S' = .ok (.d (.list ((left.filter nzr).map lst))) S' := by
        intro o2 o3 o5 o6 o7 o8 ho
        subst ho
        unfold C__law_row_rank_2
        have e0 : iSrc (eVar 2) [some (.d (.int q)), some (.cell c), some (.d (.list (left.map lst))), o3, none, o5, o6, o7, o8, none] S' = .ok ⟨left.map lst, fun _ => true⟩ S' := rfl
        rw [eLc_eq e0, rows_filter rfl left]
        · rw [bind_ok, finF_eq]
        · intro row mr
          refine ⟨_, rfl, ?_, ?_⟩
          · simp -implicitDefEqProofs only [T__law_row_rank_1, wipeE, fSeq_eq, seqK_nx, seqK_rt, seqK_bk, seqK_ct, seqK_ite, eVar_0, eVar_s, bind_ok, sB_ok, eC_eq, eBin_eq, eUn_eq, iOp0_eq, iCmp_eq, tst_eq, addI, negI, fSet_eq, fRet_eq, fExpr_eq, fIf_eq, fAsg_eq, fPar_eq, fNil_eq, fBreak_eq, fCont_eq, gNm_eq, gsNil_eq, gsCons_eq, aNil_eq, aCons_eq, eCall_eq, eCallD_eq, intS_eq, absS_eq, mmS_eq, len_l, len_t, list_l, list_t, tup_l, tup_t, finF_eq, finC_eq, allD_nil, allD_cons, eTup_eq, eLst_eq, eIf_eq, runD_eq, hand_rt, handF_d, take_self, srcS_l, srcS_t, iSrc_eq, iZip_eq, zip_l, iEnm_eq, enum_l, pix0, pix1, pix2, pix3, pset1, pset2, pset3, gSub_eq, tYes_eq, eAdd_eq, eSub_eq, eMul_eq, eDiv_eq, eMod_eq, ePow_eq, eXor_eq, eNeg_eq, eIx_eq, eqI_t, eqI_f, tNot_eq, tAnd_eq, tOr_eq, tru_eq, tru_bool, tru_int, tru_list, eAnd_eq, eNot_eq, isi_eq, asD_d, List.length_cons, List.length_nil, List.map_cons, List.map_nil, List.cons_append, List.nil_append, List.append_nil, List.set_cons_succ, List.set_cons_zero, List.replicate_succ, List.replicate_zero, Option.map_some, if_true, if_false, reduceIte, Nat.reduceAdd, Nat.reduceSub, Nat.reduceLeDiff, List.length_map, Nat.reduceEqDiff, Bool.false_eq_true, Bool.not_false, Bool.not_true, ne_eq, not_true_eq_false, not_false_eq_true, decide_true, decide_false, eq_self, hand_rt, decide_eq_true_eq, sl_l, eSl_eq, oNone_eq, oSome_eq, all_l _ (sca_lst row), any_lst]
          · simp -implicitDefEqProofs only [E__law_row_rank_2, wipeE, fSeq_eq, seqK_nx, seqK_rt, seqK_bk, seqK_ct, seqK_ite, eVar_0, eVar_s, bind_ok, sB_ok, eC_eq, eBin_eq, eUn_eq, iOp0_eq, iCmp_eq, tst_eq, addI, negI, fSet_eq, fRet_eq, fExpr_eq, fIf_eq, fAsg_eq, fPar_eq, fNil_eq, fBreak_eq, fCont_eq, gNm_eq, gsNil_eq, gsCons_eq, aNil_eq, aCons_eq, eCall_eq, eCallD_eq, intS_eq, absS_eq, mmS_eq, len_l, len_t, list_l, list_t, tup_l, tup_t, finF_eq, finC_eq, allD_nil, allD_cons, eTup_eq, eLst_eq, eIf_eq, runD_eq, hand_rt, handF_d, take_self, srcS_l, srcS_t, iSrc_eq, iZip_eq, zip_l, iEnm_eq, enum_l, pix0, pix1, pix2, pix3, pset1, pset2, pset3, gSub_eq, tYes_eq, eAdd_eq, eSub_eq, eMul_eq, eDiv_eq, eMod_eq, ePow_eq, eXor_eq, eNeg_eq, eIx_eq, eqI_t, eqI_f, tNot_eq, tAnd_eq, tOr_eq, tru_eq, tru_bool, tru_int, tru_list, eAnd_eq, eNot_eq, isi_eq, asD_d, List.length_cons, List.length_nil, List.map_cons, List.map_nil, List.cons_append, List.nil_append, List.append_nil, List.set_cons_succ, List.set_cons_zero, List.replicate_succ, List.replicate_zero, Option.map_some, if_true, if_false, reduceIte, Nat.reduceAdd, Nat.reduceSub, Nat.reduceLeDiff, List.length_map, Nat.reduceEqDiff, Bool.false_eq_true, Bool.not_false, Bool.not_true, ne_eq, not_true_eq_false, not_false_eq_true, decide_true, decide_false, eq_self, hand_rt, decide_eq_true_eq, sl_l, eSl_eq, oNone_eq, oSome_eq]
      have e2' := fun o5 => e2 _ (some (.d (.int k))) o5 o6 o7 o8 rfl
      cases hs : left.filter nzr with
      | nil =>
        have hev : B__law_row_rank_1 [some (.d (.int q)), some (.cell c), some (.d (.list (left.map lst))), some (.d (.int k)), none, some (.d d), o6, o7, o8, none] S' = .ok (.bk [some (.d (.int q)), some (.cell c), some (.d (.list (left.map lst))), some (.d (.int k)), none, some (.d d), some (.d (.list [])), o7, o8, none]) S' := by
          rw [hs] at e2'
          simp -implicitDefEqProofs only [B__law_row_rank_1, fSeq_eq, seqK_nx, seqK_rt, seqK_bk, seqK_ct, seqK_ite, eVar_0, eVar_s, bind_ok, sB_ok, eC_eq, eBin_eq, eUn_eq, iOp0_eq, iCmp_eq, tst_eq, addI, negI, fSet_eq, fRet_eq, fExpr_eq, fIf_eq, fAsg_eq, fPar_eq, fNil_eq, fBreak_eq, fCont_eq, gNm_eq, gsNil_eq, gsCons_eq, aNil_eq, aCons_eq, eCall_eq, eCallD_eq, intS_eq, absS_eq, mmS_eq, len_l, len_t, list_l, list_t, tup_l, tup_t, finF_eq, finC_eq, allD_nil, allD_cons, eTup_eq, eLst_eq, eIf_eq, runD_eq, hand_rt, handF_d, take_self, srcS_l, srcS_t, iSrc_eq, iZip_eq, zip_l, iEnm_eq, enum_l, pix0, pix1, pix2, pix3, pset1, pset2, pset3, gSub_eq, tYes_eq, eAdd_eq, eSub_eq, eMul_eq, eDiv_eq, eMod_eq, ePow_eq, eXor_eq, eNeg_eq, eIx_eq, eqI_t, eqI_f, tNot_eq, tAnd_eq, tOr_eq, tru_eq, tru_bool, tru_int, tru_list, eAnd_eq, eNot_eq, isi_eq, asD_d, List.length_cons, List.length_nil, List.map_cons, List.map_nil, List.cons_append, List.nil_append, List.append_nil, List.set_cons_succ, List.set_cons_zero, List.replicate_succ, List.replicate_zero, Option.map_some, if_true, if_false, reduceIte, Nat.reduceAdd, Nat.reduceSub, Nat.reduceLeDiff, List.length_map, Nat.reduceEqDiff, Bool.false_eq_true, Bool.not_false, Bool.not_true, ne_eq, not_true_eq_false, not_false_eq_true, decide_true, decide_false, eq_self, hand_rt, decide_eq_true_eq, sl_l, eSl_eq, oNone_eq, oSome_eq, e2', List.isEmpty_nil]
        rw [gNm_eq]
        refine Out.Ret.of rfl ?_
        refine Out.Ret.of hev ?_
        refine ⟨k, _, _, _, _, _, rfl, rfl, h5 0 (.none fun a m => ?_)⟩
        obtain ⟨r, mr, rfl⟩ := List.mem_map.mp m
        refine zero_row Fl ?_
        have := List.filter_eq_nil_iff.mp hs r mr
        simpa using this
      | cons lead rest =>
        have ml : ∀ r ∈ lead :: rest, r ∈ left ∧ nzr r = true := fun r m => List.mem_filter.mp (hs ▸ m)
        have hlead := ml lead (List.mem_cons_self ..)
        have rl := h1 lead hlead.1
        let cc : PyData → Bool := fun d => match d with
          | .int i => decide (lead.getD i.toNat 0 ≠ 0)
          | _ => false
        obtain ⟨t, trest, ht1, ht2, ht3⟩ := first_ok (c := cc) rl.1 (fun k => rfl) hlead.2
        have e3 : ∀ o2 o3 o5 o6 o8, C__law_row_rank_3 [some (.d (.int q)), some (.cell c), o2, o3, none, o5, o6, some (.d (lst lead)), o8, none] S' = .ok (.d (.list (.int t :: trest))) S' := by
          intro o2 o3 o5 o6 o8
          unfold C__law_row_rank_3
          have e0 : iRg (rg1 (eCall lenS (aCons (eVar 7) aNil))) [some (.d (.int q)), some (.cell c), o2, o3, none, o5, o6, some (.d (lst lead)), o8, none] S' = .ok ⟨rgD 0 n, fun _ => true⟩ S' := iRg_ok (by
            simp -implicitDefEqProofs only [fSeq_eq, seqK_nx, seqK_rt, seqK_bk, seqK_ct, seqK_ite, eVar_0, eVar_s, bind_ok, sB_ok, eC_eq, eBin_eq, eUn_eq, iOp0_eq, iCmp_eq, tst_eq, addI, negI, fSet_eq, fRet_eq, fExpr_eq, fIf_eq, fAsg_eq, fPar_eq, fNil_eq, fBreak_eq, fCont_eq, gNm_eq, gsNil_eq, gsCons_eq, aNil_eq, aCons_eq, eCall_eq, eCallD_eq, intS_eq, absS_eq, mmS_eq, len_l, len_t, list_l, list_t, tup_l, tup_t, finF_eq, finC_eq, allD_nil, allD_cons, eTup_eq, eLst_eq, eIf_eq, runD_eq, hand_rt, handF_d, take_self, srcS_l, srcS_t, iSrc_eq, iZip_eq, zip_l, iEnm_eq, enum_l, pix0, pix1, pix2, pix3, pset1, pset2, pset3, gSub_eq, tYes_eq, eAdd_eq, eSub_eq, eMul_eq, eDiv_eq, eMod_eq, ePow_eq, eXor_eq, eNeg_eq, eIx_eq, eqI_t, eqI_f, tNot_eq, tAnd_eq, tOr_eq, tru_eq, tru_bool, tru_int, tru_list, eAnd_eq, eNot_eq, isi_eq, asD_d, List.length_cons, List.length_nil, List.map_cons, List.map_nil, List.cons_append, List.nil_append, List.append_nil, List.set_cons_succ, List.set_cons_zero, List.replicate_succ, List.replicate_zero, Option.map_some, if_true, if_false, reduceIte, Nat.reduceAdd, Nat.reduceSub, Nat.reduceLeDiff, List.length_map, Nat.reduceEqDiff, Bool.false_eq_true, Bool.not_false, Bool.not_true, ne_eq, not_true_eq_false, not_false_eq_true, decide_true, decide_false, eq_self, hand_rt, decide_eq_true_eq, sl_l, eSl_eq, oNone_eq, oSome_eq, rl.1]) (by omega)
          rw [eLc_eq e0, lcL_pure cc id rfl]
          · rw [List.map_id, bind_ok, finF_eq, ht1]
          · intro d m
            obtain ⟨i, hi, rfl⟩ := range_mem m
            have hi' : i < lead.length := by rw [rl.1]; exact hi
            refine ⟨_, rfl, ?_, fun _ => ?_⟩
            · simp -implicitDefEqProofs only [T__law_row_rank_2, wipeE, fSeq_eq, seqK_nx, seqK_rt, seqK_bk, seqK_ct, seqK_ite, eVar_0, eVar_s, bind_ok, sB_ok, eC_eq, eBin_eq, eUn_eq, iOp0_eq, iCmp_eq, tst_eq, addI, negI, fSet_eq, fRet_eq, fExpr_eq, fIf_eq, fAsg_eq, fPar_eq, fNil_eq, fBreak_eq, fCont_eq, gNm_eq, gsNil_eq, gsCons_eq, aNil_eq, aCons_eq, eCall_eq, eCallD_eq, intS_eq, absS_eq, mmS_eq, len_l, len_t, list_l, list_t, tup_l, tup_t, finF_eq, finC_eq, allD_nil, allD_cons, eTup_eq, eLst_eq, eIf_eq, runD_eq, hand_rt, handF_d, take_self, srcS_l, srcS_t, iSrc_eq, iZip_eq, zip_l, iEnm_eq, enum_l, pix0, pix1, pix2, pix3, pset1, pset2, pset3, gSub_eq, tYes_eq, eAdd_eq, eSub_eq, eMul_eq, eDiv_eq, eMod_eq, ePow_eq, eXor_eq, eNeg_eq, eIx_eq, eqI_t, eqI_f, tNot_eq, tAnd_eq, tOr_eq, tru_eq, tru_bool, tru_int, tru_list, eAnd_eq, eNot_eq, isi_eq, asD_d, List.length_cons, List.length_nil, List.map_cons, List.map_nil, List.cons_append, List.nil_append, List.append_nil, List.set_cons_succ, List.set_cons_zero, List.replicate_succ, List.replicate_zero, Option.map_some, if_true, if_false, reduceIte, Nat.reduceAdd, Nat.reduceSub, Nat.reduceLeDiff, List.length_map, Nat.reduceEqDiff, Bool.false_eq_true, Bool.not_false, Bool.not_true, ne_eq, not_true_eq_false, not_false_eq_true, decide_true, decide_false, eq_self, hand_rt, decide_eq_true_eq, sl_l, eSl_eq, oNone_eq, oSome_eq, row_at hi']
              rfl
            · simp -implicitDefEqProofs only [E__law_row_rank_3, wipeE, fSeq_eq, seqK_nx, seqK_rt, seqK_bk, seqK_ct, seqK_ite, eVar_0, eVar_s, bind_ok, sB_ok, eC_eq, eBin_eq, eUn_eq, iOp0_eq, iCmp_eq, tst_eq, addI, negI, fSet_eq, fRet_eq, fExpr_eq, fIf_eq, fAsg_eq, fPar_eq, fNil_eq, fBreak_eq, fCont_eq, gNm_eq, gsNil_eq, gsCons_eq, aNil_eq, aCons_eq, eCall_eq, eCallD_eq, intS_eq, absS_eq, mmS_eq, len_l, len_t, list_l, list_t, tup_l, tup_t, finF_eq, finC_eq, allD_nil, allD_cons, eTup_eq, eLst_eq, eIf_eq, runD_eq, hand_rt, handF_d, take_self, srcS_l, srcS_t, iSrc_eq, iZip_eq, zip_l, iEnm_eq, enum_l, pix0, pix1, pix2, pix3, pset1, pset2, pset3, gSub_eq, tYes_eq, eAdd_eq, eSub_eq, eMul_eq, eDiv_eq, eMod_eq, ePow_eq, eXor_eq, eNeg_eq, eIx_eq, eqI_t, eqI_f, tNot_eq, tAnd_eq, tOr_eq, tru_eq, tru_bool, tru_int, tru_list, eAnd_eq, eNot_eq, isi_eq, asD_d, List.length_cons, List.length_nil, List.map_cons, List.map_nil, List.cons_append, List.nil_append, List.append_nil, List.set_cons_succ, List.set_cons_zero, List.replicate_succ, List.replicate_zero, Option.map_some, if_true, if_false, reduceIte, Nat.reduceAdd, Nat.reduceSub, Nat.reduceLeDiff, List.length_map, Nat.reduceEqDiff, Bool.false_eq_true, Bool.not_false, Bool.not_true, ne_eq, not_true_eq_false, not_false_eq_true, decide_true, decide_false, eq_self, hand_rt, decide_eq_true_eq, sl_l, eSl_eq, oNone_eq, oSome_eq, id]
        have ht' : t < lead.length := by rw [rl.1]; exact ht2
        obtain ⟨ys, e4, hboth⟩ : ∃ ys : List (List Int), lcL (fun _ => true) (gNm 4) tYesF E__law_row_rank_4 [4] [some (.d (.int q)), some (.cell c), some (.d (.list (left.map lst))), some (.d (.int k)), none, some (.d d), some (.d (.list (lst lead :: rest.map lst))), some (.d (lst lead)), some (.d (.int t)), none] (rest.map lst) S' = .ok (ys.map lst) S' ∧ Both (fun row r2 => RowOk q (2 * b + 1) n r2 ∧ Red Z (vec φ r2) (vec φ row) (vec φ lead) t) rest ys := by
          refine rows_map _ rfl rest fun row mr => ⟨_, rfl, ?_⟩
          have rr := h1 row (ml row (List.mem_cons_of_mem _ mr)).1
          obtain ⟨r2, u1, u2, u3⟩ := Fl.lessL S' b n row lead t rr rl ht2 ht3 hn hb
          refine ⟨r2, ?_, u2, u3⟩
          have ht2' : t < row.length := by rw [rr.1]; exact ht2
          simp -implicitDefEqProofs only [E__law_row_rank_4, wipeE, fSeq_eq, seqK_nx, seqK_rt, seqK_bk, seqK_ct, seqK_ite, eVar_0, eVar_s, bind_ok, sB_ok, eC_eq, eBin_eq, eUn_eq, iOp0_eq, iCmp_eq, tst_eq, addI, negI, fSet_eq, fRet_eq, fExpr_eq, fIf_eq, fAsg_eq, fPar_eq, fNil_eq, fBreak_eq, fCont_eq, gNm_eq, gsNil_eq, gsCons_eq, aNil_eq, aCons_eq, eCall_eq, eCallD_eq, intS_eq, absS_eq, mmS_eq, len_l, len_t, list_l, list_t, tup_l, tup_t, finF_eq, finC_eq, allD_nil, allD_cons, eTup_eq, eLst_eq, eIf_eq, runD_eq, hand_rt, handF_d, take_self, srcS_l, srcS_t, iSrc_eq, iZip_eq, zip_l, iEnm_eq, enum_l, pix0, pix1, pix2, pix3, pset1, pset2, pset3, gSub_eq, tYes_eq, eAdd_eq, eSub_eq, eMul_eq, eDiv_eq, eMod_eq, ePow_eq, eXor_eq, eNeg_eq, eIx_eq, eqI_t, eqI_f, tNot_eq, tAnd_eq, tOr_eq, tru_eq, tru_bool, tru_int, tru_list, eAnd_eq, eNot_eq, isi_eq, asD_d, List.length_cons, List.length_nil, List.map_cons, List.map_nil, List.cons_append, List.nil_append, List.append_nil, List.set_cons_succ, List.set_cons_zero, List.replicate_succ, List.replicate_zero, Option.map_some, if_true, if_false, reduceIte, Nat.reduceAdd, Nat.reduceSub, Nat.reduceLeDiff, List.length_map, Nat.reduceEqDiff, Bool.false_eq_true, Bool.not_false, Bool.not_true, ne_eq, not_true_eq_false, not_false_eq_true, decide_true, decide_false, eq_self, hand_rt, decide_eq_true_eq, sl_l, eSl_eq, oNone_eq, oSome_eq, row_at ht', row_at ht2', u1]
        have e5 : C__law_row_rank_4 [some (.d (.int q)), some (.cell c), some (.d (.list (left.map lst))), some (.d (.int k)), none, some (.d d), some (.d (.list (lst lead :: rest.map lst))), some (.d (lst lead)), some (.d (.int t)), none] S' = .ok (.d (.list (ys.map lst))) S' := by
          unfold C__law_row_rank_4
          have e0 : iSrc (eSl finF (eVar 6) (oSome (eC (.int 1))) oNone) [some (.d (.int q)), some (.cell c), some (.d (.list (left.map lst))), some (.d (.int k)), none, some (.d d), some (.d (.list (lst lead :: rest.map lst))), some (.d (lst lead)), some (.d (.int t)), none] S' = .ok ⟨rest.map lst, fun _ => true⟩ S' := by
            rw [iSrc_eq]
            simp -implicitDefEqProofs only [fSeq_eq, seqK_nx, seqK_rt, seqK_bk, seqK_ct, seqK_ite, eVar_0, eVar_s, bind_ok, sB_ok, eC_eq, eBin_eq, eUn_eq, iOp0_eq, iCmp_eq, tst_eq, addI, negI, fSet_eq, fRet_eq, fExpr_eq, fIf_eq, fAsg_eq, fPar_eq, fNil_eq, fBreak_eq, fCont_eq, gNm_eq, gsNil_eq, gsCons_eq, aNil_eq, aCons_eq, eCall_eq, eCallD_eq, intS_eq, absS_eq, mmS_eq, len_l, len_t, list_l, list_t, tup_l, tup_t, finF_eq, finC_eq, allD_nil, allD_cons, eTup_eq, eLst_eq, eIf_eq, runD_eq, hand_rt, handF_d, take_self, srcS_l, srcS_t, iSrc_eq, iZip_eq, zip_l, iEnm_eq, enum_l, pix0, pix1, pix2, pix3, pset1, pset2, pset3, gSub_eq, tYes_eq, eAdd_eq, eSub_eq, eMul_eq, eDiv_eq, eMod_eq, ePow_eq, eXor_eq, eNeg_eq, eIx_eq, eqI_t, eqI_f, tNot_eq, tAnd_eq, tOr_eq, tru_eq, tru_bool, tru_int, tru_list, eAnd_eq, eNot_eq, isi_eq, asD_d, List.length_cons, List.length_nil, List.map_cons, List.map_nil, List.cons_append, List.nil_append, List.append_nil, List.set_cons_succ, List.set_cons_zero, List.replicate_succ, List.replicate_zero, Option.map_some, if_true, if_false, reduceIte, Nat.reduceAdd, Nat.reduceSub, Nat.reduceLeDiff, List.length_map, Nat.reduceEqDiff, Bool.false_eq_true, Bool.not_false, Bool.not_true, ne_eq, not_true_eq_false, not_false_eq_true, decide_true, decide_false, eq_self, hand_rt, decide_eq_true_eq, sl_l, eSl_eq, oNone_eq, oSome_eq, cut_tail]
          rw [eLc_eq e0, e4, bind_ok, finF_eq]
        have i1 : ixS (.d (.list (lst lead :: rest.map lst))) (.d (.int 0)) S' = .ok (.d (lst lead)) S' := ix_l S' (ix_nat (i := 0) rfl)
        have i2 : ixS (.d (.list (.int t :: trest))) (.d (.int 0)) S' = .ok (.d (.int t)) S' := ix_l S' (ix_nat (i := 0) rfl)
        have hev : B__law_row_rank_1 [some (.d (.int q)), some (.cell c), some (.d (.list (left.map lst))), some (.d (.int k)), none, some (.d d), o6, o7, o8, none] S' = .ok (.nx [some (.d (.int q)), some (.cell c), some (.d (.list (ys.map lst))), some (.d (.int (k + 1))), none, some (.d d), some (.d (.list (lst lead :: rest.map lst))), some (.d (lst lead)), some (.d (.int t)), none]) S' := by
          rw [hs, List.map_cons] at e2'
          have ne : (lst lead :: rest.map lst).isEmpty = false := rfl
          unfold B__law_row_rank_1
          rw [fSeq_eq, fSet_eq, e2']
          simp -implicitDefEqProofs only [fSeq_eq, seqK_nx, seqK_rt, seqK_bk, seqK_ct, seqK_ite, eVar_0, eVar_s, bind_ok, sB_ok, eC_eq, eBin_eq, eUn_eq, iOp0_eq, iCmp_eq, tst_eq, addI, negI, fSet_eq, fRet_eq, fExpr_eq, fIf_eq, fAsg_eq, fPar_eq, fNil_eq, fBreak_eq, fCont_eq, gNm_eq, gsNil_eq, gsCons_eq, aNil_eq, aCons_eq, eCall_eq, eCallD_eq, intS_eq, absS_eq, mmS_eq, len_l, len_t, list_l, list_t, tup_l, tup_t, finF_eq, finC_eq, allD_nil, allD_cons, eTup_eq, eLst_eq, eIf_eq, runD_eq, hand_rt, handF_d, take_self, srcS_l, srcS_t, iSrc_eq, iZip_eq, zip_l, iEnm_eq, enum_l, pix0, pix1, pix2, pix3, pset1, pset2, pset3, gSub_eq, tYes_eq, eAdd_eq, eSub_eq, eMul_eq, eDiv_eq, eMod_eq, ePow_eq, eXor_eq, eNeg_eq, eIx_eq, eqI_t, eqI_f, tNot_eq, tAnd_eq, tOr_eq, tru_eq, tru_bool, tru_int, tru_list, eAnd_eq, eNot_eq, isi_eq, asD_d, List.length_cons, List.length_nil, List.map_cons, List.map_nil, List.cons_append, List.nil_append, List.append_nil, List.set_cons_succ, List.set_cons_zero, List.replicate_succ, List.replicate_zero, Option.map_some, if_true, if_false, reduceIte, Nat.reduceAdd, Nat.reduceSub, Nat.reduceLeDiff, List.length_map, Nat.reduceEqDiff, Bool.false_eq_true, Bool.not_false, Bool.not_true, ne_eq, not_true_eq_false, not_false_eq_true, decide_true, decide_false, eq_self, hand_rt, decide_eq_true_eq, sl_l, eSl_eq, oNone_eq, oSome_eq, ne, i1, e3, i2, e5]
        rw [gNm_eq]
        refine Out.Ret.of rfl ?_
        refine Out.Ret.of hev ?_
        have hll : (left.filter nzr).length ≤ left.length := List.length_filter_le ..
        rw [hs] at hll
        simp only [List.length_cons] at hll h2 h3 h4
        refine ⟨ys, k + 1, 2 * b + 1, _, _, _, _, rfl, rfl, fun r m => ?_, ?_, by omega, ?_, fun j hj => ?_⟩
        · obtain ⟨x, _, hx⟩ := hboth.2.2 r m
          exact hx.1
        · rw [← hboth.1]
          omega
        · have e : rows.length - ds.length = rows.length - (ds.length + 1) + 1 := by omega
          rw [e, Nat.pow_succ]
          omega
        · have := h5 (j + 1) (elim_rows Fl rl ht3 hlead.1 (fun r m => (ml r (List.mem_cons_of_mem _ m)).1) (fun r m => ?_) ys (fun z m => m) (fun y m => .inl m) ⟨hboth.1, fun x m => ?_, fun y m => ?_⟩ hj)
          · rw [show k + 1 + j = k + (j + 1) by omega]
            exact this
          · by_cases hz : nzr r = true
            · have : r ∈ left.filter nzr := List.mem_filter.mpr ⟨m, hz⟩
              rw [hs] at this
              rcases List.mem_cons.mp this with h | h
              · exact .inl h
              · exact .inr (.inl h)
            · exact .inr (.inr (by simpa using hz))
          · obtain ⟨y, my, hy⟩ := hboth.2.1 x m
            exact ⟨y, my, hy.2⟩
          · obtain ⟨x, mx, hx⟩ := hboth.2.2 y m
            exact ⟨x, mx, hx.2⟩
  obtain ⟨fl, S', e2, k, o2, o5, o6, o7, o8, rfl, rfl, hk⟩ := lp.ok
  refine ⟨k, ?_, hk⟩
  simp -implicitDefEqProofs only [F__law_row_rank, b__law_row_rank, fSeq_eq, seqK_nx, seqK_rt, seqK_bk, seqK_ct, seqK_ite, eVar_0, eVar_s, bind_ok, sB_ok, eC_eq, eBin_eq, eUn_eq, iOp0_eq, iCmp_eq, tst_eq, addI, negI, fSet_eq, fRet_eq, fExpr_eq, fIf_eq, fAsg_eq, fPar_eq, fNil_eq, fBreak_eq, fCont_eq, gNm_eq, gsNil_eq, gsCons_eq, aNil_eq, aCons_eq, eCall_eq, eCallD_eq, intS_eq, absS_eq, mmS_eq, len_l, len_t, list_l, list_t, tup_l, tup_t, finF_eq, finC_eq, allD_nil, allD_cons, eTup_eq, eLst_eq, eIf_eq, runD_eq, hand_rt, handF_d, take_self, srcS_l, srcS_t, iSrc_eq, iZip_eq, zip_l, iEnm_eq, enum_l, pix0, pix1, pix2, pix3, pset1, pset2, pset3, gSub_eq, tYes_eq, eAdd_eq, eSub_eq, eMul_eq, eDiv_eq, eMod_eq, ePow_eq, eXor_eq, eNeg_eq, eIx_eq, eqI_t, eqI_f, tNot_eq, tAnd_eq, tOr_eq, tru_eq, tru_bool, tru_int, tru_list, eAnd_eq, eNot_eq, isi_eq, asD_d, List.length_cons, List.length_nil, List.map_cons, List.map_nil, List.cons_append, List.nil_append, List.append_nil, List.set_cons_succ, List.set_cons_zero, List.replicate_succ, List.replicate_zero, Option.map_some, if_true, if_false, reduceIte, Nat.reduceAdd, Nat.reduceSub, Nat.reduceLeDiff, List.length_map, Nat.reduceEqDiff, Bool.false_eq_true, Bool.not_false, Bool.not_true, ne_eq, not_true_eq_false, not_false_eq_true, decide_true, decide_false, eq_self, hand_rt, decide_eq_true_eq, sl_l, eSl_eq, oNone_eq, oSome_eq, e1, e2]
end G06
namespace G06
open PySem L2 DL LinA
/-! ### 8. the program's elimination -/
theorem _root_.LinA.Elim.wide {R : Type} [Lean.Grind.CommRing R] {Z : R → Prop} (P : Prm Z) {A0 A : List (Vec R)} {k : Nat} (h : Elim Z A0 k) (h1 : ∀ a ∈ A0, a ∈ A) (h2 : ∀ a ∈ A, a ∈ A0 ∨ ∀ i, Z (a i)) : Elim Z A k := by
  cases h with
  | none h => exact .none fun a m i => (h2 a m).elim (fun m => h a m i) fun z => z i
  | @step _ A' v k t s1 s2 s3 s4 s5 s6 =>
    have hm : ∀ x, Sp Z A0 x → Sp Z A x := fun x s => s.mono fun a m => .mem (h1 a m)
    refine .step t (hm _ s1) s2 (fun a m => hm _ (s3 a m)) (fun a m => ?_) s5 s6
    rcases h2 a m with h | h
    · exact s4 a h
    · refine .lin (w := fun _ => 0) 1 0 0 .zero .zero P.one fun i => ?_
      have : (1 : R) * a i - 0 * (fun _ => (0 : R)) i - 0 * (fun _ => (0 : R)) i = a i := by grind
      rw [this]
      exact h i
theorem first_enum {row : List Int} (c : PyData → Bool) (h : PyData → PyData) (hc : ∀ (k : Nat) (x : Int), c (.tuple [.int k, .int x]) = (x != 0)) (hh : ∀ (k : Nat) (x : Int), h (.tuple [.int k, .int x]) = .int k) (hz : nzr row = true) : ∃ (t : Nat) (rest : List PyData), ((enumD (row.map .int)).filter c).map h = .int t :: rest ∧ t < row.length ∧ row.getD t 0 ≠ 0 := by
  obtain ⟨x, mx, hx⟩ := List.any_eq_true.mp hz
  obtain ⟨i, hi, rfl⟩ := List.getElem_of_mem mx
  have mem : ∀ d, d ∈ enumD (row.map .int) ↔ ∃ (k : Nat) (hk : k < row.length), d = .tuple [.int k, .int row[k]] := fun d => by
    unfold enumD
    rw [List.mem_mapIdx]
    constructor
    · rintro ⟨k, hk, rfl⟩
      rw [List.length_map] at hk
      exact ⟨k, hk, by rw [List.getElem_map]⟩
    · rintro ⟨k, hk, rfl⟩
      exact ⟨k, by rw [List.length_map]; exact hk, by rw [List.getElem_map]⟩
  have m1 : PyData.tuple [.int (i : Int), .int row[i]] ∈ (enumD (row.map .int)).filter c := List.mem_filter.mpr ⟨(mem _).mpr ⟨i, hi, rfl⟩, by rw [hc]; exact hx⟩
  cases hl : (enumD (row.map .int)).filter c with
  | nil => rw [hl] at m1; cases m1
  | cons d rest =>
    have md : d ∈ (enumD (row.map .int)).filter c := by rw [hl]; exact List.mem_cons_self ..
    obtain ⟨mr, hd⟩ := List.mem_filter.mp md
    obtain ⟨t, ht, rfl⟩ := (mem d).mp mr
    rw [hc] at hd
    have e : row.getD t 0 = row[t] := by simp [List.getD, ht]
    exact ⟨t, rest.map h, by rw [List.map_cons, hh], ht, by rw [e]; exact bne_iff_ne.mp hd⟩
theorem pop_c {c : Nat} {xs : List PyData} {x : PyData} {S : Store} (h : S[c]? = some (.lst xs)) (hx : xs[xs.length - 1]? = some x) : popS (.cell c) [] S = .ok (.d x) (S.set c (.lst xs.dropLast)) := by
  have e : cellL (.cell c) S = some (c, xs) := by simp only [cellL, h]
  simp only [popS, e, hx]
theorem isL_c (c : Nat) (xs : List PyData) (S : Store) (h : S[c]? = some (.lst xs)) : isL (.cell c) S = true := by
  simp only [isL, h]
theorem tru_c {c : Nat} {xs : List PyData} {S : Store} (h : S[c]? = some (.lst xs)) : truS (.cell c) S = some (!xs.isEmpty) := by
  simp only [truS, asD, h]
  rfl
theorem eMeth_eq (op : SV → List SV → Store → Out SV) (fo : EF) (af : AF) (Γ : Ev) (S : Store) : eMeth op fo af Γ S = (fo Γ S).bind fun o S => if isL o S then (af Γ S).bind fun vs S => op o vs S else .no := rfl
def rowD (p : Bool × List Int) : PyData := sq p.1 (p.2.map .int)
theorem start_rows (rows : List (Bool × List Int)) (c : PyData → Bool) (h : PyData → PyData) (c1 : ∀ ds, c (.list ds) = ds.any trB) (c2 : ∀ ds, c (.tuple ds) = ds.any trB) (h1 : ∀ ds, h (.list ds) = .list ds) (h2 : ∀ ds, h (.tuple ds) = .list ds) : ((rows.map rowD).filter c).map h = ((rows.map (·.2)).filter nzr).map lst := by
  induction rows with
  | nil => rfl
  | cons p rows ih =>
    obtain ⟨b, xs⟩ := p
    have e1 : c (rowD (b, xs)) = nzr xs := by
      cases b
      · show c (.tuple (xs.map .int)) = _
        rw [c2, any_lst]
      · show c (.list (xs.map .int)) = _
        rw [c1, any_lst]
    have e2 : h (rowD (b, xs)) = lst xs := by
      cases b
      · exact h2 _
      · exact h1 _
    rw [List.map_cons, List.filter_cons, e1, List.map_cons, List.filter_cons]
    cases nzr xs with
    | false =>
      simp only [Bool.false_eq_true, if_false]
      exact ih
    | true =>
      simp only [if_true, List.map_cons, e2]
      rw [ih]
theorem whole_rank_ok {q : Int} {R : Type} [Lean.Grind.CommRing R] {φ : Int → R} {Z : R → Prop} (Fl : Fld q R φ Z) {n : Nat} {rows : List (Bool × List Int)} (bb : Bool) (hr : ∀ p ∈ rows, RowOk q 127 n p.2) (hl : rows.length ≤ 5) (S : Store) :
    ∃ k : Nat, F_whole_rank [.d (.int q), .d (sq bb (rows.map rowD))] S = .ok (.d (.int k)) S ∧ Elim Z ((rows.map (·.2)).map (vec φ)) k := by
  let R0 : List (List Int) := (rows.map (·.2)).filter nzr
  obtain ⟨rD, hrD⟩ : ∃ rD : PyData, rD = sq bb (rows.map rowD) := ⟨_, rfl⟩
  rw [← hrD]
  have e1 : ∀ o2 o4 o5 o6, C_whole_rank_1 [some (.d (.int q)), some (.d rD), o2, none, o4, o5, o6, none, none] S = .ok (.cell S.length) (S ++ [.lst (R0.map lst)]) := by
    intro o2 o4 o5 o6
    unfold C_whole_rank_1
    have e0 : iSrc (eVar 1) [some (.d (.int q)), some (.d rD), o2, none, o4, o5, o6, none, none] S = .ok ⟨rows.map rowD, fun _ => true⟩ S := by
      rw [hrD]
      cases bb <;> rfl
    let cc : PyData → Bool := fun d => match d with
      | .list ds => ds.any trB
      | .tuple ds => ds.any trB
      | _ => false
    let hh : PyData → PyData := fun d => match d with
      | .tuple ds => .list ds
      | d => d
    rw [eLc_eq e0, lcL_pure cc hh rfl]
    · rw [bind_ok, finC_eq, start_rows rows cc hh (fun _ => rfl) (fun _ => rfl) (fun _ => rfl) (fun _ => rfl)]
    · intro d m
      obtain ⟨⟨b, xs⟩, _, rfl⟩ := List.mem_map.mp m
      refine ⟨_, rfl, ?_, fun _ => ?_⟩
      · cases b
        · show T_whole_rank_1 (List.set _ 3 (some (.d (.tuple (xs.map .int))))) S = .ok ((xs.map PyData.int).any trB) S
          simp -implicitDefEqProofs only [T_whole_rank_1, wipeE, fSeq_eq, seqK_nx, seqK_rt, seqK_bk, seqK_ct, seqK_ite, eVar_0, eVar_s, bind_ok, sB_ok, eC_eq, eBin_eq, eUn_eq, iOp0_eq, iCmp_eq, tst_eq, addI, negI, fSet_eq, fRet_eq, fExpr_eq, fIf_eq, fAsg_eq, fPar_eq, fNil_eq, fBreak_eq, fCont_eq, gNm_eq, gsNil_eq, gsCons_eq, aNil_eq, aCons_eq, eCall_eq, eCallD_eq, intS_eq, absS_eq, mmS_eq, len_l, len_t, list_l, list_t, tup_l, tup_t, finF_eq, finC_eq, allD_nil, allD_cons, eTup_eq, eLst_eq, eIf_eq, runD_eq, hand_rt, handF_d, take_self, srcS_l, srcS_t, iSrc_eq, iZip_eq, zip_l, iEnm_eq, enum_l, pix0, pix1, pix2, pix3, pset1, pset2, pset3, gSub_eq, tYes_eq, eAdd_eq, eSub_eq, eMul_eq, eDiv_eq, eMod_eq, ePow_eq, eXor_eq, eNeg_eq, eIx_eq, eqI_t, eqI_f, tNot_eq, tAnd_eq, tOr_eq, tru_eq, tru_bool, tru_int, tru_list, eAnd_eq, eNot_eq, isi_eq, asD_d, List.length_cons, List.length_nil, List.map_cons, List.map_nil, List.cons_append, List.nil_append, List.append_nil, List.set_cons_succ, List.set_cons_zero, List.replicate_succ, List.replicate_zero, Option.map_some, if_true, if_false, reduceIte, Nat.reduceAdd, Nat.reduceSub, Nat.reduceLeDiff, List.length_map, Nat.reduceEqDiff, Bool.false_eq_true, Bool.not_false, Bool.not_true, ne_eq, not_true_eq_false, not_false_eq_true, decide_true, decide_false, eq_self, hand_rt, decide_eq_true_eq, sl_l, eSl_eq, oNone_eq, oSome_eq, all_t _ (sca_lst xs)]
        · show T_whole_rank_1 (List.set _ 3 (some (.d (.list (xs.map .int))))) S = .ok ((xs.map PyData.int).any trB) S
          simp -implicitDefEqProofs only [T_whole_rank_1, wipeE, fSeq_eq, seqK_nx, seqK_rt, seqK_bk, seqK_ct, seqK_ite, eVar_0, eVar_s, bind_ok, sB_ok, eC_eq, eBin_eq, eUn_eq, iOp0_eq, iCmp_eq, tst_eq, addI, negI, fSet_eq, fRet_eq, fExpr_eq, fIf_eq, fAsg_eq, fPar_eq, fNil_eq, fBreak_eq, fCont_eq, gNm_eq, gsNil_eq, gsCons_eq, aNil_eq, aCons_eq, eCall_eq, eCallD_eq, intS_eq, absS_eq, mmS_eq, len_l, len_t, list_l, list_t, tup_l, tup_t, finF_eq, finC_eq, allD_nil, allD_cons, eTup_eq, eLst_eq, eIf_eq, runD_eq, hand_rt, handF_d, take_self, srcS_l, srcS_t, iSrc_eq, iZip_eq, zip_l, iEnm_eq, enum_l, pix0, pix1, pix2, pix3, pset1, pset2, pset3, gSub_eq, tYes_eq, eAdd_eq, eSub_eq, eMul_eq, eDiv_eq, eMod_eq, ePow_eq, eXor_eq, eNeg_eq, eIx_eq, eqI_t, eqI_f, tNot_eq, tAnd_eq, tOr_eq, tru_eq, tru_bool, tru_int, tru_list, eAnd_eq, eNot_eq, isi_eq, asD_d, List.length_cons, List.length_nil, List.map_cons, List.map_nil, List.cons_append, List.nil_append, List.append_nil, List.set_cons_succ, List.set_cons_zero, List.replicate_succ, List.replicate_zero, Option.map_some, if_true, if_false, reduceIte, Nat.reduceAdd, Nat.reduceSub, Nat.reduceLeDiff, List.length_map, Nat.reduceEqDiff, Bool.false_eq_true, Bool.not_false, Bool.not_true, ne_eq, not_true_eq_false, not_false_eq_true, decide_true, decide_false, eq_self, hand_rt, decide_eq_true_eq, sl_l, eSl_eq, oNone_eq, oSome_eq, all_l _ (sca_lst xs)]
      · cases b
        · show E_whole_rank_1 (List.set _ 3 (some (.d (.tuple (xs.map .int))))) S = .ok (.d (.list (xs.map PyData.int))) S
          simp -implicitDefEqProofs only [E_whole_rank_1, wipeE, fSeq_eq, seqK_nx, seqK_rt, seqK_bk, seqK_ct, seqK_ite, eVar_0, eVar_s, bind_ok, sB_ok, eC_eq, eBin_eq, eUn_eq, iOp0_eq, iCmp_eq, tst_eq, addI, negI, fSet_eq, fRet_eq, fExpr_eq, fIf_eq, fAsg_eq, fPar_eq, fNil_eq, fBreak_eq, fCont_eq, gNm_eq, gsNil_eq, gsCons_eq, aNil_eq, aCons_eq, eCall_eq, eCallD_eq, intS_eq, absS_eq, mmS_eq, len_l, len_t, list_l, list_t, tup_l, tup_t, finF_eq, finC_eq, allD_nil, allD_cons, eTup_eq, eLst_eq, eIf_eq, runD_eq, hand_rt, handF_d, take_self, srcS_l, srcS_t, iSrc_eq, iZip_eq, zip_l, iEnm_eq, enum_l, pix0, pix1, pix2, pix3, pset1, pset2, pset3, gSub_eq, tYes_eq, eAdd_eq, eSub_eq, eMul_eq, eDiv_eq, eMod_eq, ePow_eq, eXor_eq, eNeg_eq, eIx_eq, eqI_t, eqI_f, tNot_eq, tAnd_eq, tOr_eq, tru_eq, tru_bool, tru_int, tru_list, eAnd_eq, eNot_eq, isi_eq, asD_d, List.length_cons, List.length_nil, List.map_cons, List.map_nil, List.cons_append, List.nil_append, List.append_nil, List.set_cons_succ, List.set_cons_zero, List.replicate_succ, List.replicate_zero, Option.map_some, if_true, if_false, reduceIte, Nat.reduceAdd, Nat.reduceSub, Nat.reduceLeDiff, List.length_map, Nat.reduceEqDiff, Bool.false_eq_true, Bool.not_false, Bool.not_true, ne_eq, not_true_eq_false, not_false_eq_true, decide_true, decide_false, eq_self, hand_rt, decide_eq_true_eq, sl_l, eSl_eq, oNone_eq, oSome_eq]
        · show E_whole_rank_1 (List.set _ 3 (some (.d (.list (xs.map .int))))) S = .ok (.d (.list (xs.map PyData.int))) S
          simp -implicitDefEqProofs only [E_whole_rank_1, wipeE, fSeq_eq, seqK_nx, seqK_rt, seqK_bk, seqK_ct, seqK_ite, eVar_0, eVar_s, bind_ok, sB_ok, eC_eq, eBin_eq, eUn_eq, iOp0_eq, iCmp_eq, tst_eq, addI, negI, fSet_eq, fRet_eq, fExpr_eq, fIf_eq, fAsg_eq, fPar_eq, fNil_eq, fBreak_eq, fCont_eq, gNm_eq, gsNil_eq, gsCons_eq, aNil_eq, aCons_eq, eCall_eq, eCallD_eq, intS_eq, absS_eq, mmS_eq, len_l, len_t, list_l, list_t, tup_l, tup_t, finF_eq, finC_eq, allD_nil, allD_cons, eTup_eq, eLst_eq, eIf_eq, runD_eq, hand_rt, handF_d, take_self, srcS_l, srcS_t, iSrc_eq, iZip_eq, zip_l, iEnm_eq, enum_l, pix0, pix1, pix2, pix3, pset1, pset2, pset3, gSub_eq, tYes_eq, eAdd_eq, eSub_eq, eMul_eq, eDiv_eq, eMod_eq, ePow_eq, eXor_eq, eNeg_eq, eIx_eq, eqI_t, eqI_f, tNot_eq, tAnd_eq, tOr_eq, tru_eq, tru_bool, tru_int, tru_list, eAnd_eq, eNot_eq, isi_eq, asD_d, List.length_cons, List.length_nil, List.map_cons, List.map_nil, List.cons_append, List.nil_append, List.append_nil, List.set_cons_succ, List.set_cons_zero, List.replicate_succ, List.replicate_zero, Option.map_some, if_true, if_false, reduceIte, Nat.reduceAdd, Nat.reduceSub, Nat.reduceLeDiff, List.length_map, Nat.reduceEqDiff, Bool.false_eq_true, Bool.not_false, Bool.not_true, ne_eq, not_true_eq_false, not_false_eq_true, decide_true, decide_false, eq_self, hand_rt, decide_eq_true_eq, sl_l, eSl_eq, oNone_eq, oSome_eq]
  have hR0 : ∀ r ∈ R0, RowOk q 127 n r ∧ nzr r = true := fun r m => by
    obtain ⟨m1, m2⟩ := List.mem_filter.mp m
    obtain ⟨p, mp, rfl⟩ := List.mem_map.mp m1
    exact ⟨hr p mp, m2⟩
  have hRl : R0.length ≤ 5 := Nat.le_trans (List.length_filter_le ..) (by rw [List.length_map]; exact hl)
  have lp : (L_whole_rank_1 [some (.d (.int q)), some (.d rD), some (.cell S.length), none, some (.d (.int 0)), none, none, none, none] (S ++ [.lst (R0.map lst)])).Ret
      fun fl S' => ∃ (k : Nat) (o2 o5 o6 : Option SV) (X : Store), fl = .nx [some (.d (.int q)), some (.d rD), o2, none, some (.d (.int k)), o5, o6, none, none] ∧ S' = S ++ X ∧ Elim Z (R0.map (vec φ)) k := by
    unfold L_whole_rank_1 fWhile
    refine whF_ret (fun m Γ S' => ∃ (left : List (List Int)) (k b c : Nat) (o5 o6 : Option SV) (X : Store), Γ = [some (.d (.int q)), some (.d rD), some (.cell c), none, some (.d (.int k)), o5, o6, none, none] ∧ S' = S ++ X ∧ S.length ≤ c ∧ S'[c]? = some (.lst (left.map lst)) ∧ (∀ r ∈ left, RowOk q b n r ∧ nzr r = true) ∧ left.length ≤ m ∧ m ≤ 5 ∧ b + 1 ≤ 128 * 2 ^ (5 - m) ∧ (∀ j, Elim Z (left.map (vec φ)) j → Elim Z (R0.map (vec φ)) (k + j))) _
      (fun m Γ S' h => ?_) _ R0.length _ _ (by show R0.length < 100; omega) ⟨R0, 0, 127, S.length, none, none, _, rfl, rfl, Nat.le_refl _, by simp, hR0, Nat.le_refl _, hRl, by
        have := Nat.one_le_two_pow (n := 5 - R0.length)
        omega, fun j h => by rw [Nat.zero_add]; exact h⟩
    obtain ⟨left, k, b, c, o5, o6, X, rfl, hS, hc1, hc2, h1, h2, h3, h4, h5⟩ := h
    by_cases hne : left = []
    · subst hne
      have et : tru (eVar 2) [some (.d (.int q)), some (.d rD), some (.cell c), none, some (.d (.int k)), o5, o6, none, none] S' = .ok false S' := by
        simp -implicitDefEqProofs only [fSeq_eq, seqK_nx, seqK_rt, seqK_bk, seqK_ct, seqK_ite, eVar_0, eVar_s, bind_ok, sB_ok, eC_eq, eBin_eq, eUn_eq, iOp0_eq, iCmp_eq, tst_eq, addI, negI, fSet_eq, fRet_eq, fExpr_eq, fIf_eq, fAsg_eq, fPar_eq, fNil_eq, fBreak_eq, fCont_eq, gNm_eq, gsNil_eq, gsCons_eq, aNil_eq, aCons_eq, eCall_eq, eCallD_eq, intS_eq, absS_eq, mmS_eq, len_l, len_t, list_l, list_t, tup_l, tup_t, finF_eq, finC_eq, allD_nil, allD_cons, eTup_eq, eLst_eq, eIf_eq, runD_eq, hand_rt, handF_d, take_self, srcS_l, srcS_t, iSrc_eq, iZip_eq, zip_l, iEnm_eq, enum_l, pix0, pix1, pix2, pix3, pset1, pset2, pset3, gSub_eq, tYes_eq, eAdd_eq, eSub_eq, eMul_eq, eDiv_eq, eMod_eq, ePow_eq, eXor_eq, eNeg_eq, eIx_eq, eqI_t, eqI_f, tNot_eq, tAnd_eq, tOr_eq, tru_eq, tru_bool, tru_int, tru_list, eAnd_eq, eNot_eq, isi_eq, asD_d, List.length_cons, List.length_nil, List.map_cons, List.map_nil, List.cons_append, List.nil_append, List.append_nil, List.set_cons_succ, List.set_cons_zero, List.replicate_succ, List.replicate_zero, Option.map_some, if_true, if_false, reduceIte, Nat.reduceAdd, Nat.reduceSub, Nat.reduceLeDiff, List.length_map, Nat.reduceEqDiff, Bool.false_eq_true, Bool.not_false, Bool.not_true, ne_eq, not_true_eq_false, not_false_eq_true, decide_true, decide_false, eq_self, hand_rt, decide_eq_true_eq, sl_l, eSl_eq, oNone_eq, oSome_eq, tru_c hc2, List.isEmpty_nil]
      refine Out.Ret.of et ?_
      exact ⟨k, _, _, _, X, rfl, hS, h5 0 (.none fun a m => (List.not_mem_nil m).elim)⟩
    · have hem : (left.map lst).isEmpty = false := by
        cases left with
        | nil => exact absurd rfl hne
        | cons _ _ => rfl
      have et : tru (eVar 2) [some (.d (.int q)), some (.d rD), some (.cell c), none, some (.d (.int k)), o5, o6, none, none] S' = .ok true S' := by
        simp -implicitDefEqProofs only [fSeq_eq, seqK_nx, seqK_rt, seqK_bk, seqK_ct, seqK_ite, eVar_0, eVar_s, bind_ok, sB_ok, eC_eq, eBin_eq, eUn_eq, iOp0_eq, iCmp_eq, tst_eq, addI, negI, fSet_eq, fRet_eq, fExpr_eq, fIf_eq, fAsg_eq, fPar_eq, fNil_eq, fBreak_eq, fCont_eq, gNm_eq, gsNil_eq, gsCons_eq, aNil_eq, aCons_eq, eCall_eq, eCallD_eq, intS_eq, absS_eq, mmS_eq, len_l, len_t, list_l, list_t, tup_l, tup_t, finF_eq, finC_eq, allD_nil, allD_cons, eTup_eq, eLst_eq, eIf_eq, runD_eq, hand_rt, handF_d, take_self, srcS_l, srcS_t, iSrc_eq, iZip_eq, zip_l, iEnm_eq, enum_l, pix0, pix1, pix2, pix3, pset1, pset2, pset3, gSub_eq, tYes_eq, eAdd_eq, eSub_eq, eMul_eq, eDiv_eq, eMod_eq, ePow_eq, eXor_eq, eNeg_eq, eIx_eq, eqI_t, eqI_f, tNot_eq, tAnd_eq, tOr_eq, tru_eq, tru_bool, tru_int, tru_list, eAnd_eq, eNot_eq, isi_eq, asD_d, List.length_cons, List.length_nil, List.map_cons, List.map_nil, List.cons_append, List.nil_append, List.append_nil, List.set_cons_succ, List.set_cons_zero, List.replicate_succ, List.replicate_zero, Option.map_some, if_true, if_false, reduceIte, Nat.reduceAdd, Nat.reduceSub, Nat.reduceLeDiff, List.length_map, Nat.reduceEqDiff, Bool.false_eq_true, Bool.not_false, Bool.not_true, ne_eq, not_true_eq_false, not_false_eq_true, decide_true, decide_false, eq_self, hand_rt, decide_eq_true_eq, sl_l, eSl_eq, oNone_eq, oSome_eq, tru_c hc2, hem]
      refine Out.Ret.of et ?_
      have h2' : 0 < m := Nat.lt_of_lt_of_le (List.length_pos_iff.mpr hne) h2
      rw [if_pos rfl]
      refine ⟨h2', ?_⟩
      have hb : b ≤ 4300 := by
        have : 2 ^ (5 - m) ≤ 2 ^ 5 := Nat.pow_le_pow_right (by decide) (by omega)
        omega
      let lead := left.getLast hne
      let rest := left.dropLast
      have hsp : rest ++ [lead] = left := List.dropLast_concat_getLast hne
      have mlead : lead ∈ left := List.getLast_mem hne
      have mrest : ∀ r ∈ rest, r ∈ left := fun r m => List.dropLast_subset _ m
      obtain ⟨rl, nzl⟩ := h1 lead mlead
      have hlast : (left.map lst)[(left.map lst).length - 1]? = some (lst lead) := by
        rw [List.length_map, List.getElem?_map, ← List.getLast?_eq_getElem?, List.getLast?_eq_some_getLast hne]
        rfl
      have hpop := pop_c hc2 hlast
      have hdl : (left.map lst).dropLast = rest.map lst := List.map_dropLast.symm
      rw [hdl] at hpop
      obtain ⟨S1, hS1d⟩ : ∃ S1 : Store, S1 = S'.set c (.lst (rest.map lst)) := ⟨_, rfl⟩
      rw [← hS1d] at hpop
      have hcl : c < S'.length := by
        rcases Nat.lt_or_ge c S'.length with h | h
        · exact h
        · rw [List.getElem?_eq_none h] at hc2; cases hc2
      have hS1 : S1 = S ++ X.set (c - S.length) (.lst (rest.map lst)) := by
        rw [hS1d, hS, List.set_append_right _ _ hc1]
      have hS1c : S1[c]? = some (.lst (rest.map lst)) := by rw [hS1d]; exact List.getElem?_set_self hcl
      -- the place
      let cc : PyData → Bool := fun d => match d with
        | .tuple [.int _, .int x] => x != 0
        | _ => false
      let hh : PyData → PyData := fun d => match d with
        | .tuple [.int k, .int _] => .int k
        | _ => .none
      obtain ⟨t, trest, ht1, ht2, ht3⟩ := first_enum cc hh (fun _ _ => rfl) (fun _ _ => rfl) nzl
      have ht2n : t < n := by rw [← rl.1]; exact ht2
      have e2 : ∀ o6, C_whole_rank_2 [some (.d (.int q)), some (.d rD), some (.cell c), none, some (.d (.int k)), some (.d (lst lead)), o6, none, none] S1 = .ok (.d (.list (.int t :: trest))) S1 := by
        intro o6
        unfold C_whole_rank_2
        have e0 : iEnm (eVar 5) [some (.d (.int q)), some (.d rD), some (.cell c), none, some (.d (.int k)), some (.d (lst lead)), o6, none, none] S1 = .ok ⟨enumD (lead.map .int), fun _ => true⟩ S1 := rfl
        rw [eLc_eq e0, lcL_pure cc hh rfl]
        · rw [bind_ok, finF_eq, ht1]
        · intro d md
          unfold enumD at md
          rw [List.mem_mapIdx] at md
          obtain ⟨i, hi, rfl⟩ := md
          rw [List.getElem_map]
          refine ⟨_, rfl, ?_, fun _ => ?_⟩
          · simp -implicitDefEqProofs only [T_whole_rank_2, wipeE, fSeq_eq, seqK_nx, seqK_rt, seqK_bk, seqK_ct, seqK_ite, eVar_0, eVar_s, bind_ok, sB_ok, eC_eq, eBin_eq, eUn_eq, iOp0_eq, iCmp_eq, tst_eq, addI, negI, fSet_eq, fRet_eq, fExpr_eq, fIf_eq, fAsg_eq, fPar_eq, fNil_eq, fBreak_eq, fCont_eq, gNm_eq, gsNil_eq, gsCons_eq, aNil_eq, aCons_eq, eCall_eq, eCallD_eq, intS_eq, absS_eq, mmS_eq, len_l, len_t, list_l, list_t, tup_l, tup_t, finF_eq, finC_eq, allD_nil, allD_cons, eTup_eq, eLst_eq, eIf_eq, runD_eq, hand_rt, handF_d, take_self, srcS_l, srcS_t, iSrc_eq, iZip_eq, zip_l, iEnm_eq, enum_l, pix0, pix1, pix2, pix3, pset1, pset2, pset3, gSub_eq, tYes_eq, eAdd_eq, eSub_eq, eMul_eq, eDiv_eq, eMod_eq, ePow_eq, eXor_eq, eNeg_eq, eIx_eq, eqI_t, eqI_f, tNot_eq, tAnd_eq, tOr_eq, tru_eq, tru_bool, tru_int, tru_list, eAnd_eq, eNot_eq, isi_eq, asD_d, List.length_cons, List.length_nil, List.map_cons, List.map_nil, List.cons_append, List.nil_append, List.append_nil, List.set_cons_succ, List.set_cons_zero, List.replicate_succ, List.replicate_zero, Option.map_some, if_true, if_false, reduceIte, Nat.reduceAdd, Nat.reduceSub, Nat.reduceLeDiff, List.length_map, Nat.reduceEqDiff, Bool.false_eq_true, Bool.not_false, Bool.not_true, ne_eq, not_true_eq_false, not_false_eq_true, decide_true, decide_false, eq_self, hand_rt, decide_eq_true_eq, sl_l, eSl_eq, oNone_eq, oSome_eq]
            rfl
          · simp -implicitDefEqProofs only [E_whole_rank_2, wipeE, fSeq_eq, seqK_nx, seqK_rt, seqK_bk, seqK_ct, seqK_ite, eVar_0, eVar_s, bind_ok, sB_ok, eC_eq, eBin_eq, eUn_eq, iOp0_eq, iCmp_eq, tst_eq, addI, negI, fSet_eq, fRet_eq, fExpr_eq, fIf_eq, fAsg_eq, fPar_eq, fNil_eq, fBreak_eq, fCont_eq, gNm_eq, gsNil_eq, gsCons_eq, aNil_eq, aCons_eq, eCall_eq, eCallD_eq, intS_eq, absS_eq, mmS_eq, len_l, len_t, list_l, list_t, tup_l, tup_t, finF_eq, finC_eq, allD_nil, allD_cons, eTup_eq, eLst_eq, eIf_eq, runD_eq, hand_rt, handF_d, take_self, srcS_l, srcS_t, iSrc_eq, iZip_eq, zip_l, iEnm_eq, enum_l, pix0, pix1, pix2, pix3, pset1, pset2, pset3, gSub_eq, tYes_eq, eAdd_eq, eSub_eq, eMul_eq, eDiv_eq, eMod_eq, ePow_eq, eXor_eq, eNeg_eq, eIx_eq, eqI_t, eqI_f, tNot_eq, tAnd_eq, tOr_eq, tru_eq, tru_bool, tru_int, tru_list, eAnd_eq, eNot_eq, isi_eq, asD_d, List.length_cons, List.length_nil, List.map_cons, List.map_nil, List.cons_append, List.nil_append, List.append_nil, List.set_cons_succ, List.set_cons_zero, List.replicate_succ, List.replicate_zero, Option.map_some, if_true, if_false, reduceIte, Nat.reduceAdd, Nat.reduceSub, Nat.reduceLeDiff, List.length_map, Nat.reduceEqDiff, Bool.false_eq_true, Bool.not_false, Bool.not_true, ne_eq, not_true_eq_false, not_false_eq_true, decide_true, decide_false, eq_self, hand_rt, decide_eq_true_eq, sl_l, eSl_eq, oNone_eq, oSome_eq]
            rfl
      have i2 : ∀ S, ixS (.d (.list (.int t :: trest))) (.d (.int 0)) S = .ok (.d (.int t)) S := fun S => ix_l S (ix_nat (i := 0) rfl)
      -- the rows without the lead
      have hself : ∀ zs : List (List Int), eqPs (zs.map lst) (zs.map lst) = true := fun zs => eqPs_refl fun x m => by
        obtain ⟨r, _, rfl⟩ := List.mem_map.mp m
        exact eqP_lst r
      have htl : t < lead.length := ht2
      obtain ⟨ok3, s3a, s3b⟩ := srcS_c hS1c
      obtain ⟨ys, e3, hboth⟩ : ∃ ys : List (List Int), lcL ok3 (gNm 3) tYesF E_whole_rank_3 [3] [some (.d (.int q)), some (.d rD), some (.cell c), none, some (.d (.int k)), some (.d (lst lead)), some (.d (.int t)), none, none] (rest.map lst) S1 = .ok (ys.map lst) S1 ∧ Both (fun row r2 => RowOk q (2 * b + 1) n r2 ∧ Red Z (vec φ r2) (vec φ row) (vec φ lead) t) rest ys := by
        refine rows_map _ (s3b S1 hS1c (hself rest)) rest fun row mr => ⟨_, rfl, ?_⟩
        obtain ⟨rr, _⟩ := h1 row (mrest row mr)
        have htr : t < row.length := by rw [rr.1]; exact ht2n
        by_cases hz : row.getD t 0 = 0
        · refine ⟨row, ?_, rr.mono (by omega), Red.self Fl.P ?_⟩
          · have hzb : (row.getD t 0 != 0) = false := by rw [hz]; rfl
            simp -implicitDefEqProofs only [E_whole_rank_3, wipeE, fSeq_eq, seqK_nx, seqK_rt, seqK_bk, seqK_ct, seqK_ite, eVar_0, eVar_s, bind_ok, sB_ok, eC_eq, eBin_eq, eUn_eq, iOp0_eq, iCmp_eq, tst_eq, addI, negI, fSet_eq, fRet_eq, fExpr_eq, fIf_eq, fAsg_eq, fPar_eq, fNil_eq, fBreak_eq, fCont_eq, gNm_eq, gsNil_eq, gsCons_eq, aNil_eq, aCons_eq, eCall_eq, eCallD_eq, intS_eq, absS_eq, mmS_eq, len_l, len_t, list_l, list_t, tup_l, tup_t, finF_eq, finC_eq, allD_nil, allD_cons, eTup_eq, eLst_eq, eIf_eq, runD_eq, hand_rt, handF_d, take_self, srcS_l, srcS_t, iSrc_eq, iZip_eq, zip_l, iEnm_eq, enum_l, pix0, pix1, pix2, pix3, pset1, pset2, pset3, gSub_eq, tYes_eq, eAdd_eq, eSub_eq, eMul_eq, eDiv_eq, eMod_eq, ePow_eq, eXor_eq, eNeg_eq, eIx_eq, eqI_t, eqI_f, tNot_eq, tAnd_eq, tOr_eq, tru_eq, tru_bool, tru_int, tru_list, eAnd_eq, eNot_eq, isi_eq, asD_d, List.length_cons, List.length_nil, List.map_cons, List.map_nil, List.cons_append, List.nil_append, List.append_nil, List.set_cons_succ, List.set_cons_zero, List.replicate_succ, List.replicate_zero, Option.map_some, if_true, if_false, reduceIte, Nat.reduceAdd, Nat.reduceSub, Nat.reduceLeDiff, List.length_map, Nat.reduceEqDiff, Bool.false_eq_true, Bool.not_false, Bool.not_true, ne_eq, not_true_eq_false, not_false_eq_true, decide_true, decide_false, eq_self, hand_rt, decide_eq_true_eq, sl_l, eSl_eq, oNone_eq, oSome_eq, row_at htr, hzb]
          · show Z (φ (row.getD t 0))
            rw [hz]
            exact Fl.z0
        · obtain ⟨r2, u1, u2, u3⟩ := Fl.lessP S1 b n row lead t rr rl ht2n ht3 hb
          refine ⟨r2, ?_, u2, u3⟩
          have hzb : (row.getD t 0 != 0) = true := bne_iff_ne.mpr hz
          simp -implicitDefEqProofs only [E_whole_rank_3, wipeE, fSeq_eq, seqK_nx, seqK_rt, seqK_bk, seqK_ct, seqK_ite, eVar_0, eVar_s, bind_ok, sB_ok, eC_eq, eBin_eq, eUn_eq, iOp0_eq, iCmp_eq, tst_eq, addI, negI, fSet_eq, fRet_eq, fExpr_eq, fIf_eq, fAsg_eq, fPar_eq, fNil_eq, fBreak_eq, fCont_eq, gNm_eq, gsNil_eq, gsCons_eq, aNil_eq, aCons_eq, eCall_eq, eCallD_eq, intS_eq, absS_eq, mmS_eq, len_l, len_t, list_l, list_t, tup_l, tup_t, finF_eq, finC_eq, allD_nil, allD_cons, eTup_eq, eLst_eq, eIf_eq, runD_eq, hand_rt, handF_d, take_self, srcS_l, srcS_t, iSrc_eq, iZip_eq, zip_l, iEnm_eq, enum_l, pix0, pix1, pix2, pix3, pset1, pset2, pset3, gSub_eq, tYes_eq, eAdd_eq, eSub_eq, eMul_eq, eDiv_eq, eMod_eq, ePow_eq, eXor_eq, eNeg_eq, eIx_eq, eqI_t, eqI_f, tNot_eq, tAnd_eq, tOr_eq, tru_eq, tru_bool, tru_int, tru_list, eAnd_eq, eNot_eq, isi_eq, asD_d, List.length_cons, List.length_nil, List.map_cons, List.map_nil, List.cons_append, List.nil_append, List.append_nil, List.set_cons_succ, List.set_cons_zero, List.replicate_succ, List.replicate_zero, Option.map_some, if_true, if_false, reduceIte, Nat.reduceAdd, Nat.reduceSub, Nat.reduceLeDiff, List.length_map, Nat.reduceEqDiff, Bool.false_eq_true, Bool.not_false, Bool.not_true, ne_eq, not_true_eq_false, not_false_eq_true, decide_true, decide_false, eq_self, hand_rt, decide_eq_true_eq, sl_l, eSl_eq, oNone_eq, oSome_eq, row_at htr, hzb, u1]
      have e4 : C_whole_rank_3 [some (.d (.int q)), some (.d rD), some (.cell c), none, some (.d (.int k)), some (.d (lst lead)), some (.d (.int t)), none, none] S1 = .ok (.cell S1.length) (S1 ++ [.lst (ys.map lst)]) := by
        unfold C_whole_rank_3
        have e0 : iSrc (eVar 2) [some (.d (.int q)), some (.d rD), some (.cell c), none, some (.d (.int k)), some (.d (lst lead)), some (.d (.int t)), none, none] S1 = .ok ⟨rest.map lst, ok3⟩ S1 := by
          rw [iSrc_eq]
          simp -implicitDefEqProofs only [fSeq_eq, seqK_nx, seqK_rt, seqK_bk, seqK_ct, seqK_ite, eVar_0, eVar_s, bind_ok, sB_ok, eC_eq, eBin_eq, eUn_eq, iOp0_eq, iCmp_eq, tst_eq, addI, negI, fSet_eq, fRet_eq, fExpr_eq, fIf_eq, fAsg_eq, fPar_eq, fNil_eq, fBreak_eq, fCont_eq, gNm_eq, gsNil_eq, gsCons_eq, aNil_eq, aCons_eq, eCall_eq, eCallD_eq, intS_eq, absS_eq, mmS_eq, len_l, len_t, list_l, list_t, tup_l, tup_t, finF_eq, finC_eq, allD_nil, allD_cons, eTup_eq, eLst_eq, eIf_eq, runD_eq, hand_rt, handF_d, take_self, srcS_l, srcS_t, iSrc_eq, iZip_eq, zip_l, iEnm_eq, enum_l, pix0, pix1, pix2, pix3, pset1, pset2, pset3, gSub_eq, tYes_eq, eAdd_eq, eSub_eq, eMul_eq, eDiv_eq, eMod_eq, ePow_eq, eXor_eq, eNeg_eq, eIx_eq, eqI_t, eqI_f, tNot_eq, tAnd_eq, tOr_eq, tru_eq, tru_bool, tru_int, tru_list, eAnd_eq, eNot_eq, isi_eq, asD_d, List.length_cons, List.length_nil, List.map_cons, List.map_nil, List.cons_append, List.nil_append, List.append_nil, List.set_cons_succ, List.set_cons_zero, List.replicate_succ, List.replicate_zero, Option.map_some, if_true, if_false, reduceIte, Nat.reduceAdd, Nat.reduceSub, Nat.reduceLeDiff, List.length_map, Nat.reduceEqDiff, Bool.false_eq_true, Bool.not_false, Bool.not_true, ne_eq, not_true_eq_false, not_false_eq_true, decide_true, decide_false, eq_self, hand_rt, decide_eq_true_eq, sl_l, eSl_eq, oNone_eq, oSome_eq, s3a]
        rw [eLc_eq e0, e3, bind_ok, finC_eq]
      obtain ⟨S2, hS2d⟩ : ∃ S2 : Store, S2 = S1 ++ [.lst (ys.map lst)] := ⟨_, rfl⟩
      rw [← hS2d] at e4
      have hS2c : S2[S1.length]? = some (.lst (ys.map lst)) := by rw [hS2d]; simp
      have e5 : C_whole_rank_4 [some (.d (.int q)), some (.d rD), some (.cell S1.length), none, some (.d (.int k)), some (.d (lst lead)), some (.d (.int t)), none, none] S2 = .ok (.cell S2.length) (S2 ++ [.lst ((ys.filter nzr).map lst)]) := by
        obtain ⟨ok4, s4a, s4b⟩ := srcS_c hS2c
        unfold C_whole_rank_4
        have e0 : iSrc (eVar 2) [some (.d (.int q)), some (.d rD), some (.cell S1.length), none, some (.d (.int k)), some (.d (lst lead)), some (.d (.int t)), none, none] S2 = .ok ⟨ys.map lst, ok4⟩ S2 := by
          rw [iSrc_eq]
          simp -implicitDefEqProofs only [fSeq_eq, seqK_nx, seqK_rt, seqK_bk, seqK_ct, seqK_ite, eVar_0, eVar_s, bind_ok, sB_ok, eC_eq, eBin_eq, eUn_eq, iOp0_eq, iCmp_eq, tst_eq, addI, negI, fSet_eq, fRet_eq, fExpr_eq, fIf_eq, fAsg_eq, fPar_eq, fNil_eq, fBreak_eq, fCont_eq, gNm_eq, gsNil_eq, gsCons_eq, aNil_eq, aCons_eq, eCall_eq, eCallD_eq, intS_eq, absS_eq, mmS_eq, len_l, len_t, list_l, list_t, tup_l, tup_t, finF_eq, finC_eq, allD_nil, allD_cons, eTup_eq, eLst_eq, eIf_eq, runD_eq, hand_rt, handF_d, take_self, srcS_l, srcS_t, iSrc_eq, iZip_eq, zip_l, iEnm_eq, enum_l, pix0, pix1, pix2, pix3, pset1, pset2, pset3, gSub_eq, tYes_eq, eAdd_eq, eSub_eq, eMul_eq, eDiv_eq, eMod_eq, ePow_eq, eXor_eq, eNeg_eq, eIx_eq, eqI_t, eqI_f, tNot_eq, tAnd_eq, tOr_eq, tru_eq, tru_bool, tru_int, tru_list, eAnd_eq, eNot_eq, isi_eq, asD_d, List.length_cons, List.length_nil, List.map_cons, List.map_nil, List.cons_append, List.nil_append, List.append_nil, List.set_cons_succ, List.set_cons_zero, List.replicate_succ, List.replicate_zero, Option.map_some, if_true, if_false, reduceIte, Nat.reduceAdd, Nat.reduceSub, Nat.reduceLeDiff, List.length_map, Nat.reduceEqDiff, Bool.false_eq_true, Bool.not_false, Bool.not_true, ne_eq, not_true_eq_false, not_false_eq_true, decide_true, decide_false, eq_self, hand_rt, decide_eq_true_eq, sl_l, eSl_eq, oNone_eq, oSome_eq, s4a]
        rw [eLc_eq e0, rows_filter (s4b S2 hS2c (hself ys)) ys]
        · rw [bind_ok, finC_eq]
        · intro row mr
          refine ⟨_, rfl, ?_, ?_⟩
          · simp -implicitDefEqProofs only [T_whole_rank_3, wipeE, fSeq_eq, seqK_nx, seqK_rt, seqK_bk, seqK_ct, seqK_ite, eVar_0, eVar_s, bind_ok, sB_ok, eC_eq, eBin_eq, eUn_eq, iOp0_eq, iCmp_eq, tst_eq, addI, negI, fSet_eq, fRet_eq, fExpr_eq, fIf_eq, fAsg_eq, fPar_eq, fNil_eq, fBreak_eq, fCont_eq, gNm_eq, gsNil_eq, gsCons_eq, aNil_eq, aCons_eq, eCall_eq, eCallD_eq, intS_eq, absS_eq, mmS_eq, len_l, len_t, list_l, list_t, tup_l, tup_t, finF_eq, finC_eq, allD_nil, allD_cons, eTup_eq, eLst_eq, eIf_eq, runD_eq, hand_rt, handF_d, take_self, srcS_l, srcS_t, iSrc_eq, iZip_eq, zip_l, iEnm_eq, enum_l, pix0, pix1, pix2, pix3, pset1, pset2, pset3, gSub_eq, tYes_eq, eAdd_eq, eSub_eq, eMul_eq, eDiv_eq, eMod_eq, ePow_eq, eXor_eq, eNeg_eq, eIx_eq, eqI_t, eqI_f, tNot_eq, tAnd_eq, tOr_eq, tru_eq, tru_bool, tru_int, tru_list, eAnd_eq, eNot_eq, isi_eq, asD_d, List.length_cons, List.length_nil, List.map_cons, List.map_nil, List.cons_append, List.nil_append, List.append_nil, List.set_cons_succ, List.set_cons_zero, List.replicate_succ, List.replicate_zero, Option.map_some, if_true, if_false, reduceIte, Nat.reduceAdd, Nat.reduceSub, Nat.reduceLeDiff, List.length_map, Nat.reduceEqDiff, Bool.false_eq_true, Bool.not_false, Bool.not_true, ne_eq, not_true_eq_false, not_false_eq_true, decide_true, decide_false, eq_self, hand_rt, decide_eq_true_eq, sl_l, eSl_eq, oNone_eq, oSome_eq, all_l _ (sca_lst row), any_lst]
          · simp -implicitDefEqProofs only [E_whole_rank_4, wipeE, fSeq_eq, seqK_nx, seqK_rt, seqK_bk, seqK_ct, seqK_ite, eVar_0, eVar_s, bind_ok, sB_ok, eC_eq, eBin_eq, eUn_eq, iOp0_eq, iCmp_eq, tst_eq, addI, negI, fSet_eq, fRet_eq, fExpr_eq, fIf_eq, fAsg_eq, fPar_eq, fNil_eq, fBreak_eq, fCont_eq, gNm_eq, gsNil_eq, gsCons_eq, aNil_eq, aCons_eq, eCall_eq, eCallD_eq, intS_eq, absS_eq, mmS_eq, len_l, len_t, list_l, list_t, tup_l, tup_t, finF_eq, finC_eq, allD_nil, allD_cons, eTup_eq, eLst_eq, eIf_eq, runD_eq, hand_rt, handF_d, take_self, srcS_l, srcS_t, iSrc_eq, iZip_eq, zip_l, iEnm_eq, enum_l, pix0, pix1, pix2, pix3, pset1, pset2, pset3, gSub_eq, tYes_eq, eAdd_eq, eSub_eq, eMul_eq, eDiv_eq, eMod_eq, ePow_eq, eXor_eq, eNeg_eq, eIx_eq, eqI_t, eqI_f, tNot_eq, tAnd_eq, tOr_eq, tru_eq, tru_bool, tru_int, tru_list, eAnd_eq, eNot_eq, isi_eq, asD_d, List.length_cons, List.length_nil, List.map_cons, List.map_nil, List.cons_append, List.nil_append, List.append_nil, List.set_cons_succ, List.set_cons_zero, List.replicate_succ, List.replicate_zero, Option.map_some, if_true, if_false, reduceIte, Nat.reduceAdd, Nat.reduceSub, Nat.reduceLeDiff, List.length_map, Nat.reduceEqDiff, Bool.false_eq_true, Bool.not_false, Bool.not_true, ne_eq, not_true_eq_false, not_false_eq_true, decide_true, decide_false, eq_self, hand_rt, decide_eq_true_eq, sl_l, eSl_eq, oNone_eq, oSome_eq]
      have hev : B_whole_rank_1 [some (.d (.int q)), some (.d rD), some (.cell c), none, some (.d (.int k)), o5, o6, none, none] S' = .ok (.nx [some (.d (.int q)), some (.d rD), some (.cell S2.length), none, some (.d (.int (k + 1))), some (.d (lst lead)), some (.d (.int t)), none, none]) (S2 ++ [.lst ((ys.filter nzr).map lst)]) := by
        simp -implicitDefEqProofs only [B_whole_rank_1, fSeq_eq, seqK_nx, seqK_rt, seqK_bk, seqK_ct, seqK_ite, eVar_0, eVar_s, bind_ok, sB_ok, eC_eq, eBin_eq, eUn_eq, iOp0_eq, iCmp_eq, tst_eq, addI, negI, fSet_eq, fRet_eq, fExpr_eq, fIf_eq, fAsg_eq, fPar_eq, fNil_eq, fBreak_eq, fCont_eq, gNm_eq, gsNil_eq, gsCons_eq, aNil_eq, aCons_eq, eCall_eq, eCallD_eq, intS_eq, absS_eq, mmS_eq, len_l, len_t, list_l, list_t, tup_l, tup_t, finF_eq, finC_eq, allD_nil, allD_cons, eTup_eq, eLst_eq, eIf_eq, runD_eq, hand_rt, handF_d, take_self, srcS_l, srcS_t, iSrc_eq, iZip_eq, zip_l, iEnm_eq, enum_l, pix0, pix1, pix2, pix3, pset1, pset2, pset3, gSub_eq, tYes_eq, eAdd_eq, eSub_eq, eMul_eq, eDiv_eq, eMod_eq, ePow_eq, eXor_eq, eNeg_eq, eIx_eq, eqI_t, eqI_f, tNot_eq, tAnd_eq, tOr_eq, tru_eq, tru_bool, tru_int, tru_list, eAnd_eq, eNot_eq, isi_eq, asD_d, List.length_cons, List.length_nil, List.map_cons, List.map_nil, List.cons_append, List.nil_append, List.append_nil, List.set_cons_succ, List.set_cons_zero, List.replicate_succ, List.replicate_zero, Option.map_some, if_true, if_false, reduceIte, Nat.reduceAdd, Nat.reduceSub, Nat.reduceLeDiff, List.length_map, Nat.reduceEqDiff, Bool.false_eq_true, Bool.not_false, Bool.not_true, ne_eq, not_true_eq_false, not_false_eq_true, decide_true, decide_false, eq_self, hand_rt, decide_eq_true_eq, sl_l, eSl_eq, oNone_eq, oSome_eq, eMeth_eq, isL_c _ _ _ hc2, hpop, e2, i2, e4, e5]
      refine Out.Ret.of hev ?_
      refine ⟨ys.filter nzr, k + 1, 2 * b + 1, S2.length, _, _, X.set (c - S.length) (.lst (rest.map lst)) ++ [.lst (ys.map lst)] ++ [.lst ((ys.filter nzr).map lst)], rfl, ?_, ?_, by simp, fun r m => ?_, ?_, by omega, ?_, fun j hj => ?_⟩
      · rw [hS2d, hS1]
        simp only [List.append_assoc]
      · rw [hS2d, hS1]
        simp
      · obtain ⟨m1, m2⟩ := List.mem_filter.mp m
        obtain ⟨x, _, hx⟩ := hboth.2.2 r m1
        exact ⟨hx.1, m2⟩
      · have l1 : (ys.filter nzr).length ≤ ys.length := List.length_filter_le ..
        have l2 : rest.length = left.length - 1 := List.length_dropLast
        have l3 := hboth.1
        omega
      · have e : 5 - (m - 1) = 5 - m + 1 := by omega
        rw [e, Nat.pow_succ]
        omega
      · have := h5 (j + 1) (elim_rows Fl rl ht3 mlead mrest (fun r m => ?_) (ys.filter nzr) (fun z m => (List.mem_filter.mp m).1) (fun y m => ?_) ⟨hboth.1, fun x m => ?_, fun y m => ?_⟩ hj)
        · rw [show k + 1 + j = k + (j + 1) by omega]
          exact this
        · rw [← hsp] at m
          rcases List.mem_append.mp m with h | h
          · exact .inr (.inl h)
          · exact .inl (List.mem_singleton.mp h)
        · by_cases hz : nzr y = true
          · exact .inl (List.mem_filter.mpr ⟨m, hz⟩)
          · exact .inr (by simpa using hz)
        · obtain ⟨y, my, hy⟩ := hboth.2.1 x m
          exact ⟨y, my, hy.2⟩
        · obtain ⟨x, mx, hx⟩ := hboth.2.2 y m
          exact ⟨x, mx, hx.2⟩
  obtain ⟨fl, S', e2, k, o2, o5, o6, X, rfl, rfl, hk⟩ := lp.ok
  refine ⟨k, ?_, ?_⟩
  · have et : (S ++ X).take S.length = S := by simp
    simp -implicitDefEqProofs only [F_whole_rank, b_whole_rank, fSeq_eq, seqK_nx, seqK_rt, seqK_bk, seqK_ct, seqK_ite, eVar_0, eVar_s, bind_ok, sB_ok, eC_eq, eBin_eq, eUn_eq, iOp0_eq, iCmp_eq, tst_eq, addI, negI, fSet_eq, fRet_eq, fExpr_eq, fIf_eq, fAsg_eq, fPar_eq, fNil_eq, fBreak_eq, fCont_eq, gNm_eq, gsNil_eq, gsCons_eq, aNil_eq, aCons_eq, eCall_eq, eCallD_eq, intS_eq, absS_eq, mmS_eq, len_l, len_t, list_l, list_t, tup_l, tup_t, finF_eq, finC_eq, allD_nil, allD_cons, eTup_eq, eLst_eq, eIf_eq, runD_eq, hand_rt, handF_d, take_self, srcS_l, srcS_t, iSrc_eq, iZip_eq, zip_l, iEnm_eq, enum_l, pix0, pix1, pix2, pix3, pset1, pset2, pset3, gSub_eq, tYes_eq, eAdd_eq, eSub_eq, eMul_eq, eDiv_eq, eMod_eq, ePow_eq, eXor_eq, eNeg_eq, eIx_eq, eqI_t, eqI_f, tNot_eq, tAnd_eq, tOr_eq, tru_eq, tru_bool, tru_int, tru_list, eAnd_eq, eNot_eq, isi_eq, asD_d, List.length_cons, List.length_nil, List.map_cons, List.map_nil, List.cons_append, List.nil_append, List.append_nil, List.set_cons_succ, List.set_cons_zero, List.replicate_succ, List.replicate_zero, Option.map_some, if_true, if_false, reduceIte, Nat.reduceAdd, Nat.reduceSub, Nat.reduceLeDiff, List.length_map, Nat.reduceEqDiff, Bool.false_eq_true, Bool.not_false, Bool.not_true, ne_eq, not_true_eq_false, not_false_eq_true, decide_true, decide_false, eq_self, hand_rt, decide_eq_true_eq, sl_l, eSl_eq, oNone_eq, oSome_eq, e1, e2, et]
  · refine hk.wide Fl.P (fun a m => ?_) fun a m => ?_
    · obtain ⟨r, mr, rfl⟩ := List.mem_map.mp m
      exact List.mem_map.mpr ⟨r, (List.mem_filter.mp mr).1, rfl⟩
    · obtain ⟨r, mr, rfl⟩ := List.mem_map.mp m
      by_cases hz : nzr r = true
      · exact .inl (List.mem_map.mpr ⟨r, List.mem_filter.mpr ⟨mr, hz⟩, rfl⟩)
      · exact .inr (zero_row Fl (by simpa using hz))
end G06
namespace G06
open PySem L2 DL LinA
/-! ### 9. rows of fractions -/
def frD (p : Int × Int) : PyData := .tuple [.int p.1, .int p.2]
def FrP (p : Int × Int) : Prop := 0 < p.2 ∧ p.2.natAbs ≤ 3456 ∧ p.1.natAbs ≤ 3456
theorem pow3456 {u r n : Nat} (h : u * 3456 ^ r ≤ 3456 ^ n) (hn : n ≤ 4) : u < 2 ^ 48 := by
  have h1 : 3456 ^ n ≤ 3456 ^ 4 := Nat.pow_le_pow_right (by decide) hn
  have h2 : 1 ≤ 3456 ^ r := Nat.one_le_pow _ _ (by decide)
  have h3 : u * 1 ≤ u * 3456 ^ r := Nat.mul_le_mul_left u h2
  have h4 : 3456 ^ 4 < 2 ^ 48 := by decide
  omega
theorem pow_step {u d r n : Nat} (h : u * 3456 ^ (r + 1) ≤ 3456 ^ n) (hd : d ≤ 3456) : u * d * 3456 ^ r ≤ 3456 ^ n := by
  refine Nat.le_trans ?_ h
  rw [Nat.pow_succ, Nat.mul_assoc, Nat.mul_comm (3456 ^ r)]
  exact Nat.mul_le_mul_left u (Nat.mul_le_mul_right _ hd)
theorem map_cons_inv {α : Type} {f : α → PyData} {rest : List α} {d : PyData} {ds : List PyData} (h : d :: ds = rest.map f) : ∃ p rest', rest = p :: rest' ∧ d = f p ∧ ds = rest'.map f := by
  cases rest with
  | nil => cases h
  | cons p rest =>
    injection h with a b
    exact ⟨p, rest, rfl, a, b⟩
theorem whole_row_ok (b : Bool) {ps : List (Int × Int)} (hp : ∀ p ∈ ps, FrP p) (hn : ps.length ≤ 4) (S : Store) : ∃ U : Int, 0 < U ∧ U < 2 ^ 48 ∧ (∀ p ∈ ps, p.2 ∣ U) ∧ F_whole_row [.d (sq b (ps.map frD))] S = .ok (.d (lst (ps.map fun p => p.1 * (U / p.2)))) S := by
  obtain ⟨rD, hrD⟩ : ∃ rD : PyData, rD = sq b (ps.map frD) := ⟨_, rfl⟩
  rw [← hrD]
  have e0 : ∀ o1, iSrc (eVar 0) [some (.d rD), o1, none] S = .ok ⟨ps.map frD, fun _ => true⟩ S := fun o1 => by
    rw [hrD]
    cases b <;> rfl
  have lp : (L_whole_row_1 [some (.d rD), some (.d (.int 1)), none] S).Ret fun fl S' => ∃ (U : Int) (o2 : Option SV), fl = .nx [some (.d rD), some (.d (.int U)), o2] ∧ S' = S ∧ 0 < U ∧ U.natAbs * 3456 ^ 0 ≤ 3456 ^ ps.length ∧ ∀ p ∈ ps, p.2 ∣ U := by
    unfold L_whole_row_1
    rw [fFor_eq (e0 _)]
    refine forL_ret (fun ds Γ S' => ∃ (U : Int) (o2 : Option SV) (rest : List (Int × Int)), ds = rest.map frD ∧ (∀ p ∈ rest, p ∈ ps) ∧ Γ = [some (.d rD), some (.d (.int U)), o2] ∧ S' = S ∧ 0 < U ∧ U.natAbs * 3456 ^ rest.length ≤ 3456 ^ ps.length ∧ ∀ p ∈ ps, p.2 ∣ U ∨ p ∈ rest) _ (fun _ _ _ _ => rfl)
      (fun Γ S' h => ?_) (fun d ds Γ S' h => ?_) _ _ _ ⟨1, none, ps, rfl, fun _ h => h, rfl, rfl, by decide, by simp, fun _ h => .inr h⟩
    · obtain ⟨U, o2, rest, hd, _, rfl, rfl, h1, h2, h3⟩ := h
      have : rest = [] := List.map_eq_nil_iff.mp hd.symm
      subst this
      exact ⟨U, o2, rfl, rfl, h1, h2, fun p m => (h3 p m).resolve_right List.not_mem_nil⟩
    · obtain ⟨U, o2, rest, hd, hr, rfl, rfl, h1, h2, h3⟩ := h
      obtain ⟨p, rest, rfl, rfl, rfl⟩ := map_cons_inv hd
      obtain ⟨q1, q2, q3⟩ := hp p (hr p (List.mem_cons_self ..))
      have g0 := gcd_pos (t := U) (u := p.2) (by omega)
      have g1 := gcd_le (t := U) (u := p.2) (by omega)
      have gd : (Int.gcd U p.2 : Int) ∣ p.2 := Int.gcd_dvd_right ..
      have gl : (Int.gcd U p.2 : Int) ∣ U := Int.gcd_dvd_left ..
      have hU : U < 2 ^ 48 := by
        have := pow3456 h2 hn
        omega
      have hdv : 0 < p.2 / Int.gcd U p.2 := Int.ediv_pos_of_pos_of_dvd q1 (by omega) gd
      have hev : B_whole_row_1 [some (.d rD), some (.d (.int U)), some (.d (frD p))] S' = .ok (.nx [some (.d rD), some (.d (.int (U * (p.2 / Int.gcd U p.2)))), some (.d (frD p))]) S' := by
        have px : ∀ S, ixS (.d (frD p)) (.d (.int 1)) S = .ok (.d (.int p.2)) S := fun S => (pix _ _ S).2
        simp -implicitDefEqProofs only [B_whole_row_1, fSeq_eq, seqK_nx, seqK_rt, seqK_bk, seqK_ct, seqK_ite, eVar_0, eVar_s, bind_ok, sB_ok, eC_eq, eBin_eq, eUn_eq, iOp0_eq, iCmp_eq, tst_eq, addI, negI, fSet_eq, fRet_eq, fExpr_eq, fIf_eq, fAsg_eq, fPar_eq, fNil_eq, fBreak_eq, fCont_eq, gNm_eq, gsNil_eq, gsCons_eq, aNil_eq, aCons_eq, eCall_eq, eCallD_eq, intS_eq, absS_eq, mmS_eq, len_l, len_t, list_l, list_t, tup_l, tup_t, finF_eq, finC_eq, allD_nil, allD_cons, eTup_eq, eLst_eq, eIf_eq, runD_eq, hand_rt, handF_d, take_self, srcS_l, srcS_t, iSrc_eq, iZip_eq, zip_l, iEnm_eq, enum_l, pix0, pix1, pix2, pix3, pset1, pset2, pset3, gSub_eq, tYes_eq, eAdd_eq, eSub_eq, eMul_eq, eDiv_eq, eMod_eq, ePow_eq, eXor_eq, eNeg_eq, eIx_eq, eqI_t, eqI_f, tNot_eq, tAnd_eq, tOr_eq, tru_eq, tru_bool, tru_int, tru_list, eAnd_eq, eNot_eq, isi_eq, asD_d, List.length_cons, List.length_nil, List.map_cons, List.map_nil, List.cons_append, List.nil_append, List.append_nil, List.set_cons_succ, List.set_cons_zero, List.replicate_succ, List.replicate_zero, Option.map_some, if_true, if_false, reduceIte, Nat.reduceAdd, Nat.reduceSub, Nat.reduceLeDiff, List.length_map, Nat.reduceEqDiff, Bool.false_eq_true, Bool.not_false, Bool.not_true, ne_eq, not_true_eq_false, not_false_eq_true, decide_true, decide_false, eq_self, hand_rt, decide_eq_true_eq, sl_l, eSl_eq, oNone_eq, oSome_eq, px, iOp_eq _ _ _ _ _ (divC_of (i := p.2) (j := (Int.gcd U p.2 : Int)) (by omega) (by omega)), fdiv_pos (Int.le_of_lt g0), mulI _ _ (mulC_l (i := U) (j := p.2 / (Int.gcd U p.2 : Int)) (by omega) (by omega))]
      rw [gNm_eq]
      refine Out.Ret.of rfl (Out.Ret.of hev ?_)
      refine ⟨_, _, rest, rfl, fun x m => hr x (List.mem_cons_of_mem _ m), rfl, rfl, Int.mul_pos h1 hdv, ?_, fun x m => ?_⟩
      · rw [Int.natAbs_mul]
        exact pow_step h2 (Nat.le_trans (Int.natAbs_ediv_le_natAbs _ _) q2)
      · rcases h3 x m with h | h
        · exact .inl (Int.dvd_trans h (Int.dvd_mul_right ..))
        · rcases List.mem_cons.mp h with rfl | h
          · left
            obtain ⟨w, hw⟩ := gl
            refine ⟨w, ?_⟩
            have e : x.2 = Int.gcd U x.2 * (x.2 / Int.gcd U x.2) := (Int.mul_ediv_cancel' gd).symm
            generalize hg : (Int.gcd U x.2 : Int) = g at *
            rw [hw]
            have : g * w * (x.2 / g) = g * (x.2 / g) * w := by grind
            rw [this, ← e]
          · exact .inr h
  obtain ⟨fl, S', e2, U, o2, rfl, rfl, h1, h2, h3⟩ := lp.ok
  have hU : U < 2 ^ 48 := by
    have := pow3456 h2 hn
    omega
  refine ⟨U, h1, hU, h3, ?_⟩
  have e3 : ∀ o2, C_whole_row_1 [some (.d rD), some (.d (.int U)), o2] S' = .ok (.d (lst (ps.map fun p => p.1 * (U / p.2)))) S' := by
    intro o2
    unfold C_whole_row_1
    let hh : PyData → PyData := fun d => match d with
      | .tuple [.int n, .int d] => .int (n * (U / d))
      | _ => .none
    have e0' : iSrc (eVar 0) [some (.d rD), some (.d (.int U)), o2] S' = .ok ⟨ps.map frD, fun _ => true⟩ S' := by
      rw [hrD]
      cases b <;> rfl
    rw [eLc_eq e0', lcL_map hh rfl]
    · rw [bind_ok, finF_eq, List.map_map]
      show _ = Out.ok (SV.d (.list ((ps.map fun p => p.1 * (U / p.2)).map PyData.int))) S'
      rw [List.map_map]
      rfl
    · intro d m
      obtain ⟨p, mp, rfl⟩ := List.mem_map.mp m
      obtain ⟨q1, q2, q3⟩ := hp p mp
      refine ⟨_, rfl, ?_⟩
      have px : ∀ S, ixS (.d (frD p)) (.d (.int 0)) S = .ok (.d (.int p.1)) S ∧ ixS (.d (frD p)) (.d (.int 1)) S = .ok (.d (.int p.2)) S := fun S => pix _ _ S
      simp -implicitDefEqProofs only [E_whole_row_1, wipeE, fSeq_eq, seqK_nx, seqK_rt, seqK_bk, seqK_ct, seqK_ite, eVar_0, eVar_s, bind_ok, sB_ok, eC_eq, eBin_eq, eUn_eq, iOp0_eq, iCmp_eq, tst_eq, addI, negI, fSet_eq, fRet_eq, fExpr_eq, fIf_eq, fAsg_eq, fPar_eq, fNil_eq, fBreak_eq, fCont_eq, gNm_eq, gsNil_eq, gsCons_eq, aNil_eq, aCons_eq, eCall_eq, eCallD_eq, intS_eq, absS_eq, mmS_eq, len_l, len_t, list_l, list_t, tup_l, tup_t, finF_eq, finC_eq, allD_nil, allD_cons, eTup_eq, eLst_eq, eIf_eq, runD_eq, hand_rt, handF_d, take_self, srcS_l, srcS_t, iSrc_eq, iZip_eq, zip_l, iEnm_eq, enum_l, pix0, pix1, pix2, pix3, pset1, pset2, pset3, gSub_eq, tYes_eq, eAdd_eq, eSub_eq, eMul_eq, eDiv_eq, eMod_eq, ePow_eq, eXor_eq, eNeg_eq, eIx_eq, eqI_t, eqI_f, tNot_eq, tAnd_eq, tOr_eq, tru_eq, tru_bool, tru_int, tru_list, eAnd_eq, eNot_eq, isi_eq, asD_d, List.length_cons, List.length_nil, List.map_cons, List.map_nil, List.cons_append, List.nil_append, List.append_nil, List.set_cons_succ, List.set_cons_zero, List.replicate_succ, List.replicate_zero, Option.map_some, if_true, if_false, reduceIte, Nat.reduceAdd, Nat.reduceSub, Nat.reduceLeDiff, List.length_map, Nat.reduceEqDiff, Bool.false_eq_true, Bool.not_false, Bool.not_true, ne_eq, not_true_eq_false, not_false_eq_true, decide_true, decide_false, eq_self, hand_rt, decide_eq_true_eq, sl_l, eSl_eq, oNone_eq, oSome_eq, px, iOp_eq _ _ _ _ _ (divC_of (i := U) (j := p.2) (by omega) (by omega)), fdiv_pos (Int.le_of_lt q1), mulI _ _ (small_l (i := p.1) (U / p.2) q3 (by decide))]
      rfl
  simp -implicitDefEqProofs only [F_whole_row, b_whole_row, fSeq_eq, seqK_nx, seqK_rt, seqK_bk, seqK_ct, seqK_ite, eVar_0, eVar_s, bind_ok, sB_ok, eC_eq, eBin_eq, eUn_eq, iOp0_eq, iCmp_eq, tst_eq, addI, negI, fSet_eq, fRet_eq, fExpr_eq, fIf_eq, fAsg_eq, fPar_eq, fNil_eq, fBreak_eq, fCont_eq, gNm_eq, gsNil_eq, gsCons_eq, aNil_eq, aCons_eq, eCall_eq, eCallD_eq, intS_eq, absS_eq, mmS_eq, len_l, len_t, list_l, list_t, tup_l, tup_t, finF_eq, finC_eq, allD_nil, allD_cons, eTup_eq, eLst_eq, eIf_eq, runD_eq, hand_rt, handF_d, take_self, srcS_l, srcS_t, iSrc_eq, iZip_eq, zip_l, iEnm_eq, enum_l, pix0, pix1, pix2, pix3, pset1, pset2, pset3, gSub_eq, tYes_eq, eAdd_eq, eSub_eq, eMul_eq, eDiv_eq, eMod_eq, ePow_eq, eXor_eq, eNeg_eq, eIx_eq, eqI_t, eqI_f, tNot_eq, tAnd_eq, tOr_eq, tru_eq, tru_bool, tru_int, tru_list, eAnd_eq, eNot_eq, isi_eq, asD_d, List.length_cons, List.length_nil, List.map_cons, List.map_nil, List.cons_append, List.nil_append, List.append_nil, List.set_cons_succ, List.set_cons_zero, List.replicate_succ, List.replicate_zero, Option.map_some, if_true, if_false, reduceIte, Nat.reduceAdd, Nat.reduceSub, Nat.reduceLeDiff, List.length_map, Nat.reduceEqDiff, Bool.false_eq_true, Bool.not_false, Bool.not_true, ne_eq, not_true_eq_false, not_false_eq_true, decide_true, decide_false, eq_self, hand_rt, decide_eq_true_eq, sl_l, eSl_eq, oNone_eq, oSome_eq, e2, e3]
end G06
namespace G06
open PySem L2 DL LinA
/-- the law's row of whole numbers for a row of fractions -/
def Wh (ps : List (Int × Int)) (r : List Int) : Prop := ∃ W : Int, 0 < W ∧ W < 2 ^ 48 ∧ (∀ p ∈ ps, p.2 ∣ W) ∧ r = ps.map fun p => p.1 * W / p.2
theorem law_row_ok {ps : List (Int × Int)} (hp : ∀ p ∈ ps, FrP p) (hn : ps.length ≤ 4) (c w : Nat) (o4 o5 : Option SV) (S : Store) (outs : List (List Int)) (hw : S[w]? = some (.lst (outs.map lst))) (ho : outs.length ≤ 100) :
    ∃ r o4 o5, Wh ps r ∧ B__law_rank_of_2 [some (.d (.int 0)), some (.cell c), some (.cell w), some (.d (.list (ps.map frD))), o4', o5'] S = .ok (.nx [some (.d (.int 0)), some (.cell c), some (.cell w), some (.d (.list (ps.map frD))), o4, o5]) (S.set w (.lst ((outs ++ [r]).map lst))) := by
  have lp : (L__law_rank_of_1 [some (.d (.int 0)), some (.cell c), some (.cell w), some (.d (.list (ps.map frD))), some (.d (.int 1)), o5'] S).Ret fun fl S' => ∃ (U : Int) (o2 : Option SV), fl = .nx [some (.d (.int 0)), some (.cell c), some (.cell w), some (.d (.list (ps.map frD))), some (.d (.int U)), o2] ∧ S' = S ∧ 0 < U ∧ U.natAbs * 3456 ^ 0 ≤ 3456 ^ ps.length ∧ ∀ p ∈ ps, p.2 ∣ U := by
    unfold L__law_rank_of_1
    have e0 : iSrc (eVar 3) [some (.d (.int 0)), some (.cell c), some (.cell w), some (.d (.list (ps.map frD))), some (.d (.int 1)), o5'] S = .ok ⟨ps.map frD, fun _ => true⟩ S := rfl
    rw [fFor_eq e0]
    refine forL_ret (fun ds Γ S' => ∃ (U : Int) (o2 : Option SV) (rest : List (Int × Int)), ds = rest.map frD ∧ (∀ p ∈ rest, p ∈ ps) ∧ Γ = [some (.d (.int 0)), some (.cell c), some (.cell w), some (.d (.list (ps.map frD))), some (.d (.int U)), o2] ∧ S' = S ∧ 0 < U ∧ U.natAbs * 3456 ^ rest.length ≤ 3456 ^ ps.length ∧ ∀ p ∈ ps, p.2 ∣ U ∨ p ∈ rest) _ (fun _ _ _ _ => rfl)
      (fun Γ S' h => ?_) (fun d ds Γ S' h => ?_) _ _ _ ⟨1, o5', ps, rfl, fun _ h => h, rfl, rfl, by decide, by simp, fun _ h => .inr h⟩
    · obtain ⟨U, o2, rest, hd, _, rfl, rfl, h1, h2, h3⟩ := h
      have : rest = [] := List.map_eq_nil_iff.mp hd.symm
      subst this
      exact ⟨U, o2, rfl, rfl, h1, h2, fun p m => (h3 p m).resolve_right List.not_mem_nil⟩
    · obtain ⟨U, o2, rest, hd, hr, rfl, rfl, h1, h2, h3⟩ := h
      obtain ⟨p, rest, rfl, rfl, rfl⟩ := map_cons_inv hd
      obtain ⟨q1, q2, q3⟩ := hp p (hr p (List.mem_cons_self ..))
      have hU : U < 2 ^ 48 := by
        have := pow3456 h2 hn
        omega
      have hev : B__law_rank_of_1 [some (.d (.int 0)), some (.cell c), some (.cell w), some (.d (.list (ps.map frD))), some (.d (.int U)), some (.d (frD p))] S' = .ok (.nx [some (.d (.int 0)), some (.cell c), some (.cell w), some (.d (.list (ps.map frD))), some (.d (.int (U * p.2))), some (.d (frD p))]) S' := by
        have px : ∀ S, ixS (.d (frD p)) (.d (.int 1)) S = .ok (.d (.int p.2)) S := fun S => (pix _ _ S).2
        simp -implicitDefEqProofs only [B__law_rank_of_1, fSeq_eq, seqK_nx, seqK_rt, seqK_bk, seqK_ct, seqK_ite, eVar_0, eVar_s, bind_ok, sB_ok, eC_eq, eBin_eq, eUn_eq, iOp0_eq, iCmp_eq, tst_eq, addI, negI, fSet_eq, fRet_eq, fExpr_eq, fIf_eq, fAsg_eq, fPar_eq, fNil_eq, fBreak_eq, fCont_eq, gNm_eq, gsNil_eq, gsCons_eq, aNil_eq, aCons_eq, eCall_eq, eCallD_eq, intS_eq, absS_eq, mmS_eq, len_l, len_t, list_l, list_t, tup_l, tup_t, finF_eq, finC_eq, allD_nil, allD_cons, eTup_eq, eLst_eq, eIf_eq, runD_eq, hand_rt, handF_d, take_self, srcS_l, srcS_t, iSrc_eq, iZip_eq, zip_l, iEnm_eq, enum_l, pix0, pix1, pix2, pix3, pset1, pset2, pset3, gSub_eq, tYes_eq, eAdd_eq, eSub_eq, eMul_eq, eDiv_eq, eMod_eq, ePow_eq, eXor_eq, eNeg_eq, eIx_eq, eqI_t, eqI_f, tNot_eq, tAnd_eq, tOr_eq, tru_eq, tru_bool, tru_int, tru_list, eAnd_eq, eNot_eq, isi_eq, asD_d, List.length_cons, List.length_nil, List.map_cons, List.map_nil, List.cons_append, List.nil_append, List.append_nil, List.set_cons_succ, List.set_cons_zero, List.replicate_succ, List.replicate_zero, Option.map_some, if_true, if_false, reduceIte, Nat.reduceAdd, Nat.reduceSub, Nat.reduceLeDiff, List.length_map, Nat.reduceEqDiff, Bool.false_eq_true, Bool.not_false, Bool.not_true, ne_eq, not_true_eq_false, not_false_eq_true, decide_true, decide_false, eq_self, hand_rt, decide_eq_true_eq, sl_l, eSl_eq, oNone_eq, oSome_eq, px, mulI _ _ (mulC_l (i := U) (j := p.2) (by omega) (by omega))]
      rw [gNm_eq]
      refine Out.Ret.of rfl (Out.Ret.of hev ?_)
      refine ⟨_, _, rest, rfl, fun x m => hr x (List.mem_cons_of_mem _ m), rfl, rfl, Int.mul_pos h1 q1, ?_, fun x m => ?_⟩
      · rw [Int.natAbs_mul]
        exact pow_step h2 q2
      · rcases h3 x m with h | h
        · exact .inl (Int.dvd_trans h (Int.dvd_mul_right ..))
        · rcases List.mem_cons.mp h with rfl | h
          · exact .inl (Int.dvd_mul_left ..)
          · exact .inr h
  obtain ⟨fl, S', e2, U, o2, rfl, rfl, h1, h2, h3⟩ := lp.ok
  have hU : U < 2 ^ 48 := by
    have := pow3456 h2 hn
    omega
  have e3 : ∀ o2, C__law_rank_of_1 [some (.d (.int 0)), some (.cell c), some (.cell w), some (.d (.list (ps.map frD))), some (.d (.int U)), o2] S' = .ok (.d (lst (ps.map fun p => p.1 * U / p.2))) S' := by
    intro o2
    unfold C__law_rank_of_1
    let hh : PyData → PyData := fun d => match d with
      | .tuple [.int n, .int d] => .int (n * U / d)
      | _ => .none
    have e0' : iSrc (eVar 3) [some (.d (.int 0)), some (.cell c), some (.cell w), some (.d (.list (ps.map frD))), some (.d (.int U)), o2] S' = .ok ⟨ps.map frD, fun _ => true⟩ S' := rfl
    rw [eLc_eq e0', lcL_map hh rfl]
    · rw [bind_ok, finF_eq, List.map_map]
      show _ = Out.ok (SV.d (.list ((ps.map fun p => p.1 * U / p.2).map PyData.int))) S'
      rw [List.map_map]
      rfl
    · intro d m
      obtain ⟨p, mp, rfl⟩ := List.mem_map.mp m
      obtain ⟨q1, q2, q3⟩ := hp p mp
      refine ⟨_, rfl, ?_⟩
      have px : ∀ S, ixS (.d (frD p)) (.d (.int 0)) S = .ok (.d (.int p.1)) S ∧ ixS (.d (frD p)) (.d (.int 1)) S = .ok (.d (.int p.2)) S := fun S => pix _ _ S
      simp -implicitDefEqProofs only [E__law_rank_of_1, wipeE, fSeq_eq, seqK_nx, seqK_rt, seqK_bk, seqK_ct, seqK_ite, eVar_0, eVar_s, bind_ok, sB_ok, eC_eq, eBin_eq, eUn_eq, iOp0_eq, iCmp_eq, tst_eq, addI, negI, fSet_eq, fRet_eq, fExpr_eq, fIf_eq, fAsg_eq, fPar_eq, fNil_eq, fBreak_eq, fCont_eq, gNm_eq, gsNil_eq, gsCons_eq, aNil_eq, aCons_eq, eCall_eq, eCallD_eq, intS_eq, absS_eq, mmS_eq, len_l, len_t, list_l, list_t, tup_l, tup_t, finF_eq, finC_eq, allD_nil, allD_cons, eTup_eq, eLst_eq, eIf_eq, runD_eq, hand_rt, handF_d, take_self, srcS_l, srcS_t, iSrc_eq, iZip_eq, zip_l, iEnm_eq, enum_l, pix0, pix1, pix2, pix3, pset1, pset2, pset3, gSub_eq, tYes_eq, eAdd_eq, eSub_eq, eMul_eq, eDiv_eq, eMod_eq, ePow_eq, eXor_eq, eNeg_eq, eIx_eq, eqI_t, eqI_f, tNot_eq, tAnd_eq, tOr_eq, tru_eq, tru_bool, tru_int, tru_list, eAnd_eq, eNot_eq, isi_eq, asD_d, List.length_cons, List.length_nil, List.map_cons, List.map_nil, List.cons_append, List.nil_append, List.append_nil, List.set_cons_succ, List.set_cons_zero, List.replicate_succ, List.replicate_zero, Option.map_some, if_true, if_false, reduceIte, Nat.reduceAdd, Nat.reduceSub, Nat.reduceLeDiff, List.length_map, Nat.reduceEqDiff, Bool.false_eq_true, Bool.not_false, Bool.not_true, ne_eq, not_true_eq_false, not_false_eq_true, decide_true, decide_false, eq_self, hand_rt, decide_eq_true_eq, sl_l, eSl_eq, oNone_eq, oSome_eq, px, iOp_eq _ _ _ _ _ (divC_of (i := p.1 * U) (j := p.2) (by omega) (by omega)), fdiv_pos (Int.le_of_lt q1), mulI _ _ (small_l (i := p.1) U q3 (by decide))]
      rfl
  refine ⟨ps.map fun p => p.1 * U / p.2, some (.d (.int U)), o2, ⟨U, h1, hU, h3, rfl⟩, ?_⟩
  have hap : ∀ x : PyData, appendS (.cell w) [.d x] S' = .ok (.d .none) (S'.set w (.lst (outs.map lst ++ [x]))) := fun x => by
    have e : cellL (.cell w) S' = some (w, outs.map lst) := by simp only [cellL, hw]
    have hl : (outs.map lst).length < 16777216 := by rw [List.length_map]; omega
    simp only [appendS, e]
    rw [if_pos hl]
  have hmap : (outs ++ [ps.map fun p => p.1 * U / p.2]).map lst = outs.map lst ++ [lst (ps.map fun p => p.1 * U / p.2)] := by rw [List.map_append]; rfl
  rw [hmap]
  simp -implicitDefEqProofs only [B__law_rank_of_2, fSeq_eq, seqK_nx, seqK_rt, seqK_bk, seqK_ct, seqK_ite, eVar_0, eVar_s, bind_ok, sB_ok, eC_eq, eBin_eq, eUn_eq, iOp0_eq, iCmp_eq, tst_eq, addI, negI, fSet_eq, fRet_eq, fExpr_eq, fIf_eq, fAsg_eq, fPar_eq, fNil_eq, fBreak_eq, fCont_eq, gNm_eq, gsNil_eq, gsCons_eq, aNil_eq, aCons_eq, eCall_eq, eCallD_eq, intS_eq, absS_eq, mmS_eq, len_l, len_t, list_l, list_t, tup_l, tup_t, finF_eq, finC_eq, allD_nil, allD_cons, eTup_eq, eLst_eq, eIf_eq, runD_eq, hand_rt, handF_d, take_self, srcS_l, srcS_t, iSrc_eq, iZip_eq, zip_l, iEnm_eq, enum_l, pix0, pix1, pix2, pix3, pset1, pset2, pset3, gSub_eq, tYes_eq, eAdd_eq, eSub_eq, eMul_eq, eDiv_eq, eMod_eq, ePow_eq, eXor_eq, eNeg_eq, eIx_eq, eqI_t, eqI_f, tNot_eq, tAnd_eq, tOr_eq, tru_eq, tru_bool, tru_int, tru_list, eAnd_eq, eNot_eq, isi_eq, asD_d, List.length_cons, List.length_nil, List.map_cons, List.map_nil, List.cons_append, List.nil_append, List.append_nil, List.set_cons_succ, List.set_cons_zero, List.replicate_succ, List.replicate_zero, Option.map_some, if_true, if_false, reduceIte, Nat.reduceAdd, Nat.reduceSub, Nat.reduceLeDiff, List.length_map, Nat.reduceEqDiff, Bool.false_eq_true, Bool.not_false, Bool.not_true, ne_eq, not_true_eq_false, not_false_eq_true, decide_true, decide_false, eq_self, hand_rt, decide_eq_true_eq, sl_l, eSl_eq, oNone_eq, oSome_eq, e2, eMeth_eq, isL_c _ _ _ hw, e3, hap]
theorem law_rank0 {rows : List (List (Int × Int))} {n c : Nat} (hr : ∀ ps ∈ rows, (∀ p ∈ ps, FrP p) ∧ ps.length = n) (hn : n ≤ 4) (hl : rows.length ≤ 5) (S : Store) (hc : S[c]? = some (.lst (rows.map fun ps => .list (ps.map frD)))) :
    ∃ (k : Nat) (outs : List (List Int)), F__law_rank_of [.d (.int 0), .cell c] S = .ok (.d (.int k)) S ∧ Elim (fun x => (0 : Int) ∣ x) (outs.map (vec id)) k ∧ (∀ r ∈ outs, ∃ ps ∈ rows, Wh ps r) ∧ ∀ ps ∈ rows, ∃ r ∈ outs, Wh ps r := by
  have hcl : c < S.length := by
    rcases Nat.lt_or_ge c S.length with h | h
    · exact h
    · rw [List.getElem?_eq_none h] at hc; cases hc
  have lp : (L__law_rank_of_2 [some (.d (.int 0)), some (.cell c), some (.cell S.length), none, none, none] (S ++ [.lst []])).Ret fun fl S' => ∃ (outs : List (List Int)) (o3 o4 o5 : Option SV), fl = .nx [some (.d (.int 0)), some (.cell c), some (.cell S.length), o3, o4, o5] ∧ S' = S ++ [.lst (outs.map lst)] ∧ outs.length ≤ 5 ∧ (∀ r ∈ outs, ∃ ps ∈ rows, Wh ps r) ∧ ∀ ps ∈ rows, ∃ r ∈ outs, Wh ps r := by
    have hc1 : ∀ m, (S ++ [m])[c]? = some (.lst (rows.map fun ps => .list (ps.map frD))) := fun m => by rw [List.getElem?_append_left hcl]; exact hc
    obtain ⟨ok, s1, s2⟩ := srcS_c (hc1 (.lst []))
    have hself : eqPs (rows.map fun ps => .list (ps.map frD)) (rows.map fun ps => .list (ps.map frD)) = true := eqPs_refl fun x m => by
      obtain ⟨ps, _, rfl⟩ := List.mem_map.mp m
      refine eqP_list fun y my => ?_
      obtain ⟨p, _, rfl⟩ := List.mem_map.mp my
      refine eqP_tuple fun z mz => ?_
      simp only [List.mem_cons, List.not_mem_nil, or_false] at mz
      rcases mz with rfl | rfl <;> exact eqP_int _
    unfold L__law_rank_of_2
    have e0 : iSrc (eVar 1) [some (.d (.int 0)), some (.cell c), some (.cell S.length), none, none, none] (S ++ [.lst []]) = .ok ⟨rows.map fun ps => .list (ps.map frD), ok⟩ (S ++ [.lst []]) := by
      rw [iSrc_eq]
      simp -implicitDefEqProofs only [fSeq_eq, seqK_nx, seqK_rt, seqK_bk, seqK_ct, seqK_ite, eVar_0, eVar_s, bind_ok, sB_ok, eC_eq, eBin_eq, eUn_eq, iOp0_eq, iCmp_eq, tst_eq, addI, negI, fSet_eq, fRet_eq, fExpr_eq, fIf_eq, fAsg_eq, fPar_eq, fNil_eq, fBreak_eq, fCont_eq, gNm_eq, gsNil_eq, gsCons_eq, aNil_eq, aCons_eq, eCall_eq, eCallD_eq, intS_eq, absS_eq, mmS_eq, len_l, len_t, list_l, list_t, tup_l, tup_t, finF_eq, finC_eq, allD_nil, allD_cons, eTup_eq, eLst_eq, eIf_eq, runD_eq, hand_rt, handF_d, take_self, srcS_l, srcS_t, iSrc_eq, iZip_eq, zip_l, iEnm_eq, enum_l, pix0, pix1, pix2, pix3, pset1, pset2, pset3, gSub_eq, tYes_eq, eAdd_eq, eSub_eq, eMul_eq, eDiv_eq, eMod_eq, ePow_eq, eXor_eq, eNeg_eq, eIx_eq, eqI_t, eqI_f, tNot_eq, tAnd_eq, tOr_eq, tru_eq, tru_bool, tru_int, tru_list, eAnd_eq, eNot_eq, isi_eq, asD_d, List.length_cons, List.length_nil, List.map_cons, List.map_nil, List.cons_append, List.nil_append, List.append_nil, List.set_cons_succ, List.set_cons_zero, List.replicate_succ, List.replicate_zero, Option.map_some, if_true, if_false, reduceIte, Nat.reduceAdd, Nat.reduceSub, Nat.reduceLeDiff, List.length_map, Nat.reduceEqDiff, Bool.false_eq_true, Bool.not_false, Bool.not_true, ne_eq, not_true_eq_false, not_false_eq_true, decide_true, decide_false, eq_self, hand_rt, decide_eq_true_eq, sl_l, eSl_eq, oNone_eq, oSome_eq, s1]
    rw [fFor_eq e0]
    refine forL_ret (fun ds Γ S' => ∃ (outs : List (List Int)) (rest : List (List (Int × Int))) (o3 o4 o5 : Option SV), ds = rest.map (fun ps => .list (ps.map frD)) ∧ (∀ p ∈ rest, p ∈ rows) ∧ Γ = [some (.d (.int 0)), some (.cell c), some (.cell S.length), o3, o4, o5] ∧ S' = S ++ [.lst (outs.map lst)] ∧ outs.length + rest.length ≤ 5 ∧ (∀ r ∈ outs, ∃ ps ∈ rows, Wh ps r) ∧ ∀ ps ∈ rows, (∃ r ∈ outs, Wh ps r) ∨ ps ∈ rest) _
      (fun ds Γ S' h => ?_) (fun Γ S' h => ?_) (fun d ds Γ S' h => ?_) _ _ _ ⟨[], rows, none, none, none, rfl, fun _ h => h, rfl, rfl, by simpa using hl, fun _ m => (List.not_mem_nil m).elim, fun _ h => .inr h⟩
    · obtain ⟨outs, _, _, _, _, _, _, _, rfl, _⟩ := h
      exact s2 _ (hc1 _) hself
    · obtain ⟨outs, rest, o3, o4, o5, hd, _, rfl, rfl, h1, h2, h3⟩ := h
      have : rest = [] := List.map_eq_nil_iff.mp hd.symm
      subst this
      exact ⟨outs, o3, o4, o5, rfl, rfl, by simpa using h1, h2, fun p m => (h3 p m).resolve_right List.not_mem_nil⟩
    · obtain ⟨outs, rest, o3, o4, o5, hd, hr2, rfl, rfl, h1, h2, h3⟩ := h
      obtain ⟨ps, rest, rfl, rfl, rfl⟩ := map_cons_inv hd
      obtain ⟨q1, q2⟩ := hr ps (hr2 ps (List.mem_cons_self ..))
      simp only [List.length_cons] at h1
      obtain ⟨r, o4', o5', hW, hev⟩ := law_row_ok (o4' := o4) (o5' := o5) q1 (by omega) c S.length none none (S ++ [.lst (outs.map lst)]) outs (by simp) (by omega)
      rw [gNm_eq]
      refine Out.Ret.of rfl (Out.Ret.of hev ?_)
      refine ⟨outs ++ [r], rest, _, _, _, rfl, fun x m => hr2 x (List.mem_cons_of_mem _ m), rfl, by simp, by rw [List.length_append]; simp; omega, fun x m => ?_, fun x m => ?_⟩
      · rcases List.mem_append.mp m with h | h
        · exact h2 x h
        · rw [List.mem_singleton.mp h]
          exact ⟨ps, hr2 ps (List.mem_cons_self ..), hW⟩
      · rcases h3 x m with ⟨r', m', h⟩ | h
        · exact .inl ⟨r', List.mem_append.mpr (.inl m'), h⟩
        · rcases List.mem_cons.mp h with rfl | h
          · exact .inl ⟨r, List.mem_append.mpr (.inr (List.mem_singleton.mpr rfl)), hW⟩
          · exact .inr h
  obtain ⟨fl, S', e2, outs, o3, o4, o5, rfl, rfl, h1, h2, h3⟩ := lp.ok
  have hro : ∀ r ∈ outs, RowOk 0 127 n r := fun r m => by
    obtain ⟨ps, mp, W, w1, w2, w3, rfl⟩ := h2 r m
    obtain ⟨q1, q2⟩ := hr ps mp
    refine ⟨by rw [List.length_map, q2], fun x mx => ?_⟩
    obtain ⟨p, mp', rfl⟩ := List.mem_map.mp mx
    obtain ⟨u1, u2, u3⟩ := q1 p mp'
    show (p.1 * W / p.2).natAbs < 2 ^ 127
    have a1 : (p.1 * W / p.2).natAbs ≤ (p.1 * W).natAbs := Int.natAbs_ediv_le_natAbs _ _
    have a2 : (p.1 * W).natAbs ≤ 3456 * 2 ^ 48 := nabs_mul u3 (by omega)
    have a3 : 3456 * 2 ^ 48 < 2 ^ 127 := by decide
    omega
  obtain ⟨k, e3, hk⟩ := row_rank_ok fld0 (c := S.length) hro (by omega) h1 (S ++ [.lst (outs.map lst)]) (by simp)
  refine ⟨k, outs, ?_, hk, h2, h3⟩
  have et : (S ++ [MO.lst (outs.map lst)]).take S.length = S := by simp
  have t0 : ¬ ((0 : Int) < 0) := by decide
  simp -implicitDefEqProofs only [F__law_rank_of, b__law_rank_of, fSeq_eq, seqK_nx, seqK_rt, seqK_bk, seqK_ct, seqK_ite, eVar_0, eVar_s, bind_ok, sB_ok, eC_eq, eBin_eq, eUn_eq, iOp0_eq, iCmp_eq, tst_eq, addI, negI, fSet_eq, fRet_eq, fExpr_eq, fIf_eq, fAsg_eq, fPar_eq, fNil_eq, fBreak_eq, fCont_eq, gNm_eq, gsNil_eq, gsCons_eq, aNil_eq, aCons_eq, eCall_eq, eCallD_eq, intS_eq, absS_eq, mmS_eq, len_l, len_t, list_l, list_t, tup_l, tup_t, finF_eq, finC_eq, allD_nil, allD_cons, eTup_eq, eLst_eq, eIf_eq, runD_eq, hand_rt, handF_d, take_self, srcS_l, srcS_t, iSrc_eq, iZip_eq, zip_l, iEnm_eq, enum_l, pix0, pix1, pix2, pix3, pset1, pset2, pset3, gSub_eq, tYes_eq, eAdd_eq, eSub_eq, eMul_eq, eDiv_eq, eMod_eq, ePow_eq, eXor_eq, eNeg_eq, eIx_eq, eqI_t, eqI_f, tNot_eq, tAnd_eq, tOr_eq, tru_eq, tru_bool, tru_int, tru_list, eAnd_eq, eNot_eq, isi_eq, asD_d, List.length_cons, List.length_nil, List.map_cons, List.map_nil, List.cons_append, List.nil_append, List.append_nil, List.set_cons_succ, List.set_cons_zero, List.replicate_succ, List.replicate_zero, Option.map_some, if_true, if_false, reduceIte, Nat.reduceAdd, Nat.reduceSub, Nat.reduceLeDiff, List.length_map, Nat.reduceEqDiff, Bool.false_eq_true, Bool.not_false, Bool.not_true, ne_eq, not_true_eq_false, not_false_eq_true, decide_true, decide_false, eq_self, hand_rt, decide_eq_true_eq, sl_l, eSl_eq, oNone_eq, oSome_eq, t0, e2, e3, et]
end G06
namespace G06
open PySem L2 DL LinA
/-! ### 10. both ranks -/
theorem unmap {α β : Type} {f : α → β} {P : α → Prop} : ∀ {xs : List β}, (∀ x ∈ xs, ∃ a, x = f a ∧ P a) → ∃ as : List α, xs = as.map f ∧ ∀ a ∈ as, P a
  | [], _ => ⟨[], rfl, fun _ m => (List.not_mem_nil m).elim⟩
  | x :: xs, h => by
    obtain ⟨a, rfl, ha⟩ := h x (List.mem_cons_self ..)
    obtain ⟨as, rfl, has⟩ := unmap fun y m => h y (List.mem_cons_of_mem _ m)
    refine ⟨a :: as, rfl, fun b m => ?_⟩
    rcases List.mem_cons.mp m with rfl | m
    · exact ha
    · exact has b m
theorem rows_mapD {α : Type} (D : α → PyData) {ok : Store → Bool} {gf : GF} {ef : EF} {vs : List Nat} {Γ : Ev} {S : Store} (R : α → List Int → Prop) (hok : ok S = true) : ∀ (xs : List α),
    (∀ row ∈ xs, ∃ Γ1, gf (.d (D row)) (wipeE Γ vs) S = .ok Γ1 S ∧ ∃ r2, ef Γ1 S = .ok (.d (lst r2)) S ∧ R row r2) → ∃ ys : List (List Int), lcL ok gf tYesF ef vs Γ (xs.map D) S = .ok (ys.map lst) S ∧ Both R xs ys
  | [], _ => by
    refine ⟨[], ?_, rfl, fun x m => (List.not_mem_nil m).elim, fun x m => (List.not_mem_nil m).elim⟩
    show lcL ok gf tYesF ef vs Γ [] S = _
    unfold lcL
    rw [if_pos hok]
    rfl
  | x :: xs, k => by
    obtain ⟨Γ1, h1, r2, h2, h3⟩ := k x (List.mem_cons_self ..)
    obtain ⟨ys, e, hl, ha, hb⟩ := rows_mapD D R hok xs fun r m => k r (List.mem_cons_of_mem _ m)
    refine ⟨r2 :: ys, ?_, by simp [hl], fun r m => ?_, fun r m => ?_⟩
    · show lcL ok gf tYesF ef vs Γ (D x :: xs.map D) S = _
      unfold lcL
      rw [if_pos hok]
      simp only [h1, h2, tYes_eq, e, bind_ok]
      rfl
    · rcases List.mem_cons.mp m with rfl | m
      · exact ⟨r2, List.mem_cons_self .., h3⟩
      · obtain ⟨y, my, hy⟩ := ha r m
        exact ⟨y, List.mem_cons_of_mem _ my, hy⟩
    · rcases List.mem_cons.mp m with rfl | m
      · exact ⟨x, List.mem_cons_self .., h3⟩
      · obtain ⟨y, my, hy⟩ := hb r m
        exact ⟨y, List.mem_cons_of_mem _ my, hy⟩
/-- the program's row of whole numbers -/
def Pw (ps : List (Int × Int)) (r : List Int) : Prop := ∃ U : Int, 0 < U ∧ U < 2 ^ 48 ∧ (∀ p ∈ ps, p.2 ∣ U) ∧ r = ps.map fun p => p.1 * (U / p.2)
theorem scale {ps : List (Int × Int)} {a b : List Int} (hp : ∀ p ∈ ps, 0 < p.2) (ha : Pw ps a) (hb : Wh ps b) : ∃ U W : Int, U ≠ 0 ∧ W ≠ 0 ∧ ∀ i, U * vec id b i = W * vec id a i := by
  obtain ⟨U, u1, u2, u3, rfl⟩ := ha
  obtain ⟨W, w1, w2, w3, rfl⟩ := hb
  refine ⟨U, W, by omega, by omega, fun i => ?_⟩
  show U * (ps.map fun p => p.1 * W / p.2).getD i 0 = W * (ps.map fun p => p.1 * (U / p.2)).getD i 0
  rcases Nat.lt_or_ge i ps.length with h | h
  · have e1 : (ps.map fun p => p.1 * W / p.2).getD i 0 = ps[i].1 * W / ps[i].2 := by simp [List.getD, h]
    have e2 : (ps.map fun p => p.1 * (U / p.2)).getD i 0 = ps[i].1 * (U / ps[i].2) := by simp [List.getD, h]
    rw [e1, e2]
    have hd := hp _ (List.getElem_mem h)
    obtain ⟨x, hx⟩ := u3 _ (List.getElem_mem h)
    obtain ⟨y, hy⟩ := w3 _ (List.getElem_mem h)
    have e3 : U / ps[i].2 = x := by rw [hx]; exact Int.mul_ediv_cancel_left _ (by omega)
    have e4 : ps[i].1 * W / ps[i].2 = ps[i].1 * y := by
      rw [hy, show ps[i].1 * (ps[i].2 * y) = ps[i].2 * (ps[i].1 * y) by grind]
      exact Int.mul_ediv_cancel_left _ (by omega)
    rw [e3, e4]
    generalize ps[i] = p at *
    rw [hx, hy]
    grind
  · rw [getD_out (by rw [List.length_map]; exact h), getD_out (by rw [List.length_map]; exact h), Int.mul_zero, Int.mul_zero]
theorem sp_scale {A : List (Vec Int)} {a b : Vec Int} {U W : Int} (ha : a ∈ A) (hU : U ≠ 0) (h : ∀ i, U * b i = W * a i) : Sp (fun x => (0 : Int) ∣ x) A b := by
  refine .lin (w := fun _ => 0) U W 0 (.mem ha) .zero (fun z => hU (Int.zero_dvd.mp z)) fun i => ?_
  rw [h i, show W * a i - W * a i - 0 * (fun _ => (0 : Int)) i = 0 by simp]
  exact Int.dvd_zero _
theorem rank0 {rows : List (Bool × List (Int × Int))} {n c : Nat} (bb : Bool) (hr : ∀ p ∈ rows, (∀ x ∈ p.2, FrP x) ∧ p.2.length = n) (hn : n ≤ 4) (hl : rows.length ≤ 5) (S : Store) (hc : S[c]? = some (.lst (rows.map fun p => .list (p.2.map frD)))) :
    ∃ k : Nat, F_field_rank [.d (.int 0), .d (sq bb (rows.map fun p => sq p.1 (p.2.map frD)))] S = .ok (.d (.int k)) S ∧ F__law_rank_of [.d (.int 0), .cell c] S = .ok (.d (.int k)) S := by
  obtain ⟨rD, hrD⟩ : ∃ rD : PyData, rD = sq bb (rows.map fun p => sq p.1 (p.2.map frD)) := ⟨_, rfl⟩
  rw [← hrD]
  obtain ⟨ys, e1, hboth⟩ : ∃ ys : List (List Int), lcL (fun _ => true) (gNm 2) tYesF E_field_rank_1 [2] [some (.d (.int 0)), some (.d rD), none] (rows.map fun p => sq p.1 (p.2.map frD)) S = .ok (ys.map lst) S ∧ Both (fun (p : Bool × List (Int × Int)) r => Pw p.2 r) rows ys := by
    refine rows_mapD (fun p : Bool × List (Int × Int) => sq p.1 (p.2.map frD)) _ rfl rows fun p mp => ⟨_, gNm_eq _ _ _ _, ?_⟩
    obtain ⟨h1, h2⟩ := hr p mp
    obtain ⟨U, u1, u2, u3, u4⟩ := whole_row_ok p.1 h1 (by omega) S
    exact ⟨_, by simp -implicitDefEqProofs only [E_field_rank_1, wipeE, fSeq_eq, seqK_nx, seqK_rt, seqK_bk, seqK_ct, seqK_ite, eVar_0, eVar_s, bind_ok, sB_ok, eC_eq, eBin_eq, eUn_eq, iOp0_eq, iCmp_eq, tst_eq, addI, negI, fSet_eq, fRet_eq, fExpr_eq, fIf_eq, fAsg_eq, fPar_eq, fNil_eq, fBreak_eq, fCont_eq, gNm_eq, gsNil_eq, gsCons_eq, aNil_eq, aCons_eq, eCall_eq, eCallD_eq, intS_eq, absS_eq, mmS_eq, len_l, len_t, list_l, list_t, tup_l, tup_t, finF_eq, finC_eq, allD_nil, allD_cons, eTup_eq, eLst_eq, eIf_eq, runD_eq, hand_rt, handF_d, take_self, srcS_l, srcS_t, iSrc_eq, iZip_eq, zip_l, iEnm_eq, enum_l, pix0, pix1, pix2, pix3, pset1, pset2, pset3, gSub_eq, tYes_eq, eAdd_eq, eSub_eq, eMul_eq, eDiv_eq, eMod_eq, ePow_eq, eXor_eq, eNeg_eq, eIx_eq, eqI_t, eqI_f, tNot_eq, tAnd_eq, tOr_eq, tru_eq, tru_bool, tru_int, tru_list, eAnd_eq, eNot_eq, isi_eq, asD_d, List.length_cons, List.length_nil, List.map_cons, List.map_nil, List.cons_append, List.nil_append, List.append_nil, List.set_cons_succ, List.set_cons_zero, List.replicate_succ, List.replicate_zero, Option.map_some, if_true, if_false, reduceIte, Nat.reduceAdd, Nat.reduceSub, Nat.reduceLeDiff, List.length_map, Nat.reduceEqDiff, Bool.false_eq_true, Bool.not_false, Bool.not_true, ne_eq, not_true_eq_false, not_false_eq_true, decide_true, decide_false, eq_self, hand_rt, decide_eq_true_eq, sl_l, eSl_eq, oNone_eq, oSome_eq, u4], U, u1, u2, u3, rfl⟩
  have e2 : C_field_rank_1 [some (.d (.int 0)), some (.d rD), none] S = .ok (.d (.list (ys.map lst))) S := by
    unfold C_field_rank_1
    have e0 : iSrc (eVar 1) [some (.d (.int 0)), some (.d rD), none] S = .ok ⟨rows.map fun p => sq p.1 (p.2.map frD), fun _ => true⟩ S := by
      rw [hrD]
      cases bb <;> rfl
    rw [eLc_eq e0, e1, bind_ok, finF_eq]
  have hry : ∀ r ∈ ys, RowOk 0 127 n r := fun r m => by
    obtain ⟨p, mp, U, w1, w2, w3, rfl⟩ := hboth.2.2 r m
    obtain ⟨q1, q2⟩ := hr p mp
    refine ⟨by rw [List.length_map, q2], fun x mx => ?_⟩
    obtain ⟨z, mz, rfl⟩ := List.mem_map.mp mx
    obtain ⟨u1, u2, u3⟩ := q1 z mz
    show (z.1 * (U / z.2)).natAbs < 2 ^ 127
    have a1 : (U / z.2).natAbs ≤ U.natAbs := Int.natAbs_ediv_le_natAbs _ _
    have a2 : (z.1 * (U / z.2)).natAbs ≤ 3456 * 2 ^ 48 := nabs_mul u3 (by omega)
    have a3 : 3456 * 2 ^ 48 < 2 ^ 127 := by decide
    omega
  have hyr : (ys.map fun r => (true, r)).map rowD = ys.map lst := by
    rw [List.map_map]
    rfl
  have hy2 : (ys.map fun r => (true, r)).map (·.2) = ys := by
    rw [List.map_map]
    exact List.map_id ys
  obtain ⟨k, e3, hk⟩ := whole_rank_ok fld0 (n := n) (rows := ys.map fun r => (true, r)) true (fun p m => by
    obtain ⟨r, mr, rfl⟩ := List.mem_map.mp m
    exact hry r mr) (by rw [List.length_map, ← hboth.1]; exact hl) S
  rw [hyr] at e3
  rw [hy2] at hk
  obtain ⟨l, outs, e4, hl', o1, o2⟩ := law_rank0 (rows := rows.map (·.2)) (n := n) (fun ps m => by
    obtain ⟨p, mp, rfl⟩ := List.mem_map.mp m
    exact hr p mp) hn (by rw [List.length_map]; exact hl) S (by rw [List.map_map]; exact hc)
  have hkl : k = l := by
    refine Elim.same fld0.P hk hl' (fun a m => ?_) fun b m => ?_
    · obtain ⟨r, mr, rfl⟩ := List.mem_map.mp m
      obtain ⟨p, mp, hP⟩ := hboth.2.2 r mr
      obtain ⟨w, mw, hW⟩ := o2 p.2 (List.mem_map.mpr ⟨p, mp, rfl⟩)
      obtain ⟨U, W, hU, hW', hs⟩ := scale (fun x mx => ((hr p mp).1 x mx).1) hP hW
      exact sp_scale (List.mem_map.mpr ⟨w, mw, rfl⟩) hW' fun i => (hs i).symm
    · obtain ⟨w, mw, rfl⟩ := List.mem_map.mp m
      obtain ⟨ps, mps, hW⟩ := o1 w mw
      obtain ⟨p, mp, rfl⟩ := List.mem_map.mp mps
      obtain ⟨r, mr, hP⟩ := hboth.2.1 p mp
      obtain ⟨U, W, hU, hW', hs⟩ := scale (fun x mx => ((hr p mp).1 x mx).1) hP hW
      exact sp_scale (List.mem_map.mpr ⟨r, mr, rfl⟩) hU hs
  subst hkl
  refine ⟨k, ?_, e4⟩
  have hsq : (PyData.list (ys.map lst)) = sq true (ys.map lst) := rfl
  rw [hsq] at e2
  simp -implicitDefEqProofs only [F_field_rank, b_field_rank, fSeq_eq, seqK_nx, seqK_rt, seqK_bk, seqK_ct, seqK_ite, eVar_0, eVar_s, bind_ok, sB_ok, eC_eq, eBin_eq, eUn_eq, iOp0_eq, iCmp_eq, tst_eq, addI, negI, fSet_eq, fRet_eq, fExpr_eq, fIf_eq, fAsg_eq, fPar_eq, fNil_eq, fBreak_eq, fCont_eq, gNm_eq, gsNil_eq, gsCons_eq, aNil_eq, aCons_eq, eCall_eq, eCallD_eq, intS_eq, absS_eq, mmS_eq, len_l, len_t, list_l, list_t, tup_l, tup_t, finF_eq, finC_eq, allD_nil, allD_cons, eTup_eq, eLst_eq, eIf_eq, runD_eq, hand_rt, handF_d, take_self, srcS_l, srcS_t, iSrc_eq, iZip_eq, zip_l, iEnm_eq, enum_l, pix0, pix1, pix2, pix3, pset1, pset2, pset3, gSub_eq, tYes_eq, eAdd_eq, eSub_eq, eMul_eq, eDiv_eq, eMod_eq, ePow_eq, eXor_eq, eNeg_eq, eIx_eq, eqI_t, eqI_f, tNot_eq, tAnd_eq, tOr_eq, tru_eq, tru_bool, tru_int, tru_list, eAnd_eq, eNot_eq, isi_eq, asD_d, List.length_cons, List.length_nil, List.map_cons, List.map_nil, List.cons_append, List.nil_append, List.append_nil, List.set_cons_succ, List.set_cons_zero, List.replicate_succ, List.replicate_zero, Option.map_some, if_true, if_false, reduceIte, Nat.reduceAdd, Nat.reduceSub, Nat.reduceLeDiff, List.length_map, Nat.reduceEqDiff, Bool.false_eq_true, Bool.not_false, Bool.not_true, ne_eq, not_true_eq_false, not_false_eq_true, decide_true, decide_false, eq_self, hand_rt, decide_eq_true_eq, sl_l, eSl_eq, oNone_eq, oSome_eq, e2, e3]
theorem rankI {q : Int} {R : Type} [Lean.Grind.CommRing R] {φ : Int → R} {Z : R → Prop} (Fl : Fld q R φ Z) (h0 : q ≠ 0) {rows : List (Bool × List Int)} {n c : Nat} (bb : Bool) (hr : ∀ p ∈ rows, RowOk q 127 n p.2) (hn : n ≤ 4) (hl : rows.length ≤ 5) (S : Store) (hc : S[c]? = some (.lst (rows.map fun p => .list (p.2.map .int)))) :
    ∃ k : Nat, F_field_rank [.d (.int q), .d (sq bb (rows.map fun p => sq p.1 (p.2.map .int)))] S = .ok (.d (.int k)) S ∧ F__law_rank_of [.d (.int q), .cell c] S = .ok (.d (.int k)) S := by
  obtain ⟨k, e1, hk⟩ := whole_rank_ok Fl bb hr hl S
  obtain ⟨l, e2, hl'⟩ := row_rank_ok Fl (rows := rows.map (·.2)) (c := c) (n := n) (fun r m => by
    obtain ⟨p, mp, rfl⟩ := List.mem_map.mp m
    exact hr p mp) (by omega) (by rw [List.length_map]; exact hl) S (by rw [List.map_map]; exact hc)
  have hkl : k = l := hk.same Fl.P hl' (fun a m => .mem m) fun b m => .mem m
  subst hkl
  have hq := Fl.hq.lo
  have hp : 0 < q := by omega
  refine ⟨k, ?_, ?_⟩
  · have e1' : F_whole_rank [.d (.int q), .d (sq bb (rows.map fun p => sq p.1 (p.2.map .int)))] S = .ok (.d (.int k)) S := e1
    simp -implicitDefEqProofs only [F_field_rank, b_field_rank, fSeq_eq, seqK_nx, seqK_rt, seqK_bk, seqK_ct, seqK_ite, eVar_0, eVar_s, bind_ok, sB_ok, eC_eq, eBin_eq, eUn_eq, iOp0_eq, iCmp_eq, tst_eq, addI, negI, fSet_eq, fRet_eq, fExpr_eq, fIf_eq, fAsg_eq, fPar_eq, fNil_eq, fBreak_eq, fCont_eq, gNm_eq, gsNil_eq, gsCons_eq, aNil_eq, aCons_eq, eCall_eq, eCallD_eq, intS_eq, absS_eq, mmS_eq, len_l, len_t, list_l, list_t, tup_l, tup_t, finF_eq, finC_eq, allD_nil, allD_cons, eTup_eq, eLst_eq, eIf_eq, runD_eq, hand_rt, handF_d, take_self, srcS_l, srcS_t, iSrc_eq, iZip_eq, zip_l, iEnm_eq, enum_l, pix0, pix1, pix2, pix3, pset1, pset2, pset3, gSub_eq, tYes_eq, eAdd_eq, eSub_eq, eMul_eq, eDiv_eq, eMod_eq, ePow_eq, eXor_eq, eNeg_eq, eIx_eq, eqI_t, eqI_f, tNot_eq, tAnd_eq, tOr_eq, tru_eq, tru_bool, tru_int, tru_list, eAnd_eq, eNot_eq, isi_eq, asD_d, List.length_cons, List.length_nil, List.map_cons, List.map_nil, List.cons_append, List.nil_append, List.append_nil, List.set_cons_succ, List.set_cons_zero, List.replicate_succ, List.replicate_zero, Option.map_some, if_true, if_false, reduceIte, Nat.reduceAdd, Nat.reduceSub, Nat.reduceLeDiff, List.length_map, Nat.reduceEqDiff, Bool.false_eq_true, Bool.not_false, Bool.not_true, ne_eq, not_true_eq_false, not_false_eq_true, decide_true, decide_false, eq_self, hand_rt, decide_eq_true_eq, sl_l, eSl_eq, oNone_eq, oSome_eq, h0, e1']
  · simp -implicitDefEqProofs only [F__law_rank_of, b__law_rank_of, fSeq_eq, seqK_nx, seqK_rt, seqK_bk, seqK_ct, seqK_ite, eVar_0, eVar_s, bind_ok, sB_ok, eC_eq, eBin_eq, eUn_eq, iOp0_eq, iCmp_eq, tst_eq, addI, negI, fSet_eq, fRet_eq, fExpr_eq, fIf_eq, fAsg_eq, fPar_eq, fNil_eq, fBreak_eq, fCont_eq, gNm_eq, gsNil_eq, gsCons_eq, aNil_eq, aCons_eq, eCall_eq, eCallD_eq, intS_eq, absS_eq, mmS_eq, len_l, len_t, list_l, list_t, tup_l, tup_t, finF_eq, finC_eq, allD_nil, allD_cons, eTup_eq, eLst_eq, eIf_eq, runD_eq, hand_rt, handF_d, take_self, srcS_l, srcS_t, iSrc_eq, iZip_eq, zip_l, iEnm_eq, enum_l, pix0, pix1, pix2, pix3, pset1, pset2, pset3, gSub_eq, tYes_eq, eAdd_eq, eSub_eq, eMul_eq, eDiv_eq, eMod_eq, ePow_eq, eXor_eq, eNeg_eq, eIx_eq, eqI_t, eqI_f, tNot_eq, tAnd_eq, tOr_eq, tru_eq, tru_bool, tru_int, tru_list, eAnd_eq, eNot_eq, isi_eq, asD_d, List.length_cons, List.length_nil, List.map_cons, List.map_nil, List.cons_append, List.nil_append, List.append_nil, List.set_cons_succ, List.set_cons_zero, List.replicate_succ, List.replicate_zero, Option.map_some, if_true, if_false, reduceIte, Nat.reduceAdd, Nat.reduceSub, Nat.reduceLeDiff, List.length_map, Nat.reduceEqDiff, Bool.false_eq_true, Bool.not_false, Bool.not_true, ne_eq, not_true_eq_false, not_false_eq_true, decide_true, decide_false, eq_self, hand_rt, decide_eq_true_eq, sl_l, eSl_eq, oNone_eq, oSome_eq, hp, e2]
theorem rank_same {q : Int} (hq : QS q) {rows : List (Bool × List PyData)} {n c : Nat} (bb : Bool) (hr : ∀ p ∈ rows, p.2.length = n ∧ ∀ x ∈ p.2, Num q 3456 x) (hn : n ≤ 4) (hl : rows.length ≤ 5) (S : Store) (hc : S[c]? = some (.lst (rows.map fun p => .list p.2))) :
    ∃ k : Nat, F_field_rank [.d (.int q), .d (sq bb (rows.map fun p => sq p.1 p.2))] S = .ok (.d (.int k)) S ∧ F__law_rank_of [.d (.int q), .cell c] S = .ok (.d (.int k)) S := by
  by_cases h0 : q = 0
  · subst h0
    obtain ⟨rs, hrs, hP⟩ := unmap (f := fun (a : Bool × List (Int × Int)) => (a.1, a.2.map frD)) (P := fun a => (∀ x ∈ a.2, FrP x) ∧ a.2.length = n) fun p (mp : p ∈ rows) => by
      obtain ⟨h1, h2⟩ := hr p mp
      obtain ⟨ps, hps, hp⟩ := unmap (f := frD) (P := FrP) fun x (mx : x ∈ p.2) => by
        obtain ⟨a, d, rfl, u0, u1, u2, u3⟩ := h2 x mx
        exact ⟨(a, d), rfl, u0, u1, u2⟩
      refine ⟨(p.1, ps), ?_, hp, ?_⟩
      · rw [← hps]
      · rw [← h1, hps, List.length_map]
    subst hrs
    rw [List.map_map] at hc ⊢
    exact rank0 bb hP hn (by simpa using hl) S hc
  · obtain ⟨rs, hrs, hP⟩ := unmap (f := fun (a : Bool × List Int) => (a.1, a.2.map PyData.int)) (P := fun a => RowOk q 127 n a.2) fun p (mp : p ∈ rows) => by
      obtain ⟨h1, h2⟩ := hr p mp
      obtain ⟨ps, hps, hp⟩ := unmap (f := PyData.int) (P := Val q 127) fun x (mx : x ∈ p.2) => by
        have := h2 x mx
        unfold Num at this
        rw [if_neg h0] at this
        obtain ⟨a, rfl, u0, u1⟩ := this
        exact ⟨a, rfl, by unfold Val; rw [if_neg h0]; exact ⟨u0, u1⟩⟩
      refine ⟨(p.1, ps), ?_, ?_, hp⟩
      · rw [← hps]
      · rw [← h1, hps, List.length_map]
    subst hrs
    rw [List.map_map] at hc ⊢
    rcases hq with h | rfl | hq
    · exact absurd h h0
    · exact rankI fld4 h0 bb hP hn (by simpa using hl) S hc
    · exact rankI (fldP hq) h0 bb hP hn (by simpa using hl) S hc
end G06
namespace G06
open PySem L2 DL LinA
/-! ### 11. the law -/
inductive Rel2 {α β : Type} (R : α → β → Prop) : List α → List β → Prop
  | nil : Rel2 R [] []
  | cons {a : α} {b : β} {as : List α} {bs : List β} : R a b → Rel2 R as bs → Rel2 R (a :: as) (b :: bs)
theorem lcL_rel {ok : Store → Bool} {gf : GF} {ef : EF} {vs : List Nat} {Γ : Ev} (I : Store → Prop) (P : PyData → PyData → Prop) (hok : ∀ S, I S → ok S = true) : ∀ (xs : List PyData) (S : Store), I S →
    (∀ d ∈ xs, ∀ S, I S → (gf (.d d) (wipeE Γ vs) S).Ret fun Γ1 S1 => (ef Γ1 S1).Ret fun v S2 => (∃ x, v = .d x ∧ P d x) ∧ I S2) →
    (lcL ok gf tYesF ef vs Γ xs S).Ret fun ys S' => Rel2 P xs ys ∧ I S'
  | [], S, i, _ => by
    unfold lcL
    rw [if_pos (hok S i)]
    exact .of rfl ⟨.nil, i⟩
  | d :: ds, S, i, k => by
    unfold lcL
    rw [if_pos (hok S i)]
    obtain ⟨Γ1, S1, e1, h1⟩ := (k d (List.mem_cons_self ..) S i).ok
    obtain ⟨v, S2, e2, ⟨x, hx, hP⟩, i2⟩ := h1.ok
    subst hx
    simp only [e1, tYes_eq, e2]
    obtain ⟨ys, S3, e3, h3, i3⟩ := (lcL_rel I P hok ds S2 i2 fun d' m => k d' (List.mem_cons_of_mem _ m)).ok
    rw [e3]
    exact .of rfl ⟨.cons hP h3, i3⟩
/-- a row of numbers -/
def RowN (q : Int) (B n : Nat) (d : PyData) : Prop := ∃ xs : List PyData, d = .list xs ∧ xs.length = n ∧ ∀ x ∈ xs, Num q B x
theorem Num.mono {q : Int} {B C : Nat} {x : PyData} (h : Num q B x) (hc : B ≤ C) : Num q C x := by
  unfold Num at h ⊢
  by_cases h0 : q = 0
  · rw [if_pos h0] at h ⊢
    obtain ⟨n, d, rfl, u0, u1, u2, u3⟩ := h
    exact ⟨n, d, rfl, u0, Nat.le_trans u1 hc, Nat.le_trans u2 hc, u3⟩
  · rw [if_neg h0] at h ⊢
    exact h
theorem nul_num {q : Int} (hq : QS q) : Num q 12 (nul q) := by
  unfold Num nul
  by_cases h0 : q = 0
  · rw [if_pos h0, if_pos h0]
    exact ⟨0, 1, rfl, by decide, by decide, by decide, by decide⟩
  · rw [if_neg h0, if_neg h0]
    have := hq.lo
    exact ⟨0, rfl, by decide, by omega⟩
theorem gs_given : ∀ {ds ys : List PyData}, Rel2 (fun d y => ∃ (b : Bool) (xs : List PyData), d = .list xs ∧ y = sq b xs) ds ys → ∃ rows : List (Bool × List PyData), ds = rows.map (fun p => .list p.2) ∧ ys = rows.map fun p => sq p.1 p.2
  | _, _, .nil => ⟨[], rfl, rfl⟩
  | _, _, .cons ⟨b, xs, h1, h2⟩ r => by
    obtain ⟨rows, e1, e2⟩ := gs_given r
    subst h1 h2 e1 e2
    exact ⟨(b, xs) :: rows, rfl, rfl⟩
abbrev Γso (q : Int) (t a b m r u : Option SV) : Ev := [some (.cell 0), some (.d (.int q)), some (.d (nul q)), some (.d (eins q)), t, a, b, m, r, none, u, none]
/-- a row is drawn -/
theorem drawn_ok {q : Int} (hq : QS q) {n : Nat} (hn : n ≤ 4) (t a b r u : Option SV) (S : Store) (hS : ∃ P, S = [P] ∧ PoolOk P) : (C__law_so_1 (Γso q t a b (some (.d (.int n))) r u) S).Ret fun v S' => (∃ x, v = .d x ∧ RowN q 12 n x) ∧ ∃ P, S' = [P] ∧ PoolOk P := by
  unfold C__law_so_1
  have e0 : iRg (rg1 (eVar 7)) (Γso q t a b (some (.d (.int n))) r u) S = .ok ⟨rgD 0 n, fun _ => true⟩ S := iRg_ok (by simp -implicitDefEqProofs only [fSeq_eq, seqK_nx, seqK_rt, seqK_bk, seqK_ct, seqK_ite, eVar_0, eVar_s, bind_ok, sB_ok, eC_eq, eBin_eq, eUn_eq, iOp0_eq, iCmp_eq, tst_eq, addI, negI, fSet_eq, fRet_eq, fExpr_eq, fIf_eq, fAsg_eq, fPar_eq, fNil_eq, fBreak_eq, fCont_eq, gNm_eq, gsNil_eq, gsCons_eq, aNil_eq, aCons_eq, eCall_eq, eCallD_eq, intS_eq, absS_eq, mmS_eq, len_l, len_t, list_l, list_t, tup_l, tup_t, finF_eq, finC_eq, allD_nil, allD_cons, eTup_eq, eLst_eq, eIf_eq, runD_eq, hand_rt, handF_d, take_self, srcS_l, srcS_t, iSrc_eq, iZip_eq, zip_l, iEnm_eq, enum_l, pix0, pix1, pix2, pix3, pset1, pset2, pset3, gSub_eq, tYes_eq, eAdd_eq, eSub_eq, eMul_eq, eDiv_eq, eMod_eq, ePow_eq, eXor_eq, eNeg_eq, eIx_eq, eqI_t, eqI_f, tNot_eq, tAnd_eq, tOr_eq, tru_eq, tru_bool, tru_int, tru_list, eAnd_eq, eNot_eq, isi_eq, asD_d, List.length_cons, List.length_nil, List.map_cons, List.map_nil, List.cons_append, List.nil_append, List.append_nil, List.set_cons_succ, List.set_cons_zero, List.replicate_succ, List.replicate_zero, Option.map_some, if_true, if_false, reduceIte, Nat.reduceAdd, Nat.reduceSub, Nat.reduceLeDiff, List.length_map, Nat.reduceEqDiff, Bool.false_eq_true, Bool.not_false, Bool.not_true, ne_eq, not_true_eq_false, not_false_eq_true, decide_true, decide_false, eq_self, hand_rt, decide_eq_true_eq, sl_l, eSl_eq, oNone_eq, oSome_eq]) (by omega)
  rw [eLc_eq e0]
  have := lcL_ret (ok := fun _ => true) (gf := gNm 9) (ef := E__law_so_1) (vs := [9]) (Γ := Γso q t a b (some (.d (.int n))) r u) (fun S => ∃ P, S = [P] ∧ PoolOk P) (Num q 12) (fun _ _ => rfl) (rgD 0 n) S hS fun d md S1 hS1 => by
    rw [gNm_eq]
    refine Out.Ret.of rfl ?_
    obtain ⟨P, rfl, hP⟩ := hS1
    obtain ⟨v, S', e1, x, P1, rfl, hx, rfl, u1⟩ := (number_ok P q [] hP hq.lo.1 hq.lo.2).ok
    obtain ⟨v, S', e2, y, P2, rfl, hy, rfl, u2⟩ := (pick_ok P1 [nul q, x] [] u1 (by simp) (by simp)).ok
    have hev : E__law_so_1 (List.set (wipeE (Γso q t a b (some (.d (.int n))) r u) [9]) 9 (some (.d d))) [P] = .ok (.d y) [P2] := by
      simp -implicitDefEqProofs only [E__law_so_1, wipeE, fSeq_eq, seqK_nx, seqK_rt, seqK_bk, seqK_ct, seqK_ite, eVar_0, eVar_s, bind_ok, sB_ok, eC_eq, eBin_eq, eUn_eq, iOp0_eq, iCmp_eq, tst_eq, addI, negI, fSet_eq, fRet_eq, fExpr_eq, fIf_eq, fAsg_eq, fPar_eq, fNil_eq, fBreak_eq, fCont_eq, gNm_eq, gsNil_eq, gsCons_eq, aNil_eq, aCons_eq, eCall_eq, eCallD_eq, intS_eq, absS_eq, mmS_eq, len_l, len_t, list_l, list_t, tup_l, tup_t, finF_eq, finC_eq, allD_nil, allD_cons, eTup_eq, eLst_eq, eIf_eq, runD_eq, hand_rt, handF_d, take_self, srcS_l, srcS_t, iSrc_eq, iZip_eq, zip_l, iEnm_eq, enum_l, pix0, pix1, pix2, pix3, pset1, pset2, pset3, gSub_eq, tYes_eq, eAdd_eq, eSub_eq, eMul_eq, eDiv_eq, eMod_eq, ePow_eq, eXor_eq, eNeg_eq, eIx_eq, eqI_t, eqI_f, tNot_eq, tAnd_eq, tOr_eq, tru_eq, tru_bool, tru_int, tru_list, eAnd_eq, eNot_eq, isi_eq, asD_d, List.length_cons, List.length_nil, List.map_cons, List.map_nil, List.cons_append, List.nil_append, List.append_nil, List.set_cons_succ, List.set_cons_zero, List.replicate_succ, List.replicate_zero, Option.map_some, if_true, if_false, reduceIte, Nat.reduceAdd, Nat.reduceSub, Nat.reduceLeDiff, List.length_map, Nat.reduceEqDiff, Bool.false_eq_true, Bool.not_false, Bool.not_true, ne_eq, not_true_eq_false, not_false_eq_true, decide_true, decide_false, eq_self, hand_rt, decide_eq_true_eq, sl_l, eSl_eq, oNone_eq, oSome_eq, e1, e2]
    refine Out.Ret.of hev ⟨⟨y, rfl, ?_⟩, P2, rfl, u2⟩
    simp only [List.mem_cons, List.not_mem_nil, or_false] at hy
    rcases hy with rfl | rfl
    · exact nul_num hq
    · exact hx
  refine this.bind fun ys S2 ⟨h1, h2, h3⟩ => ?_
  rw [finF_eq, Ret_ok]
  refine ⟨⟨.list ys, rfl, ys, rfl, ?_, h2⟩, h3⟩
  rw [h1]
  rw [rgD_nat]
  simp
/-- the rows -/
theorem rows_ok {q : Int} (hq : QS q) {n : Nat} (hn : n ≤ 4) (t a b r u : Option SV) (P : MO) (hP : PoolOk P) : (C__law_so_2 (Γso q t a b (some (.d (.int n))) r u) [P]).Ret fun v S' => v = .cell 1 ∧ ∃ P' ds, S' = [P', .lst ds] ∧ PoolOk P' ∧ ds.length ≤ 5 ∧ ∀ d ∈ ds, RowN q 12 n d := by
  unfold C__law_so_2
  obtain ⟨v, S', e1, k, P1, rfl, h1, h2, rfl, u1⟩ := (take_ok P 6 [] hP (by decide) (by decide)).ok
  obtain ⟨k, rfl⟩ : ∃ m : Nat, k = m := ⟨k.toNat, by omega⟩
  have e0 : iRg (rg1 (eCallD 2 F__law_take (aCons (eVar 0) (aCons (eC (.int 6)) aNil)))) (Γso q t a b (some (.d (.int n))) r u) [P] = .ok ⟨rgD 0 k, fun _ => true⟩ [P1] := iRg_ok (by simp -implicitDefEqProofs only [fSeq_eq, seqK_nx, seqK_rt, seqK_bk, seqK_ct, seqK_ite, eVar_0, eVar_s, bind_ok, sB_ok, eC_eq, eBin_eq, eUn_eq, iOp0_eq, iCmp_eq, tst_eq, addI, negI, fSet_eq, fRet_eq, fExpr_eq, fIf_eq, fAsg_eq, fPar_eq, fNil_eq, fBreak_eq, fCont_eq, gNm_eq, gsNil_eq, gsCons_eq, aNil_eq, aCons_eq, eCall_eq, eCallD_eq, intS_eq, absS_eq, mmS_eq, len_l, len_t, list_l, list_t, tup_l, tup_t, finF_eq, finC_eq, allD_nil, allD_cons, eTup_eq, eLst_eq, eIf_eq, runD_eq, hand_rt, handF_d, take_self, srcS_l, srcS_t, iSrc_eq, iZip_eq, zip_l, iEnm_eq, enum_l, pix0, pix1, pix2, pix3, pset1, pset2, pset3, gSub_eq, tYes_eq, eAdd_eq, eSub_eq, eMul_eq, eDiv_eq, eMod_eq, ePow_eq, eXor_eq, eNeg_eq, eIx_eq, eqI_t, eqI_f, tNot_eq, tAnd_eq, tOr_eq, tru_eq, tru_bool, tru_int, tru_list, eAnd_eq, eNot_eq, isi_eq, asD_d, List.length_cons, List.length_nil, List.map_cons, List.map_nil, List.cons_append, List.nil_append, List.append_nil, List.set_cons_succ, List.set_cons_zero, List.replicate_succ, List.replicate_zero, Option.map_some, if_true, if_false, reduceIte, Nat.reduceAdd, Nat.reduceSub, Nat.reduceLeDiff, List.length_map, Nat.reduceEqDiff, Bool.false_eq_true, Bool.not_false, Bool.not_true, ne_eq, not_true_eq_false, not_false_eq_true, decide_true, decide_false, eq_self, hand_rt, decide_eq_true_eq, sl_l, eSl_eq, oNone_eq, oSome_eq, e1]) (by omega)
  rw [eLc_eq e0]
  have := lcL_ret (ok := fun _ => true) (gf := gNm 4) (ef := E__law_so_2) (vs := [4]) (Γ := Γso q t a b (some (.d (.int n))) r u) (fun S => ∃ P, S = [P] ∧ PoolOk P) (RowN q 12 n) (fun _ _ => rfl) (rgD 0 k) [P1] ⟨P1, rfl, u1⟩ fun d md S1 hS1 => by
    rw [gNm_eq, Ret_ok]
    exact drawn_ok hq hn (some (.d d)) a b r u S1 hS1
  refine this.bind fun ys S2 ⟨h3, h4, P2, h5, h6⟩ => ?_
  subst h5
  rw [finC_eq, Ret_ok]
  have hl : ys.length ≤ 5 := by
    rw [h3, rgD_nat]
    simp
    omega
  exact ⟨rfl, P2, ys, rfl, h6, hl, h4⟩
/-- the first row made anew -/
theorem anew_ok {q : Int} (hq : QS q) {n : Nat} (hn : n ≤ 4) (t a b : Option SV) (P : MO) (ds : List PyData) (hds : ∀ d ∈ ds, RowN q 12 n d) (h1 : 1 < ds.length) (x : PyData) (hx : Num q 12 x) :
    (C__law_so_3 (Γso q t a b (some (.d (.int n))) (some (.cell 1)) (some (.d x))) [P, .lst ds]).Ret fun v S' => (∃ y, v = .d y ∧ RowN q 3456 n y) ∧ S' = [P, .lst ds] := by
  unfold C__law_so_3
  have e0 : iRg (rg1 (eVar 7)) (Γso q t a b (some (.d (.int n))) (some (.cell 1)) (some (.d x))) [P, .lst ds] = .ok ⟨rgD 0 n, fun _ => true⟩ [P, .lst ds] := iRg_ok (by simp -implicitDefEqProofs only [fSeq_eq, seqK_nx, seqK_rt, seqK_bk, seqK_ct, seqK_ite, eVar_0, eVar_s, bind_ok, sB_ok, eC_eq, eBin_eq, eUn_eq, iOp0_eq, iCmp_eq, tst_eq, addI, negI, fSet_eq, fRet_eq, fExpr_eq, fIf_eq, fAsg_eq, fPar_eq, fNil_eq, fBreak_eq, fCont_eq, gNm_eq, gsNil_eq, gsCons_eq, aNil_eq, aCons_eq, eCall_eq, eCallD_eq, intS_eq, absS_eq, mmS_eq, len_l, len_t, list_l, list_t, tup_l, tup_t, finF_eq, finC_eq, allD_nil, allD_cons, eTup_eq, eLst_eq, eIf_eq, runD_eq, hand_rt, handF_d, take_self, srcS_l, srcS_t, iSrc_eq, iZip_eq, zip_l, iEnm_eq, enum_l, pix0, pix1, pix2, pix3, pset1, pset2, pset3, gSub_eq, tYes_eq, eAdd_eq, eSub_eq, eMul_eq, eDiv_eq, eMod_eq, ePow_eq, eXor_eq, eNeg_eq, eIx_eq, eqI_t, eqI_f, tNot_eq, tAnd_eq, tOr_eq, tru_eq, tru_bool, tru_int, tru_list, eAnd_eq, eNot_eq, isi_eq, asD_d, List.length_cons, List.length_nil, List.map_cons, List.map_nil, List.cons_append, List.nil_append, List.append_nil, List.set_cons_succ, List.set_cons_zero, List.replicate_succ, List.replicate_zero, Option.map_some, if_true, if_false, reduceIte, Nat.reduceAdd, Nat.reduceSub, Nat.reduceLeDiff, List.length_map, Nat.reduceEqDiff, Bool.false_eq_true, Bool.not_false, Bool.not_true, ne_eq, not_true_eq_false, not_false_eq_true, decide_true, decide_false, eq_self, hand_rt, decide_eq_true_eq, sl_l, eSl_eq, oNone_eq, oSome_eq]) (by omega)
  rw [eLc_eq e0]
  obtain ⟨xs, hxs, lx, nx⟩ := hds ds[1] (List.getElem_mem _)
  obtain ⟨ys, hys, ly, ny⟩ := hds (ds[ds.length - 1]'(by omega)) (List.getElem_mem _)
  have i1 : ixS (.cell 1) (.d (.int 1)) [P, .lst ds] = .ok (.d (.list xs)) [P, .lst ds] := by
    refine ix_c (xs := ds) rfl (ix_nat (i := 1) ?_)
    rw [List.getElem?_eq_getElem h1, hxs]
  have i2 : ixS (.cell 1) (.d (.int (-1))) [P, .lst ds] = .ok (.d (.list ys)) [P, .lst ds] := by
    refine ix_c (xs := ds) rfl ?_
    have e : ixN ds.length (-1) = some (ds.length - 1) := by
      unfold ixN
      rw [if_neg (by decide), if_pos (by omega), show ((-1 : Int) + ds.length).toNat = ds.length - 1 by omega]
    unfold atI
    rw [e]
    show ds[ds.length - 1]? = _
    rw [List.getElem?_eq_getElem (by omega), hys]
  have := lcL_ret (ok := fun _ => true) (gf := gNm 9) (ef := E__law_so_3) (vs := [9]) (Γ := Γso q t a b (some (.d (.int n))) (some (.cell 1)) (some (.d x))) (fun S => S = [P, .lst ds]) (Num q 3456) (fun _ _ => rfl) (rgD 0 n) [P, .lst ds] rfl fun d md S1 hS1 => by
    subst hS1
    obtain ⟨k, hk, rfl⟩ := range_mem md
    rw [gNm_eq]
    refine Out.Ret.of rfl ?_
    have k1 : k < xs.length := by omega
    have k2 : k < ys.length := by omega
    obtain ⟨p, p1, p2, p3⟩ := prod_ok hq [P, .lst ds] hx (ny _ (List.getElem_mem k2)) (by decide) (by decide) (by decide)
    obtain ⟨s, s1, s2, s3⟩ := sum_ok hq [P, .lst ds] (nx _ (List.getElem_mem k1)) p3 (by decide) (by decide) (by decide)
    have j1 : ixS (.d (.list xs)) (.d (.int k)) [P, .lst ds] = .ok (.d xs[k]) [P, .lst ds] := ix_l _ (ix_nat (List.getElem?_eq_getElem k1))
    have j2 : ixS (.d (.list ys)) (.d (.int k)) [P, .lst ds] = .ok (.d ys[k]) [P, .lst ds] := ix_l _ (ix_nat (List.getElem?_eq_getElem k2))
    have hev : E__law_so_3 (List.set (wipeE (Γso q t a b (some (.d (.int n))) (some (.cell 1)) (some (.d x))) [9]) 9 (some (.d (.int k)))) [P, .lst ds] = .ok (.d s) [P, .lst ds] := by
      simp -implicitDefEqProofs only [E__law_so_3, wipeE, fSeq_eq, seqK_nx, seqK_rt, seqK_bk, seqK_ct, seqK_ite, eVar_0, eVar_s, bind_ok, sB_ok, eC_eq, eBin_eq, eUn_eq, iOp0_eq, iCmp_eq, tst_eq, addI, negI, fSet_eq, fRet_eq, fExpr_eq, fIf_eq, fAsg_eq, fPar_eq, fNil_eq, fBreak_eq, fCont_eq, gNm_eq, gsNil_eq, gsCons_eq, aNil_eq, aCons_eq, eCall_eq, eCallD_eq, intS_eq, absS_eq, mmS_eq, len_l, len_t, list_l, list_t, tup_l, tup_t, finF_eq, finC_eq, allD_nil, allD_cons, eTup_eq, eLst_eq, eIf_eq, runD_eq, hand_rt, handF_d, take_self, srcS_l, srcS_t, iSrc_eq, iZip_eq, zip_l, iEnm_eq, enum_l, pix0, pix1, pix2, pix3, pset1, pset2, pset3, gSub_eq, tYes_eq, eAdd_eq, eSub_eq, eMul_eq, eDiv_eq, eMod_eq, ePow_eq, eXor_eq, eNeg_eq, eIx_eq, eqI_t, eqI_f, tNot_eq, tAnd_eq, tOr_eq, tru_eq, tru_bool, tru_int, tru_list, eAnd_eq, eNot_eq, isi_eq, asD_d, List.length_cons, List.length_nil, List.map_cons, List.map_nil, List.cons_append, List.nil_append, List.append_nil, List.set_cons_succ, List.set_cons_zero, List.replicate_succ, List.replicate_zero, Option.map_some, if_true, if_false, reduceIte, Nat.reduceAdd, Nat.reduceSub, Nat.reduceLeDiff, List.length_map, Nat.reduceEqDiff, Bool.false_eq_true, Bool.not_false, Bool.not_true, ne_eq, not_true_eq_false, not_false_eq_true, decide_true, decide_false, eq_self, hand_rt, decide_eq_true_eq, sl_l, eSl_eq, oNone_eq, oSome_eq, i1, i2, j1, j2, p2, s2]
    exact Out.Ret.of hev ⟨⟨s, rfl, s3.mono (by omega)⟩, rfl⟩
  refine this.bind fun zs S2 ⟨h3, h4, h5⟩ => ?_
  rw [finF_eq, Ret_ok]
  refine ⟨⟨.list zs, rfl, zs, rfl, ?_, h4⟩, h5⟩
  rw [h3, rgD_nat]
  simp
/-- the rows are handed on -/
theorem handed_ok {q : Int} {n : Nat} (t a b m u : Option SV) (P : MO) (hP : PoolOk P) (ds : List PyData) (hds : ∀ d ∈ ds, RowN q 3456 n d) :
    (C__law_so_4 (Γso q t a b m (some (.cell 1)) u) [P, .lst ds]).Ret fun v S' => ∃ (rows : List (Bool × List PyData)) (P' : MO), v = .d (.list (rows.map fun p => sq p.1 p.2)) ∧ ds = rows.map (fun p => .list p.2) ∧ S' = [P', .lst ds] ∧ PoolOk P' := by
  unfold C__law_so_4
  have hc : ∀ P : MO, ([P, .lst ds] : Store)[1]? = some (.lst ds) := fun _ => rfl
  obtain ⟨ok, s1, s2⟩ := srcS_c (hc P)
  have hnum : ∀ x, Num q 3456 x → eqP x x = true := fun x h => by
    unfold Num at h
    by_cases h0 : q = 0
    · rw [if_pos h0] at h
      obtain ⟨n, d, rfl, _⟩ := h
      refine eqP_tuple fun z mz => ?_
      simp only [List.mem_cons, List.not_mem_nil, or_false] at mz
      rcases mz with rfl | rfl <;> exact eqP_int _
    · rw [if_neg h0] at h
      obtain ⟨n, rfl, _⟩ := h
      exact eqP_int _
  have hself : eqPs ds ds = true := eqPs_refl fun x m => by
    obtain ⟨xs, rfl, _, h⟩ := hds x m
    exact eqP_list fun y my => hnum y (h y my)
  have e0 : iSrc (eVar 8) (Γso q t a b m (some (.cell 1)) u) [P, .lst ds] = .ok ⟨ds, ok⟩ [P, .lst ds] := by
    rw [iSrc_eq]
    simp -implicitDefEqProofs only [fSeq_eq, seqK_nx, seqK_rt, seqK_bk, seqK_ct, seqK_ite, eVar_0, eVar_s, bind_ok, sB_ok, eC_eq, eBin_eq, eUn_eq, iOp0_eq, iCmp_eq, tst_eq, addI, negI, fSet_eq, fRet_eq, fExpr_eq, fIf_eq, fAsg_eq, fPar_eq, fNil_eq, fBreak_eq, fCont_eq, gNm_eq, gsNil_eq, gsCons_eq, aNil_eq, aCons_eq, eCall_eq, eCallD_eq, intS_eq, absS_eq, mmS_eq, len_l, len_t, list_l, list_t, tup_l, tup_t, finF_eq, finC_eq, allD_nil, allD_cons, eTup_eq, eLst_eq, eIf_eq, runD_eq, hand_rt, handF_d, take_self, srcS_l, srcS_t, iSrc_eq, iZip_eq, zip_l, iEnm_eq, enum_l, pix0, pix1, pix2, pix3, pset1, pset2, pset3, gSub_eq, tYes_eq, eAdd_eq, eSub_eq, eMul_eq, eDiv_eq, eMod_eq, ePow_eq, eXor_eq, eNeg_eq, eIx_eq, eqI_t, eqI_f, tNot_eq, tAnd_eq, tOr_eq, tru_eq, tru_bool, tru_int, tru_list, eAnd_eq, eNot_eq, isi_eq, asD_d, List.length_cons, List.length_nil, List.map_cons, List.map_nil, List.cons_append, List.nil_append, List.append_nil, List.set_cons_succ, List.set_cons_zero, List.replicate_succ, List.replicate_zero, Option.map_some, if_true, if_false, reduceIte, Nat.reduceAdd, Nat.reduceSub, Nat.reduceLeDiff, List.length_map, Nat.reduceEqDiff, Bool.false_eq_true, Bool.not_false, Bool.not_true, ne_eq, not_true_eq_false, not_false_eq_true, decide_true, decide_false, eq_self, hand_rt, decide_eq_true_eq, sl_l, eSl_eq, oNone_eq, oSome_eq, s1]
  rw [eLc_eq e0]
  have := lcL_rel (ok := ok) (gf := gNm 11) (ef := E__law_so_4) (vs := [11]) (Γ := Γso q t a b m (some (.cell 1)) u) (fun S => ∃ P, S = [P, .lst ds] ∧ PoolOk P) (fun d y => ∃ (b : Bool) (xs : List PyData), d = .list xs ∧ y = sq b xs) (fun S ⟨P, h, _⟩ => by subst h; exact s2 _ (hc P) hself) ds [P, .lst ds] ⟨P, rfl, hP⟩ fun d md S1 hS1 => by
    obtain ⟨P1, rfl, h1⟩ := hS1
    obtain ⟨xs, rfl, _, _⟩ := hds d md
    rw [gNm_eq]
    refine Out.Ret.of rfl ?_
    obtain ⟨v, S', e1, bb, P2, rfl, rfl, u1⟩ := (given_ok P1 xs [.lst ds] h1).ok
    have hev : E__law_so_4 (List.set (wipeE (Γso q t a b m (some (.cell 1)) u) [11]) 11 (some (.d (.list xs)))) [P1, .lst ds] = .ok (.d (sq bb xs)) [P2, .lst ds] := by
      simp -implicitDefEqProofs only [E__law_so_4, wipeE, fSeq_eq, seqK_nx, seqK_rt, seqK_bk, seqK_ct, seqK_ite, eVar_0, eVar_s, bind_ok, sB_ok, eC_eq, eBin_eq, eUn_eq, iOp0_eq, iCmp_eq, tst_eq, addI, negI, fSet_eq, fRet_eq, fExpr_eq, fIf_eq, fAsg_eq, fPar_eq, fNil_eq, fBreak_eq, fCont_eq, gNm_eq, gsNil_eq, gsCons_eq, aNil_eq, aCons_eq, eCall_eq, eCallD_eq, intS_eq, absS_eq, mmS_eq, len_l, len_t, list_l, list_t, tup_l, tup_t, finF_eq, finC_eq, allD_nil, allD_cons, eTup_eq, eLst_eq, eIf_eq, runD_eq, hand_rt, handF_d, take_self, srcS_l, srcS_t, iSrc_eq, iZip_eq, zip_l, iEnm_eq, enum_l, pix0, pix1, pix2, pix3, pset1, pset2, pset3, gSub_eq, tYes_eq, eAdd_eq, eSub_eq, eMul_eq, eDiv_eq, eMod_eq, ePow_eq, eXor_eq, eNeg_eq, eIx_eq, eqI_t, eqI_f, tNot_eq, tAnd_eq, tOr_eq, tru_eq, tru_bool, tru_int, tru_list, eAnd_eq, eNot_eq, isi_eq, asD_d, List.length_cons, List.length_nil, List.map_cons, List.map_nil, List.cons_append, List.nil_append, List.append_nil, List.set_cons_succ, List.set_cons_zero, List.replicate_succ, List.replicate_zero, Option.map_some, if_true, if_false, reduceIte, Nat.reduceAdd, Nat.reduceSub, Nat.reduceLeDiff, List.length_map, Nat.reduceEqDiff, Bool.false_eq_true, Bool.not_false, Bool.not_true, ne_eq, not_true_eq_false, not_false_eq_true, decide_true, decide_false, eq_self, hand_rt, decide_eq_true_eq, sl_l, eSl_eq, oNone_eq, oSome_eq, e1]
    exact Out.Ret.of hev ⟨⟨_, rfl, bb, xs, rfl, rfl⟩, P2, rfl, u1⟩
  refine this.bind fun zs S2 ⟨h3, P2, h4, h5⟩ => ?_
  obtain ⟨rows, r1, r2⟩ := gs_given h3
  rw [finF_eq, Ret_ok]
  exact ⟨rows, P2, by rw [r2], r1, h4, h5⟩
end G06
namespace G06
open PySem L2 DL LinA
theorem so_start {q : Int} (S : Store) : (fAsg (eIf (tst (eBin (eqS false) (eVar 1) (eC (.int 0)))) (eTup (aCons (eTup (aCons (eC (.int 0)) (aCons (eC (.int 1)) aNil))) (aCons (eTup (aCons (eC (.int 1)) (aCons (eC (.int 1)) aNil))) aNil))) (eTup (aCons (eC (.int 0)) (aCons (eC (.int 1)) aNil)))) (gTupF 2 (gsCons (gNm 2) (gsCons (gNm 3) gsNil))))
    [some (.cell 0), some (.d (.int q)), none, none, none, none, none, none, none, none, none, none] S = .ok (.nx (Γso q none none none none none none)) S := by
  have ht : ∀ a b S Γ, gTupF 2 (gsCons (gNm 2) (gsCons (gNm 3) gsNil)) (.d (.tuple [a, b])) Γ S = .ok ((Γ.set 2 (some (.d a))).set 3 (some (.d b))) S := fun _ _ _ _ => rfl
  by_cases h0 : q = 0
  · subst h0
    simp -implicitDefEqProofs only [fSeq_eq, seqK_nx, seqK_rt, seqK_bk, seqK_ct, seqK_ite, eVar_0, eVar_s, bind_ok, sB_ok, eC_eq, eBin_eq, eUn_eq, iOp0_eq, iCmp_eq, tst_eq, addI, negI, fSet_eq, fRet_eq, fExpr_eq, fIf_eq, fAsg_eq, fPar_eq, fNil_eq, fBreak_eq, fCont_eq, gNm_eq, gsNil_eq, gsCons_eq, aNil_eq, aCons_eq, eCall_eq, eCallD_eq, intS_eq, absS_eq, mmS_eq, len_l, len_t, list_l, list_t, tup_l, tup_t, finF_eq, finC_eq, allD_nil, allD_cons, eTup_eq, eLst_eq, eIf_eq, runD_eq, hand_rt, handF_d, take_self, srcS_l, srcS_t, iSrc_eq, iZip_eq, zip_l, iEnm_eq, enum_l, pix0, pix1, pix2, pix3, pset1, pset2, pset3, gSub_eq, tYes_eq, eAdd_eq, eSub_eq, eMul_eq, eDiv_eq, eMod_eq, ePow_eq, eXor_eq, eNeg_eq, eIx_eq, eqI_t, eqI_f, tNot_eq, tAnd_eq, tOr_eq, tru_eq, tru_bool, tru_int, tru_list, eAnd_eq, eNot_eq, isi_eq, asD_d, List.length_cons, List.length_nil, List.map_cons, List.map_nil, List.cons_append, List.nil_append, List.append_nil, List.set_cons_succ, List.set_cons_zero, List.replicate_succ, List.replicate_zero, Option.map_some, if_true, if_false, reduceIte, Nat.reduceAdd, Nat.reduceSub, Nat.reduceLeDiff, List.length_map, Nat.reduceEqDiff, Bool.false_eq_true, Bool.not_false, Bool.not_true, ne_eq, not_true_eq_false, not_false_eq_true, decide_true, decide_false, eq_self, hand_rt, decide_eq_true_eq, sl_l, eSl_eq, oNone_eq, oSome_eq, ht]
    rfl
  · have e1 : nul q = .int 0 := if_neg h0
    have e2 : eins q = .int 1 := if_neg h0
    simp -implicitDefEqProofs only [fSeq_eq, seqK_nx, seqK_rt, seqK_bk, seqK_ct, seqK_ite, eVar_0, eVar_s, bind_ok, sB_ok, eC_eq, eBin_eq, eUn_eq, iOp0_eq, iCmp_eq, tst_eq, addI, negI, fSet_eq, fRet_eq, fExpr_eq, fIf_eq, fAsg_eq, fPar_eq, fNil_eq, fBreak_eq, fCont_eq, gNm_eq, gsNil_eq, gsCons_eq, aNil_eq, aCons_eq, eCall_eq, eCallD_eq, intS_eq, absS_eq, mmS_eq, len_l, len_t, list_l, list_t, tup_l, tup_t, finF_eq, finC_eq, allD_nil, allD_cons, eTup_eq, eLst_eq, eIf_eq, runD_eq, hand_rt, handF_d, take_self, srcS_l, srcS_t, iSrc_eq, iZip_eq, zip_l, iEnm_eq, enum_l, pix0, pix1, pix2, pix3, pset1, pset2, pset3, gSub_eq, tYes_eq, eAdd_eq, eSub_eq, eMul_eq, eDiv_eq, eMod_eq, ePow_eq, eXor_eq, eNeg_eq, eIx_eq, eqI_t, eqI_f, tNot_eq, tAnd_eq, tOr_eq, tru_eq, tru_bool, tru_int, tru_list, eAnd_eq, eNot_eq, isi_eq, asD_d, List.length_cons, List.length_nil, List.map_cons, List.map_nil, List.cons_append, List.nil_append, List.append_nil, List.set_cons_succ, List.set_cons_zero, List.replicate_succ, List.replicate_zero, Option.map_some, if_true, if_false, reduceIte, Nat.reduceAdd, Nat.reduceSub, Nat.reduceLeDiff, List.length_map, Nat.reduceEqDiff, Bool.false_eq_true, Bool.not_false, Bool.not_true, ne_eq, not_true_eq_false, not_false_eq_true, decide_true, decide_false, eq_self, hand_rt, decide_eq_true_eq, sl_l, eSl_eq, oNone_eq, oSome_eq, h0, ht]
    rw [Γso, e1, e2]
theorem ret_ok {ε : Type} {o : Out ε} {P : ε → Store → Prop} (h : o.Ret P) : ∃ a S, o = .ok a S ∧ P a S := h.ok
theorem so_ok {q : Int} (hq : QS q) (P : MO) (hP : PoolOk P) : (F__law_so [.cell 0, .d (.int q)] [P]).Ret fun v S' => v = .d (.bool true) ∧ ∃ P', S' = [P'] ∧ PoolOk P' := by
  obtain ⟨fl, S', e2, t, a, b, P1, rfl, rfl, h1⟩ := (turns_ok hq P [] hP).ok
  obtain ⟨v, S', e3, n, P2, rfl, n0, n1, rfl, h2⟩ := (take_ok P1 5 [] h1 (by decide) (by decide)).ok
  obtain ⟨n, rfl⟩ : ∃ m : Nat, n = m := ⟨n.toNat, by omega⟩
  have hn : n ≤ 4 := by omega
  obtain ⟨v, S', e4, rfl, P3, ds, rfl, h3, hdl, hds⟩ := (rows_ok hq hn t a b none none P2 h2).ok
  -- the first row, made anew or not
  have mid : ∃ (P4 : MO) (ds2 : List PyData) (u : Option SV), PoolOk P4 ∧ ds2.length ≤ 5 ∧ (∀ d ∈ ds2, RowN q 3456 n d) ∧
      fIf (tAndF (tst (eBin (iCmp fun i j => decide (j < i)) (eCall lenS (aCons (eVar 8) aNil)) (eC (.int 1)))) (tst (eBin (eqS false) (eCallD 2 F__law_take (aCons (eVar 0) (aCons (eC (.int 2)) aNil))) (eC (.int 0))))) (fSeq (fSet 10 (eCallD 2 F__law_number (aCons (eVar 0) (aCons (eVar 1) aNil))))
        (fAsg C__law_so_3 (gSubF (eVar 8) (eC (.int 0))))) fNil (Γso q t a b (some (.d (.int n))) (some (.cell 1)) none) [P3, .lst ds] = .ok (.nx (Γso q t a b (some (.d (.int n))) (some (.cell 1)) u)) [P4, .lst ds2] := by
    have hl : ∀ P, lenS [.cell 1] [P, .lst ds] = .ok (.d (.int ds.length)) [P, .lst ds] := fun P => len_c rfl
    have hbig : ∀ d ∈ ds, RowN q 3456 n d := fun d m => by
      obtain ⟨xs, x1, x2, x3⟩ := hds d m
      exact ⟨xs, x1, x2, fun y my => (x3 y my).mono (by omega)⟩
    by_cases hlen : (1 : Int) < ds.length
    · obtain ⟨v, S', e5, z, P4, rfl, z0, z1, rfl, h4⟩ := (take_ok P3 2 [.lst ds] h3 (by decide) (by decide)).ok
      by_cases hz : z = 0
      · obtain ⟨v, S', e6, x, P5, rfl, hx, rfl, h5⟩ := (number_ok P4 q [.lst ds] h4 hq.lo.1 hq.lo.2).ok
        obtain ⟨v, S', e7, ⟨y, rfl, hy⟩, rfl⟩ := (anew_ok hq hn t a b P5 ds hds (by omega) x hx).ok
        have hset : setS (.cell 1) (.d (.int 0)) (.d y) [P5, .lst ds] = .ok () [P5, .lst (ds.set 0 y)] := by
          have e : ixN ds.length 0 = some 0 := by
            unfold ixN
            rw [if_pos (by decide), if_pos (by omega)]
            rfl
          show (match ixN ds.length 0 with | some j => _ | none => _) = _
          rw [e]
          rfl
        refine ⟨P5, ds.set 0 y, some (.d x), h5, by rw [List.length_set]; exact hdl, fun d m => ?_, ?_⟩
        · rcases List.mem_or_eq_of_mem_set m with m | rfl
          · exact hbig d m
          · exact hy
        · simp -implicitDefEqProofs only [fSeq_eq, seqK_nx, seqK_rt, seqK_bk, seqK_ct, seqK_ite, eVar_0, eVar_s, bind_ok, sB_ok, eC_eq, eBin_eq, eUn_eq, iOp0_eq, iCmp_eq, tst_eq, addI, negI, fSet_eq, fRet_eq, fExpr_eq, fIf_eq, fAsg_eq, fPar_eq, fNil_eq, fBreak_eq, fCont_eq, gNm_eq, gsNil_eq, gsCons_eq, aNil_eq, aCons_eq, eCall_eq, eCallD_eq, intS_eq, absS_eq, mmS_eq, len_l, len_t, list_l, list_t, tup_l, tup_t, finF_eq, finC_eq, allD_nil, allD_cons, eTup_eq, eLst_eq, eIf_eq, runD_eq, hand_rt, handF_d, take_self, srcS_l, srcS_t, iSrc_eq, iZip_eq, zip_l, iEnm_eq, enum_l, pix0, pix1, pix2, pix3, pset1, pset2, pset3, gSub_eq, tYes_eq, eAdd_eq, eSub_eq, eMul_eq, eDiv_eq, eMod_eq, ePow_eq, eXor_eq, eNeg_eq, eIx_eq, eqI_t, eqI_f, tNot_eq, tAnd_eq, tOr_eq, tru_eq, tru_bool, tru_int, tru_list, eAnd_eq, eNot_eq, isi_eq, asD_d, List.length_cons, List.length_nil, List.map_cons, List.map_nil, List.cons_append, List.nil_append, List.append_nil, List.set_cons_succ, List.set_cons_zero, List.replicate_succ, List.replicate_zero, Option.map_some, if_true, if_false, reduceIte, Nat.reduceAdd, Nat.reduceSub, Nat.reduceLeDiff, List.length_map, Nat.reduceEqDiff, Bool.false_eq_true, Bool.not_false, Bool.not_true, ne_eq, not_true_eq_false, not_false_eq_true, decide_true, decide_false, eq_self, hand_rt, decide_eq_true_eq, sl_l, eSl_eq, oNone_eq, oSome_eq, hl, hlen, e5, hz, e6, e7, hset]
      · refine ⟨P4, ds, none, h4, hdl, hbig, ?_⟩
        simp -implicitDefEqProofs only [fSeq_eq, seqK_nx, seqK_rt, seqK_bk, seqK_ct, seqK_ite, eVar_0, eVar_s, bind_ok, sB_ok, eC_eq, eBin_eq, eUn_eq, iOp0_eq, iCmp_eq, tst_eq, addI, negI, fSet_eq, fRet_eq, fExpr_eq, fIf_eq, fAsg_eq, fPar_eq, fNil_eq, fBreak_eq, fCont_eq, gNm_eq, gsNil_eq, gsCons_eq, aNil_eq, aCons_eq, eCall_eq, eCallD_eq, intS_eq, absS_eq, mmS_eq, len_l, len_t, list_l, list_t, tup_l, tup_t, finF_eq, finC_eq, allD_nil, allD_cons, eTup_eq, eLst_eq, eIf_eq, runD_eq, hand_rt, handF_d, take_self, srcS_l, srcS_t, iSrc_eq, iZip_eq, zip_l, iEnm_eq, enum_l, pix0, pix1, pix2, pix3, pset1, pset2, pset3, gSub_eq, tYes_eq, eAdd_eq, eSub_eq, eMul_eq, eDiv_eq, eMod_eq, ePow_eq, eXor_eq, eNeg_eq, eIx_eq, eqI_t, eqI_f, tNot_eq, tAnd_eq, tOr_eq, tru_eq, tru_bool, tru_int, tru_list, eAnd_eq, eNot_eq, isi_eq, asD_d, List.length_cons, List.length_nil, List.map_cons, List.map_nil, List.cons_append, List.nil_append, List.append_nil, List.set_cons_succ, List.set_cons_zero, List.replicate_succ, List.replicate_zero, Option.map_some, if_true, if_false, reduceIte, Nat.reduceAdd, Nat.reduceSub, Nat.reduceLeDiff, List.length_map, Nat.reduceEqDiff, Bool.false_eq_true, Bool.not_false, Bool.not_true, ne_eq, not_true_eq_false, not_false_eq_true, decide_true, decide_false, eq_self, hand_rt, decide_eq_true_eq, sl_l, eSl_eq, oNone_eq, oSome_eq, hl, hlen, e5, hz]
    · refine ⟨P3, ds, none, h3, hdl, hbig, ?_⟩
      simp -implicitDefEqProofs only [fSeq_eq, seqK_nx, seqK_rt, seqK_bk, seqK_ct, seqK_ite, eVar_0, eVar_s, bind_ok, sB_ok, eC_eq, eBin_eq, eUn_eq, iOp0_eq, iCmp_eq, tst_eq, addI, negI, fSet_eq, fRet_eq, fExpr_eq, fIf_eq, fAsg_eq, fPar_eq, fNil_eq, fBreak_eq, fCont_eq, gNm_eq, gsNil_eq, gsCons_eq, aNil_eq, aCons_eq, eCall_eq, eCallD_eq, intS_eq, absS_eq, mmS_eq, len_l, len_t, list_l, list_t, tup_l, tup_t, finF_eq, finC_eq, allD_nil, allD_cons, eTup_eq, eLst_eq, eIf_eq, runD_eq, hand_rt, handF_d, take_self, srcS_l, srcS_t, iSrc_eq, iZip_eq, zip_l, iEnm_eq, enum_l, pix0, pix1, pix2, pix3, pset1, pset2, pset3, gSub_eq, tYes_eq, eAdd_eq, eSub_eq, eMul_eq, eDiv_eq, eMod_eq, ePow_eq, eXor_eq, eNeg_eq, eIx_eq, eqI_t, eqI_f, tNot_eq, tAnd_eq, tOr_eq, tru_eq, tru_bool, tru_int, tru_list, eAnd_eq, eNot_eq, isi_eq, asD_d, List.length_cons, List.length_nil, List.map_cons, List.map_nil, List.cons_append, List.nil_append, List.append_nil, List.set_cons_succ, List.set_cons_zero, List.replicate_succ, List.replicate_zero, Option.map_some, if_true, if_false, reduceIte, Nat.reduceAdd, Nat.reduceSub, Nat.reduceLeDiff, List.length_map, Nat.reduceEqDiff, Bool.false_eq_true, Bool.not_false, Bool.not_true, ne_eq, not_true_eq_false, not_false_eq_true, decide_true, decide_false, eq_self, hand_rt, decide_eq_true_eq, sl_l, eSl_eq, oNone_eq, oSome_eq, hl, hlen]
  obtain ⟨P4, ds2, u, h4, hdl2, hds2, e5⟩ := mid
  obtain ⟨v, S', e6, rows, P5, rfl, rfl, rfl, h5⟩ := (handed_ok t a b (some (.d (.int n))) u P4 h4 ds2 hds2).ok
  obtain ⟨v, S', e7, bb, P6, rfl, rfl, h6⟩ := (given_ok P5 (rows.map fun p => sq p.1 p.2) [.lst (rows.map fun p => .list p.2)] h5).ok
  obtain ⟨k, e8, e9⟩ := rank_same hq (rows := rows) (n := n) (c := 1) bb (fun p m => by
    obtain ⟨xs, x1, x2, x3⟩ := hds2 (.list p.2) (List.mem_map.mpr ⟨p, m, rfl⟩)
    injection x1 with x1
    rw [x1]
    exact ⟨x2, x3⟩) hn (by simpa using hdl2) [P6, .lst (rows.map fun p => .list p.2)] rfl
  have e10 : ∀ S, F__law_same [.d (.int k), .d (.int k)] S = .ok (.d (.bool true)) S := fun S => by
    have := same_int (F__law_same_at 5) k k S
    rw [decide_eq_true rfl] at this
    exact this
  have e1 := so_start (q := q) [P]
  have hev : b__law_so [some (.cell 0), some (.d (.int q)), none, none, none, none, none, none, none, none, none, none] [P] = .ok (.rt (.d (.bool true))) [P6, .lst (rows.map fun p => .list p.2)] := by
    unfold b__law_so
    rw [fSeq_eq, e1, seqK_nx, fSeq_eq, e2, seqK_nx, fSeq_eq]
    have s1 : fSet 7 (eCallD 2 F__law_take (aCons (eVar 0) (aCons (eC (.int 5)) aNil))) (Γso q t a b none none none) [P1] = .ok (.nx (Γso q t a b (some (.d (.int n))) none none)) [P2] := by
      simp -implicitDefEqProofs only [fSeq_eq, seqK_nx, seqK_rt, seqK_bk, seqK_ct, seqK_ite, eVar_0, eVar_s, bind_ok, sB_ok, eC_eq, eBin_eq, eUn_eq, iOp0_eq, iCmp_eq, tst_eq, addI, negI, fSet_eq, fRet_eq, fExpr_eq, fIf_eq, fAsg_eq, fPar_eq, fNil_eq, fBreak_eq, fCont_eq, gNm_eq, gsNil_eq, gsCons_eq, aNil_eq, aCons_eq, eCall_eq, eCallD_eq, intS_eq, absS_eq, mmS_eq, len_l, len_t, list_l, list_t, tup_l, tup_t, finF_eq, finC_eq, allD_nil, allD_cons, eTup_eq, eLst_eq, eIf_eq, runD_eq, hand_rt, handF_d, take_self, srcS_l, srcS_t, iSrc_eq, iZip_eq, zip_l, iEnm_eq, enum_l, pix0, pix1, pix2, pix3, pset1, pset2, pset3, gSub_eq, tYes_eq, eAdd_eq, eSub_eq, eMul_eq, eDiv_eq, eMod_eq, ePow_eq, eXor_eq, eNeg_eq, eIx_eq, eqI_t, eqI_f, tNot_eq, tAnd_eq, tOr_eq, tru_eq, tru_bool, tru_int, tru_list, eAnd_eq, eNot_eq, isi_eq, asD_d, List.length_cons, List.length_nil, List.map_cons, List.map_nil, List.cons_append, List.nil_append, List.append_nil, List.set_cons_succ, List.set_cons_zero, List.replicate_succ, List.replicate_zero, Option.map_some, if_true, if_false, reduceIte, Nat.reduceAdd, Nat.reduceSub, Nat.reduceLeDiff, List.length_map, Nat.reduceEqDiff, Bool.false_eq_true, Bool.not_false, Bool.not_true, ne_eq, not_true_eq_false, not_false_eq_true, decide_true, decide_false, eq_self, hand_rt, decide_eq_true_eq, sl_l, eSl_eq, oNone_eq, oSome_eq, e3]
    rw [s1, seqK_nx, fSeq_eq]
    have s2 : fSet 8 C__law_so_2 (Γso q t a b (some (.d (.int n))) none none) [P2] = .ok (.nx (Γso q t a b (some (.d (.int n))) (some (.cell 1)) none)) [P3, .lst ds] := by
      rw [fSet_eq, e4, sB_ok]
      rfl
    rw [s2, seqK_nx, fSeq_eq, e5, seqK_nx]
    simp -implicitDefEqProofs only [fSeq_eq, seqK_nx, seqK_rt, seqK_bk, seqK_ct, seqK_ite, eVar_0, eVar_s, bind_ok, sB_ok, eC_eq, eBin_eq, eUn_eq, iOp0_eq, iCmp_eq, tst_eq, addI, negI, fSet_eq, fRet_eq, fExpr_eq, fIf_eq, fAsg_eq, fPar_eq, fNil_eq, fBreak_eq, fCont_eq, gNm_eq, gsNil_eq, gsCons_eq, aNil_eq, aCons_eq, eCall_eq, eCallD_eq, intS_eq, absS_eq, mmS_eq, len_l, len_t, list_l, list_t, tup_l, tup_t, finF_eq, finC_eq, allD_nil, allD_cons, eTup_eq, eLst_eq, eIf_eq, runD_eq, hand_rt, handF_d, take_self, srcS_l, srcS_t, iSrc_eq, iZip_eq, zip_l, iEnm_eq, enum_l, pix0, pix1, pix2, pix3, pset1, pset2, pset3, gSub_eq, tYes_eq, eAdd_eq, eSub_eq, eMul_eq, eDiv_eq, eMod_eq, ePow_eq, eXor_eq, eNeg_eq, eIx_eq, eqI_t, eqI_f, tNot_eq, tAnd_eq, tOr_eq, tru_eq, tru_bool, tru_int, tru_list, eAnd_eq, eNot_eq, isi_eq, asD_d, List.length_cons, List.length_nil, List.map_cons, List.map_nil, List.cons_append, List.nil_append, List.append_nil, List.set_cons_succ, List.set_cons_zero, List.replicate_succ, List.replicate_zero, Option.map_some, if_true, if_false, reduceIte, Nat.reduceAdd, Nat.reduceSub, Nat.reduceLeDiff, List.length_map, Nat.reduceEqDiff, Bool.false_eq_true, Bool.not_false, Bool.not_true, ne_eq, not_true_eq_false, not_false_eq_true, decide_true, decide_false, eq_self, hand_rt, decide_eq_true_eq, sl_l, eSl_eq, oNone_eq, oSome_eq, e6, e7, e8, e9, e10]
  refine .of (S := [P6]) (a := .d (.bool true)) ?_ ⟨rfl, P6, rfl, h6⟩
  have : F__law_so [.cell 0, .d (.int q)] [P] = hand handF 1 (b__law_so [some (.cell 0), some (.d (.int q)), none, none, none, none, none, none, none, none, none, none] [P]) := rfl
  rw [this, hev]
  rfl
theorem always_ok (P : MO) : F__law_always [] [P] = .ok (.d (.bool true)) [P] := by kernel_rfl
theorem pool_ok (ns : List Int) (hn : ns.length ≤ 63) : ∃ P, PoolOk P ∧ F__law_pool [.scr ns] [] = .ok (.cell 0) [P] := by
  let f : Int → Int := fun c => if 0 ≤ c then 2 * c else -2 * c - 1
  refine ⟨.lst [.list ((ns.map f).map .int), .int 0, .int 0, .int 17], ⟨ns.map f, 0, 0, 17, rfl, by decide⟩, ?_⟩
  have hz : ns.length ≤ 16777216 := Nat.le_trans hn (by decide)
  have e0 : iSrc (eVar 0) [some (.scr ns), none] [] = .ok ⟨ns.map .int, fun _ => true⟩ [] := by
    have : srcS (.scr ns) [] = .ok ⟨ns.map .int, fun _ => true⟩ [] := by
      simp only [srcS]
      rw [if_pos hz]
    simp -implicitDefEqProofs only [iSrc_eq, fSeq_eq, seqK_nx, seqK_rt, seqK_bk, seqK_ct, seqK_ite, eVar_0, eVar_s, bind_ok, sB_ok, eC_eq, eBin_eq, eUn_eq, iOp0_eq, iCmp_eq, tst_eq, addI, negI, fSet_eq, fRet_eq, fExpr_eq, fIf_eq, fAsg_eq, fPar_eq, fNil_eq, fBreak_eq, fCont_eq, gNm_eq, gsNil_eq, gsCons_eq, aNil_eq, aCons_eq, eCall_eq, eCallD_eq, intS_eq, absS_eq, mmS_eq, len_l, len_t, list_l, list_t, tup_l, tup_t, finF_eq, finC_eq, allD_nil, allD_cons, eTup_eq, eLst_eq, eIf_eq, runD_eq, hand_rt, handF_d, take_self, srcS_l, srcS_t, iSrc_eq, iZip_eq, zip_l, iEnm_eq, enum_l, pix0, pix1, pix2, pix3, pset1, pset2, pset3, gSub_eq, tYes_eq, eAdd_eq, eSub_eq, eMul_eq, eDiv_eq, eMod_eq, ePow_eq, eXor_eq, eNeg_eq, eIx_eq, eqI_t, eqI_f, tNot_eq, tAnd_eq, tOr_eq, tru_eq, tru_bool, tru_int, tru_list, eAnd_eq, eNot_eq, isi_eq, asD_d, List.length_cons, List.length_nil, List.map_cons, List.map_nil, List.cons_append, List.nil_append, List.append_nil, List.set_cons_succ, List.set_cons_zero, List.replicate_succ, List.replicate_zero, Option.map_some, if_true, if_false, reduceIte, Nat.reduceAdd, Nat.reduceSub, Nat.reduceLeDiff, List.length_map, Nat.reduceEqDiff, Bool.false_eq_true, Bool.not_false, Bool.not_true, ne_eq, not_true_eq_false, not_false_eq_true, decide_true, decide_false, eq_self, hand_rt, decide_eq_true_eq, sl_l, eSl_eq, oNone_eq, oSome_eq, this]
  have e1 : C__law_pool_1 [some (.scr ns), none] [] = .ok (.d (.list ((ns.map f).map .int))) [] := by
    unfold C__law_pool_1
    let hh : PyData → PyData := fun d => match d with
      | .int c => .int (f c)
      | _ => .none
    rw [eLc_eq e0, lcL_map hh rfl]
    · rw [bind_ok, finF_eq, List.map_map, List.map_map]
      rfl
    · intro d m
      obtain ⟨c, _, rfl⟩ := List.mem_map.mp m
      refine ⟨_, rfl, ?_⟩
      have m1 : mulC 2 c = true := mulC_l (by decide) (by decide)
      have m2 : mulC (-2) c = true := mulC_l (by decide) (by decide)
      by_cases h0 : 0 ≤ c
      · simp -implicitDefEqProofs only [E__law_pool_1, wipeE, fSeq_eq, seqK_nx, seqK_rt, seqK_bk, seqK_ct, seqK_ite, eVar_0, eVar_s, bind_ok, sB_ok, eC_eq, eBin_eq, eUn_eq, iOp0_eq, iCmp_eq, tst_eq, addI, negI, fSet_eq, fRet_eq, fExpr_eq, fIf_eq, fAsg_eq, fPar_eq, fNil_eq, fBreak_eq, fCont_eq, gNm_eq, gsNil_eq, gsCons_eq, aNil_eq, aCons_eq, eCall_eq, eCallD_eq, intS_eq, absS_eq, mmS_eq, len_l, len_t, list_l, list_t, tup_l, tup_t, finF_eq, finC_eq, allD_nil, allD_cons, eTup_eq, eLst_eq, eIf_eq, runD_eq, hand_rt, handF_d, take_self, srcS_l, srcS_t, iSrc_eq, iZip_eq, zip_l, iEnm_eq, enum_l, pix0, pix1, pix2, pix3, pset1, pset2, pset3, gSub_eq, tYes_eq, eAdd_eq, eSub_eq, eMul_eq, eDiv_eq, eMod_eq, ePow_eq, eXor_eq, eNeg_eq, eIx_eq, eqI_t, eqI_f, tNot_eq, tAnd_eq, tOr_eq, tru_eq, tru_bool, tru_int, tru_list, eAnd_eq, eNot_eq, isi_eq, asD_d, List.length_cons, List.length_nil, List.map_cons, List.map_nil, List.cons_append, List.nil_append, List.append_nil, List.set_cons_succ, List.set_cons_zero, List.replicate_succ, List.replicate_zero, Option.map_some, if_true, if_false, reduceIte, Nat.reduceAdd, Nat.reduceSub, Nat.reduceLeDiff, List.length_map, Nat.reduceEqDiff, Bool.false_eq_true, Bool.not_false, Bool.not_true, ne_eq, not_true_eq_false, not_false_eq_true, decide_true, decide_false, eq_self, hand_rt, decide_eq_true_eq, sl_l, eSl_eq, oNone_eq, oSome_eq, h0, mulI _ _ m1]
        show Out.ok (SV.d (.int (2 * c))) [] = Out.ok (SV.d (.int (if 0 ≤ c then 2 * c else -2 * c - 1))) []
        rw [if_pos h0]
      · simp -implicitDefEqProofs only [E__law_pool_1, wipeE, fSeq_eq, seqK_nx, seqK_rt, seqK_bk, seqK_ct, seqK_ite, eVar_0, eVar_s, bind_ok, sB_ok, eC_eq, eBin_eq, eUn_eq, iOp0_eq, iCmp_eq, tst_eq, addI, negI, fSet_eq, fRet_eq, fExpr_eq, fIf_eq, fAsg_eq, fPar_eq, fNil_eq, fBreak_eq, fCont_eq, gNm_eq, gsNil_eq, gsCons_eq, aNil_eq, aCons_eq, eCall_eq, eCallD_eq, intS_eq, absS_eq, mmS_eq, len_l, len_t, list_l, list_t, tup_l, tup_t, finF_eq, finC_eq, allD_nil, allD_cons, eTup_eq, eLst_eq, eIf_eq, runD_eq, hand_rt, handF_d, take_self, srcS_l, srcS_t, iSrc_eq, iZip_eq, zip_l, iEnm_eq, enum_l, pix0, pix1, pix2, pix3, pset1, pset2, pset3, gSub_eq, tYes_eq, eAdd_eq, eSub_eq, eMul_eq, eDiv_eq, eMod_eq, ePow_eq, eXor_eq, eNeg_eq, eIx_eq, eqI_t, eqI_f, tNot_eq, tAnd_eq, tOr_eq, tru_eq, tru_bool, tru_int, tru_list, eAnd_eq, eNot_eq, isi_eq, asD_d, List.length_cons, List.length_nil, List.map_cons, List.map_nil, List.cons_append, List.nil_append, List.append_nil, List.set_cons_succ, List.set_cons_zero, List.replicate_succ, List.replicate_zero, Option.map_some, if_true, if_false, reduceIte, Nat.reduceAdd, Nat.reduceSub, Nat.reduceLeDiff, List.length_map, Nat.reduceEqDiff, Bool.false_eq_true, Bool.not_false, Bool.not_true, ne_eq, not_true_eq_false, not_false_eq_true, decide_true, decide_false, eq_self, hand_rt, decide_eq_true_eq, sl_l, eSl_eq, oNone_eq, oSome_eq, h0, mulI _ _ m2]
        show Out.ok (SV.d (.int (-2 * c - 1))) [] = Out.ok (SV.d (.int (if 0 ≤ c then 2 * c else -2 * c - 1))) []
        rw [if_neg h0]
  have hev : b__law_pool [some (.scr ns), none] [] = .ok (.rt (.cell 0)) [.lst [.list ((ns.map f).map .int), .int 0, .int 0, .int 17]] := by
    simp -implicitDefEqProofs only [b__law_pool, fSeq_eq, seqK_nx, seqK_rt, seqK_bk, seqK_ct, seqK_ite, eVar_0, eVar_s, bind_ok, sB_ok, eC_eq, eBin_eq, eUn_eq, iOp0_eq, iCmp_eq, tst_eq, addI, negI, fSet_eq, fRet_eq, fExpr_eq, fIf_eq, fAsg_eq, fPar_eq, fNil_eq, fBreak_eq, fCont_eq, gNm_eq, gsNil_eq, gsCons_eq, aNil_eq, aCons_eq, eCall_eq, eCallD_eq, intS_eq, absS_eq, mmS_eq, len_l, len_t, list_l, list_t, tup_l, tup_t, finF_eq, finC_eq, allD_nil, allD_cons, eTup_eq, eLst_eq, eIf_eq, runD_eq, hand_rt, handF_d, take_self, srcS_l, srcS_t, iSrc_eq, iZip_eq, zip_l, iEnm_eq, enum_l, pix0, pix1, pix2, pix3, pset1, pset2, pset3, gSub_eq, tYes_eq, eAdd_eq, eSub_eq, eMul_eq, eDiv_eq, eMod_eq, ePow_eq, eXor_eq, eNeg_eq, eIx_eq, eqI_t, eqI_f, tNot_eq, tAnd_eq, tOr_eq, tru_eq, tru_bool, tru_int, tru_list, eAnd_eq, eNot_eq, isi_eq, asD_d, List.length_cons, List.length_nil, List.map_cons, List.map_nil, List.cons_append, List.nil_append, List.append_nil, List.set_cons_succ, List.set_cons_zero, List.replicate_succ, List.replicate_zero, Option.map_some, if_true, if_false, reduceIte, Nat.reduceAdd, Nat.reduceSub, Nat.reduceLeDiff, List.length_map, Nat.reduceEqDiff, Bool.false_eq_true, Bool.not_false, Bool.not_true, ne_eq, not_true_eq_false, not_false_eq_true, decide_true, decide_false, eq_self, hand_rt, decide_eq_true_eq, sl_l, eSl_eq, oNone_eq, oSome_eq, e1]
  have : F__law_pool [.scr ns] [] = hand handC 0 (b__law_pool [some (.scr ns), none] []) := rfl
  rw [this, hev]
  rfl
theorem law_true (ns : List Int) (hn : ns.length ≤ 63) : F_law [.scr ns] [] = .ok (.d (.bool true)) [] := by
  obtain ⟨P, hP, e1⟩ := pool_ok ns hn
  obtain ⟨v, S', e2, x, P1, rfl, hx, rfl, h1⟩ := (pick_ok P [.int 3, .int 5, .int 7, .int 11, .int 13] [] hP (by decide) (by decide)).ok
  obtain ⟨v, S', e3, y, P2, rfl, hy, rfl, h2⟩ := (pick_ok P1 [.int 31, .int 53, .int 89, .int 97] [] h1 (by decide) (by decide)).ok
  have hx' : ∃ q : Int, x = .int q ∧ QS q := by
    simp only [List.mem_cons, List.not_mem_nil, or_false] at hx
    rcases hx with rfl | rfl | rfl | rfl | rfl <;> exact ⟨_, rfl, .inr (.inr (by decide))⟩
  have hy' : ∃ q : Int, y = .int q ∧ QS q := by
    simp only [List.mem_cons, List.not_mem_nil, or_false] at hy
    rcases hy with rfl | rfl | rfl | rfl <;> exact ⟨_, rfl, .inr (.inr (by decide))⟩
  have e4 : (C_law_1 [some (.scr ns), some (.cell 0), none] [P]).Ret fun v S' => ∃ ys P', v = .d (.list ys) ∧ S' = [P'] ∧ ∀ y ∈ ys, y = .bool true := by
    unfold C_law_1
    have e0 : iSrc (eTup (aCons (eC (.int 0)) (aCons (eC (.int 2)) (aCons (eC (.int 4)) (aCons (eCallD 2 F__law_pick (aCons (eVar 1) (aCons (eLst finF (aCons (eC (.int 3)) (aCons (eC (.int 5)) (aCons (eC (.int 7)) (aCons (eC (.int 11)) (aCons (eC (.int 13)) aNil)))))) aNil))) (aCons (eCallD 2 F__law_pick (aCons (eVar 1) (aCons (eLst finF (aCons (eC (.int 31)) (aCons (eC (.int 53)) (aCons (eC (.int 89)) (aCons (eC (.int 97)) aNil))))) aNil))) aNil)))))) [some (.scr ns), some (.cell 0), none] [P] = .ok ⟨[.int 0, .int 2, .int 4, x, y], fun _ => true⟩ [P2] := by
      rw [iSrc_eq]
      simp -implicitDefEqProofs only [fSeq_eq, seqK_nx, seqK_rt, seqK_bk, seqK_ct, seqK_ite, eVar_0, eVar_s, bind_ok, sB_ok, eC_eq, eBin_eq, eUn_eq, iOp0_eq, iCmp_eq, tst_eq, addI, negI, fSet_eq, fRet_eq, fExpr_eq, fIf_eq, fAsg_eq, fPar_eq, fNil_eq, fBreak_eq, fCont_eq, gNm_eq, gsNil_eq, gsCons_eq, aNil_eq, aCons_eq, eCall_eq, eCallD_eq, intS_eq, absS_eq, mmS_eq, len_l, len_t, list_l, list_t, tup_l, tup_t, finF_eq, finC_eq, allD_nil, allD_cons, eTup_eq, eLst_eq, eIf_eq, runD_eq, hand_rt, handF_d, take_self, srcS_l, srcS_t, iSrc_eq, iZip_eq, zip_l, iEnm_eq, enum_l, pix0, pix1, pix2, pix3, pset1, pset2, pset3, gSub_eq, tYes_eq, eAdd_eq, eSub_eq, eMul_eq, eDiv_eq, eMod_eq, ePow_eq, eXor_eq, eNeg_eq, eIx_eq, eqI_t, eqI_f, tNot_eq, tAnd_eq, tOr_eq, tru_eq, tru_bool, tru_int, tru_list, eAnd_eq, eNot_eq, isi_eq, asD_d, List.length_cons, List.length_nil, List.map_cons, List.map_nil, List.cons_append, List.nil_append, List.append_nil, List.set_cons_succ, List.set_cons_zero, List.replicate_succ, List.replicate_zero, Option.map_some, if_true, if_false, reduceIte, Nat.reduceAdd, Nat.reduceSub, Nat.reduceLeDiff, List.length_map, Nat.reduceEqDiff, Bool.false_eq_true, Bool.not_false, Bool.not_true, ne_eq, not_true_eq_false, not_false_eq_true, decide_true, decide_false, eq_self, hand_rt, decide_eq_true_eq, sl_l, eSl_eq, oNone_eq, oSome_eq, e2, e3]
    rw [eLc_eq e0]
    have := lcL_ret (ok := fun _ => true) (gf := gNm 2) (ef := E_law_1) (vs := [2]) (Γ := [some (.scr ns), some (.cell 0), none]) (fun S => ∃ P, S = [P] ∧ PoolOk P) (fun z => z = .bool true) (fun _ _ => rfl) [.int 0, .int 2, .int 4, x, y] [P2] ⟨P2, rfl, h2⟩ fun d md S1 hS1 => by
      obtain ⟨P3, rfl, h3⟩ := hS1
      have hd : ∃ q : Int, d = .int q ∧ QS q := by
        simp only [List.mem_cons, List.not_mem_nil, or_false] at md
        rcases md with rfl | rfl | rfl | rfl | rfl
        · exact ⟨0, rfl, .inl rfl⟩
        · exact ⟨2, rfl, .inr (.inr (by decide))⟩
        · exact ⟨4, rfl, .inr (.inl rfl)⟩
        · exact hx'
        · exact hy'
      obtain ⟨q, rfl, hq⟩ := hd
      rw [gNm_eq, Ret_ok]
      obtain ⟨v, S', e5, rfl, P4, rfl, h4⟩ := (so_ok hq P3 h3).ok
      refine .of (a := .d (.bool true)) (S := [P4]) ?_ ⟨⟨_, rfl, rfl⟩, P4, rfl, h4⟩
      simp -implicitDefEqProofs only [E_law_1, wipeE, fSeq_eq, seqK_nx, seqK_rt, seqK_bk, seqK_ct, seqK_ite, eVar_0, eVar_s, bind_ok, sB_ok, eC_eq, eBin_eq, eUn_eq, iOp0_eq, iCmp_eq, tst_eq, addI, negI, fSet_eq, fRet_eq, fExpr_eq, fIf_eq, fAsg_eq, fPar_eq, fNil_eq, fBreak_eq, fCont_eq, gNm_eq, gsNil_eq, gsCons_eq, aNil_eq, aCons_eq, eCall_eq, eCallD_eq, intS_eq, absS_eq, mmS_eq, len_l, len_t, list_l, list_t, tup_l, tup_t, finF_eq, finC_eq, allD_nil, allD_cons, eTup_eq, eLst_eq, eIf_eq, runD_eq, hand_rt, handF_d, take_self, srcS_l, srcS_t, iSrc_eq, iZip_eq, zip_l, iEnm_eq, enum_l, pix0, pix1, pix2, pix3, pset1, pset2, pset3, gSub_eq, tYes_eq, eAdd_eq, eSub_eq, eMul_eq, eDiv_eq, eMod_eq, ePow_eq, eXor_eq, eNeg_eq, eIx_eq, eqI_t, eqI_f, tNot_eq, tAnd_eq, tOr_eq, tru_eq, tru_bool, tru_int, tru_list, eAnd_eq, eNot_eq, isi_eq, asD_d, List.length_cons, List.length_nil, List.map_cons, List.map_nil, List.cons_append, List.nil_append, List.append_nil, List.set_cons_succ, List.set_cons_zero, List.replicate_succ, List.replicate_zero, Option.map_some, if_true, if_false, reduceIte, Nat.reduceAdd, Nat.reduceSub, Nat.reduceLeDiff, List.length_map, Nat.reduceEqDiff, Bool.false_eq_true, Bool.not_false, Bool.not_true, ne_eq, not_true_eq_false, not_false_eq_true, decide_true, decide_false, eq_self, hand_rt, decide_eq_true_eq, sl_l, eSl_eq, oNone_eq, oSome_eq, e5]
    refine this.bind fun ys S2 ⟨_, h3, P3, h4, _⟩ => ?_
    rw [finF_eq, Ret_ok]
    exact ⟨ys, P3, rfl, h4, h3⟩
  obtain ⟨v, S', e5, ys, P3, rfl, rfl, hys⟩ := e4.ok
  have z1 : ys.all scaD = true := List.all_eq_true.mpr fun y m => by rw [hys y m]; rfl
  have z2 : ys.all trB = true := List.all_eq_true.mpr fun y m => by rw [hys y m]; rfl
  have e6 : eCall0 F__law_always [some (.scr ns), some (.cell 0), none] [P] = .ok (.d (.bool true)) [P] := by
    unfold eCall0
    rw [always_ok]
  have hev : b_law [some (.scr ns), none, none] [] = .ok (.rt (.d (.bool true))) [P3] := by
    unfold b_law
    have s1 : fSet 1 (eCallD 1 F__law_pool (aCons (eVar 0) aNil)) [some (.scr ns), none, none] [] = .ok (.nx [some (.scr ns), some (.cell 0), none]) [P] := by
      simp -implicitDefEqProofs only [fSeq_eq, seqK_nx, seqK_rt, seqK_bk, seqK_ct, seqK_ite, eVar_0, eVar_s, bind_ok, sB_ok, eC_eq, eBin_eq, eUn_eq, iOp0_eq, iCmp_eq, tst_eq, addI, negI, fSet_eq, fRet_eq, fExpr_eq, fIf_eq, fAsg_eq, fPar_eq, fNil_eq, fBreak_eq, fCont_eq, gNm_eq, gsNil_eq, gsCons_eq, aNil_eq, aCons_eq, eCall_eq, eCallD_eq, intS_eq, absS_eq, mmS_eq, len_l, len_t, list_l, list_t, tup_l, tup_t, finF_eq, finC_eq, allD_nil, allD_cons, eTup_eq, eLst_eq, eIf_eq, runD_eq, hand_rt, handF_d, take_self, srcS_l, srcS_t, iSrc_eq, iZip_eq, zip_l, iEnm_eq, enum_l, pix0, pix1, pix2, pix3, pset1, pset2, pset3, gSub_eq, tYes_eq, eAdd_eq, eSub_eq, eMul_eq, eDiv_eq, eMod_eq, ePow_eq, eXor_eq, eNeg_eq, eIx_eq, eqI_t, eqI_f, tNot_eq, tAnd_eq, tOr_eq, tru_eq, tru_bool, tru_int, tru_list, eAnd_eq, eNot_eq, isi_eq, asD_d, List.length_cons, List.length_nil, List.map_cons, List.map_nil, List.cons_append, List.nil_append, List.append_nil, List.set_cons_succ, List.set_cons_zero, List.replicate_succ, List.replicate_zero, Option.map_some, if_true, if_false, reduceIte, Nat.reduceAdd, Nat.reduceSub, Nat.reduceLeDiff, List.length_map, Nat.reduceEqDiff, Bool.false_eq_true, Bool.not_false, Bool.not_true, ne_eq, not_true_eq_false, not_false_eq_true, decide_true, decide_false, eq_self, hand_rt, decide_eq_true_eq, sl_l, eSl_eq, oNone_eq, oSome_eq, e1]
    rw [fSeq_eq, s1, seqK_nx]
    simp -implicitDefEqProofs only [fSeq_eq, seqK_nx, seqK_rt, seqK_bk, seqK_ct, seqK_ite, eVar_0, eVar_s, bind_ok, sB_ok, eC_eq, eBin_eq, eUn_eq, iOp0_eq, iCmp_eq, tst_eq, addI, negI, fSet_eq, fRet_eq, fExpr_eq, fIf_eq, fAsg_eq, fPar_eq, fNil_eq, fBreak_eq, fCont_eq, gNm_eq, gsNil_eq, gsCons_eq, aNil_eq, aCons_eq, eCall_eq, eCallD_eq, intS_eq, absS_eq, mmS_eq, len_l, len_t, list_l, list_t, tup_l, tup_t, finF_eq, finC_eq, allD_nil, allD_cons, eTup_eq, eLst_eq, eIf_eq, runD_eq, hand_rt, handF_d, take_self, srcS_l, srcS_t, iSrc_eq, iZip_eq, zip_l, iEnm_eq, enum_l, pix0, pix1, pix2, pix3, pset1, pset2, pset3, gSub_eq, tYes_eq, eAdd_eq, eSub_eq, eMul_eq, eDiv_eq, eMod_eq, ePow_eq, eXor_eq, eNeg_eq, eIx_eq, eqI_t, eqI_f, tNot_eq, tAnd_eq, tOr_eq, tru_eq, tru_bool, tru_int, tru_list, eAnd_eq, eNot_eq, isi_eq, asD_d, List.length_cons, List.length_nil, List.map_cons, List.map_nil, List.cons_append, List.nil_append, List.append_nil, List.set_cons_succ, List.set_cons_zero, List.replicate_succ, List.replicate_zero, Option.map_some, if_true, if_false, reduceIte, Nat.reduceAdd, Nat.reduceSub, Nat.reduceLeDiff, List.length_map, Nat.reduceEqDiff, Bool.false_eq_true, Bool.not_false, Bool.not_true, ne_eq, not_true_eq_false, not_false_eq_true, decide_true, decide_false, eq_self, hand_rt, decide_eq_true_eq, sl_l, eSl_eq, oNone_eq, oSome_eq, e6, e5, all_l _ z1, z2]
  have : F_law [.scr ns] [] = hand handF 0 (b_law [some (.scr ns), none, none] []) := rfl
  rw [this, hev]
  rfl
end G06
namespace G06
open PySem L2 DL
def mi (K : PySem.W.Frag) : Mi := ⟨K, fun _ => none⟩
structure Txt (K : PySem.W.Frag) (mg : Str → Option Value) : Prop where
  b_abs : mg "abs" = none
  b_all : mg "all" = none
  b_any : mg "any" = none
  b_bool : mg "bool" = none
  b_enumerate : mg "enumerate" = none
  b_gcd : mg "gcd" = some (.builtin "math.gcd")
  b_int : mg "int" = none
  b_isinstance : mg "isinstance" = none
  b_len : mg "len" = none
  b_list : mg "list" = none
  b_range : mg "range" = none
  b_str : mg "str" = none
  b_tuple : mg "tuple" = none
  b_zip : mg "zip" = none
  k_BACK_FOUR : ∃ (u : Value) (v : V), mg "BACK_FOUR" = some u ∧ RelV v u ∧ ∀ F, Rp K F v k_BACK_FOUR
  k_TIMES_FOUR : ∃ (u : Value) (v : V), mg "TIMES_FOUR" = some u ∧ RelV v u ∧ ∀ F, Rp K F v k_TIMES_FOUR
  x_fraction : FnX K mg "fraction" s_fraction ["top", "under"]
  x_field_opposite : FnX K mg "field_opposite" s_field_opposite ["q", "a"]
  x_less_times : FnX K mg "less_times" s_less_times ["q", "row", "lead", "at"]
  x_whole_row : FnX K mg "whole_row" s_whole_row ["row"]
  x__law_pool : FnX K mg "_law_pool" s__law_pool ["script"]
  x__law_is_integer : FnX K mg "_law_is_integer" s__law_is_integer ["actual"]
  x__law_common : FnX K mg "_law_common" s__law_common ["one", "other"]
  x__law_less_times : FnX K mg "_law_less_times" s__law_less_times ["q", "times", "row", "other", "lead"]
  x_field_sum : FnX K mg "field_sum" s_field_sum ["q", "a", "b"]
  x_field_product : FnX K mg "field_product" s_field_product ["q", "a", "b"]
  x_field_inverse : FnX K mg "field_inverse" s_field_inverse ["q", "a"]
  x_whole_rank : FnX K mg "whole_rank" s_whole_rank ["q", "rows"]
  x__law_ratio : FnX K mg "_law_ratio" s__law_ratio ["n", "d"]
  x__law_row_rank : FnX K mg "_law_row_rank" s__law_row_rank ["q", "rows"]
  x_field_rank : FnX K mg "field_rank" s_field_rank ["q", "rows"]
  x__law_sum : FnX K mg "_law_sum" s__law_sum ["q", "a", "b"]
  x__law_product : FnX K mg "_law_product" s__law_product ["q", "a", "b"]
  x__law_rank_of : FnX K mg "_law_rank_of" s__law_rank_of ["q", "rows"]
  x__law_take : FnX K mg "_law_take" s__law_take ["pool", "many"]
  x__law_pick : FnX K mg "_law_pick" s__law_pick ["pool", "rows"]
  x__law_given : FnX K mg "_law_given" s__law_given ["pool", "row"]
  x__law_number : FnX K mg "_law_number" s__law_number ["pool", "q"]
  x__law_same : FnX K mg "_law_same" s__law_same ["actual", "due"]
  x__law_so : FnX K mg "_law_so" s__law_so ["pool", "q"]
  x__law_always : FnX K mg "_law_always" s__law_always []
section
variable {P : Program} {w : World} {K : PySem.W.Frag} {mg : Str → Option Value} {base : Heap}
theorem sc_fraction : FnScope N_fraction ["top", "under"] (defScope s_fraction) := ⟨rfl, rfl, rfl, by decide +kernel, rfl, by decide +kernel, by decide +kernel⟩
theorem D_fraction (T : Txt K mg) : DefD P w K mg base (mi K) 1 "fraction" 2 F_fraction :=
  FnX.at (n := 2) T.x_fraction hand_f sc_fraction rfl fun f cdv A outer s H E hr tk hp =>
    have sc := sc_fraction
    (ss_cons (s_set (i := 2) sc.nd rfl (by first | exact Or.inl rfl | exact Or.inr rfl) (d_gcd (by rfl) T.b_gcd (dv 0 (pv 0)) (dv 1 (pv 1))))
  (ss_cons (s_if (t_c c_lt (dv 1 (pv 1)) d_int) (ss_one (s_set (i := 2) sc.nd rfl (by first | exact Or.inl rfl | exact Or.inr rfl) (d_neg (dv 2 (pv 2))))) ss_nil)
  (ss_one (s_ret (d_tup (da_cons (d_div (dv 0 (pv 0)) (dv 2 (pv 2))) (da_cons (d_div (dv 1 (pv 1)) (dv 2 (pv 2))) da_nil)))))))
theorem sc_field_opposite : FnScope N_field_opposite ["q", "a"] (defScope s_field_opposite) := ⟨rfl, rfl, rfl, by decide +kernel, rfl, by decide +kernel, by decide +kernel⟩
theorem D_field_opposite (T : Txt K mg) : DefD P w K mg base (mi K) 1 "field_opposite" 2 F_field_opposite :=
  FnX.at (n := 2) T.x_field_opposite hand_f sc_field_opposite rfl fun f cdv A outer s H E hr tk hp =>
    have sc := sc_field_opposite
    (ss_cons (s_if (t_c (c_eq rfl hr.u64) (dv 0 (pv 0)) d_int) (ss_one (s_ret (d_tup (da_cons (d_neg (d_ix rfl (dv 1 (pv 1)) d_int)) (da_cons (d_ix rfl (dv 1 (pv 1)) d_int) da_nil))))) ss_nil)
  (ss_one (s_ret (d_if (t_c (c_eq rfl hr.u64) (dv 0 (pv 0)) d_int) (dv 1 (pv 1)) (d_mod (d_int1 (by rfl) T.b_int (d_neg (dv 1 (pv 1)))) (dv 0 (pv 0)))))))
theorem sc_less_times : FnScope N_less_times ["q", "row", "lead", "at"] (defScope s_less_times) := ⟨rfl, rfl, rfl, by decide +kernel, rfl, by decide +kernel, by decide +kernel⟩
theorem D_less_times (T : Txt K mg) : DefD P w K mg base (mi K) 1 "less_times" 4 F_less_times :=
  FnX.at (n := 4) T.x_less_times hand_f sc_less_times rfl fun f cdv A outer s H E hr tk hp =>
    have sc := sc_less_times
    (ss_cons (s_if (t_c (c_eq rfl hr.u64) (dv 0 (pv 0)) d_int) (ss_cons (s_set (i := 4) sc.nd rfl (by first | exact Or.inl rfl | exact Or.inr rfl) (d_ix rfl (d_ix rfl (d_globD (by rfl) T.k_TIMES_FOUR) (d_ix rfl (dv 1 (pv 1)) (dv 3 (pv 3)))) (d_ix rfl (d_globD (by rfl) T.k_BACK_FOUR) (d_ix rfl (dv 2 (pv 2)) (dv 3 (pv 3))))))
  (ss_one (s_ret (d_lc fin_f (own := ([("part", 5), ("more", 6)] : List (Str × Nat))) (by decide) rfl sc.nd (i_zip rfl (by rfl) T.b_zip (dv 1 (pv 1)) (dv 2 (pv 2))) (blkOk_by (by kernel_rfl)) (fun _ _ _ _ _ => (g_tup rfl rfl (gs_cons (g_nm (i := 5) sc.nd rfl (by first | exact Or.inl rfl | exact Or.inr rfl)) (gs_cons (g_nm (i := 6) sc.nd rfl (by first | exact Or.inl rfl | exact Or.inr rfl)) gs_nil)))) (fun _ _ _ _ _ => ts_nil) (fun _ _ _ _ _ => (d_xor (dv 5 (pv 5)) (d_ix rfl (d_ix rfl (d_globD (by rfl) T.k_TIMES_FOUR) (dv 4 (pv 4))) (dv 6 (pv 6))))))))) ss_nil)
  (ss_cons (s_setLc fin_f (i := 7) (own := ([("part", 5), ("more", 6)] : List (Str × Nat))) (by decide) rfl sc.nd rfl rfl (sw_true rfl rfl rfl (by kernel_rfl)) (i_zip rfl (by rfl) T.b_zip (dv 1 (pv 1)) (dv 2 (pv 2))) (blkOk_by (by kernel_rfl)) (fun _ _ _ _ _ => (g_tup rfl rfl (gs_cons (g_nm (i := 5) sc.nd rfl (by first | exact Or.inl rfl | exact Or.inr rfl)) (gs_cons (g_nm (i := 6) sc.nd rfl (by first | exact Or.inl rfl | exact Or.inr rfl)) gs_nil)))) (fun _ _ _ _ _ => ts_nil) (fun _ _ _ _ _ => (d_sub (d_mul fin_f (d_ix rfl (dv 2 (pv 2)) (dv 3 (pv 3))) (dv 5 (pv 5))) (d_mul fin_f (d_ix rfl (dv 1 (pv 1)) (dv 3 (pv 3))) (dv 6 (pv 6))))))
  (ss_cons (s_if (t_tru rfl (dv 0 (pv 0))) (ss_one (s_ret (d_lc fin_f (own := ([("part", 5)] : List (Str × Nat))) (by decide) rfl sc.nd (i_src rfl (dv 7 (pv 7))) (blkOk_by (by kernel_rfl)) (fun _ _ _ _ _ => (g_nm (i := 5) sc.nd rfl (by first | exact Or.inl rfl | exact Or.inr rfl))) (fun _ _ _ _ _ => ts_nil) (fun _ _ _ _ _ => (d_mod (d_int1 (by rfl) T.b_int (dv 5 (pv 5))) (dv 0 (pv 0))))))) ss_nil)
  (ss_cons (s_set (i := 8) sc.nd rfl (by first | exact Or.inl rfl | exact Or.inr rfl) d_int)
  (ss_cons (s_for hp rfl (i_src rfl (dv 7 (pv 7))) (g_nm (i := 5) sc.nd rfl (by first | exact Or.inl rfl | exact Or.inr rfl)) (ss_one (s_set (i := 8) sc.nd rfl (by first | exact Or.inl rfl | exact Or.inr rfl) (d_gcd (by rfl) T.b_gcd (dv 8 (pv 8)) (dv 5 (pv 5))))))
  (ss_one (s_ret (d_if (t_c c_gt (dv 8 (pv 8)) d_int) (d_lc fin_f (own := ([("part", 5)] : List (Str × Nat))) (by decide) rfl sc.nd (i_src rfl (dv 7 (pv 7))) (blkOk_by (by kernel_rfl)) (fun _ _ _ _ _ => (g_nm (i := 5) sc.nd rfl (by first | exact Or.inl rfl | exact Or.inr rfl))) (fun _ _ _ _ _ => ts_nil) (fun _ _ _ _ _ => (d_div (dv 5 (pv 5)) (dv 8 (pv 8))))) (dv 7 (pv 7))))))))))
theorem sc_whole_row : FnScope N_whole_row ["row"] (defScope s_whole_row) := ⟨rfl, rfl, rfl, by decide +kernel, rfl, by decide +kernel, by decide +kernel⟩
theorem D_whole_row (T : Txt K mg) : DefD P w K mg base (mi K) 1 "whole_row" 1 F_whole_row :=
  FnX.at (n := 1) T.x_whole_row hand_f sc_whole_row rfl fun f cdv A outer s H E hr tk hp =>
    have sc := sc_whole_row
    (ss_cons (s_set (i := 1) sc.nd rfl (by first | exact Or.inl rfl | exact Or.inr rfl) d_int)
  (ss_cons (s_for hp rfl (i_src rfl (dv 0 (pv 0))) (g_nm (i := 2) sc.nd rfl (by first | exact Or.inl rfl | exact Or.inr rfl)) (ss_one (s_set (i := 1) sc.nd rfl (by first | exact Or.inl rfl | exact Or.inr rfl) (d_mul fin_f (dv 1 (pv 1)) (d_div (d_ix rfl (dv 2 (pv 2)) d_int) (d_gcd (by rfl) T.b_gcd (dv 1 (pv 1)) (d_ix rfl (dv 2 (pv 2)) d_int)))))))
  (ss_one (s_ret (d_lc fin_f (own := ([("part", 2)] : List (Str × Nat))) (by decide) rfl sc.nd (i_src rfl (dv 0 (pv 0))) (blkOk_by (by kernel_rfl)) (fun _ _ _ _ _ => (g_nm (i := 2) sc.nd rfl (by first | exact Or.inl rfl | exact Or.inr rfl))) (fun _ _ _ _ _ => ts_nil) (fun _ _ _ _ _ => (d_mul fin_f (d_ix rfl (dv 2 (pv 2)) d_int) (d_div (dv 1 (pv 1)) (d_ix rfl (dv 2 (pv 2)) d_int)))))))))
theorem sc__law_pool : FnScope N__law_pool ["script"] (defScope s__law_pool) := ⟨rfl, rfl, rfl, by decide +kernel, rfl, by decide +kernel, by decide +kernel⟩
theorem D__law_pool (T : Txt K mg) : DefD P w K mg base (mi K) 1 "_law_pool" 1 F__law_pool :=
  FnX.at (n := 1) T.x__law_pool hand_c sc__law_pool rfl fun f cdv A outer s H E hr tk hp =>
    have sc := sc__law_pool
    (ss_one (s_ret (d_lst fin_c (da_cons (d_lc fin_f (own := ([("cell", 1)] : List (Str × Nat))) (by decide) rfl sc.nd (i_src rfl (dv 0 (pv 0))) (blkOk_by (by kernel_rfl)) (fun _ _ _ _ _ => (g_nm (i := 1) sc.nd rfl (by first | exact Or.inl rfl | exact Or.inr rfl))) (fun _ _ _ _ _ => ts_nil) (fun _ _ _ _ _ => (d_if (t_c c_ge (dv 1 (pv 1)) d_int) (d_mul fin_f d_int (dv 1 (pv 1))) (d_sub (d_mul fin_f (d_neg d_int) (dv 1 (pv 1))) d_int)))) (da_cons d_int (da_cons d_int (da_cons d_int da_nil)))))))
theorem sc__law_is_integer : FnScope N__law_is_integer ["actual"] (defScope s__law_is_integer) := ⟨rfl, rfl, rfl, by decide +kernel, rfl, by decide +kernel, by decide +kernel⟩
theorem D__law_is_integer (T : Txt K mg) : DefD P w K mg base (mi K) 1 "_law_is_integer" 1 F__law_is_integer :=
  FnX.at (n := 1) T.x__law_is_integer hand_f sc__law_is_integer rfl fun f cdv A outer s H E hr tk hp =>
    have sc := sc__law_is_integer
    (ss_one (s_ret (d_andv rfl (d_isi (T' := "int") rfl (by decide +kernel) (by rfl) T.b_isinstance (dv 0 (pv 0)) (pe_bltn (by rfl) T.b_int (by decide +kernel) rfl)) (d_one (d_notv rfl (d_isi (T' := "bool") rfl (by decide +kernel) (by rfl) T.b_isinstance (dv 0 (pv 0)) (pe_bltn (by rfl) T.b_bool (by decide +kernel) rfl)))))))
theorem sc__law_common : FnScope N__law_common ["one", "other"] (defScope s__law_common) := ⟨rfl, rfl, rfl, by decide +kernel, rfl, by decide +kernel, by decide +kernel⟩
theorem D__law_common (T : Txt K mg) : DefD P w K mg base (mi K) 1 "_law_common" 2 F__law_common :=
  FnX.at (n := 2) T.x__law_common hand_f sc__law_common rfl fun f cdv A outer s H E hr tk hp =>
    have sc := sc__law_common
    (ss_cons (s_par (i := 0) (j := 1) rfl sc.nd rfl rfl (by decide) rfl rfl (da_cons (d_abs (by rfl) T.b_abs (dv 0 (pv 0))) (da_cons (d_abs (by rfl) T.b_abs (dv 1 (pv 1))) da_nil)) (by rfl))
  (ss_cons (s_for hp rfl (i_rg1 (by rfl) T.b_range d_int) (g_nm (i := 2) sc.nd rfl (by first | exact Or.inl rfl | exact Or.inr rfl)) (ss_cons (s_if (t_c (c_eq rfl hr.u64) (dv 1 (pv 1)) d_int) (ss_one s_break) ss_nil)
  (ss_one (s_par (i := 0) (j := 1) rfl sc.nd rfl rfl (by decide) rfl rfl (da_cons (dv 1 (pv 1)) (da_cons (d_sub (dv 0 (pv 0)) (d_mul fin_f (dv 1 (pv 1)) (d_int1 (by rfl) T.b_int (d_div (dv 0 (pv 0)) (dv 1 (pv 1)))))) da_nil)) (by rfl)))))
  (ss_one (s_ret (dv 0 (pv 0))))))
theorem sc__law_less_times : FnScope N__law_less_times ["q", "times", "row", "other", "lead"] (defScope s__law_less_times) := ⟨rfl, rfl, rfl, by decide +kernel, rfl, by decide +kernel, by decide +kernel⟩
theorem D__law_less_times (T : Txt K mg) : DefD P w K mg base (mi K) 1 "_law_less_times" 5 F__law_less_times :=
  FnX.at (n := 5) T.x__law_less_times hand_f sc__law_less_times rfl fun f cdv A outer s H E hr tk hp =>
    have sc := sc__law_less_times
    (ss_cons (s_if (t_c (c_eq rfl hr.u64) (dv 0 (pv 0)) d_int) (ss_cons (s_set (i := 5) sc.nd rfl (by first | exact Or.inl rfl | exact Or.inr rfl) (d_lst fin_f (da_cons (d_lst fin_f (da_cons d_int (da_cons d_int (da_cons d_int (da_cons d_int da_nil))))) (da_cons (d_lst fin_f (da_cons d_int (da_cons d_int (da_cons d_int (da_cons d_int da_nil))))) (da_cons (d_lst fin_f (da_cons d_int (da_cons d_int (da_cons d_int (da_cons d_int da_nil))))) (da_cons (d_lst fin_f (da_cons d_int (da_cons d_int (da_cons d_int (da_cons d_int da_nil))))) da_nil))))))
  (ss_cons (s_set (i := 6) sc.nd rfl (by first | exact Or.inl rfl | exact Or.inr rfl) (d_lst fin_f (da_cons (d_lst fin_f (da_cons d_int (da_cons d_int (da_cons d_int (da_cons d_int da_nil))))) (da_cons (d_lst fin_f (da_cons d_int (da_cons d_int (da_cons d_int (da_cons d_int da_nil))))) (da_cons (d_lst fin_f (da_cons d_int (da_cons d_int (da_cons d_int (da_cons d_int da_nil))))) (da_cons (d_lst fin_f (da_cons d_int (da_cons d_int (da_cons d_int (da_cons d_int da_nil))))) da_nil))))))
  (ss_one (s_ret (d_lc fin_f (own := ([("k", 7)] : List (Str × Nat))) (by decide) rfl sc.nd (i_rg1 (by rfl) T.b_range (d_len rfl (by rfl) T.b_len (dv 2 (pv 2)))) (blkOk_by (by kernel_rfl)) (fun _ _ _ _ _ => (g_nm (i := 7) sc.nd rfl (by first | exact Or.inl rfl | exact Or.inr rfl))) (fun _ _ _ _ _ => ts_nil) (fun _ _ _ _ _ => (d_ix rfl (d_ix rfl (dv 6 (pv 6)) (d_ix rfl (d_ix rfl (dv 5 (pv 5)) (dv 1 (pv 1))) (d_ix rfl (dv 2 (pv 2)) (dv 7 (pv 7))))) (d_ix rfl (d_ix rfl (dv 5 (pv 5)) (dv 3 (pv 3))) (d_ix rfl (dv 4 (pv 4)) (dv 7 (pv 7))))))))))) ss_nil)
  (ss_cons (s_setLc fin_f (i := 8) (own := ([("k", 7)] : List (Str × Nat))) (by decide) rfl sc.nd rfl rfl (sw_true rfl rfl rfl (by kernel_rfl)) (i_rg1 (by rfl) T.b_range (d_len rfl (by rfl) T.b_len (dv 2 (pv 2)))) (blkOk_by (by kernel_rfl)) (fun _ _ _ _ _ => (g_nm (i := 7) sc.nd rfl (by first | exact Or.inl rfl | exact Or.inr rfl))) (fun _ _ _ _ _ => ts_nil) (fun _ _ _ _ _ => (d_sub (d_mul fin_f (dv 1 (pv 1)) (d_ix rfl (dv 2 (pv 2)) (dv 7 (pv 7)))) (d_mul fin_f (dv 3 (pv 3)) (d_ix rfl (dv 4 (pv 4)) (dv 7 (pv 7)))))))
  (ss_one (s_ret (d_if (t_c (c_eq rfl hr.u64) (dv 0 (pv 0)) d_int) (dv 8 (pv 8)) (d_lc fin_f (own := ([("part", 9)] : List (Str × Nat))) (by decide) rfl sc.nd (i_src rfl (dv 8 (pv 8))) (blkOk_by (by kernel_rfl)) (fun _ _ _ _ _ => (g_nm (i := 9) sc.nd rfl (by first | exact Or.inl rfl | exact Or.inr rfl))) (fun _ _ _ _ _ => ts_nil) (fun _ _ _ _ _ => (d_mod (d_int1 (by rfl) T.b_int (dv 9 (pv 9))) (dv 0 (pv 0))))))))))
theorem sc_field_sum : FnScope N_field_sum ["q", "a", "b"] (defScope s_field_sum) := ⟨rfl, rfl, rfl, by decide +kernel, rfl, by decide +kernel, by decide +kernel⟩
theorem D_field_sum (T : Txt K mg) : DefD P w K mg base (mi K) 2 "field_sum" 3 F_field_sum :=
  FnX.at (n := 3) T.x_field_sum hand_f sc_field_sum rfl fun f cdv A outer s H E hr tk hp =>
    have sc := sc_field_sum
    (ss_cons (s_if (t_c (c_eq rfl hr.u64) (dv 0 (pv 0)) d_int) (ss_one (s_ret (d_call (D_fraction T) (hr.mono (by first | omega | (simp only [Nat.add_eq]; omega))) tk (by rfl) (da_cons (d_add rfl fin_f (d_mul fin_f (d_ix rfl (dv 1 (pv 1)) d_int) (d_ix rfl (dv 2 (pv 2)) d_int)) (d_mul fin_f (d_ix rfl (dv 2 (pv 2)) d_int) (d_ix rfl (dv 1 (pv 1)) d_int))) (da_cons (d_mul fin_f (d_ix rfl (dv 1 (pv 1)) d_int) (d_ix rfl (dv 2 (pv 2)) d_int)) da_nil))))) ss_nil)
  (ss_one (s_ret (d_if (t_c (c_eq rfl hr.u64) (dv 0 (pv 0)) d_int) (d_xor (dv 1 (pv 1)) (dv 2 (pv 2))) (d_mod (d_int1 (by rfl) T.b_int (d_add rfl fin_f (dv 1 (pv 1)) (dv 2 (pv 2)))) (dv 0 (pv 0)))))))
theorem sc_field_product : FnScope N_field_product ["q", "a", "b"] (defScope s_field_product) := ⟨rfl, rfl, rfl, by decide +kernel, rfl, by decide +kernel, by decide +kernel⟩
theorem D_field_product (T : Txt K mg) : DefD P w K mg base (mi K) 2 "field_product" 3 F_field_product :=
  FnX.at (n := 3) T.x_field_product hand_f sc_field_product rfl fun f cdv A outer s H E hr tk hp =>
    have sc := sc_field_product
    (ss_cons (s_if (t_c (c_eq rfl hr.u64) (dv 0 (pv 0)) d_int) (ss_one (s_ret (d_call (D_fraction T) (hr.mono (by first | omega | (simp only [Nat.add_eq]; omega))) tk (by rfl) (da_cons (d_mul fin_f (d_ix rfl (dv 1 (pv 1)) d_int) (d_ix rfl (dv 2 (pv 2)) d_int)) (da_cons (d_mul fin_f (d_ix rfl (dv 1 (pv 1)) d_int) (d_ix rfl (dv 2 (pv 2)) d_int)) da_nil))))) ss_nil)
  (ss_one (s_ret (d_if (t_c (c_eq rfl hr.u64) (dv 0 (pv 0)) d_int) (d_ix rfl (d_ix rfl (d_globD (by rfl) T.k_TIMES_FOUR) (dv 1 (pv 1))) (dv 2 (pv 2))) (d_mod (d_int1 (by rfl) T.b_int (d_mul fin_f (dv 1 (pv 1)) (dv 2 (pv 2)))) (dv 0 (pv 0)))))))
theorem sc_field_inverse : FnScope N_field_inverse ["q", "a"] (defScope s_field_inverse) := ⟨rfl, rfl, rfl, by decide +kernel, rfl, by decide +kernel, by decide +kernel⟩
theorem D_field_inverse (T : Txt K mg) : DefD P w K mg base (mi K) 2 "field_inverse" 2 F_field_inverse :=
  FnX.at (n := 2) T.x_field_inverse hand_f sc_field_inverse rfl fun f cdv A outer s H E hr tk hp =>
    have sc := sc_field_inverse
    (ss_cons (s_if (t_c (c_eq rfl hr.u64) (dv 0 (pv 0)) d_int) (ss_one (s_ret (d_call (D_fraction T) (hr.mono (by first | omega | (simp only [Nat.add_eq]; omega))) tk (by rfl) (da_cons (d_ix rfl (dv 1 (pv 1)) d_int) (da_cons (d_ix rfl (dv 1 (pv 1)) d_int) da_nil))))) ss_nil)
  (ss_one (s_ret (d_if (t_c (c_eq rfl hr.u64) (dv 0 (pv 0)) d_int) (d_ix rfl (d_globD (by rfl) T.k_BACK_FOUR) (dv 1 (pv 1))) (d_ix rfl (d_lc fin_f (own := ([("b", 2)] : List (Str × Nat))) (by decide) rfl sc.nd (i_rg2 (by rfl) T.b_range d_int (dv 0 (pv 0))) (blkOk_by (by kernel_rfl)) (fun _ _ _ _ _ => (g_nm (i := 2) sc.nd rfl (by first | exact Or.inl rfl | exact Or.inr rfl))) (fun _ _ _ _ _ => (ts_one (t_c (c_eq rfl hr.u64) (d_mod (d_int1 (by rfl) T.b_int (d_mul fin_f (dv 1 (pv 1)) (dv 2 (pv 2)))) (dv 0 (pv 0))) d_int))) (fun _ _ _ _ _ => (dv 2 (pv 2)))) d_int)))))
theorem sc_whole_rank : FnScope N_whole_rank ["q", "rows"] (defScope s_whole_rank) := ⟨rfl, rfl, rfl, by decide +kernel, rfl, by decide +kernel, by decide +kernel⟩
theorem D_whole_rank (T : Txt K mg) : DefD P w K mg base (mi K) 2 "whole_rank" 2 F_whole_rank :=
  FnX.at (n := 2) T.x_whole_rank hand_f sc_whole_rank rfl fun f cdv A outer s H E hr tk hp =>
    have sc := sc_whole_rank
    (ss_cons (s_setLc fin_c (i := 2) (own := ([("row", 3)] : List (Str × Nat))) (by decide) rfl sc.nd rfl rfl (sw_true rfl rfl rfl (by kernel_rfl)) (i_src rfl (dv 1 (pv 1))) (blkOk_by (by kernel_rfl)) (fun _ _ _ _ _ => (g_nm (i := 3) sc.nd rfl (by first | exact Or.inl rfl | exact Or.inr rfl))) (fun _ _ _ _ _ => (ts_one (t_tru rfl (d_any rfl rfl (by rfl) T.b_any (dv 3 (pv 3)))))) (fun _ _ _ _ _ => (d_list rfl fin_f (by rfl) T.b_list (dv 3 (pv 3)))))
  (ss_cons (s_set (i := 4) sc.nd rfl (by first | exact Or.inl rfl | exact Or.inr rfl) d_int)
  (ss_cons (s_while (fun Γ S => 100) hp (t_tru rfl (dv 2 (pv 2))) (ss_cons (s_set (i := 5) sc.nd rfl (by first | exact Or.inl rfl | exact Or.inr rfl) (d_pop rfl (dv 2 (pv 2))))
  (ss_cons (s_set (i := 6) sc.nd rfl (by first | exact Or.inl rfl | exact Or.inr rfl) (d_ix rfl (d_lc fin_f (own := ([("place", 7), ("part", 8)] : List (Str × Nat))) (by decide) rfl sc.nd (i_enum rfl (by rfl) T.b_enumerate (dv 5 (pv 5))) (blkOk_by (by kernel_rfl)) (fun _ _ _ _ _ => (g_tup rfl rfl (gs_cons (g_nm (i := 7) sc.nd rfl (by first | exact Or.inl rfl | exact Or.inr rfl)) (gs_cons (g_nm (i := 8) sc.nd rfl (by first | exact Or.inl rfl | exact Or.inr rfl)) gs_nil)))) (fun _ _ _ _ _ => (ts_one (t_tru rfl (dv 8 (pv 8))))) (fun _ _ _ _ _ => (dv 7 (pv 7)))) d_int))
  (ss_cons (s_setLc fin_c (i := 2) (own := ([("row", 3)] : List (Str × Nat))) (by decide) rfl sc.nd rfl rfl (sw_true rfl rfl rfl (by kernel_rfl)) (i_src rfl (dv 2 (pv 2))) (blkOk_by (by kernel_rfl)) (fun _ _ _ _ _ => (g_nm (i := 3) sc.nd rfl (by first | exact Or.inl rfl | exact Or.inr rfl))) (fun _ _ _ _ _ => ts_nil) (fun _ _ _ _ _ => (d_if (t_tru rfl (d_ix rfl (dv 3 (pv 3)) (dv 6 (pv 6)))) (d_call (D_less_times T) (hr.mono (by first | omega | (simp only [Nat.add_eq]; omega))) takes0 (by rfl) (da_cons (dv 0 (pv 0)) (da_cons (dv 3 (pv 3)) (da_cons (dv 5 (pv 5)) (da_cons (dv 6 (pv 6)) da_nil))))) (dv 3 (pv 3)))))
  (ss_cons (s_setLc fin_c (i := 2) (own := ([("row", 3)] : List (Str × Nat))) (by decide) rfl sc.nd rfl rfl (sw_true rfl rfl rfl (by kernel_rfl)) (i_src rfl (dv 2 (pv 2))) (blkOk_by (by kernel_rfl)) (fun _ _ _ _ _ => (g_nm (i := 3) sc.nd rfl (by first | exact Or.inl rfl | exact Or.inr rfl))) (fun _ _ _ _ _ => (ts_one (t_tru rfl (d_any rfl rfl (by rfl) T.b_any (dv 3 (pv 3)))))) (fun _ _ _ _ _ => (dv 3 (pv 3))))
  (ss_one (s_set (i := 4) sc.nd rfl (by first | exact Or.inl rfl | exact Or.inr rfl) (d_add rfl fin_f (dv 4 (pv 4)) d_int))))))))
  (ss_one (s_ret (dv 4 (pv 4)))))))
theorem sc__law_ratio : FnScope N__law_ratio ["n", "d"] (defScope s__law_ratio) := ⟨rfl, rfl, rfl, by decide +kernel, rfl, by decide +kernel, by decide +kernel⟩
theorem D__law_ratio (T : Txt K mg) : DefD P w K mg base (mi K) 2 "_law_ratio" 2 F__law_ratio :=
  FnX.at (n := 2) T.x__law_ratio hand_f sc__law_ratio rfl fun f cdv A outer s H E hr tk hp =>
    have sc := sc__law_ratio
    (ss_cons (s_set (i := 2) sc.nd rfl (by first | exact Or.inl rfl | exact Or.inr rfl) (d_call (D__law_common T) (hr.mono (by first | omega | (simp only [Nat.add_eq]; omega))) tk (by rfl) (da_cons (dv 0 (pv 0)) (da_cons (dv 1 (pv 1)) da_nil))))
  (ss_one (s_ret (d_tup (da_cons (d_int1 (by rfl) T.b_int (d_div (dv 0 (pv 0)) (dv 2 (pv 2)))) (da_cons (d_int1 (by rfl) T.b_int (d_div (dv 1 (pv 1)) (dv 2 (pv 2)))) da_nil))))))
theorem sc__law_row_rank : FnScope N__law_row_rank ["q", "rows"] (defScope s__law_row_rank) := ⟨rfl, rfl, rfl, by decide +kernel, rfl, by decide +kernel, by decide +kernel⟩
theorem D__law_row_rank (T : Txt K mg) : DefD P w K mg base (mi K) 2 "_law_row_rank" 2 F__law_row_rank :=
  FnX.at (n := 2) T.x__law_row_rank hand_f sc__law_row_rank rfl fun f cdv A outer s H E hr tk hp =>
    have sc := sc__law_row_rank
    (ss_cons (s_par (i := 2) (j := 3) rfl sc.nd rfl rfl (by decide) rfl rfl (da_cons (d_lc fin_f (own := ([("row", 4)] : List (Str × Nat))) (by decide) rfl sc.nd (i_src rfl (dv 1 (pv 1))) (blkOk_by (by kernel_rfl)) (fun _ _ _ _ _ => (g_nm (i := 4) sc.nd rfl (by first | exact Or.inl rfl | exact Or.inr rfl))) (fun _ _ _ _ _ => ts_nil) (fun _ _ _ _ _ => (d_list rfl fin_f (by rfl) T.b_list (dv 4 (pv 4))))) (da_cons d_int da_nil)) (by rfl))
  (ss_cons (s_for hp rfl (i_rg1 (by rfl) T.b_range (d_len rfl (by rfl) T.b_len (dv 1 (pv 1)))) (g_nm (i := 5) sc.nd rfl (by first | exact Or.inl rfl | exact Or.inr rfl)) (ss_cons (s_setLc fin_f (i := 6) (own := ([("row", 4)] : List (Str × Nat))) (by decide) rfl sc.nd rfl rfl (sw_true rfl rfl rfl (by kernel_rfl)) (i_src rfl (dv 2 (pv 2))) (blkOk_by (by kernel_rfl)) (fun _ _ _ _ _ => (g_nm (i := 4) sc.nd rfl (by first | exact Or.inl rfl | exact Or.inr rfl))) (fun _ _ _ _ _ => (ts_one (t_tru rfl (d_any rfl rfl (by rfl) T.b_any (dv 4 (pv 4)))))) (fun _ _ _ _ _ => (dv 4 (pv 4))))
  (ss_cons (s_if (t_not (t_tru rfl (dv 6 (pv 6)))) (ss_one s_break) ss_nil)
  (ss_cons (s_set (i := 7) sc.nd rfl (by first | exact Or.inl rfl | exact Or.inr rfl) (d_ix rfl (dv 6 (pv 6)) d_int))
  (ss_cons (s_set (i := 8) sc.nd rfl (by first | exact Or.inl rfl | exact Or.inr rfl) (d_ix rfl (d_lc fin_f (own := ([("k", 9)] : List (Str × Nat))) (by decide) rfl sc.nd (i_rg1 (by rfl) T.b_range (d_len rfl (by rfl) T.b_len (dv 7 (pv 7)))) (blkOk_by (by kernel_rfl)) (fun _ _ _ _ _ => (g_nm (i := 9) sc.nd rfl (by first | exact Or.inl rfl | exact Or.inr rfl))) (fun _ _ _ _ _ => (ts_one (t_c (c_ne rfl hr.u64) (d_ix rfl (dv 7 (pv 7)) (dv 9 (pv 9))) d_int))) (fun _ _ _ _ _ => (dv 9 (pv 9)))) d_int))
  (ss_cons (s_setLc fin_f (i := 2) (own := ([("row", 4)] : List (Str × Nat))) (by decide) rfl sc.nd rfl rfl (sw_true rfl rfl rfl (by kernel_rfl)) (i_src rfl (d_sl rfl fin_f (dv 6 (pv 6)) (do_some d_int) do_none)) (blkOk_by (by kernel_rfl)) (fun _ _ _ _ _ => (g_nm (i := 4) sc.nd rfl (by first | exact Or.inl rfl | exact Or.inr rfl))) (fun _ _ _ _ _ => ts_nil) (fun _ _ _ _ _ => (d_call (D__law_less_times T) (hr.mono (by first | omega | (simp only [Nat.add_eq]; omega))) takes0 (by rfl) (da_cons (dv 0 (pv 0)) (da_cons (d_ix rfl (dv 7 (pv 7)) (dv 8 (pv 8))) (da_cons (dv 4 (pv 4)) (da_cons (d_ix rfl (dv 4 (pv 4)) (dv 8 (pv 8))) (da_cons (dv 7 (pv 7)) da_nil))))))))
  (ss_one (s_set (i := 3) sc.nd rfl (by first | exact Or.inl rfl | exact Or.inr rfl) (d_add rfl fin_f (dv 3 (pv 3)) d_int)))))))))
  (ss_one (s_ret (dv 3 (pv 3))))))
theorem sc_field_rank : FnScope N_field_rank ["q", "rows"] (defScope s_field_rank) := ⟨rfl, rfl, rfl, by decide +kernel, rfl, by decide +kernel, by decide +kernel⟩
theorem D_field_rank (T : Txt K mg) : DefD P w K mg base (mi K) 3 "field_rank" 2 F_field_rank :=
  FnX.at (n := 2) T.x_field_rank hand_f sc_field_rank rfl fun f cdv A outer s H E hr tk hp =>
    have sc := sc_field_rank
    (ss_one (s_ret (d_call (D_whole_rank T) (hr.mono (by first | omega | (simp only [Nat.add_eq]; omega))) tk (by rfl) (da_cons (dv 0 (pv 0)) (da_cons (d_if (t_c (c_eq rfl hr.u64) (dv 0 (pv 0)) d_int) (d_lc fin_f (own := ([("row", 2)] : List (Str × Nat))) (by decide) rfl sc.nd (i_src rfl (dv 1 (pv 1))) (blkOk_by (by kernel_rfl)) (fun _ _ _ _ _ => (g_nm (i := 2) sc.nd rfl (by first | exact Or.inl rfl | exact Or.inr rfl))) (fun _ _ _ _ _ => ts_nil) (fun _ _ _ _ _ => (d_call (D_whole_row T) (hr.mono (by first | omega | (simp only [Nat.add_eq]; omega))) takes0 (by rfl) (da_cons (dv 2 (pv 2)) da_nil)))) (dv 1 (pv 1))) da_nil)))))
theorem sc__law_sum : FnScope N__law_sum ["q", "a", "b"] (defScope s__law_sum) := ⟨rfl, rfl, rfl, by decide +kernel, rfl, by decide +kernel, by decide +kernel⟩
theorem D__law_sum (T : Txt K mg) : DefD P w K mg base (mi K) 3 "_law_sum" 3 F__law_sum :=
  FnX.at (n := 3) T.x__law_sum hand_f sc__law_sum rfl fun f cdv A outer s H E hr tk hp =>
    have sc := sc__law_sum
    (ss_cons (s_if (t_c (c_eq rfl hr.u64) (dv 0 (pv 0)) d_int) (ss_one (s_ret (d_call (D__law_ratio T) (hr.mono (by first | omega | (simp only [Nat.add_eq]; omega))) tk (by rfl) (da_cons (d_add rfl fin_f (d_mul fin_f (d_ix rfl (dv 1 (pv 1)) d_int) (d_ix rfl (dv 2 (pv 2)) d_int)) (d_mul fin_f (d_ix rfl (dv 2 (pv 2)) d_int) (d_ix rfl (dv 1 (pv 1)) d_int))) (da_cons (d_mul fin_f (d_ix rfl (dv 1 (pv 1)) d_int) (d_ix rfl (dv 2 (pv 2)) d_int)) da_nil))))) ss_nil)
  (ss_cons (s_if (t_c (c_eq rfl hr.u64) (dv 0 (pv 0)) d_int) (ss_one (s_ret (d_ix rfl (d_ix rfl (d_lst fin_f (da_cons (d_lst fin_f (da_cons d_int (da_cons d_int (da_cons d_int (da_cons d_int da_nil))))) (da_cons (d_lst fin_f (da_cons d_int (da_cons d_int (da_cons d_int (da_cons d_int da_nil))))) (da_cons (d_lst fin_f (da_cons d_int (da_cons d_int (da_cons d_int (da_cons d_int da_nil))))) (da_cons (d_lst fin_f (da_cons d_int (da_cons d_int (da_cons d_int (da_cons d_int da_nil))))) da_nil))))) (dv 1 (pv 1))) (dv 2 (pv 2))))) ss_nil)
  (ss_one (s_ret (d_mod (d_int1 (by rfl) T.b_int (d_add rfl fin_f (dv 1 (pv 1)) (dv 2 (pv 2)))) (dv 0 (pv 0)))))))
theorem sc__law_product : FnScope N__law_product ["q", "a", "b"] (defScope s__law_product) := ⟨rfl, rfl, rfl, by decide +kernel, rfl, by decide +kernel, by decide +kernel⟩
theorem D__law_product (T : Txt K mg) : DefD P w K mg base (mi K) 3 "_law_product" 3 F__law_product :=
  FnX.at (n := 3) T.x__law_product hand_f sc__law_product rfl fun f cdv A outer s H E hr tk hp =>
    have sc := sc__law_product
    (ss_cons (s_if (t_c (c_eq rfl hr.u64) (dv 0 (pv 0)) d_int) (ss_one (s_ret (d_call (D__law_ratio T) (hr.mono (by first | omega | (simp only [Nat.add_eq]; omega))) tk (by rfl) (da_cons (d_mul fin_f (d_ix rfl (dv 1 (pv 1)) d_int) (d_ix rfl (dv 2 (pv 2)) d_int)) (da_cons (d_mul fin_f (d_ix rfl (dv 1 (pv 1)) d_int) (d_ix rfl (dv 2 (pv 2)) d_int)) da_nil))))) ss_nil)
  (ss_cons (s_if (t_c (c_eq rfl hr.u64) (dv 0 (pv 0)) d_int) (ss_one (s_ret (d_ix rfl (d_ix rfl (d_lst fin_f (da_cons (d_lst fin_f (da_cons d_int (da_cons d_int (da_cons d_int (da_cons d_int da_nil))))) (da_cons (d_lst fin_f (da_cons d_int (da_cons d_int (da_cons d_int (da_cons d_int da_nil))))) (da_cons (d_lst fin_f (da_cons d_int (da_cons d_int (da_cons d_int (da_cons d_int da_nil))))) (da_cons (d_lst fin_f (da_cons d_int (da_cons d_int (da_cons d_int (da_cons d_int da_nil))))) da_nil))))) (dv 1 (pv 1))) (dv 2 (pv 2))))) ss_nil)
  (ss_one (s_ret (d_mod (d_int1 (by rfl) T.b_int (d_mul fin_f (dv 1 (pv 1)) (dv 2 (pv 2)))) (dv 0 (pv 0)))))))
theorem sc__law_rank_of : FnScope N__law_rank_of ["q", "rows"] (defScope s__law_rank_of) := ⟨rfl, rfl, rfl, by decide +kernel, rfl, by decide +kernel, by decide +kernel⟩
theorem D__law_rank_of (T : Txt K mg) : DefD P w K mg base (mi K) 3 "_law_rank_of" 2 F__law_rank_of :=
  FnX.at (n := 2) T.x__law_rank_of hand_f sc__law_rank_of rfl fun f cdv A outer s H E hr tk hp =>
    have sc := sc__law_rank_of
    (ss_cons (s_if (t_c c_gt (dv 0 (pv 0)) d_int) (ss_one (s_ret (d_call (D__law_row_rank T) (hr.mono (by first | omega | (simp only [Nat.add_eq]; omega))) tk (by rfl) (da_cons (dv 0 (pv 0)) (da_cons (dv 1 (pv 1)) da_nil))))) ss_nil)
  (ss_cons (s_set (i := 2) sc.nd rfl (by first | exact Or.inl rfl | exact Or.inr rfl) (d_lst fin_c da_nil))
  (ss_cons (s_for hp rfl (i_src rfl (dv 1 (pv 1))) (g_nm (i := 3) sc.nd rfl (by first | exact Or.inl rfl | exact Or.inr rfl)) (ss_cons (s_set (i := 4) sc.nd rfl (by first | exact Or.inl rfl | exact Or.inr rfl) d_int)
  (ss_cons (s_for hp rfl (i_src rfl (dv 3 (pv 3))) (g_nm (i := 5) sc.nd rfl (by first | exact Or.inl rfl | exact Or.inr rfl)) (ss_one (s_set (i := 4) sc.nd rfl (by first | exact Or.inl rfl | exact Or.inr rfl) (d_mul fin_f (dv 4 (pv 4)) (d_ix rfl (dv 5 (pv 5)) d_int)))))
  (ss_one (s_expr (d_append rfl (dv 2 (pv 2)) (d_lc fin_f (own := ([("part", 5)] : List (Str × Nat))) (by decide) rfl sc.nd (i_src rfl (dv 3 (pv 3))) (blkOk_by (by kernel_rfl)) (fun _ _ _ _ _ => (g_nm (i := 5) sc.nd rfl (by first | exact Or.inl rfl | exact Or.inr rfl))) (fun _ _ _ _ _ => ts_nil) (fun _ _ _ _ _ => (d_int1 (by rfl) T.b_int (d_div (d_mul fin_f (d_ix rfl (dv 5 (pv 5)) d_int) (dv 4 (pv 4))) (d_ix rfl (dv 5 (pv 5)) d_int)))))))))))
  (ss_one (s_ret (d_call (D__law_row_rank T) (hr.mono (by first | omega | (simp only [Nat.add_eq]; omega))) tk (by rfl) (da_cons d_int (da_cons (dv 2 (pv 2)) da_nil))))))))
theorem sc__law_take : FnScope N__law_take ["pool", "many"] (defScope s__law_take) := ⟨rfl, rfl, rfl, by decide +kernel, rfl, by decide +kernel, by decide +kernel⟩
theorem D__law_take_at (T : Txt K mg) : ∀ m : Nat, DefD P w K mg base (mi K) (1 + m) "_law_take" 2 (F__law_take_at m)
  | 0 => FnX.no T.x__law_take rfl
  | m + 1 => FnX.at (n := 2) T.x__law_take hand_f sc__law_take rfl fun f cdv A outer s H E hr tk hp =>
    have sc := sc__law_take
    have IH := D__law_take_at T m
    (ss_cons (s_if (t_c c_gt (d_ix rfl (dv 0 (pv 0)) d_int) d_int) (ss_cons (s_set (i := 2) sc.nd rfl (by first | exact Or.inl rfl | exact Or.inr rfl) (d_mod (d_int1 (by rfl) T.b_int (d_ix rfl (dv 0 (pv 0)) d_int)) (dv 1 (pv 1))))
  (ss_cons (s_asg (d_div (d_ix rfl (dv 0 (pv 0)) d_int) (dv 1 (pv 1))) (g_sub (W := DL.wE E) (dv 0 (pv 0)) d_int))
  (ss_one (s_ret (dv 2 (pv 2)))))) ss_nil)
  (ss_cons (s_set (i := 3) sc.nd rfl (by first | exact Or.inl rfl | exact Or.inr rfl) d_int)
  (ss_cons (s_if (t_c c_lt (d_ix rfl (dv 0 (pv 0)) d_int) (d_len rfl (by rfl) T.b_len (d_ix rfl (dv 0 (pv 0)) d_int))) (ss_one (s_set (i := 3) sc.nd rfl (by first | exact Or.inl rfl | exact Or.inr rfl) (d_ix rfl (d_ix rfl (dv 0 (pv 0)) d_int) (d_ix rfl (dv 0 (pv 0)) d_int)))) ss_nil)
  (ss_cons (s_asg (d_add rfl fin_f (d_ix rfl (dv 0 (pv 0)) d_int) d_int) (g_sub (W := DL.wE E) (dv 0 (pv 0)) d_int))
  (ss_cons (s_if (t_c c_ge (dv 3 (pv 3)) (d_pow d_int d_int)) (ss_cons (s_asg (d_div (dv 3 (pv 3)) d_int) (g_sub (W := DL.wE E) (dv 0 (pv 0)) d_int))
  (ss_one (s_ret (d_call IH (hr.mono (by first | omega | (simp only [Nat.add_eq]; omega))) tk (by rfl) (da_cons (dv 0 (pv 0)) (da_cons (dv 1 (pv 1)) da_nil)))))) ss_nil)
  (ss_cons (s_asg (d_mod (d_int1 (by rfl) T.b_int (d_add rfl fin_f (d_add rfl fin_f (d_mul fin_f (d_ix rfl (dv 0 (pv 0)) d_int) d_int) (d_mul fin_f (dv 3 (pv 3)) d_int)) (d_mul fin_f (d_ix rfl (dv 0 (pv 0)) d_int) d_int))) d_int) (g_sub (W := DL.wE E) (dv 0 (pv 0)) d_int))
  (ss_cons (s_set (i := 4) sc.nd rfl (by first | exact Or.inl rfl | exact Or.inr rfl) (d_mod (d_int1 (by rfl) T.b_int (d_add rfl fin_f (d_add rfl fin_f (d_mul fin_f (d_ix rfl (dv 0 (pv 0)) d_int) (d_ix rfl (dv 0 (pv 0)) d_int)) (d_mul fin_f (d_ix rfl (dv 0 (pv 0)) d_int) d_int)) d_int)) d_int))
  (ss_one (s_ret (d_mod (d_int1 (by rfl) T.b_int (d_div (dv 4 (pv 4)) d_int)) (dv 1 (pv 1))))))))))))
theorem D__law_take (T : Txt K mg) : DefD P w K mg base (mi K) 4 "_law_take" 2 F__law_take := DefD.mono (j := 4) (D__law_take_at T 3) (by decide)
theorem sc__law_pick : FnScope N__law_pick ["pool", "rows"] (defScope s__law_pick) := ⟨rfl, rfl, rfl, by decide +kernel, rfl, by decide +kernel, by decide +kernel⟩
theorem D__law_pick (T : Txt K mg) : DefD P w K mg base (mi K) 5 "_law_pick" 2 F__law_pick :=
  FnX.at (n := 2) T.x__law_pick hand_f sc__law_pick rfl fun f cdv A outer s H E hr tk hp =>
    have sc := sc__law_pick
    (ss_one (s_ret (d_ix rfl (dv 1 (pv 1)) (d_call (D__law_take T) (hr.mono (by first | omega | (simp only [Nat.add_eq]; omega))) tk (by rfl) (da_cons (dv 0 (pv 0)) (da_cons (d_len rfl (by rfl) T.b_len (dv 1 (pv 1))) da_nil))))))
theorem sc__law_given : FnScope N__law_given ["pool", "row"] (defScope s__law_given) := ⟨rfl, rfl, rfl, by decide +kernel, rfl, by decide +kernel, by decide +kernel⟩
theorem D__law_given (T : Txt K mg) : DefD P w K mg base (mi K) 5 "_law_given" 2 F__law_given :=
  FnX.at (n := 2) T.x__law_given hand_f sc__law_given rfl fun f cdv A outer s H E hr tk hp =>
    have sc := sc__law_given
    (ss_one (s_ret (d_if (t_c (c_eq rfl hr.u64) (d_call (D__law_take T) (hr.mono (by first | omega | (simp only [Nat.add_eq]; omega))) tk (by rfl) (da_cons (dv 0 (pv 0)) (da_cons d_int da_nil))) d_int) (d_list rfl fin_f (by rfl) T.b_list (dv 1 (pv 1))) (d_tuple rfl (by rfl) T.b_tuple (dv 1 (pv 1))))))
theorem sc__law_number : FnScope N__law_number ["pool", "q"] (defScope s__law_number) := ⟨rfl, rfl, rfl, by decide +kernel, rfl, by decide +kernel, by decide +kernel⟩
theorem D__law_number (T : Txt K mg) : DefD P w K mg base (mi K) 5 "_law_number" 2 F__law_number :=
  FnX.at (n := 2) T.x__law_number hand_f sc__law_number rfl fun f cdv A outer s H E hr tk hp =>
    have sc := sc__law_number
    (ss_cons (s_if (t_c (c_eq rfl hr.u64) (dv 1 (pv 1)) d_int) (ss_one (s_ret (d_call (D__law_ratio T) (hr.mono (by first | omega | (simp only [Nat.add_eq]; omega))) tk (by rfl) (da_cons (d_sub (d_call (D__law_take T) (hr.mono (by first | omega | (simp only [Nat.add_eq]; omega))) tk (by rfl) (da_cons (dv 0 (pv 0)) (da_cons d_int da_nil))) d_int) (da_cons (d_add rfl fin_f d_int (d_call (D__law_take T) (hr.mono (by first | omega | (simp only [Nat.add_eq]; omega))) tk (by rfl) (da_cons (dv 0 (pv 0)) (da_cons d_int da_nil)))) da_nil))))) ss_nil)
  (ss_one (s_ret (d_call (D__law_take T) (hr.mono (by first | omega | (simp only [Nat.add_eq]; omega))) tk (by rfl) (da_cons (dv 0 (pv 0)) (da_cons (dv 1 (pv 1)) da_nil))))))
theorem sc__law_same : FnScope N__law_same ["actual", "due"] (defScope s__law_same) := ⟨rfl, rfl, rfl, by decide +kernel, rfl, by decide +kernel, by decide +kernel⟩
theorem D__law_same_at (T : Txt K mg) : ∀ m : Nat, DefD P w K mg base (mi K) (2 + m) "_law_same" 2 (F__law_same_at m)
  | 0 => FnX.no T.x__law_same rfl
  | m + 1 => FnX.at (n := 2) T.x__law_same hand_f sc__law_same rfl fun f cdv A outer s H E hr tk hp =>
    have sc := sc__law_same
    have IH := D__law_same_at T m
    (ss_cons (s_if (t_tru rfl (d_isi (T' := "tuple") rfl (by decide +kernel) (by rfl) T.b_isinstance (dv 1 (pv 1)) (pe_bltn (by rfl) T.b_tuple (by decide +kernel) rfl))) (ss_cons (s_if (t_w (w_or (t_not (t_tru rfl (d_isi (T' := "tuple") rfl (by decide +kernel) (by rfl) T.b_isinstance (dv 0 (pv 0)) (pe_bltn (by rfl) T.b_tuple (by decide +kernel) rfl)))) (w_or1 (t_c (c_ne rfl hr.u64) (d_len rfl (by rfl) T.b_len (dv 0 (pv 0))) (d_len rfl (by rfl) T.b_len (dv 1 (pv 1))))))) (ss_one (s_ret d_bl)) ss_nil)
  (ss_one (s_ret (d_all rfl rfl (by rfl) T.b_all (d_lc fin_f (own := ([("k", 2)] : List (Str × Nat))) (by decide) rfl sc.nd (i_rg1 (by rfl) T.b_range (d_len rfl (by rfl) T.b_len (dv 1 (pv 1)))) (blkOk_by (by kernel_rfl)) (fun _ _ _ _ _ => (g_nm (i := 2) sc.nd rfl (by first | exact Or.inl rfl | exact Or.inr rfl))) (fun _ _ _ _ _ => ts_nil) (fun _ _ _ _ _ => (d_call IH (hr.mono (by first | omega | (simp only [Nat.add_eq]; omega))) takes0 (by rfl) (da_cons (d_ix rfl (dv 0 (pv 0)) (dv 2 (pv 2))) (da_cons (d_ix rfl (dv 1 (pv 1)) (dv 2 (pv 2))) da_nil))))))))) ss_nil)
  (ss_cons (s_if (t_tru rfl (d_isi (T' := "list") rfl (by decide +kernel) (by rfl) T.b_isinstance (dv 1 (pv 1)) (pe_bltn (by rfl) T.b_list (by decide +kernel) rfl))) (ss_cons (s_if (t_w (w_or (t_not (t_tru rfl (d_isi (T' := "list") rfl (by decide +kernel) (by rfl) T.b_isinstance (dv 0 (pv 0)) (pe_bltn (by rfl) T.b_list (by decide +kernel) rfl)))) (w_or1 (t_c (c_ne rfl hr.u64) (d_len rfl (by rfl) T.b_len (dv 0 (pv 0))) (d_len rfl (by rfl) T.b_len (dv 1 (pv 1))))))) (ss_one (s_ret d_bl)) ss_nil)
  (ss_one (s_ret (d_all rfl rfl (by rfl) T.b_all (d_lc fin_f (own := ([("k", 2)] : List (Str × Nat))) (by decide) rfl sc.nd (i_rg1 (by rfl) T.b_range (d_len rfl (by rfl) T.b_len (dv 1 (pv 1)))) (blkOk_by (by kernel_rfl)) (fun _ _ _ _ _ => (g_nm (i := 2) sc.nd rfl (by first | exact Or.inl rfl | exact Or.inr rfl))) (fun _ _ _ _ _ => ts_nil) (fun _ _ _ _ _ => (d_call IH (hr.mono (by first | omega | (simp only [Nat.add_eq]; omega))) takes0 (by rfl) (da_cons (d_ix rfl (dv 0 (pv 0)) (dv 2 (pv 2))) (da_cons (d_ix rfl (dv 1 (pv 1)) (dv 2 (pv 2))) da_nil))))))))) ss_nil)
  (ss_cons (s_if (t_c c_is (dv 1 (pv 1)) d_non) (ss_one (s_ret (d_c c_is (dv 0 (pv 0)) d_non))) ss_nil)
  (ss_cons (s_if (t_tru rfl (d_isi (T' := "bool") rfl (by decide +kernel) (by rfl) T.b_isinstance (dv 1 (pv 1)) (pe_bltn (by rfl) T.b_bool (by decide +kernel) rfl))) (ss_one (s_ret (d_andv rfl (d_isi (T' := "bool") rfl (by decide +kernel) (by rfl) T.b_isinstance (dv 0 (pv 0)) (pe_bltn (by rfl) T.b_bool (by decide +kernel) rfl)) (d_one (d_c (c_eq rfl hr.u64) (dv 0 (pv 0)) (dv 1 (pv 1))))))) ss_nil)
  (ss_cons (s_if (t_tru rfl (d_isi (T' := "str") rfl (by decide +kernel) (by rfl) T.b_isinstance (dv 1 (pv 1)) (pe_bltn (by rfl) T.b_str (by decide +kernel) rfl))) (ss_one (s_ret (d_andv rfl (d_isi (T' := "str") rfl (by decide +kernel) (by rfl) T.b_isinstance (dv 0 (pv 0)) (pe_bltn (by rfl) T.b_str (by decide +kernel) rfl)) (d_one (d_c (c_eq rfl hr.u64) (dv 0 (pv 0)) (dv 1 (pv 1))))))) ss_nil)
  (ss_one (s_ret (d_andv rfl (d_call (D__law_is_integer T) (hr.mono (by first | omega | (simp only [Nat.add_eq]; omega))) tk (by rfl) (da_cons (dv 0 (pv 0)) da_nil)) (d_one (d_c (c_eq rfl hr.u64) (dv 0 (pv 0)) (dv 1 (pv 1))))))))))))
theorem D__law_same (T : Txt K mg) : DefD P w K mg base (mi K) 8 "_law_same" 2 F__law_same := DefD.mono (j := 8) (D__law_same_at T 6) (by decide)
theorem sc__law_so : FnScope N__law_so ["pool", "q"] (defScope s__law_so) := ⟨rfl, rfl, rfl, by decide +kernel, rfl, by decide +kernel, by decide +kernel⟩
theorem D__law_so (T : Txt K mg) : DefD P w K mg base (mi K) 9 "_law_so" 2 F__law_so :=
  FnX.at (n := 2) T.x__law_so hand_f sc__law_so rfl fun f cdv A outer s H E hr tk hp =>
    have sc := sc__law_so
    (ss_cons (s_asg (d_if (t_c (c_eq rfl hr.u64) (dv 1 (pv 1)) d_int) (d_tup (da_cons (d_tup (da_cons d_int (da_cons d_int da_nil))) (da_cons (d_tup (da_cons d_int (da_cons d_int da_nil))) da_nil))) (d_tup (da_cons d_int (da_cons d_int da_nil)))) (g_tup rfl rfl (gs_cons (g_nm (i := 2) sc.nd rfl (by first | exact Or.inl rfl | exact Or.inr rfl)) (gs_cons (g_nm (i := 3) sc.nd rfl (by first | exact Or.inl rfl | exact Or.inr rfl)) gs_nil))))
  (ss_cons (s_for hp rfl (i_rg1 (by rfl) T.b_range d_int) (g_nm (i := 4) sc.nd rfl (by first | exact Or.inl rfl | exact Or.inr rfl)) (ss_cons (s_par (i := 5) (j := 6) rfl sc.nd rfl rfl (by decide) rfl rfl (da_cons (d_call (D__law_number T) (hr.mono (by first | omega | (simp only [Nat.add_eq]; omega))) tk (by rfl) (da_cons (dv 0 (pv 0)) (da_cons (dv 1 (pv 1)) da_nil))) (da_cons (d_call (D__law_number T) (hr.mono (by first | omega | (simp only [Nat.add_eq]; omega))) tk (by rfl) (da_cons (dv 0 (pv 0)) (da_cons (dv 1 (pv 1)) da_nil))) da_nil)) (by rfl))
  (ss_cons (s_if (t_not (t_tru rfl (d_call (D__law_same T) (hr.mono (by first | omega | (simp only [Nat.add_eq]; omega))) tk (by rfl) (da_cons (d_tup (da_cons (d_call (D_field_sum T) (hr.mono (by first | omega | (simp only [Nat.add_eq]; omega))) tk (by rfl) (da_cons (dv 1 (pv 1)) (da_cons (dv 5 (pv 5)) (da_cons (dv 6 (pv 6)) da_nil)))) (da_cons (d_call (D_field_product T) (hr.mono (by first | omega | (simp only [Nat.add_eq]; omega))) tk (by rfl) (da_cons (dv 1 (pv 1)) (da_cons (dv 5 (pv 5)) (da_cons (dv 6 (pv 6)) da_nil)))) da_nil))) (da_cons (d_tup (da_cons (d_call (D__law_sum T) (hr.mono (by first | omega | (simp only [Nat.add_eq]; omega))) tk (by rfl) (da_cons (dv 1 (pv 1)) (da_cons (dv 5 (pv 5)) (da_cons (dv 6 (pv 6)) da_nil)))) (da_cons (d_call (D__law_product T) (hr.mono (by first | omega | (simp only [Nat.add_eq]; omega))) tk (by rfl) (da_cons (dv 1 (pv 1)) (da_cons (dv 5 (pv 5)) (da_cons (dv 6 (pv 6)) da_nil)))) da_nil))) da_nil))))) (ss_one (s_ret d_bl)) ss_nil)
  (ss_cons (s_if (t_not (t_tru rfl (d_call (D__law_same T) (hr.mono (by first | omega | (simp only [Nat.add_eq]; omega))) tk (by rfl) (da_cons (d_call (D__law_sum T) (hr.mono (by first | omega | (simp only [Nat.add_eq]; omega))) tk (by rfl) (da_cons (dv 1 (pv 1)) (da_cons (dv 5 (pv 5)) (da_cons (d_call (D_field_opposite T) (hr.mono (by first | omega | (simp only [Nat.add_eq]; omega))) tk (by rfl) (da_cons (dv 1 (pv 1)) (da_cons (dv 5 (pv 5)) da_nil))) da_nil)))) (da_cons (dv 2 (pv 2)) da_nil))))) (ss_one (s_ret d_bl)) ss_nil)
  (ss_one (s_if (t_w (w_and (t_c (c_ne rfl hr.u64) (dv 5 (pv 5)) (dv 2 (pv 2))) (w_and1 (t_not (t_tru rfl (d_call (D__law_same T) (hr.mono (by first | omega | (simp only [Nat.add_eq]; omega))) tk (by rfl) (da_cons (d_call (D__law_product T) (hr.mono (by first | omega | (simp only [Nat.add_eq]; omega))) tk (by rfl) (da_cons (dv 1 (pv 1)) (da_cons (dv 5 (pv 5)) (da_cons (d_call (D_field_inverse T) (hr.mono (by first | omega | (simp only [Nat.add_eq]; omega))) tk (by rfl) (da_cons (dv 1 (pv 1)) (da_cons (dv 5 (pv 5)) da_nil))) da_nil)))) (da_cons (dv 3 (pv 3)) da_nil)))))))) (ss_one (s_ret d_bl)) ss_nil))))))
  (ss_cons (s_set (i := 7) sc.nd rfl (by first | exact Or.inl rfl | exact Or.inr rfl) (d_call (D__law_take T) (hr.mono (by first | omega | (simp only [Nat.add_eq]; omega))) tk (by rfl) (da_cons (dv 0 (pv 0)) (da_cons d_int da_nil))))
  (ss_cons (s_set (i := 8) sc.nd rfl (by first | exact Or.inl rfl | exact Or.inr rfl) (d_lc fin_c (own := ([("turn", 4)] : List (Str × Nat))) (by decide) rfl sc.nd (i_rg1 (by rfl) T.b_range (d_call (D__law_take T) (hr.mono (by first | omega | (simp only [Nat.add_eq]; omega))) tk (by rfl) (da_cons (dv 0 (pv 0)) (da_cons d_int da_nil)))) (blkOk_by (by kernel_rfl)) (fun _ _ _ _ _ => (g_nm (i := 4) sc.nd rfl (by first | exact Or.inl rfl | exact Or.inr rfl))) (fun _ _ _ _ _ => ts_nil) (fun _ _ _ _ _ => (d_lc fin_f (own := ([("k", 9)] : List (Str × Nat))) (by decide) rfl sc.nd (i_rg1 (by rfl) T.b_range (dv 7 (pv 7))) (blkOk_by (by kernel_rfl)) (fun _ _ _ _ _ => (g_nm (i := 9) sc.nd rfl (by first | exact Or.inl rfl | exact Or.inr rfl))) (fun _ _ _ _ _ => ts_nil) (fun _ _ _ _ _ => (d_call (D__law_pick T) (hr.mono (by first | omega | (simp only [Nat.add_eq]; omega))) takes0 (by rfl) (da_cons (dv 0 (pv 0)) (da_cons (d_lst fin_f (da_cons (dv 2 (pv 2)) (da_cons (d_call (D__law_number T) (hr.mono (by first | omega | (simp only [Nat.add_eq]; omega))) takes0 (by rfl) (da_cons (dv 0 (pv 0)) (da_cons (dv 1 (pv 1)) da_nil))) da_nil))) da_nil))))))))
  (ss_cons (s_if (t_w (w_and (t_c c_gt (d_len rfl (by rfl) T.b_len (dv 8 (pv 8))) d_int) (w_and1 (t_c (c_eq rfl hr.u64) (d_call (D__law_take T) (hr.mono (by first | omega | (simp only [Nat.add_eq]; omega))) tk (by rfl) (da_cons (dv 0 (pv 0)) (da_cons d_int da_nil))) d_int)))) (ss_cons (s_set (i := 10) sc.nd rfl (by first | exact Or.inl rfl | exact Or.inr rfl) (d_call (D__law_number T) (hr.mono (by first | omega | (simp only [Nat.add_eq]; omega))) tk (by rfl) (da_cons (dv 0 (pv 0)) (da_cons (dv 1 (pv 1)) da_nil))))
  (ss_one (s_asg (d_lc fin_f (own := ([("k", 9)] : List (Str × Nat))) (by decide) rfl sc.nd (i_rg1 (by rfl) T.b_range (dv 7 (pv 7))) (blkOk_by (by kernel_rfl)) (fun _ _ _ _ _ => (g_nm (i := 9) sc.nd rfl (by first | exact Or.inl rfl | exact Or.inr rfl))) (fun _ _ _ _ _ => ts_nil) (fun _ _ _ _ _ => (d_call (D__law_sum T) (hr.mono (by first | omega | (simp only [Nat.add_eq]; omega))) takes0 (by rfl) (da_cons (dv 1 (pv 1)) (da_cons (d_ix rfl (d_ix rfl (dv 8 (pv 8)) d_int) (dv 9 (pv 9))) (da_cons (d_call (D__law_product T) (hr.mono (by first | omega | (simp only [Nat.add_eq]; omega))) takes0 (by rfl) (da_cons (dv 1 (pv 1)) (da_cons (dv 10 (pv 10)) (da_cons (d_ix rfl (d_ix rfl (dv 8 (pv 8)) (d_neg d_int)) (dv 9 (pv 9))) da_nil)))) da_nil)))))) (g_sub (W := DL.wE E) (dv 8 (pv 8)) d_int)))) ss_nil)
  (ss_one (s_ret (d_call (D__law_same T) (hr.mono (by first | omega | (simp only [Nat.add_eq]; omega))) tk (by rfl) (da_cons (d_call (D_field_rank T) (hr.mono (by first | omega | (simp only [Nat.add_eq]; omega))) tk (by rfl) (da_cons (dv 1 (pv 1)) (da_cons (d_call (D__law_given T) (hr.mono (by first | omega | (simp only [Nat.add_eq]; omega))) tk (by rfl) (da_cons (dv 0 (pv 0)) (da_cons (d_lc fin_f (own := ([("row", 11)] : List (Str × Nat))) (by decide) rfl sc.nd (i_src rfl (dv 8 (pv 8))) (blkOk_by (by kernel_rfl)) (fun _ _ _ _ _ => (g_nm (i := 11) sc.nd rfl (by first | exact Or.inl rfl | exact Or.inr rfl))) (fun _ _ _ _ _ => ts_nil) (fun _ _ _ _ _ => (d_call (D__law_given T) (hr.mono (by first | omega | (simp only [Nat.add_eq]; omega))) takes0 (by rfl) (da_cons (dv 0 (pv 0)) (da_cons (dv 11 (pv 11)) da_nil))))) da_nil))) da_nil))) (da_cons (d_call (D__law_rank_of T) (hr.mono (by first | omega | (simp only [Nat.add_eq]; omega))) tk (by rfl) (da_cons (dv 1 (pv 1)) (da_cons (dv 8 (pv 8)) da_nil))) da_nil))))))))))
theorem sc__law_always : FnScope N__law_always [] (defScope s__law_always) := ⟨rfl, rfl, rfl, by decide +kernel, rfl, by decide +kernel, by decide +kernel⟩
theorem D__law_always (T : Txt K mg) : DefD P w K mg base (mi K) 9 "_law_always" 0 F__law_always :=
  FnX.at (n := 0) T.x__law_always hand_f sc__law_always rfl fun f cdv A outer s H E hr tk hp =>
    have sc := sc__law_always
    (ss_cons (s_set (i := 0) sc.nd rfl (by first | exact Or.inl rfl | exact Or.inr rfl) (d_lst fin_f (da_cons (d_call (D_field_inverse T) (hr.mono (by first | omega | (simp only [Nat.add_eq]; omega))) tk (by rfl) (da_cons d_int (da_cons (d_tup (da_cons (d_neg d_int) (da_cons d_int da_nil))) da_nil))) (da_cons (d_call (D_field_inverse T) (hr.mono (by first | omega | (simp only [Nat.add_eq]; omega))) tk (by rfl) (da_cons d_int (da_cons d_int da_nil))) (da_cons (d_call (D_field_inverse T) (hr.mono (by first | omega | (simp only [Nat.add_eq]; omega))) tk (by rfl) (da_cons d_int (da_cons d_int da_nil))) (da_cons (d_call (D_field_opposite T) (hr.mono (by first | omega | (simp only [Nat.add_eq]; omega))) tk (by rfl) (da_cons d_int (da_cons d_int da_nil))) (da_cons (d_call (D_field_opposite T) (hr.mono (by first | omega | (simp only [Nat.add_eq]; omega))) tk (by rfl) (da_cons d_int (da_cons (d_tup (da_cons d_int (da_cons d_int da_nil))) da_nil))) (da_cons (d_call (D_field_inverse T) (hr.mono (by first | omega | (simp only [Nat.add_eq]; omega))) tk (by rfl) (da_cons d_int (da_cons d_int da_nil))) da_nil))))))))
  (ss_cons (s_set (i := 0) sc.nd rfl (by first | exact Or.inl rfl | exact Or.inr rfl) (d_add rfl fin_f (dv 0 (pv 0)) (d_lst fin_f (da_cons (d_call (D_field_rank T) (hr.mono (by first | omega | (simp only [Nat.add_eq]; omega))) tk (by rfl) (da_cons d_int (da_cons (d_tup (da_cons (d_tup (da_cons (d_tup (da_cons d_int (da_cons d_int da_nil))) (da_cons (d_tup (da_cons d_int (da_cons d_int da_nil))) da_nil))) (da_cons (d_tup (da_cons (d_tup (da_cons d_int (da_cons d_int da_nil))) (da_cons (d_tup (da_cons d_int (da_cons d_int da_nil))) da_nil))) da_nil))) da_nil))) (da_cons (d_call (D_field_rank T) (hr.mono (by first | omega | (simp only [Nat.add_eq]; omega))) tk (by rfl) (da_cons d_int (da_cons (d_tup (da_cons (d_tup (da_cons (d_tup (da_cons d_int (da_cons d_int da_nil))) (da_cons (d_tup (da_cons d_int (da_cons d_int da_nil))) da_nil))) (da_cons (d_tup (da_cons (d_tup (da_cons d_int (da_cons d_int da_nil))) (da_cons (d_tup (da_cons d_int (da_cons d_int da_nil))) da_nil))) da_nil))) da_nil))) (da_cons (d_call (D_field_rank T) (hr.mono (by first | omega | (simp only [Nat.add_eq]; omega))) tk (by rfl) (da_cons d_int (da_cons (d_tup da_nil) da_nil))) da_nil))))))
  (ss_one (s_ret (d_call (D__law_same T) (hr.mono (by first | omega | (simp only [Nat.add_eq]; omega))) tk (by rfl) (da_cons (dv 0 (pv 0)) (da_cons (d_lst fin_f (da_cons (d_tup (da_cons (d_neg d_int) (da_cons d_int da_nil))) (da_cons d_int (da_cons d_int (da_cons d_int (da_cons (d_tup (da_cons (d_neg d_int) (da_cons d_int da_nil))) (da_cons d_int (da_cons d_int (da_cons d_int (da_cons d_int da_nil)))))))))) da_nil)))))))
theorem sc_law : FnScope N_law ["script"] (defScope s_law) := ⟨rfl, rfl, rfl, by decide +kernel, rfl, by decide +kernel, by decide +kernel⟩
theorem D_law (T : Txt K mg) {f : Addr} {fd : FuncData} (Fn : Fun K "law" "law" s_law f fd) : FnOk P w K mg base (L2.CX P w) 10 f fd ["script"] (spD (mi K) 1 F_law) :=
  def_c hand_f Fn sc_law rfl fun cdv A outer s H E hr tk hp =>
    have sc := sc_law
    (ss_cons (s_set (i := 1) sc.nd rfl (by first | exact Or.inl rfl | exact Or.inr rfl) (d_call (D__law_pool T) (hr.mono (by first | omega | (simp only [Nat.add_eq]; omega))) tk (by rfl) (da_cons (dv 0 (pv 0)) da_nil)))
  (ss_cons (s_if (t_not (t_tru rfl (d_call0 (D__law_always T) (hr.mono (by first | omega | (simp only [Nat.add_eq]; omega))) (by rfl)))) (ss_one (s_ret d_bl)) ss_nil)
  (ss_one (s_ret (d_all rfl rfl (by rfl) T.b_all (d_lc fin_f (own := ([("q", 2)] : List (Str × Nat))) (by decide) rfl sc.nd (i_src rfl (d_tup (da_cons d_int (da_cons d_int (da_cons d_int (da_cons (d_call (D__law_pick T) (hr.mono (by first | omega | (simp only [Nat.add_eq]; omega))) tk (by rfl) (da_cons (dv 1 (pv 1)) (da_cons (d_lst fin_f (da_cons d_int (da_cons d_int (da_cons d_int (da_cons d_int (da_cons d_int da_nil)))))) da_nil))) (da_cons (d_call (D__law_pick T) (hr.mono (by first | omega | (simp only [Nat.add_eq]; omega))) tk (by rfl) (da_cons (dv 1 (pv 1)) (da_cons (d_lst fin_f (da_cons d_int (da_cons d_int (da_cons d_int (da_cons d_int da_nil))))) da_nil))) da_nil))))))) (blkOk_by (by kernel_rfl)) (fun _ _ _ _ _ => (g_nm (i := 2) sc.nd rfl (by first | exact Or.inl rfl | exact Or.inr rfl))) (fun _ _ _ _ _ => ts_nil) (fun _ _ _ _ _ => (d_call (D__law_so T) (hr.mono (by first | omega | (simp only [Nat.add_eq]; omega))) takes0 (by rfl) (da_cons (dv 1 (pv 1)) (da_cons (dv 2 (pv 2)) da_nil))))))))))
end
theorem walk (law : ∀ ns : List Int, ns.length ≤ 63 → F_law [.scr ns] [] = .ok (.d (.bool true)) []) {l : PySem.W.OpenLaw} {q : Program} {loose : List Str} {XP : (Str → Option Value) → Heap → Prop} {YP : World → Heap → Prop} {d : DefRec} {K : Params → PySem.W.Frag} (hn : l.most = some 63) (hdf : d.params.defaults = []) (hd : d.name = "law")
    (hY : ∀ (w : World) (h : Heap), YP w h → (K w.params).In h) (T : ∀ (w : World) (mg : Str → Option Value) (h : Heap), (K w.params).In h → h.Ns mainGlobals mg → Txt (K w.params) mg ∧ LawX (K w.params) mg s_law) :
    PySem.W.WalkO q loose XP YP l.row.toRowW d [] (fun f vs => PySem.call f vs) :=
  law_fin (k := 10) (st := s_law) (F := F_law) Txt ⟨rfl, by decide, by decide⟩ hn hdf hd hY (fun t F => D_law t F) law T
end G06
open PySem PySem.W PyProof.Rows in
set_option maxRecDepth 100000 in
set_option maxHeartbeats 0 in
theorem PySem.Challenge.cw_matroidproved_k06_whole_fields_holds : PySem.Challenge.rw_matroidproved_k06_whole_fields.Holds := by
  w_on; o_law; k_head; (case hw => w_witness2)
  k_fill
  refine G06.walk G06.law_true (l := PySem.Challenge.rw_matroidproved_k06_whole_fields) rfl rfl rfl (fun w h Y => PySem.W.kIn_of Y) ?T
  case T =>
    intro w mg h KX G
    refine ⟨?t, ?x⟩
    case t =>
      constructor
      case b_abs => refine PySem.W.mg_none_of KX G ?a; (case a => k_is)
      case b_all => refine PySem.W.mg_none_of KX G ?a; (case a => k_is)
      case b_any => refine PySem.W.mg_none_of KX G ?a; (case a => k_is)
      case b_bool => refine PySem.W.mg_none_of KX G ?a; (case a => k_is)
      case b_enumerate => refine PySem.W.mg_none_of KX G ?a; (case a => k_is)
      case b_gcd => refine PySem.W.mg_of KX G ?a; (case a => k_is)
      case b_int => refine PySem.W.mg_none_of KX G ?a; (case a => k_is)
      case b_isinstance => refine PySem.W.mg_none_of KX G ?a; (case a => k_is)
      case b_len => refine PySem.W.mg_none_of KX G ?a; (case a => k_is)
      case b_list => refine PySem.W.mg_none_of KX G ?a; (case a => k_is)
      case b_range => refine PySem.W.mg_none_of KX G ?a; (case a => k_is)
      case b_str => refine PySem.W.mg_none_of KX G ?a; (case a => k_is)
      case b_tuple => refine PySem.W.mg_none_of KX G ?a; (case a => k_is)
      case b_zip => refine PySem.W.mg_none_of KX G ?a; (case a => k_is)
      case k_BACK_FOUR => refine' DL.konst 8 KX G ?a ?b; (case a => k_is); (case b => kernel_rfl)
      case k_TIMES_FOUR => refine' DL.konst 8 KX G ?a ?b; (case a => k_is); (case b => kernel_rfl)
      case x_fraction => refine' DL.FnX.of KX G ?a ?l ?c ?k (fun _ _ _ _ _ _ us hl => match us, hl with | [_, _], _ => rfl); (case a => k_is); (case l => k_is); (case c => k_is); (case k => k_is)
      case x_field_opposite => refine' DL.FnX.of KX G ?a ?l ?c ?k (fun _ _ _ _ _ _ us hl => match us, hl with | [_, _], _ => rfl); (case a => k_is); (case l => k_is); (case c => k_is); (case k => k_is)
      case x_less_times => refine' DL.FnX.of KX G ?a ?l ?c ?k (fun _ _ _ _ _ _ us hl => match us, hl with | [_, _, _, _], _ => rfl); (case a => k_is); (case l => k_is); (case c => k_is); (case k => k_is)
      case x_whole_row => refine' DL.FnX.of KX G ?a ?l ?c ?k (fun _ _ _ _ _ _ us hl => match us, hl with | [_], _ => rfl); (case a => k_is); (case l => k_is); (case c => k_is); (case k => k_is)
      case x__law_pool => refine' DL.FnX.of KX G ?a ?l ?c ?k (fun _ _ _ _ _ _ us hl => match us, hl with | [_], _ => rfl); (case a => k_is); (case l => k_is); (case c => k_is); (case k => k_is)
      case x__law_is_integer => refine' DL.FnX.of KX G ?a ?l ?c ?k (fun _ _ _ _ _ _ us hl => match us, hl with | [_], _ => rfl); (case a => k_is); (case l => k_is); (case c => k_is); (case k => k_is)
      case x__law_common => refine' DL.FnX.of KX G ?a ?l ?c ?k (fun _ _ _ _ _ _ us hl => match us, hl with | [_, _], _ => rfl); (case a => k_is); (case l => k_is); (case c => k_is); (case k => k_is)
      case x__law_less_times => refine' DL.FnX.of KX G ?a ?l ?c ?k (fun _ _ _ _ _ _ us hl => match us, hl with | [_, _, _, _, _], _ => rfl); (case a => k_is); (case l => k_is); (case c => k_is); (case k => k_is)
      case x_field_sum => refine' DL.FnX.of KX G ?a ?l ?c ?k (fun _ _ _ _ _ _ us hl => match us, hl with | [_, _, _], _ => rfl); (case a => k_is); (case l => k_is); (case c => k_is); (case k => k_is)
      case x_field_product => refine' DL.FnX.of KX G ?a ?l ?c ?k (fun _ _ _ _ _ _ us hl => match us, hl with | [_, _, _], _ => rfl); (case a => k_is); (case l => k_is); (case c => k_is); (case k => k_is)
      case x_field_inverse => refine' DL.FnX.of KX G ?a ?l ?c ?k (fun _ _ _ _ _ _ us hl => match us, hl with | [_, _], _ => rfl); (case a => k_is); (case l => k_is); (case c => k_is); (case k => k_is)
      case x_whole_rank => refine' DL.FnX.of KX G ?a ?l ?c ?k (fun _ _ _ _ _ _ us hl => match us, hl with | [_, _], _ => rfl); (case a => k_is); (case l => k_is); (case c => k_is); (case k => k_is)
      case x__law_ratio => refine' DL.FnX.of KX G ?a ?l ?c ?k (fun _ _ _ _ _ _ us hl => match us, hl with | [_, _], _ => rfl); (case a => k_is); (case l => k_is); (case c => k_is); (case k => k_is)
      case x__law_row_rank => refine' DL.FnX.of KX G ?a ?l ?c ?k (fun _ _ _ _ _ _ us hl => match us, hl with | [_, _], _ => rfl); (case a => k_is); (case l => k_is); (case c => k_is); (case k => k_is)
      case x_field_rank => refine' DL.FnX.of KX G ?a ?l ?c ?k (fun _ _ _ _ _ _ us hl => match us, hl with | [_, _], _ => rfl); (case a => k_is); (case l => k_is); (case c => k_is); (case k => k_is)
      case x__law_sum => refine' DL.FnX.of KX G ?a ?l ?c ?k (fun _ _ _ _ _ _ us hl => match us, hl with | [_, _, _], _ => rfl); (case a => k_is); (case l => k_is); (case c => k_is); (case k => k_is)
      case x__law_product => refine' DL.FnX.of KX G ?a ?l ?c ?k (fun _ _ _ _ _ _ us hl => match us, hl with | [_, _, _], _ => rfl); (case a => k_is); (case l => k_is); (case c => k_is); (case k => k_is)
      case x__law_rank_of => refine' DL.FnX.of KX G ?a ?l ?c ?k (fun _ _ _ _ _ _ us hl => match us, hl with | [_, _], _ => rfl); (case a => k_is); (case l => k_is); (case c => k_is); (case k => k_is)
      case x__law_take => refine' DL.FnX.of KX G ?a ?l ?c ?k (fun _ _ _ _ _ _ us hl => match us, hl with | [_, _], _ => rfl); (case a => k_is); (case l => k_is); (case c => k_is); (case k => k_is)
      case x__law_pick => refine' DL.FnX.of KX G ?a ?l ?c ?k (fun _ _ _ _ _ _ us hl => match us, hl with | [_, _], _ => rfl); (case a => k_is); (case l => k_is); (case c => k_is); (case k => k_is)
      case x__law_given => refine' DL.FnX.of KX G ?a ?l ?c ?k (fun _ _ _ _ _ _ us hl => match us, hl with | [_, _], _ => rfl); (case a => k_is); (case l => k_is); (case c => k_is); (case k => k_is)
      case x__law_number => refine' DL.FnX.of KX G ?a ?l ?c ?k (fun _ _ _ _ _ _ us hl => match us, hl with | [_, _], _ => rfl); (case a => k_is); (case l => k_is); (case c => k_is); (case k => k_is)
      case x__law_same => refine' DL.FnX.of KX G ?a ?l ?c ?k (fun _ _ _ _ _ _ us hl => match us, hl with | [_, _], _ => rfl); (case a => k_is); (case l => k_is); (case c => k_is); (case k => k_is)
      case x__law_so => refine' DL.FnX.of KX G ?a ?l ?c ?k (fun _ _ _ _ _ _ us hl => match us, hl with | [_, _], _ => rfl); (case a => k_is); (case l => k_is); (case c => k_is); (case k => k_is)
      case x__law_always => refine' DL.FnX.of KX G ?a ?l ?c ?k (fun _ _ _ _ _ _ us hl => match us, hl with | [], _ => rfl); (case a => k_is); (case l => k_is); (case c => k_is); (case k => k_is)
    case x => refine' DL.LawX.of KX G ?a ?l ?c ?k (fun _ _ _ _ _ _ _ => rfl); (case a => k_is); (case l => k_is); (case c => k_is); (case k => k_is)
