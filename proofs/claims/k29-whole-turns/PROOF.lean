import PyProof.Rows.All
import Wide.All
import OpenK.AllK
import Wide.FinOn
import HandS.Base
import HandS.Call
import HandS.List
import HandS.Comp
import HandS.Ends
import HandS.Exc
import HandS.Words
import KE.DataEq
import HandS.Gcd
import HandS.Wide
import HandS.TupAny
import HandS.Deep
import HandS.Conv
import HandS.CallSlots
import HandS.WordsExc
import HandS.IsInst
import HandS.Flow
import KE.DataAny
import HandS.Walk
import HandS.Iter
import HandS.Zip
import HandS.ExcOwn
import HandS.TryOnly
import HandS.ExcField
import HandS.ExcIs
import KE.SortData
import HandS.Dict
import HandS.ExcInit
import HandS.ExcSuper
import KE.KExcSuper
import KE.KSuper
import HandS.SetFor
import HandS.More
import HandS.Strs
import KE.GoesMore
import HandS.SetBool
import PySem.Challenge.RW_matroidproved_k29_whole_turns
set_option Elab.async false
set_option linter.all false
set_option maxRecDepth 100000
set_option maxHeartbeats 4000000
/-! D0: a layer over HandS: values as plain data, mutable lists as cells of a store; each construct's plain meaning and its rule. -/
namespace DL
open PySem L2

/-- a local's value: plain data; a mutable list, told by its place in the store; the script -/
inductive SV where
  | d (x : PyData)
  | cell (i : Nat)
  | scr (ns : List Int)
/-- what a cell of the store holds -/
inductive MO where
  | lst (xs : List PyData)
  | dct (kvs : List (Key × PyData))
abbrev Store := List MO
structure Exc where
  cls : Str
  fs : List (Str × PyData)
inductive Out (α : Type) where
  | ok (a : α) (S : Store)
  | ex (x : Exc) (S : Store)
  | no
abbrev Ev := List (Option SV)
abbrev Mo (α : Type) := Store → Out α

def Out.bind {α β : Type} : Out α → (α → Store → Out β) → Out β
  | .ok a S, k => k a S
  | .ex x S, _ => .ex x S
  | .no, _ => .no

/-! ### how values are read off the heap -/
mutual
inductive Rp (K : PySem.W.Frag) (F : Hp) : V → PyData → Prop
  | non : Rp K F .non .none
  | bl (b : Bool) : Rp K F (.bl b) (.bool b)
  | int (i : Int) : Rp K F (.int i) (.int i)
  | str (x : Str) : Rp K F (.str x) (.str x)
  | lst {a : Addr} {xs : List V} {ds : List PyData} : F a = some (.lst xs) → ds.length ≤ 16777216 → RpAll K F xs ds → Rp K F (.ref a) (.list ds)
  | tup {a : Addr} {xs : List V} {ds : List PyData} : SqT K F a xs → ds.length ≤ 16777216 → RpAll K F xs ds → Rp K F (.ref a) (.tuple ds)
  | dct {a : Addr} : F a = some (.dK []) → Rp K F (.ref a) (.dict [])
inductive RpAll (K : PySem.W.Frag) (F : Hp) : List V → List PyData → Prop
  | nil : RpAll K F [] []
  | cons {v : V} {vs : List V} {d : PyData} {ds : List PyData} : Rp K F v d → RpAll K F vs ds → RpAll K F (v :: vs) (d :: ds)
end
section
variable {K : PySem.W.Frag} {F F' : Hp}
abbrev Sub (F F' : Hp) : Prop := ∀ b o, F b = some o → F' b = some o
theorem SqT.sub (h : Sub F F') {a : Addr} {xs : List V} (q : SqT K F a xs) : SqT K F' a xs := by
  rcases q with (q | ⟨o, q⟩) | q
  · exact .inl (.inl (h _ _ q))
  · exact .inl (.inr ⟨o, h _ _ q⟩)
  · exact .inr q
theorem SqL.sub (h : Sub F F') {a : Addr} {xs : List V} (q : SqL K F a xs) : SqL K F' a xs := by
  rcases q with (q | ⟨o, q⟩) | q
  · exact .inl (.inl (h _ _ q))
  · exact .inl (.inr ⟨o, h _ _ q⟩)
  · exact .inr q
mutual
theorem Rp.sub (h : Sub F F') : ∀ (d : PyData) (v : V), Rp K F v d → Rp K F' v d
  | .none, _, q => by cases q; exact .non
  | .bool b, _, q => by cases q; exact .bl b
  | .int i, _, q => by cases q; exact .int i
  | .str x, _, q => by cases q; exact .str x
  | .list ds, _, q => by cases q with | lst e z r => exact .lst (h _ _ e) z (RpAll.sub h ds _ r)
  | .tuple ds, _, q => by cases q with | tup e z r => exact .tup (SqT.sub h e) z (RpAll.sub h ds _ r)
  | .dict _, _, q => by cases q with | dct e => exact .dct (h _ _ e)
theorem RpAll.sub (h : Sub F F') : ∀ (ds : List PyData) (vs : List V), RpAll K F vs ds → RpAll K F' vs ds
  | [], _, q => by cases q; exact .nil
  | d :: ds, _, q => by cases q with | cons r t => exact .cons (Rp.sub h d _ r) (RpAll.sub h ds _ t)
end
theorem RpAll.len : ∀ {vs : List V} {ds : List PyData}, RpAll K F vs ds → vs.length = ds.length
  | _, _, .nil => rfl
  | _, _, .cons _ t => by rw [List.length_cons, List.length_cons, RpAll.len t]
theorem RpAll.get : ∀ {vs : List V} {ds : List PyData} {i : Nat} {d : PyData}, RpAll K F vs ds → ds[i]? = some d → ∃ v, vs[i]? = some v ∧ Rp K F v d
  | _, _, _, _, .nil, e => by simp at e
  | _, _, 0, _, .cons r _, e => by simp at e; subst e; exact ⟨_, rfl, r⟩
  | _, _, i + 1, _, .cons _ t, e => by
    obtain ⟨v, h1, h2⟩ := RpAll.get (i := i) t (by simpa using e)
    exact ⟨v, by simpa using h1, h2⟩
theorem RpAll.getV : ∀ {vs : List V} {ds : List PyData} {i : Nat} {v : V}, RpAll K F vs ds → vs[i]? = some v → ∃ d, ds[i]? = some d ∧ Rp K F v d
  | _, _, _, _, .nil, e => by simp at e
  | _, _, 0, _, .cons r _, e => by simp at e; subst e; exact ⟨_, rfl, r⟩
  | _, _, i + 1, _, .cons _ t, e => by
    obtain ⟨v, h1, h2⟩ := RpAll.getV (i := i) t (by simpa using e)
    exact ⟨v, by simpa using h1, h2⟩
theorem RpAll.append : ∀ {vs ws : List V} {ds es : List PyData}, RpAll K F vs ds → RpAll K F ws es → RpAll K F (vs ++ ws) (ds ++ es)
  | _, _, _, _, .nil, q => q
  | _, _, _, _, .cons r t, q => .cons r (RpAll.append t q)
theorem RpAll.set {v : V} {d : PyData} (r : Rp K F v d) : ∀ {vs : List V} {ds : List PyData} (i : Nat), RpAll K F vs ds → RpAll K F (vs.set i v) (ds.set i d)
  | _, _, _, .nil => .nil
  | _, _, 0, .cons _ t => .cons r t
  | _, _, i + 1, .cons q t => .cons q (RpAll.set r i t)
theorem RpAll.take : ∀ {vs : List V} {ds : List PyData} (n : Nat), RpAll K F vs ds → RpAll K F (vs.take n) (ds.take n)
  | _, _, 0, _ => .nil
  | _, _, _ + 1, .nil => .nil
  | _, _, n + 1, .cons r t => .cons r (RpAll.take n t)
theorem RpAll.drop : ∀ {vs : List V} {ds : List PyData} (n : Nat), RpAll K F vs ds → RpAll K F (vs.drop n) (ds.drop n)
  | _, _, 0, r => r
  | _, _, _ + 1, .nil => .nil
  | _, _, n + 1, .cons _ t => RpAll.drop n t
theorem RpAll.eraseIdx : ∀ {vs : List V} {ds : List PyData} (n : Nat), RpAll K F vs ds → RpAll K F (vs.eraseIdx n) (ds.eraseIdx n)
  | _, _, _, .nil => .nil
  | _, _, 0, .cons _ t => t
  | _, _, n + 1, .cons r t => .cons r (RpAll.eraseIdx n t)
theorem RpAll.ints : ∀ {vs : List V} {ns : List Int}, RpAll K F vs (ns.map .int) → vs = ns.map V.int
  | _, [], .nil => rfl
  | _, n :: ns, .cons r t => by cases r; rw [RpAll.ints t]; rfl
theorem RpAll.of_ints : ∀ ns : List Int, RpAll K F (ns.map V.int) (ns.map .int)
  | [] => .nil
  | n :: ns => .cons (.int n) (RpAll.of_ints ns)
mutual
theorem Rp.dp {H : Hp} (h : Sub F H) : ∀ (d : PyData) (v : V), PyData.plain d = true → Rp K F v d → Dp K H v d
  | .none, _, _, q => by cases q; exact .non
  | .bool b, _, _, q => by cases q; exact .bl b
  | .int i, _, _, q => by cases q; exact .int i
  | .str x, _, _, q => by cases q; exact .str x
  | .list ds, _, n, q => by cases q with | lst e z r => exact .lst (SqL.of (h _ _ e)) (RpAll.dp h ds _ (by rwa [PyData.plain] at n) r)
  | .tuple ds, _, n, q => by cases q with | tup e z r => exact .tup (SqT.sub h e) (RpAll.dp h ds _ (by rwa [PyData.plain] at n) r)
  | .dict _, _, n, q => by simp [PyData.plain] at n
theorem RpAll.dp {H : Hp} (h : Sub F H) : ∀ (ds : List PyData) (vs : List V), PyData.plainAll ds = true → RpAll K F vs ds → DpAll K H vs ds
  | [], _, _, q => by cases q; exact .nil
  | d :: ds, _, n, q => by
    rw [PyData.plainAll, Bool.and_eq_true] at n
    cases q with | cons r t => exact .cons (Rp.dp h d _ n.1 r) (RpAll.dp h ds _ n.2 t)
end
end

/-- the ghost: where the store's cells stand; what is frozen -/
structure Gh where
  B : List Addr
  F : Hp
/-- what the layer knows of the module -/
structure Mi where
  K : PySem.W.Frag
  cn : Str → Option Addr
def RepS (K : PySem.W.Frag) (g : Gh) (v : V) : SV → Prop
  | .d x => Rp K g.F v x
  | .cell i => ∃ a, g.B[i]? = some a ∧ v = .ref a
  | .scr ns => ∃ a, v = .ref a ∧ SqL K g.F a (ns.map V.int)
inductive RepA (K : PySem.W.Frag) (g : Gh) : List V → List SV → Prop
  | nil : RepA K g [] []
  | cons {v : V} {vs : List V} {x : SV} {xs : List SV} : RepS K g v x → RepA K g vs xs → RepA K g (v :: vs) (x :: xs)
theorem RepA.len {K : PySem.W.Frag} {g : Gh} : ∀ {vs : List V} {xs : List SV}, RepA K g vs xs → vs.length = xs.length
  | _, _, .nil => rfl
  | _, _, .cons _ t => by rw [List.length_cons, List.length_cons, RepA.len t]
abbrev RpKV (K : PySem.W.Frag) (F : Hp) : List (Key × V) → List (Key × PyData) → Prop := Paired fun p q => p.1 = q.1 ∧ Rp K F p.2 q.2
def RepM (K : PySem.W.Frag) (F : Hp) (o : Option HO) : MO → Prop
  | .lst ds => ds.length ≤ 16777216 ∧ ∃ vs, o = some (.lst vs) ∧ RpAll K F vs ds
  | .dct ds => ds.length ≤ 16777216 ∧ ∃ kvs, o = some (.dK kvs) ∧ RpKV K F kvs ds
theorem RpKV.sub {K : PySem.W.Frag} {F F' : Hp} (h : Sub F F') {kvs : List (Key × V)} {ds : List (Key × PyData)} (r : RpKV K F kvs ds) : RpKV K F' kvs ds := by
  unfold RpKV at r ⊢
  induction r with
  | nil => exact .nil
  | cons a b ih => exact .cons ⟨a.1, Rp.sub h _ _ a.2⟩ ih
structure Rel (K : PySem.W.Frag) (g : Gh) (H : Hp) (S : Store) : Prop where
  sub : Sub g.F H
  nd : g.B.Nodup
  dis : ∀ a ∈ g.B, g.F a = none
  len : g.B.length = S.length
  at_ : ∀ (i : Nat) (a : Addr) (m : MO), g.B[i]? = some a → S[i]? = some m → RepM K g.F (H a) m
structure Vars (K : PySem.W.Frag) (g : Gh) (σ : St) (Γ : Ev) : Prop where
  len : σ.length = Γ.length
  at_ : ∀ (i : Nat) (x : SV), Γ[i]? = some (some x) → ∃ v, σ[i]? = some (some v) ∧ RepS K g v x
structure Grow (g : Gh) (H : Hp) (g' : Gh) (H' : Hp) : Prop where
  pre : ∃ C, g'.B = g.B ++ C
  sub : Sub g.F g'.F
  frm : ∀ b o, H b = some o → b ∉ g.B → H' b = some o
  newB : ∀ b ∈ g'.B, b ∈ g.B ∨ H b = none
  newF : ∀ b o, g'.F b = some o → g.F b = some o ∨ H b = none
section
variable {K : PySem.W.Frag} {g g1 g2 g' : Gh} {H H1 H2 H' : Hp} {S S1 : Store} {σ : St} {Γ : Ev}
theorem Grow.refl (g : Gh) (H : Hp) : Grow g H g H := ⟨⟨[], by simp⟩, fun _ _ h => h, fun _ _ h _ => h, fun _ h => .inl h, fun _ _ h => .inl h⟩
theorem Rel.there (r : Rel K g H S) {a : Addr} (h : a ∈ g.B) : ∃ o, H a = some o := by
  obtain ⟨i, hi, e⟩ := List.getElem_of_mem h
  have e1 : g.B[i]? = some a := by rw [List.getElem?_eq_getElem hi, e]
  have hS : i < S.length := by rw [← r.len]; exact hi
  have q := r.at_ i a S[i] e1 (List.getElem?_eq_getElem hS)
  cases hm : S[i] with
  | lst ds =>
    rw [hm] at q
    obtain ⟨_, vs, e, _⟩ := q
    exact ⟨_, e⟩
  | dct ds =>
    rw [hm] at q
    obtain ⟨_, vs, e, _⟩ := q
    exact ⟨_, e⟩
theorem Grow.trans (r1 : Rel K g1 H1 S1) (a : Grow g H g1 H1) (b : Grow g1 H1 g2 H2) : Grow g H g2 H2 := by
  have back : ∀ c, H1 c = none → H c = none ∨ c ∈ g.B := fun c e => by
    by_cases hc : c ∈ g.B
    · exact .inr hc
    · cases q : H c with
      | none => exact .inl rfl
      | some o =>
        rw [a.frm c o q hc] at e
        cases e
  have inB : ∀ c, c ∈ g.B → c ∈ g1.B := fun c hc => by
    obtain ⟨C, e⟩ := a.pre
    rw [e]; exact List.mem_append_left _ hc
  have fresh : ∀ c, H1 c = none → H c = none := fun c e => by
    rcases back c e with h | h
    · exact h
    · obtain ⟨o, q⟩ := r1.there (inB c h)
      rw [q] at e; cases e
  refine ⟨?_, fun c o h => b.sub _ _ (a.sub _ _ h), fun c o h hc => ?_, fun c hc => ?_, fun c o h => ?_⟩
  · obtain ⟨C, e⟩ := a.pre
    obtain ⟨C', e'⟩ := b.pre
    exact ⟨C ++ C', by rw [e', e, List.append_assoc]⟩
  · have h1 := a.frm c o h hc
    refine b.frm c o h1 fun q => ?_
    rcases a.newB c q with z | z
    · exact hc z
    · rw [h] at z; cases z
  · rcases b.newB c hc with z | z
    · exact a.newB c z
    · exact .inr (fresh c z)
  · rcases b.newF c o h with z | z
    · exact a.newF c o z
    · exact .inr (fresh c z)
theorem Grow.rep (a : Grow g H g' H') {v : V} {x : SV} (h : RepS K g v x) : RepS K g' v x := by
  cases x with
  | d x => exact Rp.sub a.sub _ _ h
  | cell i =>
    obtain ⟨c, e, rfl⟩ := h
    obtain ⟨C, q⟩ := a.pre
    exact ⟨c, by rw [q, List.getElem?_append_left (List.getElem?_eq_some_iff.mp e).1]; exact e, rfl⟩
  | scr ns =>
    obtain ⟨c, rfl, q⟩ := h
    exact ⟨c, rfl, SqL.sub a.sub q⟩
theorem Grow.repA (a : Grow g H g' H') : ∀ {vs : List V} {xs : List SV}, RepA K g vs xs → RepA K g' vs xs
  | _, _, .nil => .nil
  | _, _, .cons r t => .cons (a.rep r) (Grow.repA a t)
theorem Grow.vars (a : Grow g H g' H') (h : Vars K g σ Γ) : Vars K g' σ Γ := ⟨h.len, fun i x e => let ⟨v, q, r⟩ := h.at_ i x e; ⟨v, q, a.rep r⟩⟩
theorem Vars.set (h : Vars K g σ Γ) {v : V} {x : SV} (r : RepS K g v x) (i : Nat) : Vars K g (σ.set i (some v)) (Γ.set i (some x)) := by
  refine ⟨by rw [List.length_set, List.length_set, h.len], fun j y e => ?_⟩
  by_cases hj : i = j
  · subst hj
    have hl : i < Γ.length := by
      have := (List.getElem?_eq_some_iff.mp e).1
      rwa [List.length_set] at this
    rw [List.getElem?_set_self hl] at e
    cases e
    exact ⟨v, List.getElem?_set_self (by rw [h.len]; exact hl), r⟩
  · rw [List.getElem?_set_ne hj] at e
    obtain ⟨w, q, z⟩ := h.at_ j y e
    exact ⟨w, by rw [List.getElem?_set_ne hj]; exact q, z⟩
def wipeE (Γ : Ev) : List Nat → Ev
  | [] => Γ
  | v :: vs => (wipeE Γ vs).set v none
theorem Vars.setN (h : Vars K g σ Γ) (i : Nat) : Vars K g (σ.set i none) (Γ.set i none) := by
  refine ⟨by rw [List.length_set, List.length_set, h.len], fun j y e => ?_⟩
  by_cases hj : i = j
  · subst hj
    have hl : i < Γ.length := by
      have := (List.getElem?_eq_some_iff.mp e).1
      rwa [List.length_set] at this
    rw [List.getElem?_set_self hl] at e
    cases e
  · rw [List.getElem?_set_ne hj] at e
    obtain ⟨w, q, z⟩ := h.at_ j y e
    exact ⟨w, by rw [List.getElem?_set_ne hj]; exact q, z⟩
theorem Vars.wipe (h : Vars K g σ Γ) : ∀ vs : List Nat, Vars K g (wipe σ vs) (wipeE Γ vs)
  | [] => h
  | v :: vs => (Vars.wipe h vs).setN v
/-- a new frozen object -/
theorem Rel.free (r : Rel K g H S) {p : Addr} (hp : H p = none) : g.F p = none ∧ p ∉ g.B := by
  constructor
  · cases q : g.F p with
    | none => rfl
    | some o => rw [r.sub _ _ q] at hp; cases hp
  · intro h
    obtain ⟨o, e⟩ := r.there h
    rw [e] at hp; cases hp
def Gh.frz (g : Gh) (p : Addr) (o : HO) : Gh := ⟨g.B, upd g.F p o⟩
theorem sub_upd {F : Hp} {p : Addr} {o : HO} (h : F p = none) : Sub F (upd F p o) := fun b u e => by
  rw [upd_ne (ne_of_none e h)]; exact e
theorem RepM.sub {F F' : Hp} (h : Sub F F') {o : Option HO} {m : MO} (r : RepM K F o m) : RepM K F' o m := by
  cases m with
  | lst ds =>
    obtain ⟨z, vs, e, q⟩ := r
    exact ⟨z, vs, e, RpAll.sub h _ _ q⟩
  | dct ds =>
    obtain ⟨z, vs, e, q⟩ := r
    exact ⟨z, vs, e, RpKV.sub h q⟩
theorem Rel.frz (r : Rel K g H S) {p : Addr} (hp : H p = none) (o : HO) : Rel K (g.frz p o) (upd H p o) S ∧ Grow g H (g.frz p o) (upd H p o) := by
  obtain ⟨hF, hB⟩ := r.free hp
  have ne : ∀ b ∈ g.B, b ≠ p := fun b hb e => hB (e ▸ hb)
  refine ⟨⟨fun b u e => ?_, r.nd, fun b hb => ?_, r.len, fun i a m e1 e2 => ?_⟩, ⟨⟨[], by simp [Gh.frz]⟩, sub_upd hF, fun b u e _ => ?_, fun b hb => .inl hb, fun b u e => ?_⟩⟩
  · by_cases hb : b = p
    · subst hb
      have e' : upd g.F b o b = some u := e
      rw [upd_same] at e' ⊢; exact e'
    · have e' : upd g.F p o b = some u := e
      rw [upd_ne hb] at e' ⊢; exact r.sub _ _ e'
  · show upd g.F p o b = none
    rw [upd_ne (ne b hb)]; exact r.dis b hb
  · have q := r.at_ i a m e1 e2
    rw [upd_ne (ne a (List.mem_of_getElem? e1))]
    exact q.sub (sub_upd hF)
  · rw [upd_ne (ne_of_none e hp)]; exact e
  · have e' : upd g.F p o b = some u := e
    by_cases hb : b = p
    · subst hb; exact .inr hp
    · rw [upd_ne hb] at e'; exact .inl e'
/-- a new cell -/
def Gh.cel (g : Gh) (p : Addr) : Gh := ⟨g.B ++ [p], g.F⟩
theorem Rel.cel (r : Rel K g H S) {p : Addr} (hp : H p = none) {vs : List V} {ds : List PyData} (hz : ds.length ≤ 16777216) (q : RpAll K g.F vs ds) : Rel K (g.cel p) (upd H p (.lst vs)) (S ++ [.lst ds]) ∧ Grow g H (g.cel p) (upd H p (.lst vs)) ∧ RepS K (g.cel p) (.ref p) (.cell S.length) := by
  obtain ⟨hF, hB⟩ := r.free hp
  have ne : ∀ b ∈ g.B, b ≠ p := fun b hb e => hB (e ▸ hb)
  refine ⟨⟨fun b u e => ?_, ?_, fun b hb => ?_, ?_, fun i a m e1 e2 => ?_⟩, ⟨⟨[p], rfl⟩, fun _ _ h => h, fun b u e _ => ?_, fun b hb => ?_, fun b u e => .inl e⟩, ⟨p, ?_, rfl⟩⟩
  · have e' : g.F b = some u := e
    have nb : b ≠ p := fun z => by rw [z, hF] at e'; cases e'
    rw [upd_ne nb]; exact r.sub _ _ e'
  · show (g.B ++ [p]).Nodup
    rw [List.nodup_append]
    exact ⟨r.nd, by simp, fun a ha b hb => by simp at hb; subst hb; exact ne a ha⟩
  · rcases List.mem_append.mp hb with h | h
    · exact r.dis b h
    · simp at h; subst h; exact hF
  · show (g.B ++ [p]).length = _
    rw [List.length_append, List.length_append, r.len]; rfl
  · have e1' : (g.B ++ [p])[i]? = some a := e1
    by_cases hi : i < g.B.length
    · rw [List.getElem?_append_left hi] at e1'
      rw [List.getElem?_append_left (by rw [← r.len]; exact hi)] at e2
      rw [upd_ne (ne a (List.mem_of_getElem? e1'))]
      exact r.at_ i a m e1' e2
    · have hl := (List.getElem?_eq_some_iff.mp e1').1
      rw [List.length_append, List.length_singleton] at hl
      have ei : i = g.B.length := by omega
      subst ei
      rw [List.getElem?_append_right (Nat.le_refl _), Nat.sub_self] at e1'
      rw [r.len, List.getElem?_append_right (Nat.le_refl _), Nat.sub_self] at e2
      cases e1'
      cases e2
      exact ⟨hz, vs, upd_same, q⟩
  · rw [upd_ne (ne_of_none e hp)]; exact e
  · rcases List.mem_append.mp hb with h | h
    · exact .inl h
    · simp at h; subst h; exact .inr hp
  · show (g.B ++ [p])[S.length]? = some p
    rw [← r.len, List.getElem?_append_right (Nat.le_refl _), Nat.sub_self]; rfl
/-- a cell is written -/
theorem Rel.put (r : Rel K g H S) {i : Nat} {a : Addr} (ha : g.B[i]? = some a) {vs : List V} {ds : List PyData} (hz : ds.length ≤ 16777216) (q : RpAll K g.F vs ds) : Rel K g (upd H a (.lst vs)) (S.set i (.lst ds)) ∧ Grow g H g (upd H a (.lst vs)) := by
  have am : a ∈ g.B := List.mem_of_getElem? ha
  have hF := r.dis a am
  refine ⟨⟨fun b u e => ?_, r.nd, r.dis, by rw [List.length_set]; exact r.len, fun j b m e1 e2 => ?_⟩, ⟨⟨[], by simp⟩, fun _ _ h => h, fun b u e hb => ?_, fun b hb => .inl hb, fun b u e => .inl e⟩⟩
  · have nb : b ≠ a := fun z => by rw [z, hF] at e; cases e
    rw [upd_ne nb]; exact r.sub _ _ e
  · by_cases hj : i = j
    · subst hj
      rw [ha] at e1; cases e1
      have hl := (List.getElem?_eq_some_iff.mp ha).1
      rw [List.getElem?_set_self (by rw [← r.len]; exact hl)] at e2
      cases e2
      exact ⟨hz, vs, upd_same, q⟩
    · rw [List.getElem?_set_ne hj] at e2
      have nb : b ≠ a := fun z => by
        subst z
        obtain ⟨h1, e1'⟩ := List.getElem?_eq_some_iff.mp ha
        obtain ⟨h2, e2'⟩ := List.getElem?_eq_some_iff.mp e1
        exact hj ((List.getElem_inj r.nd).mp (e1'.trans e2'.symm))
      rw [upd_ne nb]
      exact r.at_ j b m e1 e2
  · have nb : b ≠ a := fun z => hb (z ▸ am)
    rw [upd_ne nb]; exact e
end
end DL
/-! D1: readings by plain meaning; expressions, tests, arguments. -/
namespace DL
open PySem L2

def RepX (F : Hp) (K : PySem.W.Frag) (fs : List (Str × PyData)) (d : Option Addr) : Prop :=
  (fs = [] ∧ d = none) ∨ fs ≠ [] ∧ ∃ dx vs, d = some dx ∧ F dx = some (.xd vs) ∧ Paired (fun (p : Str × V) (q : Str × PyData) => p.1 = q.1 ∧ Rp K F p.2 q.2) vs fs
def XRep (M : Mi) (F : Hp) (x : Exc) (cls : Value) (d : Option Addr) : Prop := ∃ C, M.cn x.cls = some C ∧ cls = .ref C ∧ RepX F M.K x.fs d

/-- what an outcome promises -/
def Post {α β : Type} (M : Mi) (W : WX) (σ : St) (R : Gh → β → α → Prop) (Q : β → Hp → Prop) (g : Gh) (H : Hp) : Out α → Prop
  | .ok a S' => ∀ u g' H', Grow g H g' H' → Rel M.K g' H' S' → R g' u a → Q u H'
  | .ex x S' => ∀ cls d g' H', Grow g H g' H' → Rel M.K g' H' S' → XRep M g'.F x cls d → W cls d σ H'
  | .no => False
section
variable {α β γ δ : Type} {M : Mi} {W : WX} {σ : St} {R : Gh → β → α → Prop} {R2 : Gh → δ → γ → Prop} {Q Q' : β → Hp → Prop} {g g1 : Gh} {H H1 : Hp} {S S1 : Store}
theorem Post.grow {o : Out α} (r : Rel M.K g1 H1 S1) (a : Grow g H g1 H1) (h : Post M W σ R Q g H o) : Post M W σ R Q g1 H1 o := by
  cases o with
  | ok v S' => exact fun u g' H' b r' q => h u g' H' (a.trans r b) r' q
  | ex x S' => exact fun cls d g' H' b r' q => h cls d g' H' (a.trans r b) r' q
  | no => exact h
theorem Post.imp {o : Out α} (hQ : ∀ u H, Q u H → Q' u H) (h : Post M W σ R Q g H o) : Post M W σ R Q' g H o := by
  cases o with
  | ok v S' => exact fun u g' H' b r' q => hQ _ _ (h u g' H' b r' q)
  | ex x S' => exact h
  | no => exact h
theorem Post.now {a : α} {u : β} (h : Post M W σ R Q g H (.ok a S)) (r : Rel M.K g H S) (q : R g u a) : Q u H := h u g H (Grow.refl _ _) r q
/-- one outcome, then another -/
theorem Post.bind {o : Out α} {k : α → Store → Out γ} {Q2 : δ → Hp → Prop} (h : Post M W σ R2 Q2 g H (o.bind k)) :
    Post M W σ R (fun u H1 => ∃ g1 S1 a, Grow g H g1 H1 ∧ Rel M.K g1 H1 S1 ∧ R g1 u a ∧ Post M W σ R2 Q2 g1 H1 (k a S1)) g H o := by
  cases o with
  | ok a S' =>
    intro u g1 H1 gr r q
    exact ⟨g1, S', a, gr, r, q, Post.grow r gr h⟩
  | ex x S' => exact h
  | no => exact h
end

abbrev EF := Ev → Store → Out SV
abbrev TF := Ev → Store → Out Bool
abbrev AF := Ev → Store → Out (List SV)
def rS (M : Mi) : Gh → V → SV → Prop := fun g v x => RepS M.K g v x
def rB : Gh → Bool → Bool → Prop := fun _ b c => b = c
def rA (M : Mi) : Gh → List V → List SV → Prop := fun g v x => RepA M.K g v x
def tG {α β : Type} (M : Mi) (W : WX) (R : Gh → β → α → Prop) (f : Ev → Store → Out α) : St → Hp → (β → Hp → Prop) → Prop := fun σ H Q =>
  ∃ g Γ S, Rel M.K g H S ∧ Vars M.K g σ Γ ∧ Post M W σ R Q g H (f Γ S)
abbrev tE (M : Mi) (W : WX) (f : EF) : TE := tG M W (rS M) f
abbrev tT (M : Mi) (W : WX) (f : TF) : TT := tG M W rB f
abbrev tA (M : Mi) (W : WX) (f : AF) : TA := tG M W (rA M) f
abbrev DE (X : Cx) (M : Mi) (W : WX) (e : Expr) (f : EF) : Prop := PE X e (tE M W f)
abbrev DT (X : Cx) (M : Mi) (W : WX) (e : Expr) (f : TF) : Prop := PT X e (tT M W f)
abbrev DA (X : Cx) (M : Mi) (W : WX) (es : List Expr) (f : AF) : Prop := PA X es (tA M W f)

theorem _root_.L2.PE.weak {X : Cx} {e : Expr} {t t' : TE} (h : PE X e t) (k : ∀ σ H Q, t' σ H Q → t σ H Q) : PE X e t' := ⟨fun pins s σ H Q I z => h.run pins s σ H Q I (k _ _ _ z)⟩
theorem _root_.L2.PT.weak {X : Cx} {e : Expr} {t t' : TT} (h : PT X e t) (k : ∀ σ H Q, t' σ H Q → t σ H Q) : PT X e t' := ⟨fun pins s σ H Q I z => h.run pins s σ H Q I (k _ _ _ z)⟩
theorem _root_.L2.PW.weak {X : Cx} {e : Expr} {t t' : TT} (h : PW X e t) (k : ∀ σ H Q, t' σ H Q → t σ H Q) : PW X e t' := ⟨fun wh pins s σ H Q I z => h.run wh pins s σ H Q I (k _ _ _ z)⟩
theorem _root_.L2.PA.weak {X : Cx} {e : List Expr} {t t' : TA} (h : PA X e t) (k : ∀ σ H Q, t' σ H Q → t σ H Q) : PA X e t' := ⟨fun pos pins s σ H Q I z => h.run pos pins s σ H Q I (k _ _ _ z)⟩
theorem _root_.L2.PS.weak {X : Cx} {e : Stmt} {t t' : TS} (h : PS X e t) (k : ∀ D σ H, t' D σ H → t D σ H) : PS X e t' := ⟨fun pins s σ H D I z => h.run pins s σ H D I (k _ _ _ z)⟩
theorem _root_.L2.PSs.weak {X : Cx} {e : List Stmt} {t t' : TS} (h : PSs X e t) (k : ∀ D σ H, t' D σ H → t D σ H) : PSs X e t' := ⟨fun pins s σ H D I z => h.run pins s σ H D I (k _ _ _ z)⟩

section
variable {α β γ δ : Type} {M : Mi} {W : WX} {R : Gh → β → α → Prop} {R2 : Gh → δ → γ → Prop} {σ : St} {H : Hp}
/-- the first part of a compound: what is left for the rest -/
theorem step {f : Ev → Store → Out α} {k : α → Store → Out γ} {Q2 : δ → Hp → Prop} {Q : β → Hp → Prop} {g : Gh} {Γ : Ev} {S : Store} (r : Rel M.K g H S) (v : Vars M.K g σ Γ) (p : Post M W σ R2 Q2 g H ((f Γ S).bind k))
    (kk : ∀ u H1 g1 S1 a, Grow g H g1 H1 → Rel M.K g1 H1 S1 → Vars M.K g1 σ Γ → R g1 u a → Post M W σ R2 Q2 g1 H1 (k a S1) → Q u H1) : tG M W R f σ H Q := by
  refine ⟨g, Γ, S, r, v, Post.imp (fun u H1 q => ?_) (Post.bind p)⟩
  obtain ⟨g1, S1, a, gr, r1, q1, p1⟩ := q
  exact kk u H1 g1 S1 a gr r1 (gr.vars v) q1 p1
theorem tG.of {f : Ev → Store → Out α} {Q : β → Hp → Prop} {g : Gh} {Γ : Ev} {S : Store} (r : Rel M.K g H S) (v : Vars M.K g σ Γ) (p : Post M W σ R Q g H (f Γ S)) : tG M W R f σ H Q := ⟨g, Γ, S, r, v, p⟩
end

/-! ### names, constants -/
section
variable {X : Cx} {M : Mi} {W : WX} {pos : Pos}
def eVar (i : Nat) : EF := fun Γ S => match Γ[i]? with
  | some (some x) => .ok x S
  | _ => .no
def eC (x : PyData) : EF := fun _ S => .ok (.d x) S
theorem dv (i : Nat) {x : Str} (h : PE X (.Name x pos) (tVar i)) : DE X M W (.Name x pos) (eVar i) := h.weak fun σ H Q ⟨g, Γ, S, r, v, p⟩ => by
  unfold eVar at p
  split at p
  · rename_i x e
    obtain ⟨u, q, rp⟩ := v.at_ i x e
    exact ⟨u, q, p.now r rp⟩
  · exact p.elim
theorem d_int {i : Int} {j : Nat} : DE X M W (.Constant (.int i) j pos) (eC (.int i)) := pe_int.weak fun σ H Q ⟨g, Γ, S, r, v, p⟩ => Post.now p r (.int i)
theorem d_bl {b : Bool} {j : Nat} : DE X M W (.Constant (.bool b) j pos) (eC (.bool b)) := pe_bl.weak fun σ H Q ⟨g, Γ, S, r, v, p⟩ => Post.now p r (.bl b)
theorem d_non {j : Nat} : DE X M W (.Constant .none j pos) (eC .none) := pe_non.weak fun σ H Q ⟨g, Γ, S, r, v, p⟩ => Post.now p r .non
theorem d_str {x : Str} {j : Nat} : DE X M W (.Constant (.str x) j pos) (eC (.str x)) := pe_str.weak fun σ H Q ⟨g, Γ, S, r, v, p⟩ => Post.now p r (.str x)
/-- a constant of the module, as data -/
theorem d_glob {x : Str} {v : V} {u : Value} {d : PyData} (hg : Gl X x) (hm : X.mg x = some u) (r : RelV v u) (hd : ∀ F, Rp M.K F v d) (hdb : (x == ("__debug__" : Str)) = false := by decide) : DE X M W (.Name x pos) (eC d) :=
  (pe_glob hg hm r hdb).weak fun σ H Q ⟨g, Γ, S, r, w, p⟩ => Post.now p r (hd _)

/-! ### a list just made: frozen, or a cell -/
def Fin (M : Mi) (fin : List PyData → Store → Out SV) : Prop := ∀ (W : WX) (σ : St) (Q : VK) (g0 : Gh) (H0 : Hp) (g : Gh) (H : Hp) (S : Store) (p : Addr) (vs : List V) (ds : List PyData),
  Rel M.K g H S → Grow g0 H0 g H → H0 p = none → H p = some (.lst vs) → g.F p = none → p ∉ g.B → ds.length ≤ 16777216 → RpAll M.K g.F vs ds → Post M W σ (rS M) Q g0 H0 (fin ds S) → Q (.ref p) H
def finF : List PyData → Store → Out SV := fun ds S => .ok (.d (.list ds)) S
def finC : List PyData → Store → Out SV := fun ds S => .ok (.cell S.length) (S ++ [.lst ds])
theorem fin_f : Fin M finF := by
  intro W σ Q g0 H0 g H S p vs ds r gr hn hp hF hB hz q post
  have ne : ∀ b ∈ g.B, b ≠ p := fun b hb e => hB (e ▸ hb)
  refine post (.ref p) (g.frz p (.lst vs)) H ⟨gr.pre, fun b o e => sub_upd hF b o (gr.sub b o e), gr.frm, gr.newB, fun b u e => ?_⟩ ⟨fun b u e => ?_, r.nd, fun b hb => ?_, r.len, fun i a m e1 e2 => (r.at_ i a m e1 e2).sub (sub_upd hF)⟩ ?_
  · have e' : upd g.F p (.lst vs) b = some u := e
    by_cases hb : b = p
    · subst hb; exact .inr hn
    · rw [upd_ne hb] at e'; exact gr.newF _ _ e'
  · have e' : upd g.F p (.lst vs) b = some u := e
    by_cases hb : b = p
    · subst hb; rw [upd_same] at e'; cases e'; exact hp
    · rw [upd_ne hb] at e'; exact r.sub _ _ e'
  · show upd g.F p _ b = none
    rw [upd_ne (ne b hb)]; exact r.dis b hb
  · exact Rp.lst upd_same hz (RpAll.sub (sub_upd hF) _ _ q)
theorem fin_c : Fin M finC := by
  intro W σ Q g0 H0 g H S p vs ds r gr hn hp hF hB hz q post
  have ne : ∀ b ∈ g.B, b ≠ p := fun b hb e => hB (e ▸ hb)
  refine post (.ref p) (g.cel p) H ⟨?_, gr.sub, gr.frm, fun b hb => ?_, gr.newF⟩ ⟨r.sub, ?_, fun b hb => ?_, ?_, fun i a m e1 e2 => ?_⟩ ⟨p, ?_, rfl⟩
  · obtain ⟨C, e⟩ := gr.pre
    exact ⟨C ++ [p], by show g.B ++ [p] = _; rw [e, List.append_assoc]⟩
  · rcases List.mem_append.mp hb with h | h
    · exact gr.newB b h
    · simp at h; subst h; exact .inr hn
  · show (g.B ++ [p]).Nodup
    rw [List.nodup_append]
    exact ⟨r.nd, by simp, fun a ha b hb => by simp at hb; subst hb; exact ne a ha⟩
  · rcases List.mem_append.mp hb with h | h
    · exact r.dis b h
    · simp at h; subst h; exact hF
  · show (g.B ++ [p]).length = _
    rw [List.length_append, List.length_append, r.len]; rfl
  · have e1' : (g.B ++ [p])[i]? = some a := e1
    by_cases hi : i < g.B.length
    · rw [List.getElem?_append_left hi] at e1'
      rw [List.getElem?_append_left (by rw [← r.len]; exact hi)] at e2
      exact r.at_ i a m e1' e2
    · have hl := (List.getElem?_eq_some_iff.mp e1').1
      rw [List.length_append, List.length_singleton] at hl
      have ei : i = g.B.length := by omega
      subst ei
      rw [List.getElem?_append_right (Nat.le_refl _), Nat.sub_self] at e1'
      rw [r.len, List.getElem?_append_right (Nat.le_refl _), Nat.sub_self] at e2
      cases e1'
      cases e2
      exact ⟨hz, vs, hp, q⟩
  · show (g.B ++ [p])[S.length]? = some p
    rw [← r.len, List.getElem?_append_right (Nat.le_refl _), Nat.sub_self]; rfl
/-- .. where it is laid at the last step -/
theorem Fin.lay {fin : List PyData → Store → Out SV} (f : Fin M fin) {σ : St} {Q : VK} {g : Gh} {H : Hp} {S : Store} {vs : List V} {ds : List PyData} (r : Rel M.K g H S) (hz : ds.length ≤ 16777216) (q : RpAll M.K g.F vs ds) (post : Post M W σ (rS M) Q g H (fin ds S)) :
    ∀ p, H p = none → Q (.ref p) (upd H p (.lst vs)) := fun p hp => by
  obtain ⟨hF, hB⟩ := r.free hp
  have ne : ∀ b ∈ g.B, b ≠ p := fun b hb e => hB (e ▸ hb)
  refine f W σ Q g H g (upd H p (.lst vs)) S p vs ds ⟨fun b u e => ?_, r.nd, r.dis, r.len, fun i a m e1 e2 => ?_⟩ ⟨⟨[], by simp⟩, fun _ _ h => h, fun b u e _ => ?_, fun b hb => .inl hb, fun b u e => .inl e⟩ hp upd_same hF hB hz q post
  · have nb : b ≠ p := fun z => by rw [z, hF] at e; cases e
    rw [upd_ne nb]; exact r.sub _ _ e
  · rw [upd_ne (ne a (List.mem_of_getElem? e1))]; exact r.at_ i a m e1 e2
  · rw [upd_ne (ne_of_none e hp)]; exact e
/-- a new tuple -/
theorem lay_tup {σ : St} {Q : VK} {g : Gh} {H : Hp} {S : Store} {vs : List V} {ds : List PyData} (r : Rel M.K g H S) (hz : ds.length ≤ 16777216) (q : RpAll M.K g.F vs ds) (post : Post M W σ (rS M) Q g H (.ok (.d (.tuple ds)) S)) :
    ∀ p, H p = none → Q (.ref p) (upd H p (.tup vs)) := fun p hp => by
  obtain ⟨r', gr⟩ := r.frz hp (.tup vs)
  obtain ⟨hF, _⟩ := r.free hp
  exact post _ _ _ gr r' (Rp.tup (.inl (.inl upd_same)) hz (RpAll.sub (sub_upd hF) _ _ q))

/-! ### operators by values -/
def eBin (op : SV → SV → Store → Out SV) (fa fb : EF) : EF := fun Γ S => (fa Γ S).bind fun v S => (fb Γ S).bind fun w S => op v w S
def eUn (op : SV → Store → Out SV) (fa : EF) : EF := fun Γ S => (fa Γ S).bind fun v S => op v S
/-- a plain meaning of two values for a rule of the layer below -/
def Sat2 (M : Mi) (r : R2) (op : SV → SV → Store → Out SV) : Prop := ∀ (W : WX) (σ : St) (Q : VK) (g : Gh) (H : Hp) (S : Store) (x y : V) (v w : SV),
  Rel M.K g H S → RepS M.K g x v → RepS M.K g y w → Post M W σ (rS M) Q g H (op v w S) → r x y H Q
def Sat1 (M : Mi) (r : V → Hp → VK → Prop) (op : SV → Store → Out SV) : Prop := ∀ (W : WX) (σ : St) (Q : VK) (g : Gh) (H : Hp) (S : Store) (x : V) (v : SV),
  Rel M.K g H S → RepS M.K g x v → Post M W σ (rS M) Q g H (op v S) → r x H Q
variable {a b : Expr} {fa fb : EF}
theorem tOp_of {r : R2} {op : SV → SV → Store → Out SV} (hs : Sat2 M r op) {σ : St} {H : Hp} {Q : VK} (h : tE M W (eBin op fa fb) σ H Q) : tOp r (tE M W fa) (tE M W fb) σ H Q := by
  obtain ⟨g, Γ, S, r0, v0, p⟩ := h
  exact step r0 v0 p fun u H1 g1 S1 v gr r1 v1 q1 p1 => step r1 v1 p1 fun u2 H2 g2 S2 w gr2 r2 v2 q2 p2 => hs _ _ _ _ _ _ _ _ _ _ r2 (gr2.rep q1) q2 p2
theorem tUn_of {r : V → Hp → VK → Prop} {op : SV → Store → Out SV} (hs : Sat1 M r op) {σ : St} {H : Hp} {Q : VK} (h : tE M W (eUn op fa) σ H Q) : tUn r (tE M W fa) σ H Q := by
  obtain ⟨g, Γ, S, r0, v0, p⟩ := h
  exact step r0 v0 p fun u H1 g1 S1 v gr r1 v1 q1 p1 => hs _ _ _ _ _ _ _ _ r1 q1 p1
theorem d_op {o : Operator} {r : R2} {op : SV → SV → Store → Out SV} (ho : OpR X (binaryOp o) r) (hs : Sat2 M r op) (ha : DE X M W a fa) (hb : DE X M W b fb) : DE X M W (.BinOp a o b pos) (eBin op fa fb) :=
  (pe_op ho ha hb).weak fun _ _ _ h => tOp_of hs h
theorem d_un {o : UnaryOp} {r : V → Hp → VK → Prop} {op : SV → Store → Out SV} (ho : UnR X (unaryOp o) r) (hs : Sat1 M r op) (ha : DE X M W a fa) : DE X M W (.UnaryOp o a pos) (eUn op fa) :=
  (pe_un ho ha).weak fun _ _ _ h => tUn_of hs h
theorem d_cmp {o : CmpOp} {r : R2} {op : SV → SV → Store → Out SV} (ho : OpR X (compareOp o) r) (hs : Sat2 M r op) (ha : DE X M W a fa) (hb : DE X M W b fb) (hm : behindInMarks o b = false) : DE X M W (.Compare a [o] [b] pos) (eBin op fa fb) :=
  (pe_cmpR ho ha hb hm).weak fun _ _ _ h => tOp_of hs h
/-- .. as a test -/
def tst (f : EF) : TF := fun Γ S => (f Γ S).bind fun v S => match v with
  | .d (.bool b) => .ok b S
  | _ => .no
theorem tst_of {t : TE} {f : EF} (hs : ∀ σ H Q, tE M W f σ H Q → t σ H Q) {σ : St} {H : Hp} {Q : Bool → Hp → Prop} (h : tT M W (tst f) σ H Q) : tTest t σ H Q := by
  obtain ⟨g, Γ, S, r0, v0, p⟩ := h
  refine hs _ _ _ (step r0 v0 p fun u H1 g1 S1 v gr r1 v1 q1 p1 => ?_)
  split at p1
  · cases q1
    exact ⟨_, rfl, p1.now r1 rfl⟩
  · exact p1.elim
theorem t_cmp {o : CmpOp} {r : R2} {op : SV → SV → Store → Out SV} (ho : OpR X (compareOp o) r) (hs : Sat2 M r op) (ha : DE X M W a fa) (hb : DE X M W b fb) (hm : behindInMarks o b = false) : DT X M W (.Compare a [o] [b] pos) (tst (eBin op fa fb)) :=
  (pt_cmpR ho ha hb hm).weak fun _ _ _ h => tst_of (fun _ _ _ h => tOp_of hs h) h
/-- an expression that gives a bool, as a test -/
theorem t_val (h : DE X M W a fa) (he : ∀ whole, isTrue a X.env whole = (do let v ← whole; standAt a.pos; holding [v] (truthy v)) := by intro _; rfl) : DT X M W a (tst fa) :=
  (pt_val h he).weak fun _ _ _ h => by
    obtain ⟨g, Γ, S, r0, v0, p⟩ := h
    refine (step r0 v0 p fun u H1 g1 S1 v gr r1 v1 q1 p1 => ?_)
    split at p1
    · cases q1
      exact ⟨_, rfl, p1.now r1 rfl⟩
    · exact p1.elim

/-! ### the meanings: ints -/
def iOp (C : Int → Int → Bool) (f : Int → Int → Int) : SV → SV → Store → Out SV := fun v w S => match v, w with
  | .d (.int i), .d (.int j) => if C i j then .ok (.d (.int (f i j))) S else .no
  | _, _ => .no
def iOp0 (f : Int → Int → Int) : SV → SV → Store → Out SV := fun v w S => match v, w with
  | .d (.int i), .d (.int j) => .ok (.d (.int (f i j))) S
  | _, _ => .no
def iCmp (f : Int → Int → Bool) : SV → SV → Store → Out SV := fun v w S => match v, w with
  | .d (.int i), .d (.int j) => .ok (.d (.bool (f i j))) S
  | _, _ => .no
theorem sat_i {C : Int → Int → Bool} {f : Int → Int → Int} {C' : Int → Int → Prop} (hC : ∀ i j, C i j = true → C' i j) : Sat2 M (rI C' fun i j => .int (f i j)) (iOp C f) := by
  intro W σ Q g H S x y v w r q1 q2 p
  unfold iOp at p
  split at p
  · cases q1; cases q2
    split at p
    · rename_i hc
      exact ⟨_, _, rfl, rfl, hC _ _ hc, p.now r (.int _)⟩
    · exact p.elim
  · exact p.elim
theorem sat_i0 {f : Int → Int → Int} : Sat2 M (rI0 fun i j => .int (f i j)) (iOp0 f) := by
  intro W σ Q g H S x y v w r q1 q2 p
  unfold iOp0 at p
  split at p
  · cases q1; cases q2
    exact ⟨_, _, rfl, rfl, p.now r (.int _)⟩
  · exact p.elim
theorem sat_c {f : Int → Int → Bool} : Sat2 M (rI0 fun i j => .bl (f i j)) (iCmp f) := by
  intro W σ Q g H S x y v w r q1 q2 p
  unfold iCmp at p
  split at p
  · cases q1; cases q2
    exact ⟨_, _, rfl, rfl, p.now r (.bl _)⟩
  · exact p.elim
theorem Sat2.or {r r' : R2} {op : SV → SV → Store → Out SV} (h : ∀ (W : WX) (σ : St) (Q : VK) (g : Gh) (H : Hp) (S : Store) (x y : V) (v w : SV), Rel M.K g H S → RepS M.K g x v → RepS M.K g y w → Post M W σ (rS M) Q g H (op v w S) → r x y H Q ∨ r' x y H Q) : Sat2 M (fun x y H Q => r x y H Q ∨ r' x y H Q) op := h
end
end DL
/-! D2: operators, comparisons, subscripts, built-ins: plain meanings and rules. -/
namespace DL
open PySem L2

/-- the data that a value is now -/
def asD (v : SV) (S : Store) : Option PyData := match v with
  | .d x => some x
  | .cell i => match S[i]? with
    | some (.lst xs) => some (.list xs)
    | _ => none
  | .scr _ => none
section
variable {K : PySem.W.Frag} {g : Gh} {H : Hp} {S : Store} {x : V} {v : SV}
theorem asD_list (r : Rel K g H S) (q : RepS K g x v) {ds : List PyData} (e : asD v S = some (.list ds)) : ∃ a vs, x = .ref a ∧ H a = some (.lst vs) ∧ RpAll K g.F vs ds ∧ ds.length ≤ 16777216 := by
  cases v with
  | d y =>
    cases e
    cases q with
    | lst h z t => exact ⟨_, _, rfl, r.sub _ _ h, t, z⟩
  | cell i =>
    unfold asD at e
    simp only at e
    split at e
    · rename_i xs hs
      cases e
      obtain ⟨a, ha, rfl⟩ := q
      obtain ⟨z, vs, h1, h2⟩ := r.at_ i a _ ha hs
      exact ⟨a, vs, rfl, h1, h2, z⟩
    · cases e
  | scr ns => cases e
theorem asD_other (q : RepS K g x v) {d : PyData} (e : asD v S = some d) (h : ∀ ds, d ≠ .list ds) : Rp K g.F x d := by
  cases v with
  | d y => cases e; exact q
  | cell i =>
    unfold asD at e
    simp only at e
    split at e
    · cases e; exact absurd rfl (h _)
    · cases e
  | scr ns => cases e
theorem asD_dp (r : Rel K g H S) (q : RepS K g x v) {d : PyData} (e : asD v S = some d) (n : PyData.plain d = true) : Dp K H x d := by
  cases d with
  | list ds =>
    obtain ⟨a, vs, rfl, h1, h2, _⟩ := asD_list r q e
    exact .lst (SqL.of h1) (RpAll.dp r.sub _ _ (by rwa [PyData.plain] at n) h2)
  | _ => exact Rp.dp r.sub _ _ n (asD_other q e (fun _ z => nomatch z))
theorem shp_n {d : PyData} (h : SeqAt.shaped d = true) : PyData.plain d = true := PyData.plain_of_canLay0 d (SeqAt.canLay_of_shaped h)
theorem asD_tup (q : RepS K g x v) {ds : List PyData} (e : asD v S = some (.tuple ds)) : ∃ a vs, x = .ref a ∧ SqT K g.F a vs ∧ RpAll K g.F vs ds ∧ Rp K g.F x (.tuple ds) ∧ ds.length ≤ 16777216 := by
  have p := asD_other q e (fun _ z => nomatch z)
  cases p with
  | tup h z t => exact ⟨_, _, rfl, h, t, .tup h z t, z⟩
end

section
variable {X : Cx} {M : Mi}
/-! ### + - * // % ** << >> & | ^ -/
def addS (fin : List PyData → Store → Out SV) : SV → SV → Store → Out SV := fun v w S => match asD v S, asD w S with
  | some (.int i), some (.int j) => .ok (.d (.int (i + j))) S
  | some (.list xs), some (.list ys) => if xs.length + ys.length ≤ 16777216 then fin (xs ++ ys) S else .no
  | some (.tuple xs), some (.tuple ys) => if xs.length + ys.length ≤ 16777216 then .ok (.d (.tuple (xs ++ ys))) S else .no
  | some (.str a), some (.str b) => if a.length + b.length ≤ 16777216 then .ok (.d (.str (a ++ b))) S else .no
  | _, _ => .no
theorem sat_add {fin : List PyData → Store → Out SV} (hf : Fin M fin) : Sat2 M (fun x y H Q => (rI0 fun i j => .int (i + j)) x y H Q ∨ rCat x y H Q ∨ rCatA M.K x y H Q ∨ ∃ i j, x = .str i ∧ y = .str j ∧ i.length + j.length ≤ sizeLine ∧ Q (.str (i ++ j)) H) (addS fin) := by
  intro W σ Q g H S x y v w r q1 q2 p
  unfold addS at p
  split at p
  · rename_i i j e1 e2
    have a1 := asD_other q1 e1 (fun _ z => nomatch z)
    have a2 := asD_other q2 e2 (fun _ z => nomatch z)
    cases a1; cases a2
    exact .inl ⟨_, _, rfl, rfl, p.now r (.int _)⟩
  · rename_i xs ys e1 e2
    split at p
    · rename_i hz
      obtain ⟨a, vs, rfl, h1, t1, z1⟩ := asD_list r q1 e1
      obtain ⟨b, ws, rfl, h2, t2, z2⟩ := asD_list r q2 e2
      exact .inr (.inl ⟨a, b, vs, ws, rfl, rfl, h1, h2, by rw [t1.len, t2.len]; exact hz, hf.lay r (by rw [List.length_append]; exact hz) (t1.append t2) p⟩)
    · exact p.elim
  · rename_i xs ys e1 e2
    split at p
    · rename_i hz
      obtain ⟨a, vs, rfl, h1, t1, p1, z1⟩ := asD_tup q1 e1
      obtain ⟨b, ws, rfl, h2, t2, p2, z2⟩ := asD_tup q2 e2
      refine .inr (.inr (.inl ⟨a, b, vs, ws, rfl, rfl, SqT.sub r.sub h1, SqT.sub r.sub h2, by rw [t1.len, t2.len]; exact hz, fun e => ?_, fun _ e => ?_, fun _ _ => lay_tup r (by rw [List.length_append]; exact hz) (t1.append t2) p⟩))
      · subst e
        cases t1
        exact p.now r p2
      · subst e
        cases t2
        rw [List.append_nil] at p
        exact p.now r p1
    · exact p.elim
  · rename_i a b e1 e2
    split at p
    · rename_i hz
      have a1 := asD_other q1 e1 (fun _ z => nomatch z)
      have a2 := asD_other q2 e2 (fun _ z => nomatch z)
      cases a1; cases a2
      exact .inr (.inr (.inr ⟨_, _, rfl, rfl, hz, p.now r (.str _)⟩))
    · exact p.elim
  · exact p.elim
theorem op_addD (hK : X.K = M.K) : OpR X (binaryOp .Add) (fun x y H Q => (rI0 fun i j => .int (i + j)) x y H Q ∨ rCat x y H Q ∨ rCatA M.K x y H Q ∨ ∃ i j, x = .str i ∧ y = .str j ∧ i.length + j.length ≤ sizeLine ∧ Q (.str (i ++ j)) H) := by
  rw [← hK]
  exact op_add.or (op_cat.or (op_catA.or op_add_str))
def mulC (i j : Int) : Bool := decide ((-(2 ^ 64) < i ∧ i < 2 ^ 64) ∨ (-(2 ^ 64) < j ∧ j < 2 ^ 64)) || decide (i.natAbs.log2 + j.natAbs.log2 < 1000000)
/-- int * int, list * int -/
def mulS (fin : List PyData → Store → Out SV) : SV → SV → Store → Out SV := fun v w S => match asD v S, asD w S with
  | some (.int i), some (.int j) => if mulC i j then .ok (.d (.int (i * j))) S else .no
  | some (.list xs), some (.int k) => if -(2 ^ 63) ≤ k ∧ k < 2 ^ 63 ∧ xs.length * k.toNat ≤ 16777216 then fin (List.replicate k.toNat xs).flatten S else .no
  | _, _ => .no
theorem RpAll.rep {K : PySem.W.Frag} {F : Hp} {vs : List V} {ds : List PyData} (h : RpAll K F vs ds) : ∀ k : Nat, RpAll K F (List.replicate k vs).flatten (List.replicate k ds).flatten
  | 0 => .nil
  | k + 1 => by
    rw [List.replicate_succ, List.replicate_succ, List.flatten_cons, List.flatten_cons]
    exact h.append (RpAll.rep h k)
theorem sat_mul {fin : List PyData → Store → Out SV} (hf : Fin M fin) : Sat2 M (fun x y H Q => (rI CMul fun i j => .int (i * j)) x y H Q ∨ (rI CMulW fun i j => .int (i * j)) x y H Q ∨ rRep x y H Q) (mulS fin) := by
  intro W σ Q g H S x y v w r q1 q2 p
  unfold mulS at p
  split at p
  · rename_i i j e1 e2
    have a1 := asD_other q1 e1 (fun _ z => nomatch z)
    have a2 := asD_other q2 e2 (fun _ z => nomatch z)
    cases a1; cases a2
    split at p
    · rename_i hc
      unfold mulC at hc
      rw [Bool.or_eq_true, decide_eq_true_eq, decide_eq_true_eq] at hc
      rcases hc with h | h
      · exact .inl ⟨_, _, rfl, rfl, h, p.now r (.int _)⟩
      · exact .inr (.inl ⟨_, _, rfl, rfl, h, p.now r (.int _)⟩)
    · exact p.elim
  · rename_i xs k e1 e2
    have a2 := asD_other q2 e2 (fun _ z => nomatch z)
    cases a2
    split at p
    · rename_i hz
      obtain ⟨a, vs, rfl, h1, t1, z1⟩ := asD_list r q1 e1
      exact .inr (.inr ⟨a, k, vs, rfl, rfl, h1, hz.1, hz.2.1, by rw [t1.len]; exact hz.2.2, hf.lay r (by rw [PyProof.Rows.lm_len_rep_flat, Nat.mul_comm]; exact hz.2.2) (t1.rep k.toNat) p⟩)
    · exact p.elim
  · exact p.elim
theorem op_mulD : OpR X (binaryOp .Mult) (fun x y H Q => (rI CMul fun i j => .int (i * j)) x y H Q ∨ (rI CMulW fun i j => .int (i * j)) x y H Q ∨ rRep x y H Q) := op_mul.or (op_mulW.or op_rep)
def divC (i j : Int) : Bool := decide (j ≠ 0 ∧ j.natAbs < 1073741824) || decide (0 < j ∧ j.natAbs.log2 < 9000)
theorem sat_div : Sat2 M (fun x y H Q => (rI CDivN fun i j => .int (i.fdiv j)) x y H Q ∨ (rI CDivW fun i j => .int (i / j)) x y H Q) (iOp divC Int.fdiv) := by
  intro W σ Q g H S x y v w r q1 q2 p
  unfold iOp at p
  split at p
  · cases q1; cases q2
    split at p
    · rename_i hc
      unfold divC at hc
      rw [Bool.or_eq_true, decide_eq_true_eq, decide_eq_true_eq] at hc
      rcases hc with h | h
      · exact .inl ⟨_, _, rfl, rfl, h, p.now r (.int _)⟩
      · rw [Int.fdiv_eq_ediv_of_nonneg _ (Int.le_of_lt h.1)] at p
        exact .inr ⟨_, _, rfl, rfl, h, p.now r (.int _)⟩
    · exact p.elim
  · exact p.elim
theorem op_divD : OpR X (binaryOp .FloorDiv) (fun x y H Q => (rI CDivN fun i j => .int (i.fdiv j)) x y H Q ∨ (rI CDivW fun i j => .int (i / j)) x y H Q) := op_fdivN.or op_fdivW
def modC (_ j : Int) : Bool := decide (j ≠ 0)
def powC (i j : Int) : Bool := decide (0 ≤ j ∧ j ≤ 1000000 ∧ i.natAbs < 2 ^ 64)
def shrC (_ j : Int) : Bool := decide (0 ≤ j)
variable {W : WX} {a b : Expr} {fa fb : EF} {pos : Pos}
def eAddF (fin : List PyData → Store → Out SV) (fa fb : EF) : EF := eBin (addS fin) fa fb
def eSub (fa fb : EF) : EF := eBin (iOp0 fun i j => i - j) fa fb
def eMulF (fin : List PyData → Store → Out SV) (fa fb : EF) : EF := eBin (mulS fin) fa fb
def eDiv (fa fb : EF) : EF := eBin (iOp divC Int.fdiv) fa fb
def eMod (fa fb : EF) : EF := eBin (iOp modC Int.fmod) fa fb
def ePow (fa fb : EF) : EF := eBin (iOp powC fun i j => i ^ j.toNat) fa fb
def eShl (fa fb : EF) : EF := eBin (iOp powC fun i j => i * 2 ^ j.toNat) fa fb
def eShr (fa fb : EF) : EF := eBin (iOp shrC fun i j => i / 2 ^ j.toNat) fa fb
def eAnd (fa fb : EF) : EF := eBin (iOp0 Builtin.bitAnd) fa fb
def eOr (fa fb : EF) : EF := eBin (iOp0 Builtin.bitOr) fa fb
def eXor (fa fb : EF) : EF := eBin (iOp0 Builtin.bitXor) fa fb
def negS : SV → Store → Out SV := fun v S => match v with
  | .d (.int i) => .ok (.d (.int (-i))) S
  | _ => .no
def eNeg (fa : EF) : EF := eUn negS fa
theorem d_add (hK : X.K = M.K) {fin : List PyData → Store → Out SV} (hf : Fin M fin) (ha : DE X M W a fa) (hb : DE X M W b fb) : DE X M W (.BinOp a .Add b pos) (eAddF fin fa fb) := d_op (op_addD hK) (sat_add hf) ha hb
theorem d_sub (ha : DE X M W a fa) (hb : DE X M W b fb) : DE X M W (.BinOp a .Sub b pos) (eSub fa fb) := d_op op_sub sat_i0 ha hb
theorem d_mul {fin : List PyData → Store → Out SV} (hf : Fin M fin) (ha : DE X M W a fa) (hb : DE X M W b fb) : DE X M W (.BinOp a .Mult b pos) (eMulF fin fa fb) := d_op op_mulD (sat_mul hf) ha hb
theorem d_div (ha : DE X M W a fa) (hb : DE X M W b fb) : DE X M W (.BinOp a .FloorDiv b pos) (eDiv fa fb) := d_op op_divD sat_div ha hb
theorem d_mod (ha : DE X M W a fa) (hb : DE X M W b fb) : DE X M W (.BinOp a .Mod b pos) (eMod fa fb) := d_op op_modN (sat_i fun _ _ h => of_decide_eq_true h) ha hb
theorem d_pow (ha : DE X M W a fa) (hb : DE X M W b fb) : DE X M W (.BinOp a .Pow b pos) (ePow fa fb) := d_op op_pow (sat_i fun i j h => of_decide_eq_true (p := 0 ≤ j ∧ j ≤ 1000000 ∧ i.natAbs < 2 ^ 64) h) ha hb
theorem d_shl (ha : DE X M W a fa) (hb : DE X M W b fb) : DE X M W (.BinOp a .LShift b pos) (eShl fa fb) := d_op op_shl (sat_i fun i j h => of_decide_eq_true (p := 0 ≤ j ∧ j ≤ 1000000 ∧ i.natAbs < 2 ^ 64) h) ha hb
theorem d_shr (ha : DE X M W a fa) (hb : DE X M W b fb) : DE X M W (.BinOp a .RShift b pos) (eShr fa fb) := d_op op_shr (sat_i fun _ _ h => of_decide_eq_true h) ha hb
theorem d_and (ha : DE X M W a fa) (hb : DE X M W b fb) : DE X M W (.BinOp a .BitAnd b pos) (eAnd fa fb) := d_op op_and sat_i0 ha hb
theorem d_or (ha : DE X M W a fa) (hb : DE X M W b fb) : DE X M W (.BinOp a .BitOr b pos) (eOr fa fb) := d_op op_or sat_i0 ha hb
theorem d_xor (ha : DE X M W a fa) (hb : DE X M W b fb) : DE X M W (.BinOp a .BitXor b pos) (eXor fa fb) := d_op op_xor sat_i0 ha hb
theorem d_neg (ha : DE X M W a fa) : DE X M W (.UnaryOp .USub a pos) (eNeg fa) := d_un un_neg (fun W σ Q g H S x v r q p => by
  unfold negS at p
  split at p
  · cases q
    exact ⟨_, rfl, p.now r (.int _)⟩
  · exact p.elim) ha

/-! ### comparisons -/
def eqS (neg : Bool) : SV → SV → Store → Out SV := fun v w S => match asD v S, asD w S with
  | some d, some e => if SeqAt.shaped d && SeqAt.shaped e then .ok (.d (.bool (if neg then !PyData.eqv d e else PyData.eqv d e))) S else .no
  | _, _ => .no
theorem sat_eq : Sat2 M (rEqD M.K) (eqS false) := by
  intro W σ Q g H S x y v w r q1 q2 p
  unfold eqS at p
  split at p
  · rename_i d e e1 e2
    split at p
    · rename_i hc
      rw [Bool.and_eq_true] at hc
      exact ⟨d, e, asD_dp r q1 e1 (shp_n hc.1), asD_dp r q2 e2 (shp_n hc.2), hc.1, hc.2, p.now r (.bl _)⟩
    · exact p.elim
  · exact p.elim
theorem sat_ne : Sat2 M (rNeD M.K) (eqS true) := by
  intro W σ Q g H S x y v w r q1 q2 p
  unfold eqS at p
  split at p
  · rename_i d e e1 e2
    split at p
    · rename_i hc
      rw [Bool.and_eq_true] at hc
      exact ⟨d, e, asD_dp r q1 e1 (shp_n hc.1), asD_dp r q2 e2 (shp_n hc.2), hc.1, hc.2, p.now r (.bl _)⟩
    · exact p.elim
  · exact p.elim
def rInT (K : PySem.W.Frag) (neg : Bool) : R2 := fun x y H Q => ∃ d ds, Dp K H x d ∧ Dp K H y (.tuple ds) ∧ SeqAt.shaped d = true ∧ SeqAt.shaped (.tuple ds) = true ∧ Q (.bl (if neg then !(ds.any fun z => PyData.eqv z d) else ds.any fun z => PyData.eqv z d)) H
theorem room_in {A : Around} {d : PyData} {ds : List PyData} (sd : SeqAt.shaped d = true) (hu : A.units + 65 < cLine) : A.units + 1 + min (PyData.depthAll ds) d.depth < cLine := by
  have := SeqAt.depth_of_shaped sd
  omega
theorem op_inT (hu : X.A.units + 65 < cLine) : OpR X (compareOp .In) (rInT X.K false) := by
  intro pins s σ H x y v u Q I rx ry h
  obtain ⟨d, ds, hd, he, sd, se, q⟩ := h
  obtain ⟨as, r1⟩ := Dp.reads I d x v hd rx
  obtain ⟨bs, r2⟩ := Dp.reads I (.tuple ds) y u he ry
  exact SeqAt.in_tuple_reads r2 r1 (SeqAt.canLay_of_shaped se) (SeqAt.canLay_of_shaped sd) (room_in sd hu) ⟨.bl _, H, I, rfl, q⟩
theorem op_notInT (hu : X.A.units + 65 < cLine) : OpR X (compareOp .NotIn) (rInT X.K true) := by
  intro pins s σ H x y v u Q I rx ry h
  obtain ⟨d, ds, hd, he, sd, se, q⟩ := h
  obtain ⟨as, r1⟩ := Dp.reads I d x v hd rx
  obtain ⟨bs, r2⟩ := Dp.reads I (.tuple ds) y u he ry
  exact SeqAt.notIn_tuple_reads r2 r1 (SeqAt.canLay_of_shaped se) (SeqAt.canLay_of_shaped sd) (room_in sd hu) ⟨.bl _, H, I, rfl, q⟩
def hasD (ds : List PyData) (d : PyData) : Bool := ds.any fun z => PyData.eqv z d
def inS (neg : Bool) : SV → SV → Store → Out SV := fun v w S => match asD v S, asD w S with
  | some d, some (.list ds) => if SeqAt.shaped d && SeqAt.shaped (.list ds) then .ok (.d (.bool (if neg then !hasD ds d else hasD ds d))) S else .no
  | some d, some (.tuple ds) => if SeqAt.shaped d && SeqAt.shaped (.tuple ds) then .ok (.d (.bool (if neg then !hasD ds d else hasD ds d))) S else .no
  | _, _ => .no
theorem sat_in : Sat2 M (fun x y H Q => rInD M.K x y H Q ∨ rInT M.K false x y H Q) (inS false) := by
  intro W σ Q g H S x y v w r q1 q2 p
  unfold inS at p
  split at p
  · rename_i d ds e1 e2
    split at p
    · rename_i hc
      rw [Bool.and_eq_true] at hc
      exact .inl ⟨d, ds, asD_dp r q1 e1 (shp_n hc.1), asD_dp r q2 e2 (shp_n hc.2), hc.1, hc.2, p.now r (.bl _)⟩
    · exact p.elim
  · rename_i d ds e1 e2
    split at p
    · rename_i hc
      rw [Bool.and_eq_true] at hc
      exact .inr ⟨d, ds, asD_dp r q1 e1 (shp_n hc.1), asD_dp r q2 e2 (shp_n hc.2), hc.1, hc.2, p.now r (.bl _)⟩
    · exact p.elim
  · exact p.elim
theorem sat_notIn : Sat2 M (fun x y H Q => rNotInD M.K x y H Q ∨ rInT M.K true x y H Q) (inS true) := by
  intro W σ Q g H S x y v w r q1 q2 p
  unfold inS at p
  split at p
  · rename_i d ds e1 e2
    split at p
    · rename_i hc
      rw [Bool.and_eq_true] at hc
      exact .inl ⟨d, ds, asD_dp r q1 e1 (shp_n hc.1), asD_dp r q2 e2 (shp_n hc.2), hc.1, hc.2, p.now r (.bl _)⟩
    · exact p.elim
  · rename_i d ds e1 e2
    split at p
    · rename_i hc
      rw [Bool.and_eq_true] at hc
      exact .inr ⟨d, ds, asD_dp r q1 e1 (shp_n hc.1), asD_dp r q2 e2 (shp_n hc.2), hc.1, hc.2, p.now r (.bl _)⟩
    · exact p.elim
  · exact p.elim
def isNS (neg : Bool) : SV → SV → Store → Out SV := fun v w S => match v, w with
  | .d .none, .d .none => .ok (.d (.bool (!neg))) S
  | .d _, .d .none => .ok (.d (.bool neg)) S
  | .cell _, .d .none => .ok (.d (.bool neg)) S
  | _, _ => .no
theorem sat_isN : Sat2 M (fun x y H Q => y = .non ∧ Q (.bl (decide (x = .non))) H) (isNS false) := by
  intro W σ Q g H S x y v w r q1 q2 p
  unfold isNS at p
  split at p
  · cases q1; cases q2; exact ⟨rfl, p.now r (.bl _)⟩
  · rename_i d hne
    cases q2
    refine ⟨rfl, ?_⟩
    have : decide (x = .non) = false := decide_eq_false fun e => by subst e; cases q1; exact hne rfl
    rw [this]
    exact p.now r (.bl _)
  · rename_i i
    cases q2
    obtain ⟨a, _, rfl⟩ := q1
    exact ⟨rfl, p.now r (.bl _)⟩
  · exact p.elim
theorem sat_notN : Sat2 M (fun x y H Q => y = .non ∧ Q (.bl (!decide (x = .non))) H) (isNS true) := by
  intro W σ Q g H S x y v w r q1 q2 p
  unfold isNS at p
  split at p
  · cases q1; cases q2; exact ⟨rfl, p.now r (.bl _)⟩
  · rename_i d hne
    cases q2
    refine ⟨rfl, ?_⟩
    have : decide (x = .non) = false := decide_eq_false fun e => by subst e; cases q1; exact hne rfl
    rw [this]
    exact p.now r (.bl _)
  · rename_i i
    cases q2
    obtain ⟨a, _, rfl⟩ := q1
    exact ⟨rfl, p.now r (.bl _)⟩
  · exact p.elim
/-- a comparison's rule and its meaning -/
structure CmpD (X : Cx) (M : Mi) (o : CmpOp) (op : SV → SV → Store → Out SV) : Prop where
  ok : ∃ r, OpR X (compareOp o) r ∧ Sat2 M r op
theorem c_lt : CmpD X M .Lt (iCmp fun i j => decide (i < j)) := ⟨_, op_lt, sat_c⟩
theorem c_le : CmpD X M .LtE (iCmp fun i j => decide (i ≤ j)) := ⟨_, op_le, sat_c⟩
theorem c_gt : CmpD X M .Gt (iCmp fun i j => decide (j < i)) := ⟨_, op_gt, sat_c⟩
theorem c_ge : CmpD X M .GtE (iCmp fun i j => decide (j ≤ i)) := ⟨_, op_ge, sat_c⟩
theorem c_eq (hK : X.K = M.K) (hu : X.A.units + 64 < cLine) : CmpD X M .Eq (eqS false) := ⟨_, op_eqD hu, by rw [hK]; exact sat_eq⟩
theorem c_ne (hK : X.K = M.K) (hu : X.A.units + 64 < cLine) : CmpD X M .NotEq (eqS true) := ⟨_, op_neD hu, by rw [hK]; exact sat_ne⟩
theorem c_in (hK : X.K = M.K) (hu : X.A.units + 65 < cLine) : CmpD X M .In (inS false) := ⟨_, (op_inD hu).or (op_inT hu), by rw [hK]; exact sat_in⟩
theorem c_notIn (hK : X.K = M.K) (hu : X.A.units + 65 < cLine) : CmpD X M .NotIn (inS true) := ⟨_, (op_notInD hu).or (op_notInT hu), by rw [hK]; exact sat_notIn⟩
theorem c_is : CmpD X M .Is (isNS false) := ⟨_, op_isN, sat_isN⟩
theorem c_isNot : CmpD X M .IsNot (isNS true) := ⟨_, op_notN, sat_notN⟩
theorem d_c {o : CmpOp} {op : SV → SV → Store → Out SV} (hc : CmpD X M o op) (ha : DE X M W a fa) (hb : DE X M W b fb) (hm : behindInMarks o b = false := by rfl) : DE X M W (.Compare a [o] [b] pos) (eBin op fa fb) := by
  obtain ⟨r, h1, h2⟩ := hc.ok
  exact d_cmp h1 h2 ha hb hm
theorem t_c {o : CmpOp} {op : SV → SV → Store → Out SV} (hc : CmpD X M o op) (ha : DE X M W a fa) (hb : DE X M W b fb) (hm : behindInMarks o b = false := by rfl) : DT X M W (.Compare a [o] [b] pos) (tst (eBin op fa fb)) := by
  obtain ⟨r, h1, h2⟩ := hc.ok
  exact t_cmp h1 h2 ha hb hm
end
end DL
/-! D3: tests, and, or, not, conditional expressions, chains, subscripts, displays, arguments, calls. -/
namespace DL
open PySem L2
section
variable {X : Cx} {M : Mi} {W : WX} {a b c : Expr} {fa fb fc : EF} {ta tb : TF} {pos : Pos} {rest : List Expr}

/-! ### truth -/
def truD : PyData → Option Bool
  | .none => some false
  | .bool b => some b
  | .int i => some (i != 0)
  | .str x => if x.length ≤ 16777216 then some ((x.length : Int) != 0) else none
  | .list xs => some (!xs.isEmpty)
  | .tuple xs => some (!xs.isEmpty)
  | .dict _ => none
def truS (v : SV) (S : Store) : Option Bool := (asD v S).bind truD
theorem RpAll.emp {K : PySem.W.Frag} {F : Hp} {vs : List V} {ds : List PyData} (h : RpAll K F vs ds) : vs.isEmpty = ds.isEmpty := by cases h <;> rfl
theorem truS_ok {g : Gh} {H : Hp} {S : Store} {x : V} {v : SV} (r : Rel M.K g H S) (q : RepS M.K g x v) {k : Bool} (e : truS v S = some k) : TruV M.K x H k := by
  unfold truS at e
  cases h : asD v S with
  | none => rw [h] at e; cases e
  | some d =>
    rw [h] at e
    have e' : truD d = some k := e
    cases d with
    | list ds =>
      obtain ⟨a, vs, rfl, h1, h2, _⟩ := asD_list r q h
      cases e'
      exact .inl ⟨vs, SqL.of h1, by rw [h2.emp]⟩
    | tuple ds =>
      obtain ⟨a, vs, rfl, h1, h2, _, _⟩ := asD_tup q h
      cases e'
      exact .inr (.inl ⟨vs, SqT.sub r.sub h1, by rw [h2.emp]⟩)
    | none =>
      have p := asD_other q h (fun _ z => nomatch z)
      cases p; cases e'; rfl
    | bool b =>
      have p := asD_other q h (fun _ z => nomatch z)
      cases p; cases e'; rfl
    | int i =>
      have p := asD_other q h (fun _ z => nomatch z)
      cases p; cases e'; rfl
    | str y =>
      have p := asD_other q h (fun _ z => nomatch z)
      cases p
      have e2 : (if y.length ≤ 16777216 then some ((y.length : Int) != 0) else Option.none) = some k := e'
      split at e2
      · rename_i hz
        cases e2
        exact ⟨hz, rfl⟩
      · cases e2
    | dict _ => cases e'
def tru (f : EF) : TF := fun Γ S => (f Γ S).bind fun v S => match truS v S with
  | some k => .ok k S
  | none => .no
theorem t_tru (hK : X.K = M.K) (ha : DE X M W a fa) (he : ∀ whole, isTrue a X.env whole = (do let v ← whole; standAt a.pos; holding [v] (truthy v)) := by intro _; rfl) : DT X M W a (tru fa) :=
  (pt_truth ha he).weak fun σ H Q h => by
    obtain ⟨g, Γ, S, r0, v0, p⟩ := h
    refine step r0 v0 p fun u H1 g1 S1 v gr r1 v1 q1 p1 => ?_
    split at p1
    · rename_i k e
      exact ⟨k, by rw [hK]; exact truS_ok r1 q1 e, p1.now r1 rfl⟩
    · exact p1.elim

/-! ### and, or, not as tests -/
abbrev DW (X : Cx) (M : Mi) (W : WX) (e : Expr) (f : TF) : Prop := PW X e (tT M W f)
def tAndF (ta tb : TF) : TF := fun Γ S => (ta Γ S).bind fun k S => if k = true then tb Γ S else .ok false S
def tOrF (ta tb : TF) : TF := fun Γ S => (ta Γ S).bind fun k S => if k = true then .ok true S else tb Γ S
def tNotF (ta : TF) : TF := fun Γ S => (ta Γ S).bind fun k S => .ok (!k) S
theorem w_and1 (ha : DT X M W a ta) : DW X M W (.BoolOp .And [a] pos) ta := pw_and1 ha
theorem w_or1 (ha : DT X M W a ta) : DW X M W (.BoolOp .Or [a] pos) ta := pw_or1 ha
theorem w_and (ha : DT X M W a ta) (hb : DW X M W (.BoolOp .And (b :: rest) pos) tb) : DW X M W (.BoolOp .And (a :: b :: rest) pos) (tAndF ta tb) :=
  (pw_and ha hb).weak fun σ H Q h => by
    obtain ⟨g, Γ, S, r0, v0, p⟩ := h
    refine step r0 v0 p fun u H1 g1 S1 v gr r1 v1 q1 p1 => ?_
    cases q1
    cases u with
    | true => exact ⟨g1, Γ, S1, r1, v1, p1⟩
    | false => exact p1.now r1 rfl
theorem w_or (ha : DT X M W a ta) (hb : DW X M W (.BoolOp .Or (b :: rest) pos) tb) : DW X M W (.BoolOp .Or (a :: b :: rest) pos) (tOrF ta tb) :=
  (pw_or ha hb).weak fun σ H Q h => by
    obtain ⟨g, Γ, S, r0, v0, p⟩ := h
    refine step r0 v0 p fun u H1 g1 S1 v gr r1 v1 q1 p1 => ?_
    cases q1
    cases u with
    | true => exact p1.now r1 rfl
    | false => exact ⟨g1, Γ, S1, r1, v1, p1⟩
theorem t_w {e : Expr} {f : TF} (h : DW X M W e f) : DT X M W e f := h.pt
theorem t_not (ha : DT X M W a ta) : DT X M W (.UnaryOp .Not a pos) (tNotF ta) :=
  (pt_not ha).weak fun σ H Q h => by
    obtain ⟨g, Γ, S, r0, v0, p⟩ := h
    refine step r0 v0 p fun u H1 g1 S1 v gr r1 v1 q1 p1 => ?_
    cases q1
    exact p1.now r1 rfl
/-! ### .. as values -/
def eAndF (fa fb : EF) : EF := fun Γ S => (fa Γ S).bind fun v S => match truS v S with
  | some true => fb Γ S
  | some false => .ok v S
  | none => .no
def eOrF (fa fb : EF) : EF := fun Γ S => (fa Γ S).bind fun v S => match truS v S with
  | some true => .ok v S
  | some false => fb Γ S
  | none => .no
def eNotF (fa : EF) : EF := fun Γ S => (fa Γ S).bind fun v S => match truS v S with
  | some k => .ok (.d (.bool (!k))) S
  | none => .no
theorem d_one {op : BoolOp} (ha : DE X M W a fa) : DE X M W (.BoolOp op [a] pos) fa := pe_one ha
theorem d_andv (hK : X.K = M.K) (ha : DE X M W a fa) (hb : DE X M W (.BoolOp .And (b :: rest) pos) fb) : DE X M W (.BoolOp .And (a :: b :: rest) pos) (eAndF fa fb) :=
  (pe_andT ha hb).weak fun σ H Q h => by
    obtain ⟨g, Γ, S, r0, v0, p⟩ := h
    refine step r0 v0 p fun u H1 g1 S1 v gr r1 v1 q1 p1 => ?_
    split at p1
    · rename_i e
      exact ⟨true, by rw [hK]; exact truS_ok r1 q1 e, iteT ⟨g1, Γ, S1, r1, v1, p1⟩⟩
    · rename_i e
      exact ⟨false, by rw [hK]; exact truS_ok r1 q1 e, iteF (p1.now r1 q1)⟩
    · exact p1.elim
theorem d_orv (hK : X.K = M.K) (ha : DE X M W a fa) (hb : DE X M W (.BoolOp .Or (b :: rest) pos) fb) : DE X M W (.BoolOp .Or (a :: b :: rest) pos) (eOrF fa fb) :=
  (pe_orT ha hb).weak fun σ H Q h => by
    obtain ⟨g, Γ, S, r0, v0, p⟩ := h
    refine step r0 v0 p fun u H1 g1 S1 v gr r1 v1 q1 p1 => ?_
    split at p1
    · rename_i e
      exact ⟨true, by rw [hK]; exact truS_ok r1 q1 e, iteT (p1.now r1 q1)⟩
    · rename_i e
      exact ⟨false, by rw [hK]; exact truS_ok r1 q1 e, iteF ⟨g1, Γ, S1, r1, v1, p1⟩⟩
    · exact p1.elim
theorem d_notv (hK : X.K = M.K) (ha : DE X M W a fa) : DE X M W (.UnaryOp .Not a pos) (eNotF fa) :=
  (pe_notT ha).weak fun σ H Q h => by
    obtain ⟨g, Γ, S, r0, v0, p⟩ := h
    refine step r0 v0 p fun u H1 g1 S1 v gr r1 v1 q1 p1 => ?_
    split at p1
    · rename_i k e
      exact ⟨k, by rw [hK]; exact truS_ok r1 q1 e, p1.now r1 (.bl _)⟩
    · exact p1.elim
def eIf (t : TF) (fa fb : EF) : EF := fun Γ S => (t Γ S).bind fun k S => if k = true then fa Γ S else fb Γ S
theorem d_if (hc : DT X M W c ta) (ha : DE X M W a fa) (hb : DE X M W b fb) : DE X M W (.IfExp c a b pos) (eIf ta fa fb) :=
  (pe_ifExp hc ha hb).weak fun σ H Q h => by
    obtain ⟨g, Γ, S, r0, v0, p⟩ := h
    refine step r0 v0 p fun u H1 g1 S1 v gr r1 v1 q1 p1 => ?_
    cases q1
    cases u with
    | true => exact ⟨g1, Γ, S1, r1, v1, p1⟩
    | false => exact ⟨g1, Γ, S1, r1, v1, p1⟩

/-! ### a < b < c -/
def eChain (op op' : SV → SV → Store → Out SV) (fa fb fc : EF) : EF := fun Γ S => (fa Γ S).bind fun v S => (fb Γ S).bind fun w S => (op v w S).bind fun z S => match z with
  | .d (.bool true) => (fc Γ S).bind fun u S => op' w u S
  | .d (.bool false) => .ok (.d (.bool false)) S
  | _ => .no
theorem chain_of {r r' : R2} {op op' : SV → SV → Store → Out SV} (h1 : Sat2 M r op) (h2 : Sat2 M r' op') {σ : St} {H : Hp} {Q : VK} (h : tE M W (eChain op op' fa fb fc) σ H Q) : tChain r r' (tE M W fa) (tE M W fb) (tE M W fc) σ H Q := by
  obtain ⟨g, Γ, S, r0, v0, p⟩ := h
  refine step r0 v0 p fun u H1 g1 S1 v gr rl1 v1 q1 p1 => step rl1 v1 p1 fun u2 H2 g2 S2 w gr2 rl2 v2 q2 p2 => ?_
  refine h1 W σ _ g2 H2 S2 _ _ v w rl2 (gr2.rep q1) q2 (Post.imp (fun z H3 q => ?_) (Post.bind (R := rS M) p2))
  obtain ⟨g3, S3, zv, gr3, rl3, q3, p3⟩ := q
  split at p3
  · cases q3
    refine ⟨true, rfl, ?_⟩
    refine iteT (step rl3 (gr3.vars v2) p3 fun u4 H4 g4 S4 x4 gr4 rl4 v4 q4 p4 => ?_)
    exact h2 W σ _ g4 H4 S4 _ _ w x4 rl4 (gr4.rep (gr3.rep q2)) q4 p4
  · cases q3
    exact ⟨false, rfl, iteF (p3.now rl3 (.bl _))⟩
  · exact p3.elim
theorem d_chain {o o' : CmpOp} {op op' : SV → SV → Store → Out SV} (h1 : CmpD X M o op) (h2 : CmpD X M o' op') (ha : DE X M W a fa) (hb : DE X M W b fb) (hc : DE X M W c fc) (hm : lastMarks [o, o'] [b, c] = false := by with_unfolding_all rfl) :
    DE X M W (.Compare a [o, o'] [b, c] pos) (eChain op op' fa fb fc) := by
  obtain ⟨r, k1, s1⟩ := h1.ok
  obtain ⟨r', k2, s2⟩ := h2.ok
  exact (pe_chain k1 k2 ha hb hc hm).weak fun _ _ _ h => chain_of s1 s2 h
theorem t_chain {o o' : CmpOp} {op op' : SV → SV → Store → Out SV} (h1 : CmpD X M o op) (h2 : CmpD X M o' op') (ha : DE X M W a fa) (hb : DE X M W b fb) (hc : DE X M W c fc) (hm : lastMarks [o, o'] [b, c] = false := by with_unfolding_all rfl) :
    DT X M W (.Compare a [o, o'] [b, c] pos) (tst (eChain op op' fa fb fc)) := by
  obtain ⟨r, k1, s1⟩ := h1.ok
  obtain ⟨r', k2, s2⟩ := h2.ok
  exact (pt_chain k1 k2 ha hb hc hm).weak fun _ _ _ h => tst_of (fun _ _ _ h => chain_of s1 s2 h) h

/-! ### arguments, displays -/
def aNil : AF := fun _ S => .ok [] S
def aCons (f : EF) (r : AF) : AF := fun Γ S => (f Γ S).bind fun v S => (r Γ S).bind fun vs S => .ok (v :: vs) S
theorem da_nil : DA X M W [] aNil := pa_nil.weak fun σ H Q h => by
  obtain ⟨g, Γ, S, r0, v0, p⟩ := h
  exact Post.now p r0 .nil
theorem da_cons {e : Expr} {es : List Expr} {f : EF} {r : AF} (he : DE X M W e f) (hr : DA X M W es r) (hs : starEach (e :: es) X.env = (false, eval e X.env) :: starEach es X.env := by rfl) : DA X M W (e :: es) (aCons f r) :=
  (pa_cons he hr hs).weak fun σ H Q h => by
    obtain ⟨g, Γ, S, r0, v0, p⟩ := h
    refine step r0 v0 p fun u H1 g1 S1 v gr r1 v1 q1 p1 => step r1 v1 p1 fun us H2 g2 S2 vs gr2 r2 v2 q2 p2 => ?_
    exact p2.now r2 (.cons (gr2.rep q1) q2)
/-- values as data -/
def allD : List SV → Store → Option (List PyData)
  | [], _ => some []
  | .d x :: r, S => (allD r S).map (x :: ·)
  | _ :: _, _ => none
theorem allD_ok {g : Gh} {S : Store} : ∀ {us : List V} {vs : List SV} {ds : List PyData}, RepA M.K g us vs → allD vs S = some ds → RpAll M.K g.F us ds
  | _, [], _, .nil, e => by cases e; exact .nil
  | _, .d x :: r, ds, .cons q t, e => by
    unfold allD at e
    cases h : allD r S with
    | none => rw [h] at e; cases e
    | some es =>
      rw [h] at e
      cases e
      exact .cons q (allD_ok t h)
  | _, .cell _ :: _, _, _, e => by cases e
  | _, .scr _ :: _, _, _, e => by cases e
def eTup (f : AF) : EF := fun Γ S => (f Γ S).bind fun vs S => match allD vs S with
  | some ds => if ds.length ≤ 16777216 then .ok (.d (.tuple ds)) S else .no
  | none => .no
def eLst (fin : List PyData → Store → Out SV) (f : AF) : EF := fun Γ S => (f Γ S).bind fun vs S => match allD vs S with
  | some ds => if ds.length ≤ 16777216 then fin ds S else .no
  | none => .no
theorem d_tup {es : List Expr} {k : Nat} {f : AF} (h : DA X M W es f) : DE X M W (.Tuple es k pos) (eTup f) :=
  (pe_tup h).weak fun σ H Q h => by
    obtain ⟨g, Γ, S, r0, v0, p⟩ := h
    refine step r0 v0 p fun us H1 g1 S1 vs gr r1 v1 q1 p1 => ?_
    split at p1
    · rename_i ds e
      split at p1
      · rename_i hz
        have t := allD_ok q1 e
        exact ⟨by rw [t.len]; exact hz, lay_tup r1 hz t p1⟩
      · exact p1.elim
    · exact p1.elim
theorem d_lst {fin : List PyData → Store → Out SV} (hf : Fin M fin) {es : List Expr} {f : AF} (h : DA X M W es f) : DE X M W (.List es pos) (eLst fin f) :=
  (pe_lst h).weak fun σ H Q h => by
    obtain ⟨g, Γ, S, r0, v0, p⟩ := h
    refine step r0 v0 p fun us H1 g1 S1 vs gr r1 v1 q1 p1 => ?_
    split at p1
    · rename_i ds e
      split at p1
      · rename_i hz
        have t := allD_ok q1 e
        exact ⟨by rw [t.len]; exact hz, hf.lay r1 hz t p1⟩
      · exact p1.elim
    · exact p1.elim

/-! ### subscripts, slices -/
def ixS : SV → SV → Store → Out SV := fun v w S => match asD v S, asD w S with
  | some (.list xs), some (.int i) => match atI xs i with
    | some d => .ok (.d d) S
    | none => .no
  | some (.tuple xs), some (.int i) => match atI xs i with
    | some d => .ok (.d d) S
    | none => .no
  | _, _ => .no
theorem atI_rep {K : PySem.W.Frag} {F : Hp} {vs : List V} {ds : List PyData} (h : RpAll K F vs ds) {i : Int} {d : PyData} (e : atI ds i = some d) : ∃ v, atI vs i = some v ∧ Rp K F v d := by
  unfold atI at e ⊢
  rw [h.len]
  cases q : ixN ds.length i with
  | none => rw [q] at e; cases e
  | some j =>
    rw [q] at e
    obtain ⟨v, h1, h2⟩ := h.get e
    exact ⟨v, h1, h2⟩
theorem sat_ix : Sat2 M (rIx M.K) ixS := by
  intro W σ Q g H S x y v w r q1 q2 p
  unfold ixS at p
  split at p
  · rename_i xs i e1 e2
    have a2 := asD_other q2 e2 (fun _ z => nomatch z)
    cases a2
    split at p
    · rename_i d e
      obtain ⟨a, vs, rfl, h1, t1, _⟩ := asD_list r q1 e1
      obtain ⟨u, hu, ru⟩ := atI_rep t1 e
      exact .inl ⟨a, vs, i, u, rfl, rfl, SqL.of h1, hu, p.now r ru⟩
    · exact p.elim
  · rename_i xs i e1 e2
    have a2 := asD_other q2 e2 (fun _ z => nomatch z)
    cases a2
    split at p
    · rename_i d e
      obtain ⟨a, vs, rfl, h1, t1, _, _⟩ := asD_tup q1 e1
      obtain ⟨u, hu, ru⟩ := atI_rep t1 e
      exact .inr (.inl ⟨a, vs, i, u, rfl, rfl, SqT.sub r.sub h1, hu, p.now r ru⟩)
    · exact p.elim
  · exact p.elim
def eIx (fa fb : EF) : EF := eBin ixS fa fb
theorem d_ix (hK : X.K = M.K) (ha : DE X M W a fa) (hb : DE X M W b fb) (hs : PlainIx b := by exact fun _ _ => rfl) : DE X M W (.Subscript a b pos) (eIx fa fb) :=
  (pe_ix (r := rIx M.K) (by rw [← hK]; exact ix_seq) ha hb hs).weak fun _ _ _ h => tOp_of sat_ix h
abbrev OF := Ev → Store → Out (Option Int)
def oNone : OF := fun _ S => .ok none S
def oSome (f : EF) : OF := fun Γ S => (f Γ S).bind fun v S => match v with
  | .d (.int i) => .ok (some i) S
  | _ => .no
def rO : Gh → Option Int → Option Int → Prop := fun _ a b => a = b
abbrev DO (X : Cx) (M : Mi) (W : WX) (e : Option Expr) (f : OF) : Prop := PO X e (tG M W rO f)
theorem PO.weak' {X : Cx} {e : Option Expr} {t t' : TO} (h : PO X e t) (k : ∀ σ H Q, t' σ H Q → t σ H Q) : PO X e t' := ⟨fun pins s σ H Q I z => h.run pins s σ H Q I (k _ _ _ z)⟩
theorem do_none : DO X M W none oNone := PO.weak' po_none fun σ H Q h => by
  obtain ⟨g, Γ, S, r0, v0, p⟩ := h
  exact Post.now p r0 rfl
theorem do_some (ha : DE X M W a fa) : DO X M W (some a) (oSome fa) := PO.weak' (po_some ha) fun σ H Q h => by
  obtain ⟨g, Γ, S, r0, v0, p⟩ := h
  refine step r0 v0 p fun u H1 g1 S1 v gr r1 v1 q1 p1 => ?_
  split at p1
  · cases q1
    exact ⟨_, rfl, p1.now r1 rfl⟩
  · exact p1.elim
def cutD (xs : List PyData) (lo hi : Option Int) : List PyData := (xs.drop (HT.sIx xs.length 0 lo)).take (HT.sIx xs.length xs.length hi - HT.sIx xs.length 0 lo)
theorem cutD_len (xs : List PyData) (lo hi : Option Int) : (cutD xs lo hi).length ≤ xs.length := by
  unfold cutD
  rw [List.length_take, List.length_drop]
  omega
def slS (fin : List PyData → Store → Out SV) (v : SV) (lo hi : Option Int) (S : Store) : Out SV := match asD v S with
  | some (.list xs) => fin (cutD xs lo hi) S
  | some (.tuple xs) => .ok (.d (.tuple (cutD xs lo hi))) S
  | _ => .no
def eSl (fin : List PyData → Store → Out SV) (fa : EF) (fl fh : OF) : EF := fun Γ S => (fa Γ S).bind fun v S => (fl Γ S).bind fun lo S => (fh Γ S).bind fun hi S => slS fin v lo hi S
theorem d_sl (hK : X.K = M.K) {fin : List PyData → Store → Out SV} (hf : Fin M fin) {lo hi : Option Expr} {fl fh : OF} {p2 : Pos} (ha : DE X M W a fa) (hl : DO X M W lo fl) (hh : DO X M W hi fh) : DE X M W (.Subscript a (.Slice lo hi none p2) pos) (eSl fin fa fl fh) :=
  (pe_slice (sl_list.or sl_tupA) ha hl hh).weak fun σ H Q h => by
    obtain ⟨g, Γ, S, r0, v0, p⟩ := h
    refine step r0 v0 p fun u H1 g1 S1 v gr r1 v1 q1 p1 => step r1 v1 p1 fun l H2 g2 S2 lo' gr2 r2 v2 q2 p2 => step r2 v2 p2 fun m H3 g3 S3 hi' gr3 r3 v3 q3 p3 => ?_
    cases q2; cases q3
    have q1' := gr3.rep (gr2.rep q1)
    unfold slS at p3
    split at p3
    · rename_i xs e
      obtain ⟨a, vs, rfl, h1, t1, hz⟩ := asD_list r3 q1' e
      refine .inl ⟨a, vs, rfl, SqL.of h1, hf.lay r3 (Nat.le_trans (cutD_len _ _ _) hz) ?_ p3⟩
      unfold cutV
      rw [t1.len]
      exact (t1.drop _).take _
    · rename_i xs e
      obtain ⟨a, vs, rfl, h1, t1, pp, hz⟩ := asD_tup q1' e
      refine .inr ⟨a, vs, rfl, by rw [hK]; exact SqT.sub r3.sub h1, fun hw => ?_, fun hw => ?_⟩
      · rw [t1.len] at hw
        unfold cutD at p3
        rw [hw.1, hw.2, List.drop_zero, Nat.sub_zero, List.take_length] at p3
        exact p3.now r3 pp
      · refine lay_tup r3 (Nat.le_trans (cutD_len _ _ _) hz) ?_ p3
        unfold cutV
        rw [t1.len]
        exact (t1.drop _).take _
    · exact p3.elim
end
end DL
/-! D4: calls of built-ins and of defs. -/
namespace DL
open PySem L2
section
variable {X : Cx} {M : Mi} {W : WX} {a b c e : Expr} {es : List Expr} {fa fb fc : EF} {af : AF} {pos p : Pos} {x : Str} {id T : String}

def eCall (op : List SV → Store → Out SV) (f : AF) : EF := fun Γ S => (f Γ S).bind fun vs S => op vs S
def SatA (M : Mi) (r : List V → Hp → VK → Prop) (op : List SV → Store → Out SV) : Prop := ∀ (W : WX) (σ : St) (Q : VK) (g : Gh) (H : Hp) (S : Store) (us : List V) (vs : List SV),
  Rel M.K g H S → RepA M.K g us vs → Post M W σ (rS M) Q g H (op vs S) → r us H Q
theorem tCB_of {r : List V → Hp → VK → Prop} {op : List SV → Store → Out SV} (hs : SatA M r op) {σ : St} {H : Hp} {Q : VK} (h : tE M W (eCall op af) σ H Q) : tCB r (tA M W af) σ H Q := by
  obtain ⟨g, Γ, S, r0, v0, p⟩ := h
  exact step r0 v0 p fun us H1 g1 S1 vs gr r1 v1 q1 p1 => hs _ _ _ _ _ _ _ _ r1 q1 p1
theorem d_callB {r : List V → Hp → VK → Prop} {op : List SV → Store → Out SV} (hc : CallR X (.builtin id) r) (hs : SatA M r op) (hg : Gl X x) (hm : X.mg x = none) (hv : bootBuiltins x = some (.builtin id)) (ha : DA X M W (e :: es) af) (hn : x ≠ "__name__" := by decide) (hdb : (x == ("__debug__" : Str)) = false := by decide)
    (he : starEach (e :: es) X.env = (false, eval e X.env) :: starEach es X.env := by rfl) (hpl : (backTo pos (starEach es X.env)).any (·.1) = false := by rfl) : DE X M W (.Call (.Name x p) (e :: es) [] pos) (eCall op af) :=
  (pe_callB hc hg hm hv ha hn hdb he hpl).weak fun _ _ _ h => tCB_of hs h
theorem d_callTy {r : List V → Hp → VK → Prop} {op : List SV → Store → Out SV} (hc : CallR X (.type T) r) (hs : SatA M r op) (hg : Gl X x) (hm : X.mg x = none) (hv : bootBuiltins x = some (.type T)) (ha : DA X M W (e :: es) af) (hn : x ≠ "__name__" := by decide) (hdb : (x == ("__debug__" : Str)) = false := by decide)
    (he : starEach (e :: es) X.env = (false, eval e X.env) :: starEach es X.env := by rfl) (hpl : (backTo pos (starEach es X.env)).any (·.1) = false := by rfl) : DE X M W (.Call (.Name x p) (e :: es) [] pos) (eCall op af) :=
  (pe_callTy hc hg hm hv ha hn hdb he hpl).weak fun _ _ _ h => tCB_of hs h
theorem d_callFun {r : List V → Hp → VK → Prop} {op : List SV → Store → Out SV} (hc : CallR X (.builtin id) r) (hs : SatA M r op) (hg : Gl X x) (hm : X.mg x = some (.builtin id)) (ha : DA X M W (e :: es) af) (hdb : (x == ("__debug__" : Str)) = false := by decide)
    (he : starEach (e :: es) X.env = (false, eval e X.env) :: starEach es X.env := by rfl) (hpl : (backTo pos (starEach es X.env)).any (·.1) = false := by rfl) : DE X M W (.Call (.Name x p) (e :: es) [] pos) (eCall op af) :=
  (pe_callBfun hc hg hm ha hdb he hpl).weak fun _ _ _ h => tCB_of hs h

/-! ### len -/
def lenS : List SV → Store → Out SV := fun vs S => match vs with
  | [v] => match asD v S with
    | some (.list xs) => .ok (.d (.int xs.length)) S
    | some (.tuple xs) => .ok (.d (.int xs.length)) S
    | some (.str x) => if x.length ≤ 16777216 then .ok (.d (.int x.length)) S else .no
    | _ => .no
  | _ => .no
theorem sat_len : SatA M (fun xs H Q => ∃ x n, xs = [x] ∧ LenV M.K x H n ∧ Q (.int n) H) lenS := by
  intro W σ Q g H S us vs r q p
  unfold lenS at p
  split at p
  · cases q with
    | cons q1 q2 =>
      cases q2
      split at p
      · rename_i xs e1
        obtain ⟨a, ws, rfl, h1, t1, hz⟩ := asD_list r q1 e1
        exact ⟨_, ws.length, rfl, .inl ⟨ws, SqL.of h1, rfl⟩, by rw [t1.len]; exact p.now r (.int _)⟩
      · rename_i xs e1
        obtain ⟨a, ws, rfl, h1, t1, _, hz⟩ := asD_tup q1 e1
        exact ⟨_, ws.length, rfl, .inr ⟨ws, SqT.sub r.sub h1, rfl⟩, by rw [t1.len]; exact p.now r (.int _)⟩
      · rename_i y e1
        have a1 := asD_other q1 e1 (fun _ z => nomatch z)
        cases a1
        split at p
        · rename_i hz
          exact ⟨_, y.length, rfl, ⟨hz, rfl⟩, p.now r (.int _)⟩
        · exact p.elim
      · exact p.elim
  · exact p.elim
theorem d_len (hK : X.K = M.K) (hg : Gl X "len") (hm : X.mg "len" = none) (ha : DE X M W a fa) (he : starEach [a] X.env = (false, eval a X.env) :: starEach [] X.env := by rfl) (hpl : (backTo pos (starEach [] X.env)).any (·.1) = false := by rfl) : DE X M W (.Call (.Name "len" p) [a] [] pos) (eCall lenS (aCons fa aNil)) :=
  d_callB (by rw [← hK]; exact call_len) sat_len hg hm PySem.boot_len (da_cons ha da_nil he) (by decide) (by decide) he hpl

/-! ### int, abs, gcd -/
def intS : List SV → Store → Out SV := fun vs S => match vs with
  | [.d (.int i)] => .ok (.d (.int i)) S
  | [.d (.bool b)] => .ok (.d (.int (if b then 1 else 0))) S
  | _ => .no
theorem sat_int : SatA M (fun xs H Q => (∃ i, xs = [.int i] ∧ Q (.int i) H) ∨ ∃ k, xs = [.bl k] ∧ Q (.int (if k then 1 else 0)) H) intS := by
  intro W σ Q g H S us vs r q p
  unfold intS at p
  split at p
  · cases q with
    | cons q1 q2 => cases q2; cases q1; exact .inl ⟨_, rfl, p.now r (.int _)⟩
  · cases q with
    | cons q1 q2 => cases q2; cases q1; exact .inr ⟨_, rfl, p.now r (.int _)⟩
  · exact p.elim
def absS : List SV → Store → Out SV := fun vs S => match vs with
  | [.d (.int i)] => .ok (.d (.int (if i < 0 then -i else i))) S
  | _ => .no
theorem sat_abs : SatA M (fun xs H Q => ∃ i, xs = [.int i] ∧ Q (.int (if i < 0 then -i else i)) H) absS := by
  intro W σ Q g H S us vs r q p
  unfold absS at p
  split at p
  · cases q with
    | cons q1 q2 => cases q2; cases q1; exact ⟨_, rfl, p.now r (.int _)⟩
  · exact p.elim
/-- min, max of two ints -/
def mmS (f : Int → Int → Int) : List SV → Store → Out SV := fun vs S => match vs with
  | [.d (.int i), .d (.int j)] => .ok (.d (.int (f i j))) S
  | _ => .no
theorem sat_mm {f : Int → Int → Int} {r : List V → Hp → VK → Prop} (hr : ∀ i j H (Q : VK), Q (.int (f i j)) H → r [.int i, .int j] H Q) : SatA M r (mmS f) := by
  intro W σ Q g H S us vs r q p
  unfold mmS at p
  split at p
  · cases q with
    | cons q1 q2 =>
      cases q2 with
      | cons q2 q3 => cases q3; cases q1; cases q2; exact hr _ _ _ _ (p.now r (.int _))
  · exact p.elim
theorem sat_gcd : SatA M rGcd (mmS fun i j => (Int.gcd i j : Int)) := sat_mm fun i j H Q q => ⟨i, j, rfl, q⟩

/-! ### list(x), tuple(x) -/
def listS (fin : List PyData → Store → Out SV) : List SV → Store → Out SV := fun vs S => match vs with
  | [v] => match asD v S with
    | some (.list xs) => fin xs S
    | some (.tuple xs) => fin xs S
    | _ => .no
  | _ => .no
theorem sat_list {fin : List PyData → Store → Out SV} (hf : Fin M fin) : SatA M (fun xs H Q => ∃ p ys, xs = [.ref p] ∧ (SqL M.K H p ys ∨ SqT M.K H p ys) ∧ ∀ l, H l = none → Q (.ref l) (upd H l (.lst ys))) (listS fin) := by
  intro W σ Q g H S us vs r q p
  unfold listS at p
  split at p
  · cases q with
    | cons q1 q2 =>
      cases q2
      split at p
      · rename_i xs e1
        obtain ⟨a, ws, rfl, h1, t1, hz⟩ := asD_list r q1 e1
        exact ⟨a, ws, rfl, .inl (SqL.of h1), hf.lay r hz t1 p⟩
      · rename_i xs e1
        obtain ⟨a, ws, rfl, h1, t1, _, hz⟩ := asD_tup q1 e1
        exact ⟨a, ws, rfl, .inr (SqT.sub r.sub h1), hf.lay r hz t1 p⟩
      · exact p.elim
  · exact p.elim
def tupS : List SV → Store → Out SV := fun vs S => match vs with
  | [v] => match asD v S with
    | some (.list xs) => .ok (.d (.tuple xs)) S
    | some (.tuple xs) => .ok (.d (.tuple xs)) S
    | _ => .no
  | _ => .no
theorem sat_tup : SatA M (fun xs H Q => ∃ p ys, xs = [.ref p] ∧ ((SqL M.K H p ys ∧ ∀ l, H l = none → Q (.ref l) (upd H l (.tup ys))) ∨ (SqT M.K H p ys ∧ Q (.ref p) H))) tupS := by
  intro W σ Q g H S us vs r q p
  unfold tupS at p
  split at p
  · cases q with
    | cons q1 q2 =>
      cases q2
      split at p
      · rename_i xs e1
        obtain ⟨a, ws, rfl, h1, t1, hz⟩ := asD_list r q1 e1
        exact ⟨a, ws, rfl, .inl ⟨SqL.of h1, lay_tup r hz t1 p⟩⟩
      · rename_i xs e1
        obtain ⟨a, ws, rfl, h1, t1, pp, hz⟩ := asD_tup q1 e1
        exact ⟨a, ws, rfl, .inr ⟨SqT.sub r.sub h1, p.now r pp⟩⟩
      · exact p.elim
  · exact p.elim
theorem d_list (hK : X.K = M.K) {fin : List PyData → Store → Out SV} (hf : Fin M fin) (hg : Gl X "list") (hm : X.mg "list" = none) (ha : DE X M W a fa) (he : starEach [a] X.env = (false, eval a X.env) :: starEach [] X.env := by rfl) (hpl : (backTo pos (starEach [] X.env)).any (·.1) = false := by rfl) : DE X M W (.Call (.Name "list" p) [a] [] pos) (eCall (listS fin) (aCons fa aNil)) :=
  d_callTy (by rw [← hK]; exact call_list_of) (sat_list hf) hg hm PyProof.Rows.boot_list (da_cons ha da_nil he) (by decide) (by decide) he hpl
theorem d_tuple (hK : X.K = M.K) (hg : Gl X "tuple") (hm : X.mg "tuple" = none) (ha : DE X M W a fa) (he : starEach [a] X.env = (false, eval a X.env) :: starEach [] X.env := by rfl) (hpl : (backTo pos (starEach [] X.env)).any (·.1) = false := by rfl) : DE X M W (.Call (.Name "tuple" p) [a] [] pos) (eCall tupS (aCons fa aNil)) :=
  d_callTy (by rw [← hK]; exact call_tuple_of) sat_tup hg hm PyProof.Rows.boot_tuple (da_cons ha da_nil he) (by decide) (by decide) he hpl
theorem d_int1 (hg : Gl X "int") (hm : X.mg "int" = none) (ha : DE X M W a fa) (he : starEach [a] X.env = (false, eval a X.env) :: starEach [] X.env := by rfl) (hpl : (backTo pos (starEach [] X.env)).any (·.1) = false := by rfl) : DE X M W (.Call (.Name "int" p) [a] [] pos) (eCall intS (aCons fa aNil)) :=
  d_callTy call_int1 sat_int hg hm (by decide +kernel) (da_cons ha da_nil he) (by decide) (by decide) he hpl
theorem d_abs (hg : Gl X "abs") (hm : X.mg "abs" = none) (ha : DE X M W a fa) (he : starEach [a] X.env = (false, eval a X.env) :: starEach [] X.env := by rfl) (hpl : (backTo pos (starEach [] X.env)).any (·.1) = false := by rfl) : DE X M W (.Call (.Name "abs" p) [a] [] pos) (eCall absS (aCons fa aNil)) :=
  d_callB call_abs sat_abs hg hm (by decide +kernel) (da_cons ha da_nil he) (by decide) (by decide) he hpl
theorem d_gcd (hg : Gl X "gcd") (hm : X.mg "gcd" = some (.builtin "math.gcd")) (ha : DE X M W a fa) (hb : DE X M W b fb) (he : starEach [a, b] X.env = (false, eval a X.env) :: starEach [b] X.env := by rfl) (he2 : starEach [b] X.env = (false, eval b X.env) :: starEach [] X.env := by rfl) (hpl : (backTo pos (starEach [b] X.env)).any (·.1) = false := by rfl) :
    DE X M W (.Call (.Name "gcd" p) [a, b] [] pos) (eCall (mmS fun i j => (Int.gcd i j : Int)) (aCons fa (aCons fb aNil))) :=
  d_callFun cr_gcd sat_gcd hg hm (da_cons ha (da_cons hb da_nil he2) he) (by decide) he hpl
theorem d_min2 (hc : X.calm = true) (hg : Gl X "min") (hm : X.mg "min" = none) (ha : DE X M W a fa) (hb : DE X M W b fb) (he : starEach [a, b] X.env = (false, eval a X.env) :: starEach [b] X.env := by rfl) (he2 : starEach [b] X.env = (false, eval b X.env) :: starEach [] X.env := by rfl) (hpl : (backTo pos (starEach [b] X.env)).any (·.1) = false := by rfl) :
    DE X M W (.Call (.Name "min" p) [a, b] [] pos) (eCall (mmS fun i j => if j < i then j else i) (aCons fa (aCons fb aNil))) :=
  d_callB (call_min2 hc) (sat_mm fun i j H Q q => ⟨i, j, rfl, q⟩) hg hm (by decide +kernel) (da_cons ha (da_cons hb da_nil he2) he) (by decide) (by decide) he hpl
theorem d_max2 (hc : X.calm = true) (hg : Gl X "max") (hm : X.mg "max" = none) (ha : DE X M W a fa) (hb : DE X M W b fb) (he : starEach [a, b] X.env = (false, eval a X.env) :: starEach [b] X.env := by rfl) (he2 : starEach [b] X.env = (false, eval b X.env) :: starEach [] X.env := by rfl) (hpl : (backTo pos (starEach [b] X.env)).any (·.1) = false := by rfl) :
    DE X M W (.Call (.Name "max" p) [a, b] [] pos) (eCall (mmS fun i j => if j > i then j else i) (aCons fa (aCons fb aNil))) :=
  d_callB (call_max2 hc) (sat_mm fun i j H Q q => ⟨i, j, rfl, q⟩) hg hm (by decide +kernel) (da_cons ha (da_cons hb da_nil he2) he) (by decide) (by decide) he hpl

/-! ### list(range(..)), tuple(range(..)) -/
def rgD (a b : Int) : List PyData := (List.range (b - a).toNat).map fun (i : Nat) => PyData.int (a + i)
theorem rgD_rep {K : PySem.W.Frag} {F : Hp} (a b : Int) : RpAll K F (rgV a b) (rgD a b) := by
  unfold rgV rgD
  have h : ∀ l : List Nat, RpAll K F (l.map fun (i : Nat) => V.int (a + i)) (l.map fun (i : Nat) => PyData.int (a + i)) := fun l => by
    induction l with
    | nil => exact .nil
    | cons i l ih => exact .cons (.int _) ih
  exact h _
def rgC (a b : Int) : Bool := decide (-(2 ^ 62) ≤ a ∧ a < 2 ^ 62 ∧ -(2 ^ 62) ≤ b ∧ b < 2 ^ 62 ∧ (b - a).toNat ≤ 16777216)
theorem rgC_ok {a b : Int} (h : rgC a b = true) : RgOk a b := of_decide_eq_true (p := -(2 ^ 62) ≤ a ∧ a < 2 ^ 62 ∧ -(2 ^ 62) ≤ b ∧ b < 2 ^ 62 ∧ (b - a).toNat ≤ 16777216) h
theorem rgD_len {a b : Int} (h : rgC a b = true) : (rgD a b).length ≤ 16777216 := by
  unfold rgD
  rw [List.length_map, List.length_range]
  exact (rgC_ok h).2.2.2.2
/-- the bounds of range(..) -/
abbrev RF := Ev → Store → Out (Int × Int)
def rg1 (f : EF) : RF := fun Γ S => (f Γ S).bind fun v S => match v with
  | .d (.int n) => .ok (0, n) S
  | _ => .no
def rg2 (f g : EF) : RF := fun Γ S => (f Γ S).bind fun v S => (g Γ S).bind fun w S => match v, w with
  | .d (.int i), .d (.int j) => .ok (i, j) S
  | _, _ => .no
def DRg (X : Cx) (M : Mi) (W : WX) (e : Expr) (f : RF) : Prop := PRg X e (fun σ H Q => ∃ g Γ S, Rel M.K g H S ∧ Vars M.K g σ Γ ∧ Post M W σ (fun _ (u v : Int × Int) => u = v) (fun u H => Q u.1 u.2 H) g H (f Γ S))
theorem PRg.weak' {X : Cx} {e : Expr} {t t' : St → Hp → (Int → Int → Hp → Prop) → Prop} (h : PRg X e t) (k : ∀ σ H Q, t' σ H Q → t σ H Q) : PRg X e t' := fun pins s σ H Q I z => h pins s σ H Q I (k _ _ _ z)
theorem drg1 (hg : Gl X "range") (hm : X.mg "range" = none) (ha : DE X M W a fa) (na : starEach [a] X.env = (false, eval a X.env) :: starEach [] X.env := by rfl) : DRg X M W (.Call (.Name "range" p) [a] [] pos) (rg1 fa) :=
  PRg.weak' (prg_1 hg hm ha na) fun σ H Q h => by
    obtain ⟨g, Γ, S, r0, v0, p⟩ := h
    refine step r0 v0 p fun u H1 g1 S1 v gr r1 v1 q1 p1 => ?_
    split at p1
    · cases q1
      exact ⟨_, rfl, p1.now (u := (0, _)) r1 rfl⟩
    · exact p1.elim
theorem drg2 (hg : Gl X "range") (hm : X.mg "range" = none) (ha : DE X M W a fa) (hb : DE X M W b fb) (na : starEach [a, b] X.env = (false, eval a X.env) :: starEach [b] X.env := by rfl)
    (nb : starEach [b] X.env = (false, eval b X.env) :: starEach [] X.env := by rfl) (hp : (backTo pos (starEach [b] X.env)).any (·.1) = false := by rfl) : DRg X M W (.Call (.Name "range" p) [a, b] [] pos) (rg2 fa fb) :=
  PRg.weak' (prg_2 hg hm ha hb na nb hp) fun σ H Q h => by
    obtain ⟨g, Γ, S, r0, v0, p⟩ := h
    refine step r0 v0 p fun u H1 g1 S1 v gr r1 v1 q1 p1 => step r1 v1 p1 fun u2 H2 g2 S2 w gr2 r2 v2 q2 p2 => ?_
    split at p2
    · have q1' := gr2.rep q1
      cases q1'; cases q2
      exact ⟨_, _, rfl, rfl, p2.now (u := (_, _)) r2 rfl⟩
    · exact p2.elim
def eLstRg (fin : List PyData → Store → Out SV) (f : RF) : EF := fun Γ S => (f Γ S).bind fun ab S => if rgC ab.1 ab.2 then fin (rgD ab.1 ab.2) S else .no
def eTupRg (f : RF) : EF := fun Γ S => (f Γ S).bind fun ab S => if rgC ab.1 ab.2 then .ok (.d (.tuple (rgD ab.1 ab.2))) S else .no
theorem d_lstRg {fin : List PyData → Store → Out SV} (hf : Fin M fin) {f : RF} (hc : X.calm = true) (hg : Gl X "list") (hm : X.mg "list" = none) (he : DRg X M W e f) (na : starEach [e] X.env = (false, eval e X.env) :: starEach [] X.env := by rfl) : DE X M W (.Call (.Name "list" p) [e] [] pos) (eLstRg fin f) :=
  (pe_listRg hc hg hm he na).weak fun σ H Q h => by
    obtain ⟨g, Γ, S, r0, v0, p⟩ := h
    refine ⟨g, Γ, S, r0, v0, Post.imp (fun u H1 q => ?_) (Post.bind (R := fun _ (u v : Int × Int) => u = v) p)⟩
    obtain ⟨g1, S1, ab, gr, r1, q1, p1⟩ := q
    cases q1
    split at p1
    · rename_i hz
      exact ⟨rgC_ok hz, hf.lay r1 (rgD_len hz) (rgD_rep _ _) p1⟩
    · exact p1.elim
theorem d_tupRg {f : RF} (hc : X.calm = true) (hg : Gl X "tuple") (hm : X.mg "tuple" = none) (he : DRg X M W e f) (na : starEach [e] X.env = (false, eval e X.env) :: starEach [] X.env := by rfl) : DE X M W (.Call (.Name "tuple" p) [e] [] pos) (eTupRg f) :=
  (pe_tupRg hc hg hm he na).weak fun σ H Q h => by
    obtain ⟨g, Γ, S, r0, v0, p⟩ := h
    refine ⟨g, Γ, S, r0, v0, Post.imp (fun u H1 q => ?_) (Post.bind (R := fun _ (u v : Int × Int) => u = v) p)⟩
    obtain ⟨g1, S1, ab, gr, r1, q1, p1⟩ := q
    cases q1
    split at p1
    · rename_i hz
      exact ⟨rgC_ok hz, lay_tup r1 (rgD_len hz) (rgD_rep _ _) p1⟩
    · exact p1.elim

/-! ### isinstance -/
def tyN : PyData → String
  | .none => "NoneType"
  | .bool _ => "bool"
  | .int _ => "int"
  | .str _ => "str"
  | .list _ => "list"
  | .tuple _ => "tuple"
  | .dict _ => "dict"
def isiB (t T : String) : Bool := t == T || (t == "bool" && T == "int")
def okT (T : String) : Bool := ["int", "bool", "str", "list", "tuple", "dict", "NoneType", "float"].contains T
theorem kit_tab : (["NoneType", "bool", "int", "str", "list", "tuple", "dict"].all fun t => ["int", "bool", "str", "list", "tuple", "dict", "NoneType", "float"].all fun T => kitB t T == some (isiB t T)) = true := by decide +kernel
theorem kitB_ok (d : PyData) {T : String} (h : okT T = true) : kitB (tyN d) T = some (isiB (tyN d) T) := by
  have h1 : tyN d ∈ ["NoneType", "bool", "int", "str", "list", "tuple", "dict"] := by cases d <;> simp [tyN]
  have h2 : T ∈ ["int", "bool", "str", "list", "tuple", "dict", "NoneType", "float"] := List.contains_iff_mem.mp h
  exact beq_iff_eq.mp (List.all_eq_true.mp (List.all_eq_true.mp kit_tab _ h1) _ h2)
theorem tyX_ok {g : Gh} {H : Hp} {S : Store} {u : V} {v : SV} {d : PyData} (r : Rel M.K g H S) (q : RepS M.K g u v) (e : asD v S = some d) : TyX M.K H u (.type (tyN d)) := by
  cases d with
  | list xs =>
    obtain ⟨a, ws, rfl, h1, t1, _⟩ := asD_list r q e
    exact .base (.lst h1)
  | tuple xs =>
    obtain ⟨a, ws, rfl, h1, t1, _, _⟩ := asD_tup q e
    rcases SqT.sub r.sub h1 with (h | ⟨o, h⟩) | ⟨o, its, n, h, hc, _⟩
    · exact .base (.tup h)
    · exact .fTuple h
    · exact .kTuple h hc
  | none =>
    have a1 := asD_other q e (fun _ z => nomatch z)
    cases a1; exact .base .non
  | bool b =>
    have a1 := asD_other q e (fun _ z => nomatch z)
    cases a1; exact .base (.bl _)
  | int i =>
    have a1 := asD_other q e (fun _ z => nomatch z)
    cases a1; exact .base (.int _)
  | str y =>
    have a1 := asD_other q e (fun _ z => nomatch z)
    cases a1; exact .base (.str _)
  | dict _ =>
    have a1 := asD_other q e (fun _ z => nomatch z)
    cases a1 with
    | dct h => exact .base (.dK (r.sub _ _ h))
def eIsi (T : String) (f : EF) : EF := fun Γ S => (f Γ S).bind fun v S => match asD v S with
  | some d => .ok (.d (.bool (isiB (tyN d) T))) S
  | none => .no
theorem d_isi (hK : X.K = M.K) {T' : String} (hT : okT T' = true) (hg : Gl X "isinstance") (hm : X.mg "isinstance" = none) (ha : DE X M W a fa) (ht : PE X b (tC (.ty T')))
    (he : starEach [a, b] X.env = (false, eval a X.env) :: starEach [b] X.env := by rfl) (he2 : starEach [b] X.env = (false, eval b X.env) :: starEach [] X.env := by rfl) (hpl : (backTo pos (starEach [b] X.env)).any (·.1) = false := by rfl) :
    DE X M W (.Call (.Name "isinstance" p) [a, b] [] pos) (eIsi T' fa) :=
  (pe_callB (r := rIsi M.K) (by rw [← hK]; exact call_isi) hg hm (by decide +kernel) (pa_cons ha (pa_cons ht pa_nil he2) he) (by decide) (by decide) he hpl).weak fun σ H Q h => by
    obtain ⟨g, Γ, S, r0, v0, p⟩ := h
    refine step r0 v0 p fun u H1 g1 S1 v gr r1 v1 q1 p1 => ?_
    split at p1
    · rename_i d e
      exact ⟨u, .ty T', .type (tyN d), .type T', _, rfl, .ty _, tyX_ok r1 q1 e, kit_ty (kitB_ok d hT), p1.now r1 (.bl _)⟩
    · exact p1.elim
/-- isinstance(a, (T1, T2)) -/
def eIsi2 (T1 T2 : String) (f : EF) : EF := fun Γ S => (f Γ S).bind fun v S => match asD v S with
  | some d => .ok (.d (.bool (isiB (tyN d) T1 || isiB (tyN d) T2))) S
  | none => .no
theorem Rel.lay (r : Rel M.K g H S) {q : Addr} (hq : H q = none) (o : HO) : Rel M.K g (upd H q o) S ∧ Grow g H g (upd H q o) := by
  obtain ⟨hF, hB⟩ := r.free hq
  have ne : ∀ b ∈ g.B, b ≠ q := fun b hb e => hB (e ▸ hb)
  refine ⟨⟨fun b u e => ?_, r.nd, r.dis, r.len, fun i a m e1 e2 => ?_⟩, ⟨⟨[], by simp⟩, fun _ _ h => h, fun b u e _ => ?_, fun b hb => .inl hb, fun b u e => .inl e⟩⟩
  · have nb : b ≠ q := fun z => by rw [z, hF] at e; cases e
    rw [upd_ne nb]; exact r.sub _ _ e
  · rw [upd_ne (ne a (List.mem_of_getElem? e1))]; exact r.at_ i a m e1 e2
  · rw [upd_ne (ne_of_none e hq)]; exact e
theorem d_isi2 (hK : X.K = M.K) {T1 T2 : String} {b1 b2 : Expr} {k : Nat} {p2 : Pos} (h1 : okT T1 = true) (h2 : okT T2 = true) (hg : Gl X "isinstance") (hm : X.mg "isinstance" = none) (ha : DE X M W a fa) (t1 : PE X b1 (tC (.ty T1))) (t2 : PE X b2 (tC (.ty T2)))
    (he : starEach [a, .Tuple [b1, b2] k p2] X.env = (false, eval a X.env) :: starEach [.Tuple [b1, b2] k p2] X.env := by rfl) (he2 : starEach [.Tuple [b1, b2] k p2] X.env = (false, eval (.Tuple [b1, b2] k p2) X.env) :: starEach [] X.env := by rfl) (hpl : (backTo pos (starEach [.Tuple [b1, b2] k p2] X.env)).any (·.1) = false := by rfl)
    (hs1 : starEach [b1, b2] X.env = (false, eval b1 X.env) :: starEach [b2] X.env := by rfl) (hs2 : starEach [b2] X.env = (false, eval b2 X.env) :: starEach [] X.env := by rfl) :
    DE X M W (.Call (.Name "isinstance" p) [a, .Tuple [b1, b2] k p2] [] pos) (eIsi2 T1 T2 fa) :=
  (pe_callB (r := rIsiT M.K) (by rw [← hK]; exact call_isiT) hg hm (by decide +kernel) (pa_cons ha (pa_cons (pe_tup (pa_cons t1 (pa_cons t2 pa_nil hs2) hs1)) pa_nil he2) he) (by decide) (by decide) he hpl).weak fun σ H Q h => by
    obtain ⟨g, Γ, S, r0, v0, p⟩ := h
    refine step r0 v0 p fun u H1 g1 S1 v gr r1 v1 q1 p1 => ?_
    split at p1
    · rename_i d e
      refine ⟨by show 2 ≤ sizeLine; decide, fun q hq => ?_⟩
      obtain ⟨r2, gr2⟩ := Rel.lay r1 hq (.tup [.ty T1, .ty T2])
      refine ⟨u, q, [.ty T1, .ty T2], .type (tyN d), [.type T1, .type T2], isiB (tyN d) T1 || isiB (tyN d) T2, rfl, upd_same, .cons (.ty _) (.cons (.ty _) .nil), tyX_ok r2 q1 e, ?_, ?_⟩
      · refine kitAny_cons (kit_ty (kitB_ok d h1)) (fun z => ?_) (fun z => by rw [z]; rfl)
        refine kitAny_cons (kit_ty (kitB_ok d h2)) (fun z' => ?_) (fun z' => by rw [z']; simp)
        rw [z, z']; exact kitAny_nil
      · exact p1 _ _ _ gr2 r2 (.bl _)
    · exact p1.elim

/-! ### all, any -/
def scaD : PyData → Bool
  | .none => true
  | .bool _ => true
  | .int _ => true
  | _ => false
def trB : PyData → Bool
  | .bool b => b
  | .int i => i != 0
  | _ => false
def allS (any : Bool) : List SV → Store → Out SV := fun vs S => match vs with
  | [v] => match asD v S with
    | some (.list xs) => if xs.all scaD then .ok (.d (.bool (if any then xs.any trB else xs.all trB))) S else .no
    | some (.tuple xs) => if xs.all scaD then .ok (.d (.bool (if any then xs.any trB else xs.all trB))) S else .no
    | _ => .no
  | _ => .no
theorem sca_plain : ∀ {xs : List PyData}, xs.all scaD = true → PyData.plainAll xs = true ∧ (∀ x ∈ xs, x.fits63) ∧ (xs.map PyData.truthy = xs.map trB)
  | [], _ => ⟨by simp [PyData.plainAll], fun _ h => (by cases h), rfl⟩
  | x :: xs, h => by
    rw [List.all_cons, Bool.and_eq_true] at h
    obtain ⟨h1, h2, h3⟩ := sca_plain h.2
    have k : x.plain = true ∧ x.fits63 ∧ x.truthy = trB x := by
      cases x with
      | none => exact ⟨by simp [PyData.plain], trivial, rfl⟩
      | bool b => exact ⟨by simp [PyData.plain], trivial, rfl⟩
      | int i => exact ⟨by simp [PyData.plain], trivial, rfl⟩
      | _ => exact absurd h.1 (by simp [scaD])
    refine ⟨by simp [PyData.plainAll, k.1, h1], fun y hy => ?_, by rw [List.map_cons, List.map_cons, h3, k.2.2]⟩
    rcases List.mem_cons.mp hy with rfl | hy
    · exact k.2.1
    · exact h2 y hy
theorem any_eq {xs : List PyData} (h : xs.map PyData.truthy = xs.map trB) : xs.any PyData.truthy = xs.any trB := by
  have e1 : xs.any PyData.truthy = (xs.map PyData.truthy).any id := by simp [List.any_map]
  have e2 : xs.any trB = (xs.map trB).any id := by simp [List.any_map]
  rw [e1, e2, h]
theorem all_eq {xs : List PyData} (h : xs.map PyData.truthy = xs.map trB) : xs.all PyData.truthy = xs.all trB := by
  have e1 : xs.all PyData.truthy = (xs.map PyData.truthy).all id := by simp [List.all_map]
  have e2 : xs.all trB = (xs.map trB).all id := by simp [List.all_map]
  rw [e1, e2, h]
def rAnyD (K : PySem.W.Frag) (any : Bool) : List V → Hp → VK → Prop := fun us H Q => ∃ x ds, us = [x] ∧ (Dp K H x (.list ds) ∨ Dp K H x (.tuple ds)) ∧ ds.all scaD = true ∧ Q (.bl (if any then ds.any trB else ds.all trB)) H
theorem cr_anyD (hc : X.calm = true) : CallR X (.builtin "any") (rAnyD X.K true) := by
  intro pins s σ H xs us Q I r h
  obtain ⟨x, ds, rfl, hd, hs, q⟩ := h
  obtain ⟨u, rfl, ru⟩ := vals1 r
  obtain ⟨p1, p2, p3⟩ := sca_plain hs
  rw [if_pos rfl, ← any_eq p3] at q
  rcases hd with hd | hd
  · cases hd with
    | lst hs ha =>
      cases ru
      obtain ⟨its, rv, ⟨o, n, ho, hc', hd', hdt⟩, _⟩ := I.list hs
      obtain ⟨as, hr⟩ := Dp.readsAll I ds _ its ha rv
      exact PySem.W.any_list_data (I.ok.hd hc) (PlainL.isList ⟨o, n, ho, hc', hd', hdt⟩) (by simpa using hr) p1 p2 fun h' tk k => ⟨.bl _, H, I.kept k, rfl, q⟩
  · cases hd with
    | tup hs ha =>
      cases ru
      obtain ⟨its, rv, ht, _⟩ := I.tuple hs
      obtain ⟨as, hr⟩ := Dp.readsAll I ds _ its ha rv
      exact PySem.W.any_tuple_data (I.ok.hd hc) ht (by simpa using hr) p1 p2 fun h' tk k => ⟨.bl _, H, I.kept k, rfl, q⟩
theorem cr_allD (hc : X.calm = true) : CallR X (.builtin "all") (rAnyD X.K false) := by
  intro pins s σ H xs us Q I r h
  obtain ⟨x, ds, rfl, hd, hs, q⟩ := h
  obtain ⟨u, rfl, ru⟩ := vals1 r
  obtain ⟨p1, p2, p3⟩ := sca_plain hs
  rw [if_neg Bool.false_ne_true, ← all_eq p3] at q
  rcases hd with hd | hd
  · cases hd with
    | lst hs ha =>
      cases ru
      obtain ⟨its, rv, ⟨o, n, ho, hc', hd', hdt⟩, _⟩ := I.list hs
      obtain ⟨as, hr⟩ := Dp.readsAll I ds _ its ha rv
      exact PySem.W.all_list_data (I.ok.hd hc) (PlainL.isList ⟨o, n, ho, hc', hd', hdt⟩) (by simpa using hr) p1 p2 fun h' tk k => ⟨.bl _, H, I.kept k, rfl, q⟩
  · cases hd with
    | tup hs ha =>
      cases ru
      obtain ⟨its, rv, ht, _⟩ := I.tuple hs
      obtain ⟨as, hr⟩ := Dp.readsAll I ds _ its ha rv
      exact PySem.W.all_tuple_data (I.ok.hd hc) ht (by simpa using hr) p1 p2 fun h' tk k => ⟨.bl _, H, I.kept k, rfl, q⟩
theorem sat_any {k : Bool} : SatA M (rAnyD M.K k) (allS k) := by
  intro W σ Q g H S us vs r q p
  unfold allS at p
  split at p
  · cases q with
    | cons q1 q2 =>
      cases q2
      split at p
      · rename_i xs e1
        split at p
        · rename_i hs
          exact ⟨_, xs, rfl, .inl (asD_dp r q1 e1 (by rw [PyData.plain]; exact (sca_plain hs).1)), hs, p.now r (.bl _)⟩
        · exact p.elim
      · rename_i xs e1
        split at p
        · rename_i hs
          exact ⟨_, xs, rfl, .inr (asD_dp r q1 e1 (by rw [PyData.plain]; exact (sca_plain hs).1)), hs, p.now r (.bl _)⟩
        · exact p.elim
      · exact p.elim
  · exact p.elim
theorem d_any (hK : X.K = M.K) (hc : X.calm = true) (hg : Gl X "any") (hm : X.mg "any" = none) (ha : DE X M W a fa) (he : starEach [a] X.env = (false, eval a X.env) :: starEach [] X.env := by rfl) (hpl : (backTo pos (starEach [] X.env)).any (·.1) = false := by rfl) : DE X M W (.Call (.Name "any" p) [a] [] pos) (eCall (allS true) (aCons fa aNil)) :=
  d_callB (by rw [← hK]; exact cr_anyD hc) sat_any hg hm (by decide +kernel) (da_cons ha da_nil he) (by decide) (by decide) he hpl
theorem d_all (hK : X.K = M.K) (hc : X.calm = true) (hg : Gl X "all") (hm : X.mg "all" = none) (ha : DE X M W a fa) (he : starEach [a] X.env = (false, eval a X.env) :: starEach [] X.env := by rfl) (hpl : (backTo pos (starEach [] X.env)).any (·.1) = false := by rfl) : DE X M W (.Call (.Name "all" p) [a] [] pos) (eCall (allS false) (aCons fa aNil)) :=
  d_callB (by rw [← hK]; exact cr_allD hc) sat_any hg hm (by decide +kernel) (da_cons ha da_nil he) (by decide) (by decide) he hpl
end
end DL
/-! D5: statements, targets, defs. -/
namespace DL
open PySem L2

inductive Fl where
  | nx (Γ : Ev)
  | rt (v : SV)
  | bk (Γ : Ev)
  | ct (Γ : Ev)
  | xc (x : Exc) (Γ : Ev)
abbrev SF := Ev → Store → Out Fl
def PostS (M : Mi) (W : WX) (D : Ends) (g : Gh) (H : Hp) : Out Fl → Prop
  | .ok (.nx Γ') S' => ∀ σ' g' H', Grow g H g' H' → Rel M.K g' H' S' → Vars M.K g' σ' Γ' → D.nx σ' H'
  | .ok (.rt v) S' => ∀ u g' H', Grow g H g' H' → Rel M.K g' H' S' → RepS M.K g' u v → D.rt u H'
  | .ok (.bk Γ') S' => ∀ σ' g' H', Grow g H g' H' → Rel M.K g' H' S' → Vars M.K g' σ' Γ' → D.bk σ' H'
  | .ok (.ct Γ') S' => ∀ σ' g' H', Grow g H g' H' → Rel M.K g' H' S' → Vars M.K g' σ' Γ' → D.ct σ' H'
  | .ok (.xc x Γ') S' => ∀ cls d σ' g' H', Grow g H g' H' → Rel M.K g' H' S' → Vars M.K g' σ' Γ' → XRep M g'.F x cls d → W cls d σ' H'
  | .ex _ _ => False
  | .no => False
section
variable {α β : Type} {M : Mi} {W : WX} {D D' : Ends} {R : Gh → β → α → Prop} {g g1 : Gh} {H H1 : Hp} {S S1 : Store} {σ : St} {Γ : Ev}
theorem PostS.grow {o : Out Fl} (r : Rel M.K g1 H1 S1) (a : Grow g H g1 H1) (h : PostS M W D g H o) : PostS M W D g1 H1 o := by
  cases o with
  | ok f S' =>
    cases f with
    | nx _ => exact fun σ' g' H' b r' q => h σ' g' H' (a.trans r b) r' q
    | rt _ => exact fun u g' H' b r' q => h u g' H' (a.trans r b) r' q
    | bk _ => exact fun σ' g' H' b r' q => h σ' g' H' (a.trans r b) r' q
    | ct _ => exact fun σ' g' H' b r' q => h σ' g' H' (a.trans r b) r' q
    | xc _ _ => exact fun c d σ' g' H' b r' q => h c d σ' g' H' (a.trans r b) r' q
  | ex x S' => exact h
  | no => exact h
theorem PostS.imp {o : Out Fl} (h1 : ∀ σ H, D.nx σ H → D'.nx σ H) (h2 : ∀ u H, D.rt u H → D'.rt u H) (h3 : ∀ σ H, D.bk σ H → D'.bk σ H) (h4 : ∀ σ H, D.ct σ H → D'.ct σ H) (h : PostS M W D g H o) : PostS M W D' g H o := by
  cases o with
  | ok f S' =>
    cases f with
    | nx _ => exact fun σ' g' H' b r' q => h1 _ _ (h σ' g' H' b r' q)
    | rt _ => exact fun u g' H' b r' q => h2 _ _ (h u g' H' b r' q)
    | bk _ => exact fun σ' g' H' b r' q => h3 _ _ (h σ' g' H' b r' q)
    | ct _ => exact fun σ' g' H' b r' q => h4 _ _ (h σ' g' H' b r' q)
    | xc _ _ => exact h
  | ex x S' => exact h
  | no => exact h
def sB {α : Type} (o : Out α) (Γ : Ev) (k : α → Store → Out Fl) : Out Fl := match o with
  | .ok a S => k a S
  | .ex x S => .ok (.xc x Γ) S
  | .no => .no
/-- an expression within a statement -/
theorem stepS {f : Ev → Store → Out α} {k : α → Store → Out Fl} {Q : β → Hp → Prop} (r : Rel M.K g H S) (v : Vars M.K g σ Γ) (p : PostS M W D g H (sB (f Γ S) Γ k))
    (kk : ∀ u H1 g1 S1 a, Grow g H g1 H1 → Rel M.K g1 H1 S1 → Vars M.K g1 σ Γ → R g1 u a → PostS M W D g1 H1 (k a S1) → Q u H1) : tG M W R f σ H Q := by
  refine ⟨g, Γ, S, r, v, ?_⟩
  cases h : f Γ S with
  | ok a S' =>
    rw [h] at p
    exact fun u g1 H1 gr r1 q => kk u H1 g1 S' a gr r1 (gr.vars v) q (PostS.grow r1 gr p)
  | ex x S' =>
    rw [h] at p
    exact fun cls d g1 H1 gr r1 q => p cls d σ g1 H1 gr r1 (gr.vars v) q
  | no =>
    rw [h] at p
    exact p
end
def tS (M : Mi) (W : WX) (f : SF) : TS := fun D σ H => ∃ g Γ S, Rel M.K g H S ∧ Vars M.K g σ Γ ∧ PostS M W D g H (f Γ S)
abbrev DS (X : Cx) (M : Mi) (W : WX) (s : Stmt) (f : SF) : Prop := PS X s (tS M W f)
abbrev DSs (X : Cx) (M : Mi) (W : WX) (s : List Stmt) (f : SF) : Prop := PSs X s (tS M W f)
section
variable {X : Cx} {M : Mi} {W : WX} {st : Stmt} {rest : List Stmt} {f h : SF} {e : Expr} {fe : EF} {pos : Pos}
def fNil : SF := fun Γ S => .ok (.nx Γ) S
def fSeq (f h : SF) : SF := fun Γ S => match f Γ S with
  | .ok (.nx Γ') S' => h Γ' S'
  | o => o
theorem ss_nil : DSs X M W [] fNil := pss_nil.weak fun D σ H ⟨g, Γ, S, r, v, p⟩ => p σ g H (Grow.refl _ _) r v
theorem ss_cons (h1 : DS X M W st f) (h2 : DSs X M W rest h) : DSs X M W (st :: rest) (fSeq f h) := (pss_cons h1 h2).weak fun D σ H ⟨g, Γ, S, r, v, p⟩ => by
  refine ⟨g, Γ, S, r, v, ?_⟩
  unfold fSeq at p
  cases q : f Γ S with
  | ok fl S' =>
    rw [q] at p
    cases fl with
    | nx Γ' => exact fun σ' g' H' gr r' v' => ⟨g', Γ', S', r', v', PostS.grow r' gr p⟩
    | rt _ => exact p
    | bk _ => exact p
    | ct _ => exact p
    | xc _ _ => exact p
  | ex x S' => rw [q] at p; exact p
  | no => rw [q] at p; exact p
theorem ss_one (h1 : DS X M W st f) : DSs X M W [st] f := pss_one h1
theorem s_pass : DS X M W (.Pass pos) fNil := ps_pass.weak fun D σ H ⟨g, Γ, S, r, v, p⟩ => p σ g H (Grow.refl _ _) r v
def fBreak : SF := fun Γ S => .ok (.bk Γ) S
def fCont : SF := fun Γ S => .ok (.ct Γ) S
theorem s_break : DS X M W (.Break pos) fBreak := ps_break.weak fun D σ H ⟨g, Γ, S, r, v, p⟩ => p σ g H (Grow.refl _ _) r v
theorem s_cont : DS X M W (.Continue pos) fCont := ps_continue.weak fun D σ H ⟨g, Γ, S, r, v, p⟩ => p σ g H (Grow.refl _ _) r v
def fExpr (fe : EF) : SF := fun Γ S => sB (fe Γ S) Γ fun _ S => .ok (.nx Γ) S
theorem s_expr (he : DE X M W e fe) (hs : swapsWith e none pos.line X.env = pure false := by rfl) : DS X M W (.Expr e pos) (fExpr fe) := (ps_expr he hs).weak fun D σ H ⟨g, Γ, S, r, v, p⟩ =>
  stepS r v p fun u H1 g1 S1 a gr r1 v1 q1 p1 => p1 σ g1 H1 (Grow.refl _ _) r1 v1
def fRet (fe : EF) : SF := fun Γ S => sB (fe Γ S) Γ fun v S => .ok (.rt v) S
theorem s_ret (he : DE X M W e fe) : DS X M W (.Return (some e) pos) (fRet fe) := (ps_ret he).weak fun D σ H ⟨g, Γ, S, r, v, p⟩ =>
  stepS r v p fun u H1 g1 S1 a gr r1 v1 q1 p1 => p1 u g1 H1 (Grow.refl _ _) r1 q1
def fRetN : SF := fun _ S => .ok (.rt (.d .none)) S
theorem s_retN : DS X M W (.Return none pos) fRetN := ps_retN.weak fun D σ H ⟨g, Γ, S, r, v, p⟩ => p .non g H (Grow.refl _ _) r .non
def fIf (t : TF) (f h : SF) : SF := fun Γ S => sB (t Γ S) Γ fun b S => if b = true then f Γ S else h Γ S
theorem s_if {c : Expr} {a b : List Stmt} {t : TF} (hc : DT X M W c t) (ha : DSs X M W a f) (hb : DSs X M W b h) : DS X M W (.If c a b pos) (fIf t f h) := (ps_if hc ha hb).weak fun D σ H ⟨g, Γ, S, r, v, p⟩ =>
  stepS r v p fun u H1 g1 S1 a gr r1 v1 q1 p1 => by
    cases q1
    cases u with
    | true => exact ⟨g1, Γ, S1, r1, v1, p1⟩
    | false => exact ⟨g1, Γ, S1, r1, v1, p1⟩

/-! ### targets -/
abbrev GF := SV → Ev → Store → Out Ev
/-- the slots outside T are as they were -/
abbrev OnlyT (T : List Nat) (σ σ' : St) : Prop := σ'.length = σ.length ∧ ∀ j, j ∉ T → σ'[j]? = σ[j]?
def PostG (M : Mi) (T : List Nat) (σ : St) (Q : St → Hp → Prop) (g : Gh) (H : Hp) : Out Ev → Prop
  | .ok Γ' S' => ∀ σ' g' H', OnlyT T σ σ' → Grow g H g' H' → Rel M.K g' H' S' → Vars M.K g' σ' Γ' → Q σ' H'
  | _ => False
theorem PostG.grow {M : Mi} {T : List Nat} {σ : St} {Q : St → Hp → Prop} {g g1 : Gh} {H H1 : Hp} {S1 : Store} {o : Out Ev} (r : Rel M.K g1 H1 S1) (a : Grow g H g1 H1) (h : PostG M T σ Q g H o) : PostG M T σ Q g1 H1 o := by
  cases o with
  | ok Γ' S' => exact fun σ' g' H' t b r' q => h σ' g' H' t (a.trans r b) r' q
  | ex x S' => exact h
  | no => exact h
def tT1 (M : Mi) (T : List Nat) (gf : GF) : L2.TG := fun u σ H Q => ∃ g Γ S v, Rel M.K g H S ∧ Vars M.K g σ Γ ∧ RepS M.K g u v ∧ PostG M T σ Q g H (gf v Γ S)
abbrev DG (X : Cx) (M : Mi) (T : List Nat) (e : Expr) (gf : GF) : Prop := PG X e (tT1 M T gf)
theorem _root_.L2.PG.weak {X : Cx} {e : Expr} {t t' : L2.TG} (h : PG X e t) (k : ∀ u σ H Q, t' u σ H Q → t u σ H Q) : PG X e t' := ⟨fun pins s σ H v u Q I r z => h.run pins s σ H v u Q I r (k _ _ _ _ z)⟩
theorem _root_.L2.PGs.weak {X : Cx} {e : List Expr} {t t' : L2.TGs} (h : PGs X e t) (k : ∀ u σ H Q, t' u σ H Q → t u σ H Q) : PGs X e t' := ⟨fun pins s σ H v u Q I r z => h.run pins s σ H v u Q I r (k _ _ _ _ z)⟩
def gNm (i : Nat) : GF := fun v Γ S => .ok (Γ.set i (some v)) S
theorem g_nm {i : Nat} {x : Str} (hN : X.N.Nodup) (hi : X.N[i]? = some x) (hx : Loc X.env.scope x) (hf : X.fn x = true ∨ X.env.scope.names.lookup x = some .local := by first | exact .inl rfl | exact .inr rfl | assumption) : DG X M [i] (.Name x pos) (gNm i) :=
  (pg_name hN hi hx hf).weak fun u σ H Q ⟨g, Γ, S, v, r, vs, q, p⟩ => p _ g H ⟨List.length_set, fun j hj => List.getElem?_set_ne (fun e => hj (by simp [e]))⟩ (Grow.refl _ _) r (vs.set q i)
/-- several targets: the items of data -/
def gsNil : List PyData → Ev → Store → Out Ev := fun ds Γ S => match ds with
  | [] => .ok Γ S
  | _ => .no
def gsCons (gf : GF) (gr : List PyData → Ev → Store → Out Ev) : List PyData → Ev → Store → Out Ev := fun ds Γ S => match ds with
  | d :: ds => (gf (.d d) Γ S).bind fun Γ S => gr ds Γ S
  | [] => .no
def tTs (M : Mi) (T : List Nat) (gf : List PyData → Ev → Store → Out Ev) : L2.TGs := fun us σ H Q => ∃ g Γ S ds, Rel M.K g H S ∧ Vars M.K g σ Γ ∧ RpAll M.K g.F us ds ∧ PostG M T σ Q g H (gf ds Γ S)
abbrev DGs (X : Cx) (M : Mi) (T : List Nat) (e : List Expr) (gf : List PyData → Ev → Store → Out Ev) : Prop := PGs X e (tTs M T gf)
theorem gs_nil : DGs X M [] [] gsNil := pgs_nil.weak fun u σ H Q ⟨g, Γ, S, ds, r, vs, q, p⟩ => by
  cases q with
  | nil => exact ⟨rfl, p _ g H ⟨rfl, fun _ _ => rfl⟩ (Grow.refl _ _) r vs⟩
  | cons _ _ => exact p.elim
theorem gs_cons {T1 T2 : List Nat} {es : List Expr} {gf : GF} {gr : List PyData → Ev → Store → Out Ev} (h1 : DG X M T1 e gf) (h2 : DGs X M T2 es gr)
    (hs : (assignEach (e :: es) X.env).map (·.2) = assign e X.env :: (assignEach es X.env).map (·.2) := by rfl) : DGs X M (T1 ++ T2) (e :: es) (gsCons gf gr) := (pgs_cons h1 h2 hs).weak fun u σ H Q ⟨g, Γ, S, ds, r, vs, q, p⟩ => by
  cases q with
  | nil => exact p.elim
  | @cons v vr d dr q1 q2 =>
    refine ⟨v, vr, rfl, g, Γ, S, .d d, r, vs, q1, ?_⟩
    unfold gsCons at p
    cases h : gf (.d d) Γ S with
    | ok Γ' S' =>
      simp only [h, Out.bind] at p
      refine fun σ' g' H' t gr' r' v' => ⟨g', Γ', S', dr, r', v', RpAll.sub gr'.sub _ _ q2, ?_⟩
      cases h2 : gr dr Γ' S' with
      | ok Γ2 S2 =>
        rw [h2] at p
        exact fun σ3 g3 H3 t3 gr3 r3 v3 => p σ3 g3 H3 ⟨t3.1.trans t.1, fun j hj => (t3.2 j (fun z => hj (List.mem_append_right _ z))).trans (t.2 j (fun z => hj (List.mem_append_left _ z)))⟩ (gr'.trans r' gr3) r3 v3
      | ex x S2 => rw [h2] at p; exact p
      | no => rw [h2] at p; exact p
    | ex x S' => simp only [h, Out.bind] at p; exact p.elim
    | no => simp only [h, Out.bind] at p; exact p.elim
def gTupF (n : Nat) (gf : List PyData → Ev → Store → Out Ev) : GF := fun v Γ S => match asD v S with
  | some (.tuple ds) => if ds.length = n then gf ds Γ S else .no
  | _ => .no
theorem g_tup (hK : X.K = M.K) {T : List Nat} {es : List Expr} {k n : Nat} {gf : List PyData → Ev → Store → Out Ev} (hc : X.calm = true) (h : DGs X M T es gf)
    (hn : (assignEach es X.env).length = n := by rfl) (hst : (assignEach es X.env).findIdx? (·.1) = none := by rfl) : DG X M T (.Tuple es k pos) (gTupF n gf) := (pg_tup hc h hn hst).weak fun u σ H Q ⟨g, Γ, S, v, r, vs, q, p⟩ => by
  unfold gTupF at p
  split at p
  · rename_i ds e
    obtain ⟨a, ws, rfl, h1, t1, _, _⟩ := asD_tup q e
    split at p
    · rename_i hl
      exact ⟨a, ws, rfl, by rw [hK]; exact SqT.sub r.sub h1, by rw [t1.len]; exact hl, g, Γ, S, ds, r, vs, t1, p⟩
    · exact p.elim
  · exact p.elim
/-- o[i] = v -/
def setS : SV → SV → SV → Store → Out Unit := fun o w v S => match o, w, v with
  | .cell c, .d (.int k), .d x => match S[c]? with
    | some (.lst xs) => match ixN xs.length k with
      | some j => .ok () (S.set c (.lst (xs.set j x)))
      | none => .no
    | _ => .no
  | _, _, _ => .no
def gSubF (fo fi : EF) : GF := fun v Γ S => (fo Γ S).bind fun o S => (fi Γ S).bind fun w S => (setS o w v S).bind fun _ S => .ok Γ S
theorem g_sub {o i : Expr} {fo fi : EF} (ho : DE X M W o fo) (hi : DE X M W i fi)
    (ha : ∀ v, assign (.Subscript o i pos) X.env v = (do
      let ov ← holding [v] (eval o X.env)
      let iv ← holding [v, ov] (eval i X.env)
      standAt pos
      holding [v, ov, iv] (setItem ov iv v)
      release [v, ov, iv] []) := by intro _; rfl) : DG X M [] (.Subscript o i pos) (gSubF fo fi) := (pg_sub ho hi set_list ha).weak fun u σ H Q ⟨g, Γ, S, v, r, vs, q, p⟩ => by
  unfold gSubF at p
  refine ⟨g, Γ, S, r, vs, ?_⟩
  cases h1 : fo Γ S with
  | ok ov S1 =>
    simp only [h1, Out.bind] at p
    intro u1 g1 H1 gr1 r1 q1
    refine ⟨g1, Γ, S1, r1, gr1.vars vs, ?_⟩
    cases h2 : fi Γ S1 with
    | ok w S2 =>
      simp only [h2, Out.bind] at p
      intro u2 g2 H2 gr2 r2 q2
      cases h3 : setS ov w v S2 with
      | ex x S' => rw [h3] at p; exact p.elim
      | no => rw [h3] at p; exact p.elim
      | ok z S3 =>
      rw [h3] at p
      have p' : PostG M [] σ Q g H (.ok Γ S3) := p
      unfold setS at h3
      split at h3
      · rename_i c k x
        split at h3
        · rename_i xs hs
          split at h3
          · rename_i j hj
            cases h3
            have q1' : RepS M.K g2 u1 (.cell c) := gr2.rep q1
            obtain ⟨a, ha, rfl⟩ := q1'
            cases q2
            obtain ⟨hz, ws, hw, tw⟩ := r2.at_ c a _ ha hs
            have qx : Rp M.K g2.F u x := (gr2.rep (gr1.rep q) : RepS M.K g2 u (.d x))
            refine ⟨a, ws, k, j, rfl, rfl, hw, by rw [tw.len]; exact hj, ?_⟩
            obtain ⟨r3, gr3⟩ := r2.put ha (by rw [List.length_set]; exact hz) (tw.set qx j)
            have vs3 := gr3.vars (gr2.vars (gr1.vars vs))
            exact p' σ g2 _ ⟨rfl, fun _ _ => rfl⟩ ((gr1.trans r1 gr2).trans r2 gr3) r3 vs3
          · cases h3
        · cases h3
      · cases h3
    | ex x S' => simp only [h2, Out.bind] at p; exact p.elim
    | no => simp only [h2, Out.bind] at p; exact p.elim
  | ex x S' => simp only [h1, Out.bind] at p; exact p.elim
  | no => simp only [h1, Out.bind] at p; exact p.elim
/-- target = value -/
def fAsg (fe : EF) (gf : GF) : SF := fun Γ S => sB (fe Γ S) Γ fun v S => match gf v Γ S with
  | .ok Γ' S' => .ok (.nx Γ') S'
  | _ => .no
theorem asg_of {T : List Nat} {te : TE} {gf : GF} (ht : ∀ σ H Q, tE M W fe σ H Q → te σ H Q) {D : Ends} {σ : St} {H : Hp} (h : tS M W (fAsg fe gf) D σ H) : tAsg te (tT1 M T gf) D σ H := by
  obtain ⟨g, Γ, S, r, v, p⟩ := h
  refine ht _ _ _ (stepS r v p fun u H1 g1 S1 a gr r1 v1 q1 p1 => ⟨g1, Γ, S1, a, r1, v1, q1, ?_⟩)
  cases h : gf a Γ S1 with
  | ok Γ' S' => rw [h] at p1; exact fun σ' g' H' _ => p1 σ' g' H'
  | ex x S' => rw [h] at p1; exact p1
  | no => rw [h] at p1; exact p1
theorem s_asg {T : List Nat} {tg : Expr} {gf : GF} (he : DE X M W e fe) (hg : DG X M T tg gf) (hs : swapsWithSole [tg] e pos.line X.env = pure false := by rfl) (hw : swappedStores [tg] e X.env = pure none := by rfl)
    (h1 : (assignEach [tg] X.env).map (·.2) = [assign tg X.env] := by rfl) : DS X M W (.Assign [tg] e pos) (fAsg fe gf) := (ps_asg he hg hs hw h1).weak fun D σ H h => asg_of (fun _ _ _ h => h) h
/-- name = value -/
def fSet (i : Nat) (fe : EF) : SF := fun Γ S => sB (fe Γ S) Γ fun v S => .ok (.nx (Γ.set i (some v))) S
theorem set_of {i : Nat} {te : TE} (ht : ∀ σ H Q, tE M W fe σ H Q → te σ H Q) {D : Ends} {σ : St} {H : Hp} (h : tS M W (fSet i fe) D σ H) : tAsg te (gName i) D σ H := by
  obtain ⟨g, Γ, S, r, v, p⟩ := h
  exact ht _ _ _ (stepS r v p fun u H1 g1 S1 a gr r1 v1 q1 p1 => p1 _ g1 H1 (Grow.refl _ _) r1 (v1.set q1 i))
theorem s_set {i : Nat} {x : Str} {pos' : Pos} (hN : X.N.Nodup) (hi : X.N[i]? = some x) (hx : Loc X.env.scope x) (he : DE X M W e fe) (hs : swapsWith e (some (.Name x pos')) pos.line X.env = pure false := by rfl) (hf : X.fn x = true ∨ X.env.scope.names.lookup x = some .local := by first | exact .inl rfl | exact .inr rfl | assumption) :
    DS X M W (.Assign [.Name x pos'] e pos) (fSet i fe) := (ps_set hN hi hx he hs hf).weak fun D σ H h => set_of (fun _ _ _ h => h) h
/-- a, b = x, y of plain local names -/
def fPar (i j : Nat) (af : AF) : SF := fun Γ S => sB (af Γ S) Γ fun vs S => match vs with
  | [v, w] => .ok (.nx ((Γ.set i (some v)).set j (some w))) S
  | _ => .no
theorem s_par {i j : Nat} {x y : Str} {a b : Expr} {af : AF} {px py pt : Pos} {kt k2 : Nat} {pt2 : Pos} (hc : X.calm = true) (hN : X.N.Nodup) (hi : X.N[i]? = some x) (hj : X.N[j]? = some y) (hij : i ≠ j)
    (hx : X.env.scope.names.lookup x = some .local) (hy : X.env.scope.names.lookup y = some .local) (ha : DA X M W [a, b] af)
    (hw : swappedStores [.Tuple [.Name x px, .Name y py] kt pt] (.Tuple [a, b] k2 pt2) X.env = pure (some [x, y]))
    (hs : swapsWithSole [.Tuple [.Name x px, .Name y py] kt pt] (.Tuple [a, b] k2 pt2) pos.line X.env = pure false := by rfl) :
    DS X M W (.Assign [.Tuple [.Name x px, .Name y py] kt pt] (.Tuple [a, b] k2 pt2) pos) (fPar i j af) := (ps_par hc hN hi hj hij hx hy ha hw hs).weak fun D σ H ⟨g, Γ, S, r, v, p⟩ =>
  stepS r v p fun us H1 g1 S1 vs gr r1 v1 q1 p1 => by
    split at p1
    · cases q1 with
      | cons q1 q2 =>
        cases q2 with
        | cons q2 q3 =>
          cases q3
          exact ⟨_, _, rfl, p1 _ g1 H1 (Grow.refl _ _) r1 ((v1.set q1 i).set q2 j)⟩
    · exact p1.elim
/-- name op= e of ints -/
def fAug (i : Nat) (f : Int → Int → Int) (fe : EF) : SF := fun Γ S => match Γ[i]? with
  | some (some (.d (.int a))) => sB (fe Γ S) Γ fun v S => match v with
    | .d (.int b) => .ok (.nx (Γ.set i (some (.d (.int (f a b)))))) S
    | _ => .no
  | _ => .no
end

/-! ### defs -/
abbrev FD := List SV → Store → Out SV
/-- what a def hands back: a list made within is frozen, the store is as long as before -/
def handF (n : Nat) (v : SV) (S : Store) : Out SV := match v with
  | .d x => .ok (.d x) (S.take n)
  | .scr ns => .ok (.scr ns) (S.take n)
  | .cell i => if i < n then .ok (.cell i) (S.take n) else match S[i]? with
    | some (.lst xs) => .ok (.d (.list xs)) (S.take n)
    | _ => .no
/-- .. where a list made within is handed back as a cell -/
def handC (n : Nat) (v : SV) (S : Store) : Out SV := match v with
  | .d x => .ok (.d x) (S.take n)
  | .scr ns => .ok (.scr ns) (S.take n)
  | .cell i => if i < n then .ok (.cell i) (S.take n) else match S[i]? with
    | some m => .ok (.cell n) (S.take n ++ [m])
    | none => .no
def runD (hand : Nat → SV → Store → Out SV) (nN : Nat) (f : SF) : FD := fun ds S => match f (ds.map some ++ List.replicate (nN - ds.length) none) S with
  | .ok (.rt v) S' => hand S.length v S'
  | .ok (.nx _) S' => .ok (.d .none) (S'.take S.length)
  | .ok (.xc x _) S' => .ex x (S'.take S.length)
  | _ => .no
def spD (M : Mi) (n : Nat) (F : FD) : Sp := fun vs H Q E => vs.length = n ∧ ∃ g S ds, Rel M.K g H S ∧ RepA M.K g vs ds ∧ Post M (fun cls d _ H => E cls d H) [] (rS M) Q g H (F ds S)
section
variable {K : PySem.W.Frag} {g g' : Gh} {H H' : Hp} {S S' : Store} {M : Mi}
def Gh.cut (g : Gh) (n : Nat) : Gh := ⟨g.B.take n, g.F⟩
theorem Rel.cut (r : Rel K g' H' S') (gr : Grow g H g' H') (n : Nat) (hn : g.B.length = n) : Rel K (g'.cut n) H' (S'.take n) ∧ Grow g H (g'.cut n) H' ∧ (g'.cut n).B = g.B := by
  obtain ⟨C, e⟩ := gr.pre
  have eB : (g'.cut n).B = g.B := by show g'.B.take n = g.B; rw [e, ← hn]; simp
  have mem : ∀ b, b ∈ (g'.cut n).B → b ∈ g'.B := fun b hb => List.mem_of_mem_take hb
  refine ⟨⟨r.sub, ?_, fun b hb => r.dis b (mem b hb), ?_, fun i a m e1 e2 => ?_⟩, ⟨⟨[], by rw [eB]; simp⟩, gr.sub, gr.frm, fun b hb => .inl (by rw [← eB]; exact hb), gr.newF⟩, eB⟩
  · exact r.nd.sublist (List.take_sublist _ _)
  · show (g'.B.take n).length = (S'.take n).length
    rw [List.length_take, List.length_take, r.len]
  · have e1' : (g'.B.take n)[i]? = some a := e1
    by_cases hi : i < n
    · rw [List.getElem?_take_of_lt hi] at e1' e2
      exact r.at_ i a m e1' e2
    · rw [List.getElem?_take_eq_none (Nat.le_of_not_lt hi)] at e1'; cases e1'
/-- a cell made within is frozen -/
theorem Rel.thaw (r : Rel K g' H' S') (gr : Grow g H g' H') (n : Nat) (hn : g.B.length = n) {i : Nat} (hi : n ≤ i) {a : Addr} (ha : g'.B[i]? = some a) {xs : List PyData} (hS : S'[i]? = some (.lst xs)) :
    ∃ g2, Rel K g2 H' (S'.take n) ∧ Grow g H g2 H' ∧ Rp K g2.F (.ref a) (.list xs) := by
  obtain ⟨hz, vs, hv, tv⟩ := r.at_ i a _ ha hS
  obtain ⟨r2, gr2, eB⟩ := r.cut gr n hn
  have am : a ∈ g'.B := List.mem_of_getElem? ha
  have hF := r.dis a am
  have nB : a ∉ g.B := fun hm => by
    rw [← eB] at hm
    obtain ⟨j, hj, ej⟩ := List.getElem_of_mem hm
    have hjn : j < n := Nat.lt_of_lt_of_le hj (by show (g'.B.take n).length ≤ n; rw [List.length_take]; exact Nat.min_le_left _ _)
    have e1 : g'.B[j]? = some a := by
      have := List.getElem?_eq_getElem hj
      rw [ej] at this
      have t : (g'.B.take n)[j]? = some a := this
      rwa [List.getElem?_take_of_lt hjn] at t
    obtain ⟨h1, e1'⟩ := List.getElem?_eq_some_iff.mp ha
    obtain ⟨h2, e2'⟩ := List.getElem?_eq_some_iff.mp e1
    have := (List.getElem_inj r.nd).mp (e1'.trans e2'.symm)
    omega
  have hn0 : H a = none := by
    rcases gr.newB a am with h | h
    · exact absurd h nB
    · exact h
  have ne : ∀ b ∈ (g'.cut n).B, b ≠ a := fun b hb e => nB (by rw [← eB]; exact e ▸ hb)
  refine ⟨⟨(g'.cut n).B, upd g'.F a (.lst vs)⟩, ⟨fun b u e => ?_, r2.nd, fun b hb => ?_, r2.len, fun j b m e1 e2 => (r2.at_ j b m e1 e2).sub (sub_upd hF)⟩, ⟨gr2.pre, fun b o e => sub_upd hF b o (gr.sub b o e), gr.frm, gr2.newB, fun b u e => ?_⟩, ?_⟩
  · have e' : upd g'.F a (.lst vs) b = some u := e
    by_cases hb : b = a
    · subst hb; rw [upd_same] at e'; cases e'; exact hv
    · rw [upd_ne hb] at e'; exact r.sub _ _ e'
  · show upd g'.F a _ b = none
    rw [upd_ne (ne b hb)]; exact r2.dis b hb
  · have e' : upd g'.F a (.lst vs) b = some u := e
    by_cases hb : b = a
    · subst hb; exact .inr hn0
    · rw [upd_ne hb] at e'; exact gr.newF _ _ e'
  · exact Rp.lst upd_same hz (RpAll.sub (sub_upd hF) _ _ tv)
end
/-- how a def hands back -/
def HandOk (M : Mi) (hand : Nat → SV → Store → Out SV) : Prop := ∀ (W : WX) (σ : St) (Q : VK) (g : Gh) (H : Hp) (g' : Gh) (H' : Hp) (S' : Store) (n : Nat) (u : V) (v : SV),
  g.B.length = n → Grow g H g' H' → Rel M.K g' H' S' → RepS M.K g' u v → Post M W σ (rS M) Q g H (hand n v S') → Q u H'
theorem hand_f {M : Mi} : HandOk M handF := by
  intro W σ Q g H g' H' S' n u v hn gr r q p
  obtain ⟨r2, gr2, eB⟩ := r.cut gr n hn
  unfold handF at p
  split at p
  · exact p u _ _ gr2 r2 q
  · obtain ⟨a, rfl, h⟩ := q
    exact p _ _ _ gr2 r2 ⟨a, rfl, h⟩
  · rename_i i
    obtain ⟨a, ha, rfl⟩ := q
    split at p
    · rename_i hi
      exact p _ _ _ gr2 r2 ⟨a, by show (g'.B.take n)[i]? = some a; rw [List.getElem?_take_of_lt hi]; exact ha, rfl⟩
    · rename_i hi
      split at p
      · rename_i xs hS
        obtain ⟨g2, r3, gr3, q3⟩ := r.thaw gr n hn (Nat.le_of_not_lt hi) ha hS
        exact p _ _ _ gr3 r3 q3
      · exact p.elim
theorem hand_c {M : Mi} : HandOk M handC := by
  intro W σ Q g H g' H' S' n u v hn gr r q p
  obtain ⟨r2, gr2, eB⟩ := r.cut gr n hn
  unfold handC at p
  split at p
  · exact p u _ _ gr2 r2 q
  · obtain ⟨a, rfl, h⟩ := q
    exact p _ _ _ gr2 r2 ⟨a, rfl, h⟩
  · rename_i i
    obtain ⟨a, ha, rfl⟩ := q
    split at p
    · rename_i hi
      exact p _ _ _ gr2 r2 ⟨a, by show (g'.B.take n)[i]? = some a; rw [List.getElem?_take_of_lt hi]; exact ha, rfl⟩
    · rename_i hi
      split at p
      · rename_i m hS
        have am : a ∈ g'.B := List.mem_of_getElem? ha
        have nB : a ∉ (g'.cut n).B := fun hm => by
          obtain ⟨j, hj, ej⟩ := List.getElem_of_mem hm
          have hjn : j < n := Nat.lt_of_lt_of_le hj (by show (g'.B.take n).length ≤ n; rw [List.length_take]; exact Nat.min_le_left _ _)
          have e1 : g'.B[j]? = some a := by
            have := List.getElem?_eq_getElem hj
            rw [ej] at this
            have t : (g'.B.take n)[j]? = some a := this
            rwa [List.getElem?_take_of_lt hjn] at t
          obtain ⟨h1, e1'⟩ := List.getElem?_eq_some_iff.mp ha
          obtain ⟨h2, e2'⟩ := List.getElem?_eq_some_iff.mp e1
          have := (List.getElem_inj r.nd).mp (e1'.trans e2'.symm)
          omega
        have hn0 : H a = none := by
          rcases gr.newB a am with h | h
          · exact absurd (by rw [eB]; exact h) nB
          · exact h
        have hl : (g'.cut n).B.length = n := by rw [eB]; exact hn
        refine p (.ref a) ⟨(g'.cut n).B ++ [a], g'.F⟩ H' ⟨⟨[a], by rw [eB]⟩, gr2.sub, gr2.frm, fun b hb => ?_, gr2.newF⟩ ⟨r.sub, ?_, fun b hb => ?_, ?_, fun j b m' e1 e2 => ?_⟩ ⟨a, ?_, rfl⟩
        · rcases List.mem_append.mp hb with h | h
          · exact gr2.newB b h
          · simp at h; subst h; exact .inr hn0
        · show ((g'.cut n).B ++ [a]).Nodup
          rw [List.nodup_append]
          exact ⟨r2.nd, by simp, fun b hb c hc => by simp at hc; subst hc; exact fun e => nB (e ▸ hb)⟩
        · rcases List.mem_append.mp hb with h | h
          · exact r2.dis b h
          · simp at h; subst h; exact r.dis _ am
        · show ((g'.cut n).B ++ [a]).length = _
          rw [List.length_append, List.length_append, r2.len]; rfl
        · have e1' : ((g'.cut n).B ++ [a])[j]? = some b := e1
          by_cases hj : j < (g'.cut n).B.length
          · rw [List.getElem?_append_left hj] at e1'
            rw [List.getElem?_append_left (by rw [← r2.len]; exact hj)] at e2
            exact r2.at_ j b m' e1' e2
          · have hl2 := (List.getElem?_eq_some_iff.mp e1').1
            rw [List.length_append, List.length_singleton] at hl2
            have ej : j = (g'.cut n).B.length := by omega
            subst ej
            rw [List.getElem?_append_right (Nat.le_refl _), Nat.sub_self] at e1'
            rw [r2.len, List.getElem?_append_right (Nat.le_refl _), Nat.sub_self] at e2
            cases e1'
            cases e2
            exact r.at_ i a m ha hS
        · show ((g'.cut n).B ++ [a])[n]? = some a
          rw [List.getElem?_append_right (by rw [hl]; exact Nat.le_refl _), hl, Nat.sub_self]; rfl
      · exact p.elim
section
variable {P : Program} {w : World} {K : PySem.W.Frag} {mg : Str → Option Value} {base : Heap}
theorem start_vars {K : PySem.W.Frag} {g : Gh} {N : List Str} : ∀ {vs : List V} {ds : List SV}, RepA K g vs ds → Vars K g (L2.start N vs) (ds.map some ++ List.replicate (N.length - ds.length) none) := by
  intro vs ds h
  have hl := h.len
  refine ⟨by unfold L2.start; rw [List.length_append, List.length_append, List.length_map, List.length_map, List.length_replicate, List.length_replicate, hl], fun i x e => ?_⟩
  by_cases hi : i < ds.length
  · rw [List.getElem?_append_left (by simpa using hi), List.getElem?_map] at e
    have key : ∀ {vs : List V} {ds : List SV} {i : Nat} {x : SV}, RepA K g vs ds → ds[i]? = some x → ∃ v, vs[i]? = some v ∧ RepS K g v x := by
      intro vs ds i x h
      induction h generalizing i with
      | nil => intro e; simp at e
      | cons r t ih =>
        intro e
        cases i with
        | zero => simp at e; subst e; exact ⟨_, rfl, r⟩
        | succ i => exact ih (by simpa using e)
    cases q : ds[i]? with
    | none => rw [q] at e; cases e
    | some y =>
      rw [q] at e
      have e' : some (some y) = some (some x) := e
      cases e'
      obtain ⟨v, h1, h2⟩ := key h q
      refine ⟨v, ?_, h2⟩
      unfold L2.start
      have hlt : i < vs.length := by rw [hl]; exact hi
      rw [List.getElem?_append_left (by simpa using hlt), List.getElem?_map, h1]; rfl
  · rw [List.getElem?_append_right (by simpa using Nat.le_of_not_lt hi)] at e
    obtain ⟨_, e2⟩ := List.getElem?_eq_some_iff.mp e
    rw [List.getElem_replicate] at e2
    cases e2
/-- a def that is known -/
structure DefD (P : Program) (w : World) (K : PySem.W.Frag) (mg : Str → Option Value) (base : Heap) (M : Mi) (k : Nat) (name : Str) (n : Nat) (F : FD) : Prop where
  ok : ∃ f fd ps, FnOk P w K mg base (L2.CX P w) k f fd ps (spD M n F) ∧ mg name = some (.ref f) ∧ PySem.W.keepIn K (.ref f) = true ∧ Binds K fd ps []
/-- THE RULE for a def: its body's meaning -/
theorem def_ok {M : Mi} {x qual : Str} {st : Stmt} {f : Addr} {fd : FuncData} {N ps : List Str} {k : Nat} {body : SF} {hand : Nat → SV → Store → Out SV} (hh : HandOk M hand) (F : Fun K x qual st f fd) (S : FnScope N ps (defScope st)) (hm : mg x = some (.ref f)) (hb : Binds K fd ps [])
    (h : ∀ (X : Cx) (W : WX), X.prog = P → X.w = w → X.K = K → X.mg = mg → X.base = base → X.N = N → X.calm = true → X.env.scope = defScope st → (∀ x, X.fn x = true) → Room k X.A → Takes X W → PassesOwn (model X.prog X.w) X.A X.env X.xe → X.stack = X.env :: X.outer → X.env.frame = some X.env.locals → DSs X M W (defBody st) body) :
    DefD P w K mg base M (k + 1) x ps.length (runD hand N.length body) := by
  refine ⟨f, fd, ps, ?_, hm, F.kp, hb⟩
  refine F.okX S (fun vs H Q E h => h.1) fun cdv A outer s H vs Q E hr hsp => ?_
  obtain ⟨hl, g, S0, ds, r, q, p⟩ := hsp
  refine ⟨_, h _ (fun cls d _ H => E cls d H) rfl rfl rfl rfl rfl rfl rfl rfl (fun _ => rfl) hr (takes_of rfl rfl rfl rfl) (passes_of rfl) rfl rfl, g, _, S0, r, start_vars q, ?_⟩
  unfold runD at p
  have hB : g.B.length = S0.length := r.len
  split at p
  · rename_i v S' e
    rw [e]
    exact fun u g' H' gr r' q' => hh _ _ _ _ _ _ _ _ _ _ _ hB gr r' q' p
  · rename_i Γ' S' e
    rw [e]
    intro σ' g' H' gr r' v'
    obtain ⟨r2, gr2, _⟩ := r'.cut gr _ hB
    exact p .non _ _ gr2 r2 .non
  · rename_i x Γ' S' e
    rw [e]
    intro cls d σ' g' H' gr r' v' q'
    obtain ⟨r2, gr2, _⟩ := r'.cut gr _ hB
    exact p cls d _ _ gr2 r2 q'
  · exact p.elim
end
section
variable {X : Cx} {M : Mi} {W : WX} {e : Expr} {es : List Expr} {af : AF} {pos p : Pos} {x : Str}
def eCallD (n : Nat) (F : FD) (af : AF) : EF := fun Γ S => (af Γ S).bind fun vs S => if vs.length = n then F vs S else .no
theorem d_call {k n : Nat} {F : FD} (D : DefD X.prog X.w X.K X.mg X.base M k x n F) (hr : Room k X.A) (tk : Takes X W) (hg : Gl X x) (ha : DA X M W (e :: es) af)
    (hdb : (x == ("__debug__" : Str)) = false := by decide) (he : starEach (e :: es) X.env = (false, eval e X.env) :: starEach es X.env := by rfl) (hpl : (backTo pos (starEach es X.env)).any (·.1) = false := by rfl) :
    DE X M W (.Call (.Name x p) (e :: es) [] pos) (eCallD n F af) := by
  obtain ⟨f, fd, ps, hF, hm, hk, hb⟩ := D.ok
  refine (pe_callSD hF hr hg hm hk hb .nil (fun σ => passAt tk σ) ha hdb he hpl).weak fun σ H Q h => ?_
  obtain ⟨g, Γ, S, r, v, p⟩ := h
  refine step r v p fun us H1 g1 S1 vs gr r1 v1 q1 p1 => ?_
  split at p1
  · rename_i hl
    rw [List.append_nil]
    refine ⟨by rw [q1.len]; exact hl, g1, S1, vs, r1, q1, ?_⟩
    cases h : F vs S1 with
    | ok a S' => rw [h] at p1; exact p1
    | ex x S' => rw [h] at p1; exact p1
    | no => rw [h] at p1; exact p1
  · exact p1.elim
end
end DL
/-! D6: for, while, comprehensions. -/
namespace DL
open PySem L2

/-- what is walked: its items; what must hold of the store at each turn -/
structure Src where
  items : List PyData
  ok : Store → Bool
abbrev IF := Ev → Store → Out Src
def ItR (K : PySem.W.Frag) (g0 : Gh) (J : It) (s : Src) : Prop := ∀ g H S, Rel K g H S → (∃ C, g.B = g0.B ++ C) → Sub g0.F g.F → s.ok S = true →
  J.stop s.items.length H ∧ ∀ i d, s.items[i]? = some d → J.go i H ∧ ∀ x H', J.yld i H x H' → ∃ g', Grow g H g' H' ∧ Rel K g' H' S ∧ Rp K g'.F x d
def rIt (M : Mi) : Gh → It → Src → Prop := fun g J s => s.items.length ≤ 16777216 ∧ ItR M.K g J s
def tI (M : Mi) (W : WX) (f : IF) : TI := tG M W (rIt M) f
abbrev DI (X : Cx) (M : Mi) (W : WX) (tg e : Expr) (f : IF) : Prop := PI X tg e (tI M W f)
theorem _root_.L2.PI.weak {X : Cx} {tg e : Expr} {t t' : TI} (h : PI X tg e t) (k : ∀ σ H Q, t' σ H Q → t σ H Q) : PI X tg e t' := ⟨fun pins s σ H R I z => h.run pins s σ H R I (k _ _ _ z)⟩

/-! ### for -/
def forL (ok : Store → Bool) (gf : GF) (b : SF) : List PyData → SF
  | [] => fun Γ S => if ok S then .ok (.nx Γ) S else .no
  | d :: ds => fun Γ S => if ok S then (match gf (.d d) Γ S with
    | .ok Γ1 S1 => match b Γ1 S1 with
      | .ok (.nx Γ2) S2 => forL ok gf b ds Γ2 S2
      | .ok (.ct Γ2) S2 => forL ok gf b ds Γ2 S2
      | .ok (.bk Γ2) S2 => .ok (.nx Γ2) S2
      | o => o
    | _ => .no) else .no
def fFor (f : IF) (gf : GF) (b : SF) : SF := fun Γ S => sB (f Γ S) Γ fun s S => forL s.ok gf b s.items Γ S
theorem PostS.ok_of {M : Mi} {W : WX} {D : Ends} {g : Gh} {H : Hp} {ok : Store → Bool} {gf : GF} {b : SF} : ∀ {ds : List PyData} {Γ : Ev} {S : Store}, PostS M W D g H (forL ok gf b ds Γ S) → ok S = true
  | [], Γ, S, h => by
    unfold forL at h
    split at h
    · assumption
    · exact h.elim
  | d :: ds, Γ, S, h => by
    unfold forL at h
    split at h
    · assumption
    · exact h.elim
theorem s_for {X : Cx} {M : Mi} {W : WX} {T : List Nat} {tg iter : Expr} {body : List Stmt} {f : IF} {gf : GF} {b : SF} {pos : Pos} (hp : PassesOwn (model X.prog X.w) X.A X.env X.xe) (hc : X.calm = true) (hi : DI X M W tg iter f) (hg : DG X M T tg gf) (hb : DSs X M W body b)
    (hs : ∀ x, foldedSetIterable iter X.env x = pure x := by intro _; rfl) : DS X M W (.For tg iter body [] pos) (fFor f gf b) := (ps_for hp hc hi hg hb hs).weak fun D σ H h => by
  obtain ⟨g0, Γ0, S0, r0, v0, p0⟩ := h
  refine stepS r0 v0 p0 fun J H1 g1 S1 s gr1 r1 v1 q1 p1 => ?_
  obtain ⟨hz, q1⟩ := q1
  refine ⟨fun i m σ H => m = s.items.length - i ∧ i ≤ s.items.length ∧ ∃ g Γ S, Rel M.K g H S ∧ Vars M.K g σ Γ ∧ (∃ C, g.B = g1.B ++ C) ∧ Sub g1.F g.F ∧ PostS M W D g H (forL s.ok gf b (s.items.drop i) Γ S),
    ⟨_, rfl, Nat.zero_le _, g1, Γ0, S1, r1, v1, ⟨[], by simp⟩, fun _ _ h => h, by rw [List.drop_zero]; exact p1⟩, ?_⟩
  rintro i m σ H ⟨rfl, hi, g, Γ, S, r, v, hB, hF, p⟩
  have hok := PostS.ok_of p
  obtain ⟨hst, hgo⟩ := q1 g H S r hB hF hok
  by_cases hlt : i < s.items.length
  · have e : s.items[i]? = some s.items[i] := List.getElem?_eq_getElem hlt
    obtain ⟨go, yl⟩ := hgo i _ e
    refine .inr ⟨go, fun σ' H' => ∃ g Γ S, Rel M.K g H' S ∧ Vars M.K g σ' Γ ∧ (∃ C, g.B = g1.B ++ C) ∧ Sub g1.F g.F ∧ PostS M W D g H' (forL s.ok gf b (s.items.drop (i + 1)) Γ S), fun σ' H' h => ⟨s.items.length - (i + 1), by omega, rfl, hlt, h⟩, fun x H' y => ?_⟩
    obtain ⟨g', gr', r', rp⟩ := yl x H' y
    rw [List.drop_eq_getElem_cons hlt] at p
    unfold forL at p
    rw [if_pos hok] at p
    refine ⟨g', Γ, S, .d s.items[i], r', gr'.vars v, rp, ?_⟩
    cases h1 : gf (.d s.items[i]) Γ S with
    | ok Γ1 S1' =>
      rw [h1] at p
      intro σ2 g2 H2 _ gr2 r2 v2
      refine ⟨g2, Γ1, S1', r2, v2, ?_⟩
      have key : ∀ {g3 : Gh} {H3 : Hp} {S3 : Store}, Grow g2 H2 g3 H3 → Rel M.K g3 H3 S3 → Grow g H g3 H3 ∧ (∃ C, g3.B = g1.B ++ C) ∧ Sub g1.F g3.F := fun {g3 H3 S3} gr3 r3 => by
        have gr := (gr'.trans r' gr2).trans r2 gr3
        refine ⟨gr, ?_, fun b o e => gr.sub _ _ (hF _ _ e)⟩
        obtain ⟨C, e1⟩ := hB
        obtain ⟨C', e2⟩ := gr.pre
        exact ⟨C ++ C', by rw [e2, e1, List.append_assoc]⟩
      cases h2 : b Γ1 S1' with
      | ok fl S2 =>
        simp only [h2] at p
        cases fl with
        | nx Γ2 =>
          intro σ3 g3 H3 gr3 r3 v3
          obtain ⟨k1, k2, k3⟩ := key gr3 r3
          exact ⟨g3, Γ2, S2, r3, v3, k2, k3, PostS.grow r3 k1 p⟩
        | ct Γ2 =>
          intro σ3 g3 H3 gr3 r3 v3
          obtain ⟨k1, k2, k3⟩ := key gr3 r3
          exact ⟨g3, Γ2, S2, r3, v3, k2, k3, PostS.grow r3 k1 p⟩
        | bk Γ2 =>
          intro σ3 g3 H3 gr3 r3 v3
          exact p σ3 g3 H3 (key gr3 r3).1 r3 v3
        | rt v =>
          intro u g3 H3 gr3 r3 q3
          exact p u g3 H3 (key gr3 r3).1 r3 q3
        | xc x Γ2 =>
          intro c d σ3 g3 H3 gr3 r3 v3 q3
          exact p c d σ3 g3 H3 (key gr3 r3).1 r3 v3 q3
      | ex x S2 => simp only [h2] at p; exact p
      | no => simp only [h2] at p; exact p
    | ex x S' => rw [h1] at p; exact p
    | no => rw [h1] at p; exact p
  · have e : i = s.items.length := by omega
    subst e
    rw [List.drop_length] at p
    unfold forL at p
    rw [if_pos hok] at p
    exact .inl ⟨hst, p σ g H (Grow.refl _ _) r v⟩

/-! ### while -/
def whF (t : TF) (b : SF) : Nat → SF
  | 0 => fun _ _ => .no
  | n + 1 => fun Γ S => sB (t Γ S) Γ fun k S => if k = true then (match b Γ S with
    | .ok (.nx Γ') S' => whF t b n Γ' S'
    | .ok (.ct Γ') S' => whF t b n Γ' S'
    | .ok (.bk Γ') S' => .ok (.nx Γ') S'
    | o => o) else .ok (.nx Γ) S
def fWhile (fuel : Ev → Store → Nat) (t : TF) (b : SF) : SF := fun Γ S => whF t b (fuel Γ S) Γ S
theorem s_while {X : Cx} {M : Mi} {W : WX} {c : Expr} {body : List Stmt} {t : TF} {b : SF} {pos : Pos} (fuel : Ev → Store → Nat) (hp : PassesOwn (model X.prog X.w) X.A X.env X.xe) (hc : DT X M W c t) (hb : DSs X M W body b) : DS X M W (.While c body [] pos) (fWhile fuel t b) := (ps_while hp hc hb).weak fun D σ H h => by
  obtain ⟨g0, Γ0, S0, r0, v0, p0⟩ := h
  refine ⟨fun m σ H => ∃ g Γ S, Rel M.K g H S ∧ Vars M.K g σ Γ ∧ PostS M W D g H (whF t b m Γ S), ⟨_, g0, Γ0, S0, r0, v0, p0⟩, ?_⟩
  rintro m σ H ⟨g, Γ, S, r, v, p⟩
  cases m with
  | zero => exact p.elim
  | succ m =>
    unfold whF at p
    refine stepS r v p fun k H1 g1 S1 k' gr1 r1 v1 q1 p1 => ?_
    cases q1
    cases k with
    | false => exact iteF (p1 σ g1 H1 (Grow.refl _ _) r1 v1)
    | true =>
      rw [if_pos rfl] at p1
      refine iteT ⟨fun σ' H' => ∃ g Γ S, Rel M.K g H' S ∧ Vars M.K g σ' Γ ∧ PostS M W D g H' (whF t b m Γ S), fun σ' H' h => ⟨m, Nat.lt_succ_self _, h⟩, g1, Γ, S1, r1, v1, ?_⟩
      cases h2 : b Γ S1 with
      | ok fl S2 =>
        simp only [h2] at p1
        cases fl with
        | nx Γ2 => exact fun σ3 g3 H3 gr3 r3 v3 => ⟨g3, Γ2, S2, r3, v3, PostS.grow r3 gr3 p1⟩
        | ct Γ2 => exact fun σ3 g3 H3 gr3 r3 v3 => ⟨g3, Γ2, S2, r3, v3, PostS.grow r3 gr3 p1⟩
        | bk Γ2 => exact p1
        | rt v => exact p1
        | xc x Γ2 => exact p1
      | ex x S2 => simp only [h2] at p1; exact p1
      | no => simp only [h2] at p1; exact p1

/-! ### what is walked -/
section
variable {X : Cx} {M : Mi} {W : WX} {tg a b : Expr} {fa fb : EF} {pos p : Pos}
def iSeq (K : PySem.W.Frag) (tl : TE) : TI := fun σ H R => tl σ H fun x H1 => ∃ a, x = .ref a ∧ (((∃ xs, SqL K H1 a xs) ∧ R (Itl K a) H1) ∨ ((∃ xs, SqT K H1 a xs) ∧ R (Itt K a) H1))
theorem pi_seq {l : Expr} {tl : TE} (hl : PE X l tl) : PI X tg l (iSeq X.K tl) := by
  refine ⟨fun pins s σ H R I h => ?_⟩
  refine thn (hl.run pins s σ H _ I h) fun v s1 ⟨x, H1, I1, r1, q1⟩ => ?_
  obtain ⟨a, e, q | q⟩ := q1
  · obtain ⟨⟨xs, hq⟩, q⟩ := q
    subst e
    cases r1
    obtain ⟨its, rv, p, hz⟩ := I1.list hq
    refine wpAny_pyIter_list p.isList ?_
    refine ⟨s1.heap.objs.size, [s1.heap.objs.size], _, _, H1, rfl, I1.kept (t' := s1.toks) fun b o e => Heap.get?_push_of_some _ e, turn_list a _, ⟨_, Heap.get?_push_size _ rfl, rfl, rfl⟩, fun b hb => ?_, q⟩
    have e : b = s1.heap.objs.size := by simpa using hb
    subst e
    exact I1.fpOk (Nat.le_refl _) (I1.hok.fresh (Nat.le_refl _))
  · obtain ⟨⟨xs, hq⟩, q⟩ := q
    subst e
    cases r1
    obtain ⟨its, rv, p, hz⟩ := I1.tuple hq
    refine wpAny_pyIter_tuple (show s1.heap.IsTuple a its.toArray from p) ?_
    refine ⟨s1.heap.objs.size, [s1.heap.objs.size], _, _, H1, rfl, I1.kept (t' := s1.toks) fun b o e => Heap.get?_push_of_some _ e, turn_tuple a _, ⟨_, Heap.get?_push_size _ rfl, rfl, rfl⟩, fun b hb => ?_, q⟩
    have e : b = s1.heap.objs.size := by simpa using hb
    subst e
    exact I1.fpOk (Nat.le_refl _) (I1.hok.fresh (Nat.le_refl _))
mutual
/-- whether two data are the same, to the sign -/
def eqP : PyData → PyData → Bool
  | .none, .none => true
  | .bool a, .bool b => a == b
  | .int a, .int b => a == b
  | .str a, .str b => decide (a = b)
  | .list a, .list b => eqPs a b
  | .tuple a, .tuple b => eqPs a b
  | _, _ => false
def eqPs : List PyData → List PyData → Bool
  | [], [] => true
  | a :: as, b :: bs => eqP a b && eqPs as bs
  | _, _ => false
end
mutual
theorem eqP_eq : ∀ (a b : PyData), eqP a b = true → a = b
  | .none, b, h => by cases b <;> simp [eqP] at h ⊢
  | .bool a, b, h => by cases b <;> simp [eqP] at h ⊢ <;> exact h
  | .int a, b, h => by cases b <;> simp [eqP] at h ⊢ <;> exact h
  | .str a, b, h => by cases b <;> simp [eqP] at h ⊢ <;> exact h
  | .list a, b, h => by
    cases b <;> simp [eqP] at h ⊢
    exact eqPs_eq _ _ h
  | .tuple a, b, h => by
    cases b <;> simp [eqP] at h ⊢
    exact eqPs_eq _ _ h
  | .dict a, b, h => by cases b <;> simp [eqP] at h
theorem eqPs_eq : ∀ (a b : List PyData), eqPs a b = true → a = b
  | [], b, h => by cases b <;> simp [eqPs] at h ⊢
  | a :: as, b, h => by
    cases b with
    | nil => simp [eqPs] at h
    | cons b bs =>
      simp only [eqPs, Bool.and_eq_true] at h
      rw [eqP_eq _ _ h.1, eqPs_eq _ _ h.2]
end
/-- a list, a tuple, the script; a cell (it must stay as it is) -/
def srcS : SV → Store → Out Src := fun v S => match v with
  | .d (.list xs) => .ok ⟨xs, fun _ => true⟩ S
  | .d (.tuple xs) => .ok ⟨xs, fun _ => true⟩ S
  | .scr ns => if ns.length ≤ 16777216 then .ok ⟨ns.map .int, fun _ => true⟩ S else .no
  | .cell c => match S[c]? with
    | some (.lst xs) => .ok ⟨xs, fun S => match S[c]? with
      | some (.lst ys) => eqPs ys xs
      | _ => false⟩ S
    | _ => .no
  | _ => .no
def iSrc (fa : EF) : IF := fun Γ S => (fa Γ S).bind fun v S => srcS v S
theorem itR_list {K : PySem.W.Frag} {g0 : Gh} {a : Addr} {vs : List V} {ds : List PyData} (h : ∀ g H S, Rel K g H S → Sub g0.F g.F → SqL K H a vs) (t : RpAll K g0.F vs ds) : ItR K g0 (Itl K a) ⟨ds, fun _ => true⟩ := by
  intro g H S r hB hF _
  have q := h g H S r hF
  refine ⟨⟨vs, q, by rw [t.len]; exact Nat.le_refl _⟩, fun i d e => ?_⟩
  obtain ⟨v, hv, rv⟩ := t.get e
  refine ⟨⟨vs, v, q, hv⟩, fun x H' y => ?_⟩
  obtain ⟨e1, y⟩ := y
  subst e1
  have := y vs q
  rw [hv] at this
  cases this
  exact ⟨g, Grow.refl _ _, r, Rp.sub hF _ _ rv⟩
theorem itR_tup {K : PySem.W.Frag} {g0 : Gh} {a : Addr} {vs : List V} {ds : List PyData} (h : SqT K g0.F a vs) (t : RpAll K g0.F vs ds) : ItR K g0 (Itt K a) ⟨ds, fun _ => true⟩ := by
  intro g H S r hB hF _
  have q : SqT K H a vs := SqT.sub (fun b o e => r.sub _ _ (hF _ _ e)) h
  refine ⟨⟨vs, q, by rw [t.len]; exact Nat.le_refl _⟩, fun i d e => ?_⟩
  obtain ⟨v, hv, rv⟩ := t.get e
  refine ⟨⟨vs, v, q, hv⟩, fun x H' y => ?_⟩
  obtain ⟨e1, y⟩ := y
  subst e1
  have := y vs q
  rw [hv] at this
  cases this
  exact ⟨g, Grow.refl _ _, r, Rp.sub hF _ _ rv⟩
theorem i_src (hK : X.K = M.K) (ha : DE X M W a fa) : DI X M W tg a (iSrc fa) := (pi_seq ha).weak fun σ H R h => by
  obtain ⟨g, Γ, S, r, v, p⟩ := h
  refine step r v p fun u H1 g1 S1 w gr r1 v1 q1 p1 => ?_
  rw [hK]
  unfold srcS at p1
  split at p1
  · rename_i xs
    cases q1 with
    | lst h1 z t => exact ⟨_, rfl, .inl ⟨⟨_, SqL.of (r1.sub _ _ h1)⟩, p1.now r1 ⟨z, itR_list (fun g H S r hF => SqL.of (r.sub _ _ (hF _ _ h1))) t⟩⟩⟩
  · rename_i xs
    cases q1 with
    | tup h1 z t => exact ⟨_, rfl, .inr ⟨⟨_, SqT.sub r1.sub h1⟩, p1.now r1 ⟨z, itR_tup h1 t⟩⟩⟩
  · rename_i ns
    obtain ⟨c, rfl, h1⟩ := q1
    split at p1
    · rename_i hz
      exact ⟨_, rfl, .inl ⟨⟨_, SqL.sub r1.sub h1⟩, p1.now r1 ⟨by rw [List.length_map]; exact hz, itR_list (fun g H S r hF => SqL.sub (fun b o e => r.sub _ _ (hF _ _ e)) h1) (RpAll.of_ints ns)⟩⟩⟩
    · exact p1.elim
  · rename_i c
    obtain ⟨ad, ha, rfl⟩ := q1
    split at p1
    · rename_i xs hs
      obtain ⟨hz, vs, hv, tv⟩ := r1.at_ c ad _ ha hs
      refine ⟨_, rfl, .inl ⟨⟨_, SqL.of hv⟩, p1.now r1 ⟨hz, fun g H S r hB hF hok => ?_⟩⟩⟩
      obtain ⟨C, eB⟩ := hB
      have ha' : g.B[c]? = some ad := by rw [eB, List.getElem?_append_left (List.getElem?_eq_some_iff.mp ha).1]; exact ha
      cases hS : S[c]? with
      | none => simp only [hS] at hok; cases hok
      | some m =>
        cases m with
        | dct ys => simp only [hS] at hok; cases hok
        | lst ys =>
          simp only [hS] at hok
          have e := eqPs_eq _ _ hok
          subst e
          obtain ⟨_, ws, hw, tw⟩ := r.at_ c ad _ ha' hS
          have q : SqL M.K H ad ws := SqL.of hw
          refine ⟨⟨ws, q, by rw [tw.len]; exact Nat.le_refl _⟩, fun i d e => ?_⟩
          obtain ⟨v, hv', rv⟩ := tw.get e
          refine ⟨⟨ws, v, q, hv'⟩, fun x H' y => ?_⟩
          obtain ⟨e1, y⟩ := y
          subst e1
          have := y ws q
          rw [hv'] at this
          cases this
          exact ⟨g, Grow.refl _ _, r, rv⟩
    · exact p1.elim
  · exact p1.elim
/-- range(n), range(a, b) -/
def rgSrc (ab : Int × Int) (S : Store) : Out Src := if rgC ab.1 ab.2 then .ok ⟨rgD ab.1 ab.2, fun _ => true⟩ S else .no
def iRg (f : RF) : IF := fun Γ S => (f Γ S).bind rgSrc
theorem itR_rg {K : PySem.W.Frag} {g0 : Gh} (lo : Int) (n : Nat) : ItR K g0 (Itr lo n) ⟨(List.range n).map fun (i : Nat) => PyData.int (lo + i), fun _ => true⟩ := by
  intro g H S r hB hF _
  refine ⟨by show n ≤ _; simp, fun i d e => ?_⟩
  rw [List.getElem?_map] at e
  have hi : i < n := by
    cases q : (List.range n)[i]? with
    | none => rw [q] at e; cases e
    | some j =>
      have := (List.getElem?_eq_some_iff.mp q).1
      simpa using this
  have e2 : (List.range n)[i]? = some i := by simp [hi]
  rw [e2] at e
  cases e
  exact ⟨hi, fun x H' y => by
    obtain ⟨e1, e2⟩ := y
    subst e1 e2
    exact ⟨g, Grow.refl _ _, r, .int _⟩⟩
theorem i_rg1 (hg : Gl X "range") (hm : X.mg "range" = none) (ha : DE X M W a fa) (hs : starEach [a] X.env = (false, eval a X.env) :: starEach [] X.env := by rfl) (hs' : starEach [a] X.env = [(false, eval a X.env)] := by rfl) : DI X M W tg (.Call (.Name "range" p) [a] [] pos) (iRg (rg1 fa)) :=
  (pi_range1 hg hm (pa_cons ha pa_nil hs) hs').weak fun σ H R h => by
    obtain ⟨g, Γ, S, r, v, p⟩ := h
    have p' : Post M W σ (rIt M) R g H ((fa Γ S).bind fun v S => (match v with | .d (.int n) => Out.ok ((0 : Int), n) S | _ => Out.no : Out (Int × Int)).bind rgSrc) := by
      unfold iRg rg1 at p
      cases h : fa Γ S with
      | ok a S' => rw [h] at p; exact p
      | ex x S' => rw [h] at p; exact p
      | no => rw [h] at p; exact p
    refine step r v p' fun u H1 g1 S1 w gr r1 v1 q1 p1 => ?_
    split at p1
    · rename_i n
      cases q1
      have p2 : Post M W σ (rIt M) R g1 H1 (rgSrc (0, n) S1) := p1
      unfold rgSrc at p2
      split at p2
      · rename_i hz
        obtain ⟨h1, h2, h3, h4, h5⟩ := rgC_ok hz
        refine ⟨n, rfl, h3, h4, p2.now r1 ⟨rgD_len hz, ?_⟩⟩
        unfold rgD
        rw [Int.sub_zero]
        exact itR_rg 0 n.toNat
      · exact p2.elim
    · exact p1.elim
theorem i_rg2 (hg : Gl X "range") (hm : X.mg "range" = none) (ha : DE X M W a fa) (hb : DE X M W b fb) (hs : starEach [a, b] X.env = (false, eval a X.env) :: starEach [b] X.env := by rfl) (hs2 : starEach [b] X.env = (false, eval b X.env) :: starEach [] X.env := by rfl) (hs' : starEach [a, b] X.env = [(false, eval a X.env), (false, eval b X.env)] := by rfl) (hs2' : starEach [b] X.env = [(false, eval b X.env)] := by rfl) :
    DI X M W tg (.Call (.Name "range" p) [a, b] [] pos) (iRg (rg2 fa fb)) :=
  (pi_range2 hg hm (pa_cons ha (pa_cons hb pa_nil hs2) hs) hs' hs2').weak fun σ H R h => by
    obtain ⟨g, Γ, S, r, v, p⟩ := h
    have p' : Post M W σ (rIt M) R g H ((fa Γ S).bind fun v S => (fb Γ S).bind fun w S => (match v, w with | .d (.int i), .d (.int j) => Out.ok (i, j) S | _, _ => Out.no : Out (Int × Int)).bind rgSrc) := by
      unfold iRg rg2 at p
      cases h : fa Γ S with
      | ok a S' =>
        rw [h] at p
        simp only [Out.bind] at p ⊢
        cases h2 : fb Γ S' with
        | ok b S2 => rw [h2] at p; exact p
        | ex x S2 => rw [h2] at p; exact p
        | no => rw [h2] at p; exact p
      | ex x S' => rw [h] at p; exact p
      | no => rw [h] at p; exact p
    refine step r v p' fun u H1 g1 S1 w gr r1 v1 q1 p1 => step r1 v1 p1 fun u2 H2 g2 S2 w2 gr2 r2 v2 q2 p2 => ?_
    split at p2
    · rename_i i j
      have q1' := gr2.rep q1
      cases q1'; cases q2
      have p3 : Post M W σ (rIt M) R g2 H2 (rgSrc (i, j) S2) := p2
      unfold rgSrc at p3
      split at p3
      · rename_i hz
        obtain ⟨h1, h2, h3, h4, h5⟩ := rgC_ok hz
        exact ⟨i, j, rfl, ⟨h1, h2, h3, h4⟩, p3.now r2 ⟨rgD_len hz, itR_rg i (j - i).toNat⟩⟩
      · exact p3.elim
    · exact p2.elim
/-- zip(a, b) of two lists, of two tuples -/
def pairD (xs ys : List PyData) : List PyData := (xs.zip ys).map fun p => .tuple [p.1, p.2]
def zipS : SV → SV → Store → Out Src := fun v w S => match v, w with
  | .d (.list xs), .d (.list ys) => .ok ⟨pairD xs ys, fun _ => true⟩ S
  | .d (.tuple xs), .d (.tuple ys) => .ok ⟨pairD xs ys, fun _ => true⟩ S
  | _, _ => .no
def iZip (fa fb : EF) : IF := fun Γ S => (fa Γ S).bind fun v S => (fb Γ S).bind fun w S => zipS v w S
theorem pairD_at {xs ys : List PyData} {i : Nat} {d : PyData} (e : (pairD xs ys)[i]? = some d) : ∃ x y, xs[i]? = some x ∧ ys[i]? = some y ∧ d = .tuple [x, y] := by
  unfold pairD at e
  rw [List.getElem?_map] at e
  cases q : (xs.zip ys)[i]? with
  | none => rw [q] at e; cases e
  | some p =>
    rw [q] at e
    cases e
    rw [List.getElem?_zip_eq_some] at q
    exact ⟨p.1, p.2, q.1, q.2, rfl⟩
theorem pairD_len (xs ys : List PyData) : (pairD xs ys).length = min xs.length ys.length := by unfold pairD; rw [List.length_map, List.length_zip]
/-- a new pair -/
theorem pair_new {K : PySem.W.Frag} {g : Gh} {H : Hp} {S : Store} (r : Rel K g H S) {T : Addr} (hT : H T = none) {u v : V} {x y : PyData} (q1 : Rp K g.F u x) (q2 : Rp K g.F v y) : ∃ g', Grow g H g' (upd H T (.tup [u, v])) ∧ Rel K g' (upd H T (.tup [u, v])) S ∧ Rp K g'.F (.ref T) (.tuple [x, y]) := by
  obtain ⟨r', gr⟩ := r.frz hT (.tup [u, v])
  obtain ⟨hF, _⟩ := r.free hT
  exact ⟨_, gr, r', Rp.tup (.inl (.inl upd_same)) (by show 2 ≤ _; decide) (.cons (Rp.sub (sub_upd hF) _ _ q1) (.cons (Rp.sub (sub_upd hF) _ _ q2) .nil))⟩
theorem i_zip (hK : X.K = M.K) {elts : List Expr} {kk : Nat} {tpos : Pos} (hg : Gl X "zip") (hm : X.mg "zip" = none) (ha : DE X M W a fa) (hb : DE X M W b fb) (hs : starEach [a, b] X.env = (false, eval a X.env) :: starEach [b] X.env := by rfl) (hs2 : starEach [b] X.env = (false, eval b X.env) :: starEach [] X.env := by rfl) (hpl : (backTo pos (starEach [b] X.env)).any (·.1) = false := by rfl) :
    DI X M W (.Tuple elts kk tpos) (.Call (.Name "zip" p) [a, b] [] pos) (iZip fa fb) :=
  (RZ.pi_zipA hg hm (pa_cons ha (pa_cons hb pa_nil hs2) hs) hs hpl).weak fun σ H R h => by
    obtain ⟨g, Γ, S, r, v, p⟩ := h
    refine step r v p fun u H1 g1 S1 w gr r1 v1 q1 p1 => step r1 v1 p1 fun u2 H2 g2 S2 w2 gr2 r2 v2 q2 p2 => ?_
    have q1' := gr2.rep q1
    rw [hK]
    unfold zipS at p2
    split at p2
    · rename_i xs ys
      cases q1' with
      | lst h1 z1 t1 =>
        cases q2 with
        | lst h2 z2 t2 =>
          refine ⟨_, _, _, _, rfl, .inl ⟨SqL.of (r2.sub _ _ h1), SqL.of (r2.sub _ _ h2), p2.now r2 ⟨by rw [pairD_len]; omega, fun g H S r hB hF _ => ?_⟩⟩⟩
          have e1 := r.sub _ _ (hF _ _ h1)
          have e2 := r.sub _ _ (hF _ _ h2)
          have l1 := t1.len
          have l2 := t2.len
          refine ⟨⟨_, _, SqL.of e1, SqL.of e2, ?_⟩, fun i d e => ?_⟩
          · show _ ≤ (pairD xs ys).length ∨ _ ≤ (pairD xs ys).length
            rw [pairD_len]; omega
          · obtain ⟨x, y, hx, hy, rfl⟩ := pairD_at e
            obtain ⟨a1, hu, ru⟩ := t1.get hx
            obtain ⟨b1, hv, rv⟩ := t2.get hy
            refine ⟨⟨_, _, a1, b1, SqL.of e1, SqL.of e2, hu, hv⟩, fun z H' yy => ?_⟩
            obtain ⟨T, a2, b2, rfl, hT, rfl, y1, y2⟩ := yy
            have k1 := y1 _ (SqL.of e1)
            have k2 := y2 _ (SqL.of e2)
            rw [hu] at k1; rw [hv] at k2
            cases k1; cases k2
            exact pair_new r hT (Rp.sub hF _ _ ru) (Rp.sub hF _ _ rv)
    · rename_i xs ys
      cases q1' with
      | tup h1 z1 t1 =>
        cases q2 with
        | tup h2 z2 t2 =>
          refine ⟨_, _, _, _, rfl, .inr ⟨SqT.sub r2.sub h1, SqT.sub r2.sub h2, p2.now r2 ⟨by rw [pairD_len]; omega, fun g H S r hB hF _ => ?_⟩⟩⟩
          have e1 : SqT M.K H _ _ := SqT.sub (fun b o e => r.sub _ _ (hF _ _ e)) h1
          have e2 : SqT M.K H _ _ := SqT.sub (fun b o e => r.sub _ _ (hF _ _ e)) h2
          have l1 := t1.len
          have l2 := t2.len
          refine ⟨⟨_, _, e1, e2, ?_⟩, fun i d e => ?_⟩
          · show _ ≤ (pairD xs ys).length ∨ _ ≤ (pairD xs ys).length
            rw [pairD_len]; omega
          · obtain ⟨x, y, hx, hy, rfl⟩ := pairD_at e
            obtain ⟨a1, hu, ru⟩ := t1.get hx
            obtain ⟨b1, hv, rv⟩ := t2.get hy
            refine ⟨⟨_, _, a1, b1, e1, e2, hu, hv⟩, fun z H' yy => ?_⟩
            obtain ⟨T, a2, b2, rfl, hT, rfl, y1, y2⟩ := yy
            have k1 := y1 _ e1
            have k2 := y2 _ e2
            rw [hu] at k1; rw [hv] at k2
            cases k1; cases k2
            exact pair_new r hT (Rp.sub hF _ _ ru) (Rp.sub hF _ _ rv)
    · exact p2.elim
/-- enumerate(a) of a list -/
def enumD (xs : List PyData) : List PyData := xs.mapIdx fun i x => .tuple [.int i, x]
def enumS : SV → Store → Out Src := fun v S => match v with
  | .d (.list xs) => .ok ⟨enumD xs, fun _ => true⟩ S
  | _ => .no
def iEnm (fa : EF) : IF := fun Γ S => (fa Γ S).bind fun v S => enumS v S
theorem i_enum (hK : X.K = M.K) {elts : List Expr} {kk : Nat} {tpos : Pos} (hg : Gl X "enumerate") (hm : X.mg "enumerate" = none) (ha : DE X M W a fa) (hs : starEach [a] X.env = (false, eval a X.env) :: starEach [] X.env := by rfl) (hs' : starEach [a] X.env = [(false, eval a X.env)] := by rfl) :
    DI X M W (.Tuple elts kk tpos) (.Call (.Name "enumerate" p) [a] [] pos) (iEnm fa) :=
  (pi_enum hg hm (pa_cons ha pa_nil hs) hs').weak fun σ H R h => by
    obtain ⟨g, Γ, S, r, v, p⟩ := h
    refine step r v p fun u H1 g1 S1 w gr r1 v1 q1 p1 => ?_
    rw [hK]
    unfold enumS at p1
    split at p1
    · rename_i xs
      cases q1 with
      | lst h1 z1 t1 =>
        refine ⟨_, _, rfl, SqL.of (r1.sub _ _ h1), p1.now r1 ⟨by unfold enumD; rw [List.length_mapIdx]; exact z1, fun g H S r hB hF _ => ?_⟩⟩
        have e1 := r.sub _ _ (hF _ _ h1)
        refine ⟨⟨_, SqL.of e1, ?_⟩, fun i d e => ?_⟩
        · show _ ≤ (enumD xs).length
          unfold enumD
          rw [List.length_mapIdx, t1.len]; exact Nat.le_refl _
        · have e' : (enumD xs)[i]? = some d := e
          unfold enumD at e'
          rw [List.getElem?_mapIdx] at e'
          cases hx : xs[i]? with
          | none => rw [hx] at e'; cases e'
          | some x =>
            rw [hx] at e'
            cases e'
            obtain ⟨a1, hu, ru⟩ := t1.get hx
            refine ⟨⟨_, a1, SqL.of e1, hu⟩, fun z H' yy => ?_⟩
            obtain ⟨T, a2, rfl, hT, rfl, y1⟩ := yy
            have k1 := y1 _ (SqL.of e1)
            rw [hu] at k1
            cases k1
            exact pair_new r hT (.int _) (Rp.sub hF _ _ ru)
    · exact p1.elim
end

/-! ### comprehensions -/
def lcL (ok : Store → Bool) (gf : GF) (tf : TF) (ef : EF) (vs : List Nat) (Γ : Ev) : List PyData → Store → Out (List PyData)
  | [], S => if ok S then .ok [] S else .no
  | d :: ds, S => if ok S then (match gf (.d d) (wipeE Γ vs) S with
    | .ok Γ1 S1 => match tf Γ1 S1 with
      | .ok true S2 => match ef Γ1 S2 with
        | .ok (.d x) S3 => (lcL ok gf tf ef vs Γ ds S3).bind fun xs S => .ok (x :: xs) S
        | _ => .no
      | .ok false S2 => lcL ok gf tf ef vs Γ ds S2
      | _ => .no
    | _ => .no) else .no
def eLc (fin : List PyData → Store → Out SV) (f : IF) (gf : GF) (tf : TF) (ef : EF) (vs : List Nat) : EF := fun Γ S => (f Γ S).bind fun s S => (lcL s.ok gf tf ef vs Γ s.items S).bind fun xs S => fin xs S
theorem wipe_in {σ : St} {i : Nat} : ∀ {vs : List Nat}, i ∈ vs → i < σ.length → (wipe σ vs)[i]? = some none
  | v :: vs, h, hl => by
    unfold wipe
    by_cases e : v = i
    · subst e
      rw [List.getElem?_set_self (by rw [wipe_length]; exact hl)]
    · rw [List.getElem?_set_ne e]
      rcases List.mem_cons.mp h with h | h
      · exact absurd h.symm e
      · exact wipe_in h hl
theorem wipe_only {σ σ2 : St} {vs T : List Nat} (h : OnlyT T (wipe σ vs) σ2) (hT : ∀ j ∈ T, j ∈ vs) : wipe σ2 vs = wipe σ vs := by
  have hl : σ2.length = σ.length := by rw [h.1, wipe_length]
  apply List.ext_getElem?
  intro j
  by_cases hj : j ∈ vs
  · by_cases hlt : j < σ.length
    · rw [wipe_in hj hlt, wipe_in hj (by rw [hl]; exact hlt)]
    · rw [List.getElem?_eq_none (by rw [wipe_length]; omega), List.getElem?_eq_none (by rw [wipe_length]; omega)]
  · rw [wipe_out hj]
    exact h.2 j (fun z => hj (hT j z))
abbrev W0 : WX := fun _ _ _ _ => False
def PostL (M : Mi) (Q : VK) (g0 : Gh) (H0 : Hp) (p : Addr) (acc : List PyData) (fin : List PyData → Store → Out SV) (W : WX) (σ : St) (o : Out (List PyData)) : Prop := Post M W σ (rS M) Q g0 H0 (o.bind fun xs S => fin (acc ++ xs) S)
section
variable {X : Cx} {M : Mi} {W : WX} {T : List Nat} {tg iter elt : Expr} {ifs : List Expr} {f : IF} {gf : GF} {tf : TF} {ef : EF} {pos : Pos} {scope : Scope} {own : List (Str × Nat)}
/-- a cell's item and the new list grow together: the state of a comprehension's loop -/
theorem lc_of {fin : List PyData → Store → Out SV} (hf : Fin M fin) (hT : ∀ j ∈ T, j ∈ own.map (·.2)) {σ : St} {H : Hp} {Q : VK} (h : tE M W (eLc fin f gf tf ef (own.map (·.2))) σ H Q) :
    tLc (tI M W f) (tT1 M T gf) (tT M W0 tf) (tE M W0 ef) (own.map (·.2)) σ H Q := by
  obtain ⟨g0, Γ, S0, r0, v0, p0⟩ := h
  unfold eLc at p0
  refine step r0 v0 p0 fun J H1 g1 S1 s gr1 r1 v1 q1 p1 => ?_
  obtain ⟨hz, hit⟩ := q1
  intro D hD
  obtain ⟨hFD, hBD⟩ := r1.free hD
  obtain ⟨rD, grD⟩ := Rel.lay r1 hD (.lst [])
  refine ⟨fun i m H => m = s.items.length - i ∧ i ≤ s.items.length ∧ ∃ g S vs acc, Rel M.K g H S ∧ Grow g1 H1 g H ∧ g.F D = none ∧ D ∉ g.B ∧ H D = some (.lst vs) ∧ RpAll M.K g.F vs acc ∧ acc.length ≤ i ∧
      Post M W σ (rS M) Q g1 H1 ((lcL s.ok gf tf ef (own.map (·.2)) Γ (s.items.drop i) S).bind fun xs S => fin (acc ++ xs) S),
    ⟨_, rfl, Nat.zero_le _, g1, S1, [], [], rD, grD, hFD, hBD, upd_same, .nil, Nat.le_refl _, by rw [List.drop_zero]; exact p1⟩, ?_⟩
  rintro i m H2 ⟨rfl, hi, g, S, vs, acc, r, gr, hF, hB, hDv, tacc, hla, p⟩
  have hok : s.ok S = true := by
    cases hd : s.items.drop i with
    | nil =>
      rw [hd] at p
      unfold lcL at p
      cases h : s.ok S with
      | true => rfl
      | false => rw [h] at p; exact p.elim
    | cons d ds =>
      rw [hd] at p
      unfold lcL at p
      cases h : s.ok S with
      | true => rfl
      | false => rw [h] at p; exact p.elim
  obtain ⟨hst, hgo⟩ := hit g H2 S r gr.pre gr.sub hok
  by_cases hlt : i < s.items.length
  · have e : s.items[i]? = some s.items[i] := List.getElem?_eq_getElem hlt
    obtain ⟨go, yl⟩ := hgo i _ e
    rw [List.drop_eq_getElem_cons hlt] at p
    unfold lcL at p
    rw [if_pos hok] at p
    refine .inr ⟨go, fun H' => ∃ g S vs acc, Rel M.K g H' S ∧ Grow g1 H1 g H' ∧ g.F D = none ∧ D ∉ g.B ∧ H' D = some (.lst vs) ∧ RpAll M.K g.F vs acc ∧ acc.length ≤ i + 1 ∧
      Post M W σ (rS M) Q g1 H1 ((lcL s.ok gf tf ef (own.map (·.2)) Γ (s.items.drop (i + 1)) S).bind fun xs S => fin (acc ++ xs) S), fun H' h => ⟨s.items.length - (i + 1), by omega, rfl, hlt, h⟩, fun x H' y => ?_⟩
    obtain ⟨g', gr', r', rp⟩ := yl x H' y
    -- what stays true of the new list through evaluation
    have keep : ∀ {ga gb : Gh} {Ha Hb : Hp} {Sa : Store}, Rel M.K ga Ha Sa → Grow ga Ha gb Hb → ga.F D = none → D ∉ ga.B → (∃ vs, Ha D = some (.lst vs)) → gb.F D = none ∧ D ∉ gb.B ∧ Hb D = Ha D := fun {ga gb Ha Hb Sa} ra gb' k1 k2 k3 => by
      obtain ⟨ws, k3⟩ := k3
      refine ⟨?_, fun hm => ?_, by rw [gb'.frm D _ k3 k2, k3]⟩
      · cases q : gb.F D with
        | none => rfl
        | some o =>
          rcases gb'.newF D o q with z | z
          · rw [k1] at z; cases z
          · rw [k3] at z; cases z
      · rcases gb'.newB D hm with z | z
        · exact k2 z
        · rw [k3] at z; cases z
    obtain ⟨a1, a2, a3⟩ := keep r gr' hF hB ⟨vs, hDv⟩
    have gr1' := gr.trans r gr'
    have vσ : Vars M.K g' (wipe σ (own.map (·.2))) (wipeE Γ (own.map (·.2))) := gr1'.vars v1 |>.wipe _
    refine ⟨g', _, S, .d s.items[i], r', vσ, rp, ?_⟩
    cases h1 : gf (.d s.items[i]) (wipeE Γ (own.map (·.2))) S with
    | ex x S' => rw [h1] at p; exact p.elim
    | no => rw [h1] at p; exact p.elim
    | ok Γ1 S1' =>
      rw [h1] at p
      intro σ2 g2 H3 t2 gr2 r2 v2
      refine ⟨wipe_only t2 hT, ?_⟩
      obtain ⟨b1, b2, b3⟩ := keep r' gr2 a1 a2 ⟨vs, by rw [a3]; exact hDv⟩
      have gr12 := gr1'.trans r' gr2
      refine ⟨g2, Γ1, S1', r2, v2, ?_⟩
      cases h2 : tf Γ1 S1' with
      | ex x S' => simp only [h2] at p; exact p.elim
      | no => simp only [h2] at p; exact p.elim
      | ok b S2 =>
        intro u g3 H4 gr3 r3 q3
        obtain rfl : u = b := q3
        obtain ⟨c1, c2, c3⟩ := keep r2 gr3 b1 b2 ⟨vs, by rw [b3, a3]; exact hDv⟩
        have gr13 := gr12.trans r2 gr3
        have e4 : H4 D = some (.lst vs) := by rw [c3, b3, a3]; exact hDv
        cases u with
        | false =>
          simp only [h2] at p
          exact iteF ⟨g3, S2, vs, acc, r3, gr13, c1, c2, e4, RpAll.sub (fun b o e => gr3.sub _ _ (gr2.sub _ _ (gr'.sub _ _ e))) _ _ tacc, by omega, p⟩
        | true =>
          simp only [h2] at p
          refine iteT ⟨g3, Γ1, S2, r3, gr3.vars v2, ?_⟩
          cases h3 : ef Γ1 S2 with
          | ex x S' => rw [h3] at p; exact p.elim
          | no => rw [h3] at p; exact p.elim
          | ok z S3 =>
            cases z with
            | cell _ => rw [h3] at p; exact p.elim
            | scr _ => rw [h3] at p; exact p.elim
            | d x =>
              rw [h3] at p
              intro y g4 H5 gr4 r4 q4
              obtain ⟨d1, d2, d3⟩ := keep r3 gr4 c1 c2 ⟨vs, e4⟩
              have e5 : H5 D = some (.lst vs) := by rw [d3]; exact e4
              have gr14 := gr13.trans r3 gr4
              have t4 : RpAll M.K g4.F vs acc := RpAll.sub (fun b o e => gr4.sub _ _ (gr3.sub _ _ (gr2.sub _ _ (gr'.sub _ _ e)))) _ _ tacc
              have ne : ∀ b ∈ g4.B, b ≠ D := fun b hb e => d2 (e ▸ hb)
              refine ⟨vs, e5, by rw [t4.len, sizeLine_eq]; omega, g4, S3, vs ++ [y], acc ++ [x], ⟨fun b o e => ?_, r4.nd, r4.dis, r4.len, fun j b m e1 e2 => ?_⟩, ⟨gr14.pre, gr14.sub, fun b o e hb => ?_, gr14.newB, gr14.newF⟩, d1, d2, upd_same, t4.append (.cons q4 .nil), by rw [List.length_append, List.length_singleton]; omega, ?_⟩
              · rw [upd_ne (fun z => by rw [z, d1] at e; cases e)]; exact r4.sub _ _ e
              · rw [upd_ne (ne b (List.mem_of_getElem? e1))]; exact r4.at_ j b m e1 e2
              · rw [upd_ne (ne_of_none e hD)]; exact gr14.frm b o e hb
              · cases h4 : lcL s.ok gf tf ef (own.map (·.2)) Γ (s.items.drop (i + 1)) S3 with
                | ok xs S4 =>
                  simp only [h4, Out.bind] at p ⊢
                  rw [List.append_assoc]
                  exact p
                | ex x' S4 => simp only [h4, Out.bind] at p ⊢; exact p
                | no => simp only [h4, Out.bind] at p; exact p.elim
  · have e : i = s.items.length := by omega
    subst e
    rw [List.drop_length] at p
    unfold lcL at p
    rw [if_pos hok] at p
    refine .inl ⟨hst, ?_⟩
    have p' : Post M W σ (rS M) Q g1 H1 (fin (acc ++ []) S) := p
    rw [List.append_nil] at p'
    exact hf W σ Q g1 H1 g H2 S D vs acc r gr hD hDv hF hB (Nat.le_trans hla hz) tacc p'
/-- [elt for tg in iter if ..] as a value -/
theorem d_lc {fin : List PyData → Store → Out SV} (hf : Fin M fin) (hT : ∀ j ∈ T, j ∈ own.map (·.2)) (hc : X.calm = true) (hN : X.N.Nodup) (hi : DI X M W tg iter f) (ok : BlkOk X.N X.env.scope scope own)
    (hg : ∀ (s : Shared) (H : Hp) (C : Addr) (cl : List (Str × Addr)) (fp : List Addr), DG (X.blk s H scope (compEnvC scope cl C X.env) fp) M T tg gf) (ht : ∀ (s : Shared) (H : Hp) (C : Addr) (cl : List (Str × Addr)) (fp : List Addr), PTs (X.blk s H scope (compEnvC scope cl C X.env) fp) ifs (tT M W0 tf))
    (he : ∀ (s : Shared) (H : Hp) (C : Addr) (cl : List (Str × Addr)) (fp : List Addr), DE (X.blk s H scope (compEnvC scope cl C X.env) fp) M W0 elt ef) (hs : ∀ x, foldedSetIterable iter X.env x = pure x := by intro _; rfl) :
    DE X M W (.ListComp elt [⟨tg, iter, ifs, 0⟩] scope pos) (eLc fin f gf tf ef (own.map (·.2))) := (pe_lc hc hN hi ok hg ht he hs).weak fun _ _ _ h => lc_of hf hT h
/-- name = [elt for ..] on one line -/
theorem s_setLc {fin : List PyData → Store → Out SV} (hf : Fin M fin) {i : Nat} {y : Str} {py spos : Pos} (hT : ∀ j ∈ T, j ∈ own.map (·.2)) (hc : X.calm = true) (hN : X.N.Nodup) (hy : X.N[i]? = some y) (hyl : X.env.scope.names.lookup y = some .local)
    (hsw : swapsWith (.ListComp elt [⟨tg, iter, ifs, 0⟩] scope pos) (some (.Name y py)) spos.line X.env = pure true) (hi : DI X M W tg iter f) (ok : BlkOk X.N X.env.scope scope own)
    (hg : ∀ (s : Shared) (H : Hp) (C : Addr) (cl : List (Str × Addr)) (fp : List Addr), DG (X.blk s H scope (compEnvC scope cl C X.env) fp) M T tg gf) (ht : ∀ (s : Shared) (H : Hp) (C : Addr) (cl : List (Str × Addr)) (fp : List Addr), PTs (X.blk s H scope (compEnvC scope cl C X.env) fp) ifs (tT M W0 tf))
    (he : ∀ (s : Shared) (H : Hp) (C : Addr) (cl : List (Str × Addr)) (fp : List Addr), DE (X.blk s H scope (compEnvC scope cl C X.env) fp) M W0 elt ef) (hs : ∀ x, foldedSetIterable iter X.env x = pure x := by intro _; rfl) :
    DS X M W (.Assign [.Name y py] (.ListComp elt [⟨tg, iter, ifs, 0⟩] scope pos) spos) (fSet i (eLc fin f gf tf ef (own.map (·.2)))) := (ps_setLc hc hN hy hyl hsw hi ok hg ht he hs).weak fun _ _ _ h => set_of (fun _ _ _ h => lc_of hf hT h) h
def tYesF : TF := fun _ S => .ok true S
theorem ts_nil : PTs X [] (tT M W tYesF) := ⟨fun pins s σ H Q I ⟨g, Γ, S, r, v, p⟩ => pts_nil.run pins s σ H Q I (p.now (u := true) r rfl)⟩
theorem ts_one {c : Expr} {t : TF} (h : DT X M W c t) : PTs X [c] (tT M W t) := pts_one h
end
end DL
/-! D7: methods of lists. -/
namespace DL
open PySem L2
def isL (o : SV) (S : Store) : Bool := match o with
  | .cell c => match S[c]? with
    | some (.lst _) => true
    | _ => false
  | .d (.list _) => true
  | _ => false
def eMeth (op : SV → List SV → Store → Out SV) (fo : EF) (af : AF) : EF := fun Γ S => (fo Γ S).bind fun o S => if isL o S then (af Γ S).bind fun vs S => op o vs S else .no
def SatM (M : Mi) (r : V → List V → Hp → VK → Prop) (op : SV → List SV → Store → Out SV) : Prop := ∀ (W : WX) (σ : St) (Q : VK) (g : Gh) (H : Hp) (S : Store) (x : V) (o : SV) (us : List V) (vs : List SV),
  Rel M.K g H S → RepS M.K g x o → RepA M.K g us vs → Post M W σ (rS M) Q g H (op o vs S) → r x us H Q
section
variable {X : Cx} {M : Mi} {W : WX} {o e : Expr} {es : List Expr} {fo : EF} {af : AF} {name : Str} {apos cpos : Pos} {id : String} {r : V → List V → Hp → VK → Prop} {op : SV → List SV → Store → Out SV}
theorem isL_ok {g : Gh} {H : Hp} {S : Store} {x : V} {o : SV} (r : Rel M.K g H S) (q : RepS M.K g x o) (h : isL o S = true) : tyV M.K "list" x H := by
  unfold isL at h
  split at h
  · rename_i c
    obtain ⟨a, ha, rfl⟩ := q
    split at h
    · rename_i xs hs
      obtain ⟨_, vs, hv, _⟩ := r.at_ c a _ ha hs
      exact .inl ⟨rfl, vs, SqL.of hv⟩
    · cases h
  · cases q with
    | lst h1 z t => exact .inl ⟨rfl, _, SqL.of (r.sub _ _ h1)⟩
  · cases h
theorem d_bm0 (hK : X.K = M.K) (slot : Slot "list" name id) (hty : typeOf (.builtin id) = pure (.type "method_descriptor")) (hm : MtR X id r) (hs : SatM M r op) (ho : DE X M W o fo)
    (hbase : attributeBase o name X.env (eval o X.env) = eval o X.env := by rfl) (hline : (apos.endLine == cpos.line) = true := by rfl) : DE X M W (.Call (.Attribute o name apos) [] [] cpos) (eMeth op fo aNil) :=
  (pe_bm0 PySem.F.plainAttrs_list slot hty hm ho hbase hline).weak fun σ H Q h => by
    obtain ⟨g, Γ, S, r0, v0, p⟩ := h
    refine step r0 v0 p fun u H1 g1 S1 v gr r1 v1 q1 p1 => ?_
    split at p1
    · rename_i hl
      exact ⟨by rw [hK]; exact isL_ok r1 q1 hl, hs _ _ _ _ _ _ _ _ _ _ r1 q1 .nil p1⟩
    · exact p1.elim
theorem d_bm (hK : X.K = M.K) (slot : Slot "list" name id) (hty : typeOf (.builtin id) = pure (.type "method_descriptor")) (hm : MtR X id r) (hs' : SatM M r op) (ho : DE X M W o fo) (ha : DA X M W (e :: es) af)
    (hbase : attributeBase o name X.env (eval o X.env) = eval o X.env := by rfl)
    (hfew : ((backTo cpos (starEach (e :: es) X.env)).all (fun x => !x.1) && (backToKw cpos (keywordEach [] X.env)).all (fun x => x.1.isSome)
      && decide ((e :: es).length + ([] : List Keyword).length + (if ([] : List Keyword).isEmpty then 0 else 1) < 30)) = true := by rfl)
    (hline : (apos.endLine == cpos.line) = true := by rfl) (hs : starEach (e :: es) X.env = (false, eval e X.env) :: starEach es X.env := by rfl) (hplain : (backTo cpos (starEach es X.env)).any (·.1) = false := by rfl) :
    DE X M W (.Call (.Attribute o name apos) (e :: es) [] cpos) (eMeth op fo af) :=
  (pe_bm PySem.F.plainAttrs_list slot hty hm ho ha hbase hfew hline hs hplain).weak fun σ H Q h => by
    obtain ⟨g, Γ, S, r0, v0, p⟩ := h
    refine step r0 v0 p fun u H1 g1 S1 v gr r1 v1 q1 p1 => ?_
    split at p1
    · rename_i hl
      exact ⟨by rw [hK]; exact isL_ok r1 q1 hl, step r1 v1 p1 fun us H2 g2 S2 vs gr2 r2 v2 q2 p2 => hs' _ _ _ _ _ _ _ _ _ _ r2 (gr2.rep q1) q2 p2⟩
    · exact p1.elim
/-- the cell's list -/
def cellL (o : SV) (S : Store) : Option (Nat × List PyData) := match o with
  | .cell c => match S[c]? with
    | some (.lst xs) => some (c, xs)
    | _ => none
  | _ => none
theorem cellL_ok {g : Gh} {H : Hp} {S : Store} {x : V} {o : SV} (r : Rel M.K g H S) (q : RepS M.K g x o) {c : Nat} {xs : List PyData} (h : cellL o S = some (c, xs)) : ∃ a vs, x = .ref a ∧ g.B[c]? = some a ∧ H a = some (.lst vs) ∧ RpAll M.K g.F vs xs ∧ xs.length ≤ 16777216 := by
  unfold cellL at h
  split at h
  · rename_i c'
    obtain ⟨a, ha, rfl⟩ := q
    split at h
    · rename_i ys hs
      cases h
      obtain ⟨hz, vs, hv, t⟩ := r.at_ c a _ ha hs
      exact ⟨a, vs, rfl, ha, hv, t, hz⟩
    · cases h
  · cases h
def appendS : SV → List SV → Store → Out SV := fun o vs S => match cellL o S, vs with
  | some (c, xs), [.d x] => if xs.length < 16777216 then .ok (.d .none) (S.set c (.lst (xs ++ [x]))) else .no
  | _, _ => .no
theorem sat_append : SatM M rAppend appendS := by
  intro W σ Q g H S x o us vs r q1 q2 p
  unfold appendS at p
  split at p
  · rename_i c xs y e
    split at p
    · rename_i hz
      obtain ⟨a, ws, rfl, ha, hv, t, _⟩ := cellL_ok r q1 e
      cases q2 with
      | cons q2 q3 =>
        cases q3
        rename_i u
        have hz' : (xs ++ [y]).length ≤ 16777216 := by rw [List.length_append, List.length_singleton]; exact hz
        obtain ⟨r2, gr2⟩ := r.put ha hz' (t.append (.cons q2 .nil))
        exact ⟨a, ws, u, rfl, rfl, hv, by rw [t.len]; exact hz, p .non g _ gr2 r2 .non⟩
    · exact p.elim
  · exact p.elim
def popS : SV → List SV → Store → Out SV := fun o vs S => match cellL o S, vs with
  | some (c, xs), [] => match xs[xs.length - 1]? with
    | some x => .ok (.d x) (S.set c (.lst xs.dropLast))
    | none => .no
  | _, _ => .no
theorem RpAll.dropLast {K : PySem.W.Frag} {F : Hp} {vs : List V} {ds : List PyData} (h : RpAll K F vs ds) : RpAll K F vs.dropLast ds.dropLast := by
  rw [List.dropLast_eq_take, List.dropLast_eq_take, h.len]
  exact h.take _
theorem sat_pop : SatM M rPop popS := by
  intro W σ Q g H S x o us vs r q1 q2 p
  unfold popS at p
  split at p
  · rename_i c xs e
    split at p
    · rename_i y hy
      obtain ⟨a, ws, rfl, ha, hv, t, hz⟩ := cellL_ok r q1 e
      cases q2
      obtain ⟨u, hu, ru⟩ := t.get hy
      have hz' : xs.dropLast.length ≤ 16777216 := by rw [List.length_dropLast]; omega
      obtain ⟨r2, gr2⟩ := r.put ha hz' t.dropLast
      exact ⟨a, ws, u, rfl, rfl, hv, by rw [t.len]; exact hu, p u g _ gr2 r2 ru⟩
    · exact p.elim
  · exact p.elim
def popAtS : SV → List SV → Store → Out SV := fun o vs S => match cellL o S, vs with
  | some (c, xs), [.d (.int i)] => match ixN xs.length i with
    | some k => match xs[k]? with
      | some x => .ok (.d x) (S.set c (.lst (xs.eraseIdx k)))
      | none => .no
    | none => .no
  | _, _ => .no
theorem sat_popAt : SatM M rPopAt popAtS := by
  intro W σ Q g H S x o us vs r q1 q2 p
  unfold popAtS at p
  split at p
  · rename_i c xs i e
    split at p
    · rename_i k hk
      split at p
      · rename_i y hy
        obtain ⟨a, ws, rfl, ha, hv, t, hz⟩ := cellL_ok r q1 e
        cases q2 with
        | cons q2 q3 =>
          cases q3
          cases q2
          obtain ⟨u, hu, ru⟩ := t.get hy
          have hz' : (xs.eraseIdx k).length ≤ 16777216 := Nat.le_trans (len_erase _ _) hz
          obtain ⟨r2, gr2⟩ := r.put ha hz' (t.eraseIdx k)
          obtain ⟨h1, h2, h3, h4⟩ := ixN_seq hk
          exact ⟨a, ws, i, k, u, rfl, rfl, hv, by omega, by omega, by rw [t.len]; exact h1, hu, p u g _ gr2 r2 ru⟩
      · exact p.elim
    · exact p.elim
  · exact p.elim
def extendS : SV → List SV → Store → Out SV := fun o vs S => match cellL o S, vs with
  | some (c, xs), [w] => match asD w S with
    | some (.list ys) => if xs.length + ys.length ≤ 16777216 then .ok (.d .none) (S.set c (.lst (xs ++ ys))) else .no
    | _ => .no
  | _, _ => .no
theorem sat_extend : SatM M rExtend extendS := by
  intro W σ Q g H S x o us vs r q1 q2 p
  unfold extendS at p
  split at p
  · rename_i c xs w e
    split at p
    · rename_i ys e2
      split at p
      · rename_i hz
        obtain ⟨a, ws, rfl, ha, hv, t, _⟩ := cellL_ok r q1 e
        cases q2 with
        | cons q2 q3 =>
          cases q3
          obtain ⟨b, zs, rfl, hb, t2, _⟩ := asD_list r q2 e2
          have hz' : (xs ++ ys).length ≤ 16777216 := by rw [List.length_append]; exact hz
          obtain ⟨r2, gr2⟩ := r.put ha hz' (t.append t2)
          exact ⟨a, b, ws, zs, rfl, rfl, hv, hb, by rw [t.len, t2.len]; exact hz, p .non g _ gr2 r2 .non⟩
      · exact p.elim
    · exact p.elim
  · exact p.elim
theorem d_append (hK : X.K = M.K) (ho : DE X M W o fo) {fe : EF} (he : DE X M W e fe)
    (hbase : attributeBase o "append" X.env (eval o X.env) = eval o X.env := by rfl)
    (hfew : ((backTo cpos (starEach [e] X.env)).all (fun x => !x.1) && (backToKw cpos (keywordEach [] X.env)).all (fun x => x.1.isSome)
      && decide ([e].length + ([] : List Keyword).length + (if ([] : List Keyword).isEmpty then 0 else 1) < 30)) = true := by rfl)
    (hline : (apos.endLine == cpos.line) = true := by rfl) (hs : starEach [e] X.env = (false, eval e X.env) :: starEach [] X.env := by rfl) (hplain : (backTo cpos (starEach [] X.env)).any (·.1) = false := by rfl) :
    DE X M W (.Call (.Attribute o "append" apos) [e] [] cpos) (eMeth appendS fo (aCons fe aNil)) :=
  d_bm hK PySem.F.slot_list_append PySem.F.type_list_append mt_append sat_append ho (da_cons he da_nil hs) hbase hfew hline hs hplain
theorem d_extend (hK : X.K = M.K) (ho : DE X M W o fo) {fe : EF} (he : DE X M W e fe)
    (hbase : attributeBase o "extend" X.env (eval o X.env) = eval o X.env := by rfl)
    (hfew : ((backTo cpos (starEach [e] X.env)).all (fun x => !x.1) && (backToKw cpos (keywordEach [] X.env)).all (fun x => x.1.isSome)
      && decide ([e].length + ([] : List Keyword).length + (if ([] : List Keyword).isEmpty then 0 else 1) < 30)) = true := by rfl)
    (hline : (apos.endLine == cpos.line) = true := by rfl) (hs : starEach [e] X.env = (false, eval e X.env) :: starEach [] X.env := by rfl) (hplain : (backTo cpos (starEach [] X.env)).any (·.1) = false := by rfl) :
    DE X M W (.Call (.Attribute o "extend" apos) [e] [] cpos) (eMeth extendS fo (aCons fe aNil)) :=
  d_bm hK PySem.F.slot_list_extend PySem.F.type_list_extend mt_extend sat_extend ho (da_cons he da_nil hs) hbase hfew hline hs hplain
theorem d_popAt (hK : X.K = M.K) (ho : DE X M W o fo) {fe : EF} (he : DE X M W e fe)
    (hbase : attributeBase o "pop" X.env (eval o X.env) = eval o X.env := by rfl)
    (hfew : ((backTo cpos (starEach [e] X.env)).all (fun x => !x.1) && (backToKw cpos (keywordEach [] X.env)).all (fun x => x.1.isSome)
      && decide ([e].length + ([] : List Keyword).length + (if ([] : List Keyword).isEmpty then 0 else 1) < 30)) = true := by rfl)
    (hline : (apos.endLine == cpos.line) = true := by rfl) (hs : starEach [e] X.env = (false, eval e X.env) :: starEach [] X.env := by rfl) (hplain : (backTo cpos (starEach [] X.env)).any (·.1) = false := by rfl) :
    DE X M W (.Call (.Attribute o "pop" apos) [e] [] cpos) (eMeth popAtS fo (aCons fe aNil)) :=
  d_bm hK PySem.F.slot_list_pop PySem.F.type_list_pop mt_popAt sat_popAt ho (da_cons he da_nil hs) hbase hfew hline hs hplain
theorem d_pop (hK : X.K = M.K) (ho : DE X M W o fo) (hbase : attributeBase o "pop" X.env (eval o X.env) = eval o X.env := by rfl) (hline : (apos.endLine == cpos.line) = true := by rfl) :
    DE X M W (.Call (.Attribute o "pop" apos) [] [] cpos) (eMeth popS fo aNil) :=
  d_bm0 hK PySem.F.slot_list_pop PySem.F.type_list_pop mt_pop sat_pop ho hbase hline
end
end DL
/-! D8: defs at their contexts, recursion, the end. -/
namespace DL
open PySem L2
abbrev wE (E : XK) : WX := fun cls d _ H => E cls d H
theorem _root_.L2.Room.u64 {k : Nat} {A : Around} (r : Room k A) : A.units + 64 < cLine := r.units
theorem _root_.L2.Room.u65 {k : Nat} {A : Around} (r : Room k A) : A.units + 65 < cLine := by have := r.un; omega
section
variable {P : Program} {w : World} {K : PySem.W.Frag} {mg : Str → Option Value} {base : Heap} {M : Mi}
theorem DefD.mono {j k n : Nat} {name : Str} {F : FD} (D : DefD P w K mg base M j name n F) (h : j ≤ k) : DefD P w K mg base M k name n F := by
  obtain ⟨f, fd, ps, h1, h2⟩ := D.ok
  exact ⟨f, fd, ps, h1.mono h, h2⟩
/-- THE RULE for a def, at its own context -/
theorem def_c {x qual : Str} {st : Stmt} {f : Addr} {fd : FuncData} {N ps : List Str} {n : Nat} {k : Nat} {body : SF} {hand : Nat → SV → Store → Out SV} (hh : HandOk M hand) (F : Fun K x qual st f fd) (S : FnScope N ps (defScope st)) (hn : ps.length = n)
    (h : ∀ (cdv : Value) (A : Around) (outer : List Env) (s : Shared) (H : Hp) (E : XK), Room k (A.deeper (PyProof.Rows.envOfC qual (defScope st) s.heap.objs.size f cdv)) → Takes (cxOf (L2.CX P w) P w K mg base N qual (defScope st) f cdv A outer s H E) (wE E) →
      PassesOwn (model P w) (A.deeper (PyProof.Rows.envOfC qual (defScope st) s.heap.objs.size f cdv)) (PyProof.Rows.envOfC qual (defScope st) s.heap.objs.size f cdv) (cxOf (L2.CX P w) P w K mg base N qual (defScope st) f cdv A outer s H E).xe →
      DSs (cxOf (L2.CX P w) P w K mg base N qual (defScope st) f cdv A outer s H E) M (wE E) (defBody st) body) :
    FnOk P w K mg base (L2.CX P w) (k + 1) f fd ps (spD M n (runD hand N.length body)) := by
  subst hn
  refine F.okX S (fun vs H Q E h => h.1) fun cdv A outer s H vs Q E hr hsp => ?_
  obtain ⟨hl, g, S0, ds, r, q, p⟩ := hsp
  refine ⟨_, h cdv A outer s H E hr (takes_of rfl rfl rfl rfl) (passes_of rfl), g, _, S0, r, start_vars q, ?_⟩
  unfold runD at p
  have hB : g.B.length = S0.length := r.len
  split at p
  · rename_i v S' e
    rw [e]
    exact fun u g' H' gr r' q' => hh _ _ _ _ _ _ _ _ _ _ _ hB gr r' q' p
  · rename_i Γ' S' e
    rw [e]
    intro σ' g' H' gr r' v'
    obtain ⟨r2, gr2, _⟩ := r'.cut gr _ hB
    exact p .non _ _ gr2 r2 .non
  · rename_i x Γ' S' e
    rw [e]
    intro cls d σ' g' H' gr r' v' q'
    obtain ⟨r2, gr2, _⟩ := r'.cut gr _ hB
    exact p cls d _ _ gr2 r2 q'
  · exact p.elim
theorem def_at {x qual : Str} {st : Stmt} {f : Addr} {fd : FuncData} {N ps : List Str} {n : Nat} {k : Nat} {body : SF} {hand : Nat → SV → Store → Out SV} (hh : HandOk M hand) (F : Fun K x qual st f fd) (S : FnScope N ps (defScope st)) (hm : mg x = some (.ref f)) (hb : Binds K fd ps []) (hn : ps.length = n)
    (h : ∀ (cdv : Value) (A : Around) (outer : List Env) (s : Shared) (H : Hp) (E : XK), Room k (A.deeper (PyProof.Rows.envOfC qual (defScope st) s.heap.objs.size f cdv)) → Takes (cxOf (L2.CX P w) P w K mg base N qual (defScope st) f cdv A outer s H E) (wE E) →
      PassesOwn (model P w) (A.deeper (PyProof.Rows.envOfC qual (defScope st) s.heap.objs.size f cdv)) (PyProof.Rows.envOfC qual (defScope st) s.heap.objs.size f cdv) (cxOf (L2.CX P w) P w K mg base N qual (defScope st) f cdv A outer s H E).xe →
      DSs (cxOf (L2.CX P w) P w K mg base N qual (defScope st) f cdv A outer s H E) M (wE E) (defBody st) body) :
    DefD P w K mg base M (k + 1) x n (runD hand N.length body) :=
  ⟨f, fd, ps, def_c hh F S hn h, hm, F.kp, hb⟩
/-- a def of which nothing is said -/
theorem def_no {x qual : Str} {st : Stmt} {f : Addr} {fd : FuncData} {ps : List Str} {n k : Nat} (F : Fun K x qual st f fd) (hm : mg x = some (.ref f)) (hb : Binds K fd ps []) (hn : ps.length = n) : DefD P w K mg base M k x n (fun _ _ => .no) := by
  subst hn
  exact ⟨f, fd, ps, ⟨fun vs H Q E h => h.1, fun A outer s H args us vs Q E hr e0 hbt r h => h.2.elim fun _ h => h.elim fun _ h => h.elim fun _ h => h.2.2.elim⟩, hm, F.kp, hb⟩
/-- what stands behind the top of a def -/
structure FnX (K : PySem.W.Frag) (mg : Str → Option Value) (x : Str) (st : Stmt) (ps : List Str) : Prop where
  ok : ∃ f fd, Fun K x x st f fd ∧ mg x = some (.ref f) ∧ Binds K fd ps []
theorem FnX.at {x : Str} {st : Stmt} {N ps : List Str} {n k : Nat} {body : SF} {hand : Nat → SV → Store → Out SV} (G : FnX K mg x st ps) (hh : HandOk M hand) (S : FnScope N ps (defScope st)) (hn : ps.length = n)
    (h : ∀ (f : Addr) (cdv : Value) (A : Around) (outer : List Env) (s : Shared) (H : Hp) (E : XK), Room k (A.deeper (PyProof.Rows.envOfC x (defScope st) s.heap.objs.size f cdv)) → Takes (cxOf (L2.CX P w) P w K mg base N x (defScope st) f cdv A outer s H E) (wE E) →
      PassesOwn (model P w) (A.deeper (PyProof.Rows.envOfC x (defScope st) s.heap.objs.size f cdv)) (PyProof.Rows.envOfC x (defScope st) s.heap.objs.size f cdv) (cxOf (L2.CX P w) P w K mg base N x (defScope st) f cdv A outer s H E).xe →
      DSs (cxOf (L2.CX P w) P w K mg base N x (defScope st) f cdv A outer s H E) M (wE E) (defBody st) body) :
    DefD P w K mg base M (k + 1) x n (runD hand N.length body) := by
  obtain ⟨f, fd, F, hm, hb⟩ := G.ok
  exact def_at hh F S hm hb hn (h f)
theorem FnX.no {x : Str} {st : Stmt} {ps : List Str} {n k : Nat} (G : FnX K mg x st ps) (hn : ps.length = n) : DefD P w K mg base M k x n (fun _ _ => .no) := by
  obtain ⟨f, fd, F, hm, hb⟩ := G.ok
  exact def_no F hm hb hn
theorem FnX.mk' {x : Str} {st : Stmt} {f : Addr} {ps : List Str} {oc : Value} {od an : Option Addr} {osl : Array (Option Value)} {kV doc pm cdv ct : Value} (l : K.lookup f = some ⟨oc, od, .func (PySem.W.fnOf x x (defArgs st) (defBody st) (defScope st) .none kV doc pm an cdv ct), osl⟩)
    (c : PySem.W.codeIn K cdv x = true) (k : PySem.W.keepIn K (.ref f) = true) (hm : mg x = some (.ref f))
    (h : ∀ (kV doc pm : Value) (an : Option Addr) (cdv ct : Value) (us : List Value), us.length = ps.length → bindArgs (PySem.W.fnOf x x (defArgs st) (defBody st) (defScope st) .none kV doc pm an cdv ct) ⟨us, []⟩ = pure (ps.zip us)) : FnX K mg x st ps :=
  ⟨f, _, fun_mk l c k, hm, (fun_mk l c k).binds h⟩
end

/-- f() of a def that raises nothing -/
def eCall0 (F : FD) : EF := fun _ S => match F [] S with
  | .ok v S' => .ok v S'
  | _ => .no
theorem d_call0 {X : Cx} {M : Mi} {W : WX} {k : Nat} {F : FD} {x : Str} {p pos : Pos} (D : DefD X.prog X.w X.K X.mg X.base M k x 0 F) (hr : Room k X.A) (hg : Gl X x) (hdb : (x == ("__debug__" : Str)) = false := by decide) : DE X M W (.Call (.Name x p) [] [] pos) (eCall0 F) := by
  obtain ⟨f, fd, ps, hF, hm, hk, hb⟩ := D.ok
  refine (pe_call0 (E := E0) hF hr hg hm hk hb .nil passL hdb).weak fun σ H Q h => ?_
  obtain ⟨g, Γ, S, r, v, p⟩ := h
  refine ⟨rfl, g, S, [], r, .nil, ?_⟩
  unfold eCall0 at p
  split at p
  · rename_i v' S' e
    rw [e]
    exact p
  · exact p.elim

/-- a constant of the module -/
theorem d_globD {X : Cx} {M : Mi} {W : WX} {x : Str} {d : PyData} {pos : Pos} (hg : Gl X x) (h : ∃ (u : Value) (v : V), X.mg x = some u ∧ RelV v u ∧ ∀ F, Rp M.K F v d) (hdb : (x == ("__debug__" : Str)) = false := by decide) : DE X M W (.Name x pos) (eC d) := by
  obtain ⟨u, v, h1, h2, h3⟩ := h
  exact d_glob hg h1 h2 h3 hdb

/-! ### the end -/
/-- the law's promise: True at every script -/
def spLaw (K : PySem.W.Frag) : Sp := fun vs H Q _ => ∃ (a : Addr) (ns : List Int), vs = [.ref a] ∧ SqL K H a (ns.map V.int) ∧ ns.length ≤ 63 ∧ ∀ H', Q (.bl true) H'
theorem law_sp {P : Program} {w : World} {K : PySem.W.Frag} {mg : Str → Option Value} {base : Heap} {M : Mi} {k : Nat} {f : Addr} {fd : FuncData} {ps : List Str} {F : FD} (hK : M.K = K) (h : FnOk P w K mg base (L2.CX P w) k f fd ps (spD M 1 F))
    (law : ∀ ns : List Int, ns.length ≤ 63 → F [.scr ns] [] = .ok (.d (.bool true)) []) : FnOk P w K mg base (L2.CX P w) k f fd ps (spLaw K) := by
  subst hK
  refine h.imp fun vs H Q E ⟨a, ns, e, hs, hl, hq⟩ => ?_
  subst e
  refine ⟨rfl, ⟨[], H⟩, [], [.scr ns], ⟨fun _ _ h => h, List.nodup_nil, (fun b hb => absurd (show b ∈ ([] : List Addr) from hb) List.not_mem_nil), rfl, fun i a m h => ?_⟩, .cons ⟨a, rfl, hs⟩ .nil, ?_⟩
  · simp at h
  · rw [law ns hl]
    intro u g' H' _ _ q
    cases q
    exact hq H'
theorem law_end {l : PySem.W.OpenLaw} {k : Nat} {q : Program} {loose : List Str} {XP : (Str → Option Value) → Heap → Prop} {YP : World → Heap → Prop} {d : DefRec} {K : Params → PySem.W.Frag} (hr : Room k callerA) (hn : l.most = some 63) (hdf : d.params.defaults = [])
    (hY : ∀ (w : World) (h : Heap), YP w h → (K w.params).In h)
    (F : ∀ (w : World) (mg : Str → Option Value) (fa : Addr) (h : Heap), (K w.params).In h → h.Ns mainGlobals mg → mg d.name = some (.ref fa) →
      ∃ fd : FuncData, (∀ (s : Shared) (u : Value), BindsTo s fd ⟨[u], []⟩ [("script", u)]) ∧ ∀ base : Heap, (K w.params).In base → base.Ns mainGlobals mg → FnOk l.prog w (K w.params) mg base (L2.CX l.prog w) k fa fd ["script"] (spLaw (K w.params))) :
    PySem.W.WalkO q loose XP YP l.row.toRowW d [] (fun f vs => PySem.call f vs) :=
  L2.walk_of (n := 63) (k := k) (x := "script") (CX := fun w => L2.CX l.prog w) (sp := fun w => spLaw (K w.params)) hn (by decide) hdf hr hY F (fun _ _ a ns hl _ hS => ⟨a, ns, rfl, hS, hl, fun _ => rfl⟩) fun w H s e s' z => by
    obtain ⟨_, _, _, _, _, _, _, _, _, _, _, _, z⟩ := z
    exact z.elim
theorem FnX.of {h : Heap} {K : PySem.W.Frag} {mg : Str → Option Value} {x : Str} {st : Stmt} {f : Addr} {ps : List Str} {oc : Value} {od an : Option Addr} {osl : Array (Option Value)} {kV doc pm cdv ct : Value} (X : K.In h) (G : h.Ns mainGlobals mg) (a : PySem.W.nsIn K mainGlobals x = some (some (.ref f)))
    (l : K.lookup f = some ⟨oc, od, .func (PySem.W.fnOf x x (defArgs st) (defBody st) (defScope st) .none kV doc pm an cdv ct), osl⟩)
    (c : PySem.W.codeIn K cdv x = true) (k : PySem.W.keepIn K (.ref f) = true)
    (hb : ∀ (kV doc pm : Value) (an : Option Addr) (cdv ct : Value) (us : List Value), us.length = ps.length → bindArgs (PySem.W.fnOf x x (defArgs st) (defBody st) (defScope st) .none kV doc pm an cdv ct) ⟨us, []⟩ = pure (ps.zip us)) : FnX K mg x st ps :=
  .mk' l c k (PySem.W.mg_of X G a) hb
/-- the law's own def -/
structure LawX (K : PySem.W.Frag) (mg : Str → Option Value) (st : Stmt) : Prop where
  ok : ∃ f fd, Fun K "law" "law" st f fd ∧ mg "law" = some (.ref f) ∧ ∀ (s : Shared) (u : Value), BindsTo s fd ⟨[u], []⟩ [("script", u)]
theorem LawX.of {h : Heap} {K : PySem.W.Frag} {mg : Str → Option Value} {st : Stmt} {f : Addr} {oc : Value} {od an : Option Addr} {osl : Array (Option Value)} {kV doc pm cdv ct : Value} (X : K.In h) (G : h.Ns mainGlobals mg) (a : PySem.W.nsIn K mainGlobals "law" = some (some (.ref f)))
    (l : K.lookup f = some ⟨oc, od, .func (PySem.W.fnOf "law" "law" (defArgs st) (defBody st) (defScope st) .none kV doc pm an cdv ct), osl⟩)
    (c : PySem.W.codeIn K cdv "law" = true) (k : PySem.W.keepIn K (.ref f) = true)
    (hb : ∀ (kV doc pm : Value) (an : Option Addr) (cdv ct : Value) (u : Value), bindArgs (PySem.W.fnOf "law" "law" (defArgs st) (defBody st) (defScope st) .none kV doc pm an cdv ct) ⟨[u], []⟩ = pure ([("script", u)] : List (Str × Value))) : LawX K mg st :=
  ⟨f, _, fun_mk l c k, PySem.W.mg_of X G a, fun s u => .of_eq (hb ..)⟩
theorem law_fin {l : PySem.W.OpenLaw} (mi : PySem.W.Frag → (Str → Option Value) → Mi) (hmi : ∀ K mg, (mi K mg).K = K) {k : Nat} {q : Program} {loose : List Str} {XP : (Str → Option Value) → Heap → Prop} {YP : World → Heap → Prop} {d : DefRec} {K : Params → PySem.W.Frag} {st : Stmt} {F : FD} (Txt : PySem.W.Frag → (Str → Option Value) → Prop) (hr : Room k callerA) (hn : l.most = some 63) (hdf : d.params.defaults = []) (hd : d.name = "law")
    (hY : ∀ (w : World) (h : Heap), YP w h → (K w.params).In h)
    (D : ∀ {P : Program} {w : World} {K : PySem.W.Frag} {mg : Str → Option Value} {base : Heap} {f : Addr} {fd : FuncData}, Txt K mg → Fun K "law" "law" st f fd → FnOk P w K mg base (L2.CX P w) k f fd ["script"] (spD (mi K mg) 1 F))
    (law : ∀ ns : List Int, ns.length ≤ 63 → F [.scr ns] [] = .ok (.d (.bool true)) [])
    (T : ∀ (w : World) (mg : Str → Option Value) (h : Heap), (K w.params).In h → h.Ns mainGlobals mg → Txt (K w.params) mg ∧ LawX (K w.params) mg st) :
    PySem.W.WalkO q loose XP YP l.row.toRowW d [] (fun f vs => PySem.call f vs) := by
  refine law_end (k := k) hr hn hdf hY fun w mg fa h KX G hmg => ?_
  obtain ⟨t, f, fd, Fn, hm, hb⟩ := T w mg h KX G
  rw [hd, hm] at hmg
  cases hmg
  exact ⟨fd, hb, fun base _ _ => law_sp (hmi _ _) (D t Fn) law⟩
end DL
/-! D9: the module's constants, read in the kernel. -/
namespace DL
open PySem L2
def tupOf : Option Obj → Option (List Value)
  | some ⟨.type "tuple", _, .seq its _, _⟩ => if its.size ≤ sizeLine then some its.toList else none
  | _ => none
def rdAll (f : Value → Option PyData) : List Value → Option (List PyData)
  | [] => some []
  | u :: us => (f u).bind fun d => (rdAll f us).bind fun ds => some (d :: ds)
def rdK (K : PySem.W.Frag) : Nat → Value → Option PyData
  | 0, _ => none
  | n + 1, u => match u with
    | .none => some .none
    | .bool b => some (.bool b)
    | .int i _ => some (.int i)
    | .str x _ => some (.str x)
    | .ref a => (tupOf (K.lookup a)).bind fun us => (rdAll (rdK K n) us).map .tuple
    | _ => none
theorem rdAll_ok {K : PySem.W.Frag} {f : Value → Option PyData} (hf : ∀ u d, f u = some d → ∃ v, RelV v u ∧ ∀ F, Rp K F v d) : ∀ us ds, rdAll f us = some ds → ∃ vs, Vals vs us ∧ ∀ F, RpAll K F vs ds
  | [], ds, e => by
    cases e
    exact ⟨[], .nil, fun _ => .nil⟩
  | u :: us, ds, e => by
    unfold rdAll at e
    cases h1 : f u with
    | none => rw [h1] at e; cases e
    | some d =>
      rw [h1] at e
      cases h2 : rdAll f us with
      | none => rw [h2] at e; cases e
      | some ds' =>
        rw [h2] at e
        cases e
        obtain ⟨v, r, hv⟩ := hf u d h1
        obtain ⟨vs, rs, hvs⟩ := rdAll_ok hf us ds' h2
        exact ⟨v :: vs, .cons r rs, fun F => .cons (hv F) (hvs F)⟩
theorem rdAll_len {f : Value → Option PyData} : ∀ us ds, rdAll f us = some ds → ds.length = us.length
  | [], ds, e => by cases e; rfl
  | u :: us, ds, e => by
    unfold rdAll at e
    cases h1 : f u with
    | none => rw [h1] at e; cases e
    | some d =>
      rw [h1] at e
      cases h2 : rdAll f us with
      | none => rw [h2] at e; cases e
      | some ds' =>
        rw [h2] at e
        cases e
        simp [rdAll_len us ds' h2]
theorem tupOf_ok {o : Option Obj} {us : List Value} (h : tupOf o = some us) : ∃ (o' : Obj) (its : Array Value) (n : Nat), o = some o' ∧ o'.cls = .type "tuple" ∧ o'.data = .seq its n ∧ its.size ≤ sizeLine ∧ its.toList = us := by
  unfold tupOf at h
  split at h
  · rename_i dd its n sl
    split at h
    · rename_i hz
      cases h
      exact ⟨_, its, n, rfl, rfl, rfl, hz, rfl⟩
    · cases h
  · cases h
theorem rdK_ok {K : PySem.W.Frag} : ∀ n u d, rdK K n u = some d → ∃ v, RelV v u ∧ ∀ F, Rp K F v d
  | 0, u, d, e => by cases e
  | n + 1, u, d, e => by
    unfold rdK at e
    split at e
    · cases e; exact ⟨.non, rfl, fun _ => .non⟩
    · cases e; exact ⟨.bl _, rfl, fun _ => .bl _⟩
    · cases e; exact ⟨.int _, ⟨_, rfl⟩, fun _ => .int _⟩
    · cases e; exact ⟨.str _, ⟨_, rfl⟩, fun _ => .str _⟩
    · rename_i a
      cases h : tupOf (K.lookup a) with
      | none => rw [h] at e; cases e
      | some us =>
        rw [h] at e
        cases h2 : rdAll (rdK K n) us with
        | none => simp [h2] at e
        | some ds =>
          simp [h2] at e
          subst e
          obtain ⟨vs, rs, hvs⟩ := rdAll_ok (rdK_ok n) us ds h2
          obtain ⟨o, its, m, e1, e2, e3, e4, e5⟩ := tupOf_ok h
          refine ⟨.ref a, rfl, fun F => .tup (.inr ⟨o, its, m, e1, e2, e3, e4, e5 ▸ rs⟩) ?_ (hvs F)⟩
          rw [rdAll_len us ds h2, ← e5]
          exact Nat.le_trans (by simp) (Nat.le_trans e4 (by decide))
    · cases e
theorem konst {h : Heap} {K : PySem.W.Frag} {mg : Str → Option Value} {x : Str} {u : Value} {d : PyData} (n : Nat) (X : K.In h) (G : h.Ns mainGlobals mg) (a : PySem.W.nsIn K mainGlobals x = some (some u)) (r : rdK K n u = some d) :
    ∃ (u : Value) (v : V), mg x = some u ∧ RelV v u ∧ ∀ F, Rp K F v d := by
  obtain ⟨v, e, hv⟩ := rdK_ok n u d r
  exact ⟨u, v, PySem.W.mg_of X G a, e, hv⟩
end DL
/-! D10: raise, try. -/
namespace DL
open PySem L2
/-- an own exception class over ValueError without an __init__ -/
structure ExF (K : PySem.W.Frag) (C : Addr) : Prop where
  q : PySem.W.excIn K C [.type "ValueError", .type "Exception", .type "BaseException", .type "object"] "ValueError.__new__" = true
  kp : PySem.W.keepIn K (.ref C) = true
  sb : PySem.W.subIn K (.ref C) (.type "BaseException") = some true
  ty : PySem.W.typeIn K (.ref C) = some (.type "type")
structure ExX (K : PySem.W.Frag) (mg : Str → Option Value) (cn : Str → Option Addr) (x : Str) : Prop where
  ok : ∃ C, cn x = some C ∧ mg x = some (.ref C) ∧ ExF K C
def cnOf (mg : Str → Option Value) : Str → Option Addr := fun x => match mg x with
  | some (.ref C) => some C
  | _ => none
theorem cnOf_ok {mg : Str → Option Value} {x : Str} {C : Addr} (h : mg x = some (.ref C)) : cnOf mg x = some C := by
  unfold cnOf
  rw [h]
def fRaise (c : Str) : SF := fun Γ S => .ok (.xc ⟨c, []⟩ Γ) S
theorem s_raise {X : Cx} {M : Mi} {W : WX} {x m : Str} {j : Nat} {p p2 pos pos' : Pos} (hc : X.calm = true) (tk : Takes X W) (E : ExX X.K X.mg M.cn x) (hg : Gl X x) (hdb : (x == ("__debug__" : Str)) = false := by decide) :
    DS X M W (.Raise (some (.Call (.Name x p) [.Constant (.str m) j p2] [] pos)) none pos') (fRaise x) := by
  obtain ⟨C, e1, e2, F⟩ := E.ok
  exact (ps_raise hc tk (pmk_own PySem.F.excBase_ValueError F.q e2 F.kp (raises_own F.sb F.ty) hg hdb)).weak fun D σ H ⟨g, Γ, S, r, v, p⟩ => p _ _ σ g H (Grow.refl _ _) r v ⟨C, e1, rfl, .inl ⟨rfl, rfl⟩⟩
/-- except X: which of the program's classes it catches -/
structure CatchX (K : PySem.W.Frag) (mg : Str → Option Value) (cn : Str → Option Addr) (x : Str) (ok : Str → Option Bool) : Prop where
  ok : ∃ C, mg x = some (.ref C) ∧ ∀ c b, ok c = some b → ∀ D, cn c = some D → PySem.W.exmOne K (.ref D) (.ref C) = some b
def endF (o : Out Fl) : Out Fl := match o with
  | .ok (.xc _ _) _ => .no
  | o => o
def fTry (ok : Str → Option Bool) (body suite : SF) : SF := fun Γ S => match body Γ S with
  | .ok (.xc x Γ') S' => match ok x.cls with
    | some true => endF (suite Γ' S')
    | some false => .ok (.xc x Γ') S'
    | none => .no
  | o => o
theorem PostS.end {M : Mi} {W W' : WX} {D : Ends} {g : Gh} {H : Hp} {o : Out Fl} (h : PostS M W D g H (endF o)) : PostS M W' D g H o := by
  cases o with
  | ok f S => cases f with
    | xc x Γ => exact h.elim
    | _ => exact h
  | ex x S => exact h
  | no => exact h
theorem s_try {X : Cx} {M : Mi} {Wout : WX} {x : Str} {body suite : List Stmt} {b₀ : Stmt} {np pos pos' : Pos} {ok : Str → Option Bool} {b su : SF} (hs : X.stack = X.env :: X.outer) (hf : X.env.frame = some X.env.locals) (hK : X.K = M.K) (E : CatchX X.K X.mg M.cn x ok) (hg : Gl X x) (tk : Takes X Wout)
    (hb : ∀ (W : WX) (pn : List (Addr × Obj)) (xe : Value → Shared → Prop), Takes (X.tr pn xe) W → PassesOwn (model X.prog X.w) X.A X.env xe → DSs (X.tr pn xe) M W body b)
    (hsu : ∀ (a : Addr) (oe : Obj) (cls : Value) (d : Option Addr) (pn : List (Addr × Obj)), Zc cls d oe → (∃ vs, oe.data = .fields vs) → DSs (X.suite a ((a, oe) :: pn)) M W0 (b₀ :: suite) su) (hdb : (x == ("__debug__" : Str)) = false := by decide) :
    DS X M Wout (.Try body [.ExceptHandler (some (.Name x np)) none (b₀ :: suite) pos'] [] [] pos) (fTry ok b su) := by
  obtain ⟨C, e1, e2⟩ := E.ok
  refine (ps_try_only (c := .ref C) (ts := fun _ _ _ => tS M W0 su) hs hf ⟨hg, hdb, .inl e1⟩ tk hb hsu).weak fun D σ H ⟨g, Γ, S, r, v, p⟩ => ⟨g, Γ, S, r, v, ?_⟩
  unfold fTry at p
  cases hbo : b Γ S with
  | no => rw [hbo] at p; exact p
  | ex y S' => rw [hbo] at p; exact p
  | ok f S' =>
    rw [hbo] at p
    cases f with
    | nx Γ' => exact p
    | rt w => exact p
    | bk Γ' => exact p
    | ct Γ' => exact p
    | xc y Γ' =>
      simp only at p
      intro cls d σ' g' H' gr r' v' q'
      obtain ⟨B, n1, rfl, q2⟩ := id q'
      cases ho : ok y.cls with
      | none => rw [ho] at p; exact p.elim
      | some t =>
        rw [ho] at p
        refine ⟨t, e2 _ _ ho _ n1, fun ht a na => ?_, fun ht => ?_⟩
        · subst ht
          exact ⟨g', Γ', S', r', v', (PostS.grow r' gr p).end⟩
        · subst ht
          exact p _ _ σ' g' H' gr r' v' q'
end DL
/-! D11: except X as n: return e. -/
namespace DL
open PySem L2
theorem RepX.sub {F F' : Hp} {K : PySem.W.Frag} (h : Sub F F') {fs : List (Str × PyData)} {d : Option Addr} (r : RepX F K fs d) : RepX F' K fs d := by
  rcases r with ⟨h1, h2⟩ | ⟨h0, dx, vs, h1, h2, h3⟩
  · exact .inl ⟨h1, h2⟩
  · refine .inr ⟨h0, dx, vs, h1, h _ _ h2, ?_⟩
    clear h2 h0
    induction h3 with
    | nil => exact .nil
    | cons a b ih => exact .cons ⟨a.1, Rp.sub h _ _ a.2⟩ ih
theorem Vars.hide {K : PySem.W.Frag} {g : Gh} {σ : St} {Γ : Ev} (h : Vars K g σ Γ) (i : Nat) (o : Option V) : Vars K g (σ.set i o) (Γ.set i none) := by
  refine ⟨by rw [List.length_set, List.length_set, h.len], fun j y e => ?_⟩
  by_cases hj : i = j
  · subst hj
    rw [List.getElem?_set] at e
    simp at e
  · rw [List.getElem?_set_ne hj] at e ⊢
    exact h.at_ j y e
/-- slot i holds the exception that the suite holds -/
structure HeldX (M : Mi) (i : Nat) (a : Addr) (cls : Value) (d : Option Addr) (x : Exc) (g : Gh) (σ : St) : Prop where
  slot : σ[i]? = some (some (.ref a))
  rep : XRep M g.F x cls d
theorem HeldX.grow {M : Mi} {i : Nat} {a : Addr} {cls : Value} {d : Option Addr} {x : Exc} {g g' : Gh} {H H' : Hp} {σ : St} (h : HeldX M i a cls d x g σ) (gr : Grow g H g' H') : HeldX M i a cls d x g' σ := by
  obtain ⟨C, h1, h2, h3⟩ := h.rep
  exact ⟨h.slot, C, h1, h2, RepX.sub gr.sub h3⟩
section
variable {X : Cx} {M : Mi} {i : Nat} {a : Addr} {cls : Value} {d : Option Addr} {x : Exc}
def tI2 {α β : Type} (M : Mi) (i : Nat) (a : Addr) (cls : Value) (d : Option Addr) (x : Exc) (R : Gh → β → α → Prop) (f : Ev → Store → Out α) : St → Hp → (β → Hp → Prop) → Prop := fun σ H Q =>
  ∃ g Γ S, Rel M.K g H S ∧ Vars M.K g σ Γ ∧ HeldX M i a cls d x g σ ∧ Post M W0 σ R Q g H (f Γ S)
abbrev DEi (X : Cx) (M : Mi) (i : Nat) (a : Addr) (cls : Value) (d : Option Addr) (x : Exc) (e : Expr) (f : EF) : Prop := PE X e (tI2 M i a cls d x (rS M) f)
abbrev DTi (X : Cx) (M : Mi) (i : Nat) (a : Addr) (cls : Value) (d : Option Addr) (x : Exc) (e : Expr) (f : TF) : Prop := PT X e (tI2 M i a cls d x rB f)
abbrev DAi (X : Cx) (M : Mi) (i : Nat) (a : Addr) (cls : Value) (d : Option Addr) (x : Exc) (e : List Expr) (f : AF) : Prop := PA X e (tI2 M i a cls d x (rA M) f)
theorem di_lift {e : Expr} {f : EF} (h : DE X M W0 e f) : DEi X M i a cls d x e f := h.weak fun σ H Q ⟨g, Γ, S, r, v, _, p⟩ => ⟨g, Γ, S, r, v, p⟩
theorem stepI {α β γ δ : Type} {R : Gh → β → α → Prop} {R2 : Gh → δ → γ → Prop} {f : Ev → Store → Out α} {k : α → Store → Out γ} {Q2 : δ → Hp → Prop} {Q : β → Hp → Prop} {σ : St} {H : Hp} {g : Gh} {Γ : Ev} {S : Store} (r : Rel M.K g H S) (v : Vars M.K g σ Γ) (hx : HeldX M i a cls d x g σ)
    (p : Post M W0 σ R2 Q2 g H ((f Γ S).bind k)) (h : ∀ u H1 g1 S1 b, Grow g H g1 H1 → Rel M.K g1 H1 S1 → Vars M.K g1 σ Γ → HeldX M i a cls d x g1 σ → R g1 u b → Post M W0 σ R2 Q2 g1 H1 (k b S1) → Q u H1) : tI2 M i a cls d x R f σ H Q :=
  ⟨g, Γ, S, r, v, hx, (Post.bind (R := R) p).imp fun u H1 ⟨g1, S1, b, gr, r1, q1, p1⟩ => h u H1 g1 S1 b gr r1 (gr.vars v) (hx.grow gr) q1 p1⟩
theorem dai_nil : DAi X M i a cls d x [] aNil := pa_nil.weak fun σ H Q h => by
  obtain ⟨g, Γ, S, r0, v0, _, p⟩ := h
  exact Post.now p r0 .nil
theorem dai_cons {e : Expr} {es : List Expr} {f : EF} {r : AF} (he : DEi X M i a cls d x e f) (hr : DAi X M i a cls d x es r) (hs : starEach (e :: es) X.env = (false, eval e X.env) :: starEach es X.env := by rfl) : DAi X M i a cls d x (e :: es) (aCons f r) :=
  (pa_cons he hr hs).weak fun σ H Q h => by
    obtain ⟨g, Γ, S, r0, v0, x0, p⟩ := h
    refine stepI r0 v0 x0 p fun u H1 g1 S1 v gr r1 v1 x1 q1 p1 => stepI r1 v1 x1 p1 fun us H2 g2 S2 vs gr2 r2 v2 x2 q2 p2 => ?_
    exact p2.now r2 (.cons (gr2.rep q1) q2)
theorem di_tup {es : List Expr} {k : Nat} {pos : Pos} {f : AF} (h : DAi X M i a cls d x es f) : DEi X M i a cls d x (.Tuple es k pos) (eTup f) :=
  (pe_tup h).weak fun σ H Q h => by
    obtain ⟨g, Γ, S, r0, v0, x0, p⟩ := h
    refine stepI r0 v0 x0 p fun us H1 g1 S1 vs gr r1 v1 x1 q1 p1 => ?_
    split at p1
    · rename_i ds e
      split at p1
      · rename_i hz
        have t := allD_ok q1 e
        exact ⟨by rw [t.len]; exact hz, lay_tup r1 hz t p1⟩
      · exact p1.elim
    · exact p1.elim
theorem di_if {c e1 e2 : Expr} {pos : Pos} {t : TF} {f1 f2 : EF} (hc : DTi X M i a cls d x c t) (h1 : DEi X M i a cls d x e1 f1) (h2 : DEi X M i a cls d x e2 f2) : DEi X M i a cls d x (.IfExp c e1 e2 pos) (eIf t f1 f2) :=
  (pe_ifExp hc h1 h2).weak fun σ H Q h => by
    obtain ⟨g, Γ, S, r0, v0, x0, p⟩ := h
    refine stepI r0 v0 x0 p fun u H1 g1 S1 v gr r1 v1 x1 q1 p1 => ?_
    cases q1
    cases u with
    | true => exact ⟨g1, Γ, S1, r1, v1, x1, p1⟩
    | false => exact ⟨g1, Γ, S1, r1, v1, x1, p1⟩
theorem ti_tru (hK : X.K = M.K) {e : Expr} {f : EF} (ha : DEi X M i a cls d x e f) (he : ∀ whole, isTrue e X.env whole = (do let v ← whole; standAt e.pos; holding [v] (truthy v)) := by intro _; rfl) : DTi X M i a cls d x e (tru f) :=
  (pt_truth ha he).weak fun σ H Q h => by
    obtain ⟨g, Γ, S, r0, v0, x0, p⟩ := h
    refine stepI r0 v0 x0 p fun u H1 g1 S1 v gr r1 v1 x1 q1 p1 => ?_
    split at p1
    · rename_i k e
      exact ⟨k, by rw [hK]; exact truS_ok r1 q1 e, p1.now r1 rfl⟩
    · exact p1.elim
/-- n.f -/
def eXf (x : Exc) (f : Str) : EF := fun Γ S => match x.fs.lookup f with
  | some y => .ok (.d y) S
  | none => .no
theorem lookup_pair {K : PySem.W.Frag} {F : Hp} {n : Str} : ∀ {vs : List (Str × V)} {fs : List (Str × PyData)} {y : PyData}, Paired (fun (p : Str × V) (q : Str × PyData) => p.1 = q.1 ∧ Rp K F p.2 q.2) vs fs → fs.lookup n = some y → ∃ v, vs.lookup n = some v ∧ Rp K F v y
  | _, _, _, .nil, e => by cases e
  | (k, v) :: vs, (k', y') :: fs, y, .cons h t, e => by
    obtain ⟨h1, h2⟩ := h
    simp only at h1 h2
    subst h1
    rw [List.lookup_cons] at e ⊢
    cases hb : n == k with
    | true =>
      rw [hb] at e
      cases e
      exact ⟨v, rfl, h2⟩
    | false =>
      rw [hb] at e
      exact lookup_pair t e
end
/-- the classes whose instances' fields may be read: f is no attribute of the class -/
structure FieldX (K : PySem.W.Frag) (cn : Str → Option Addr) (c f : Str) : Prop where
  ok : ∀ C, cn c = some C → XfC K C ∧ PySem.W.findIn K (.ref C) f = some none
theorem di_xf {X : Cx} {M : Mi} {i : Nat} {a : Addr} {cls : Value} {d : Option Addr} {x : Exc} {oe : Obj} {pn : List (Addr × Obj)} {n f : Str} {p pos : Pos} (hK : X.K = M.K) (T : FieldX X.K M.cn x.cls f) (hz : Zc cls d oe) (hf : ∃ vs, oe.data = .fields vs)
    (hv : PE (X.suite a ((a, oe) :: pn)) (.Name n p) (tVar i)) (hb : attributeBase (.Name n p) f X.env (eval (.Name n p) X.env) = eval (.Name n p) X.env := by rfl) :
    DEi (X.suite a ((a, oe) :: pn)) M i a cls d x (.Attribute (.Name n p) f pos) (eXf x f) := by
  refine ⟨fun pins s σ H Q I h => ?_⟩
  obtain ⟨g, Γ, S, r, v, hx, p⟩ := h
  obtain ⟨C, e1, e2, e3⟩ := hx.rep
  obtain ⟨T1, T2⟩ := T.ok C e1
  refine (pe_xf T1 T2 hz hf hv hb).run pins s σ H Q I ?_
  refine ⟨.ref a, hx.slot, rfl, e2, ?_⟩
  unfold eXf at p
  cases hl : x.fs.lookup f with
  | none => rw [hl] at p; exact p.elim
  | some y =>
    rw [hl] at p
    rcases e3 with ⟨h1, _⟩ | ⟨_, dx, vs, h1, h2, h3⟩
    · rw [h1] at hl; cases hl
    · obtain ⟨w, hw, rw'⟩ := lookup_pair h3 hl
      exact ⟨dx, vs, w, h1, r.sub _ _ h2, hw, p.now r rw'⟩
/-- isinstance(n, C) -/
structure IsX (K : PySem.W.Frag) (mg : Str → Option Value) (cn : Str → Option Addr) (x : Str) (ok : Str → Option Bool) : Prop where
  ok : ∃ C, mg x = some (.ref C) ∧ ∀ c b, ok c = some b → ∀ D, cn c = some D → ExcC K D ∧ PySem.W.kitOne K (.ref D) (.ref C) = some b
def eIsX (x : Exc) (ok : Str → Option Bool) : EF := fun Γ S => match x.fs, ok x.cls with
  | [], some b => .ok (.d (.bool b)) S
  | _, _ => .no
theorem di_isx {X : Cx} {M : Mi} {i : Nat} {a : Addr} {cls : Value} {d : Option Addr} {x : Exc} {oe : Obj} {pn : List (Addr × Obj)} {n c : Str} {p p2 p3 pos : Pos} {ok : Str → Option Bool} (hK : X.K = M.K) (T : IsX X.K X.mg M.cn c ok) (hz : Zc cls d oe) (hf : ∃ vs, oe.data = .fields vs) (hg : Gl X "isinstance") (hm : X.mg "isinstance" = none) (hc : Gl X c) (hdb : (c == ("__debug__" : Str)) = false)
    (hv : PE (X.suite a ((a, oe) :: pn)) (.Name n p) (tVar i)) (he : starEach [.Name n p, .Name c p2] X.env = (false, eval (.Name n p) X.env) :: starEach [.Name c p2] X.env := by rfl) (he2 : starEach [.Name c p2] X.env = (false, eval (.Name c p2) X.env) :: starEach [] X.env := by rfl) (hpl : (backTo pos (starEach [.Name c p2] X.env)).any (·.1) = false := by rfl) :
    DEi (X.suite a ((a, oe) :: pn)) M i a cls d x (.Call (.Name "isinstance" p3) [.Name n p, .Name c p2] [] pos) (eIsX x ok) := by
  refine ⟨fun pins s σ H Q I h => ?_⟩
  obtain ⟨g, Γ, S, r, v, hx, q⟩ := h
  obtain ⟨D, e1, e2, e3⟩ := hx.rep
  obtain ⟨C, c1, c2⟩ := T.ok
  unfold eIsX at q
  split at q
  · rename_i b h1 h2
    have ed : d = none := by
      rcases e3 with ⟨_, h⟩ | ⟨h, _⟩
      · exact h
      · exact absurd h1 h
    subst ed
    subst e2
    obtain ⟨k1, k2⟩ := c2 _ _ h2 _ e1
    refine (pe_callB (X := X.suite a ((a, oe) :: pn)) (r := rIsE X.K D a) (call_isE k1 hz hf) hg hm (by decide +kernel) (pa_cons hv (pa_cons (pe_glob (X := X.suite a ((a, oe) :: pn)) (v := .ref C) hc c1 rfl hdb) pa_nil he2) he) (by decide) (by decide) he hpl).run pins s σ H Q I ?_
    exact ⟨.ref a, hx.slot, .ref C, .ref C, b, rfl, fun u hu => hu, k2, q.now r (.bl _)⟩
  · exact q.elim
/-- try: body / except X as n: return e -/
def fTryRet (ok : Str → Option Bool) (i : Nat) (body : SF) (su : Exc → EF) : SF := fun Γ S => match body Γ S with
  | .ok (.xc x Γ') S' => match ok x.cls with
    | some true => if i < Γ'.length then (match su x (Γ'.set i none) S' with
      | .ok v S'' => .ok (.rt v) S''
      | _ => .no) else .no
    | some false => .ok (.xc x Γ') S'
    | none => .no
  | o => o
theorem s_tryRet {X : Cx} {M : Mi} {Wout : WX} {i : Nat} {x n : Str} {body : List Stmt} {e : Expr} {np rp pos pos' : Pos} {ok : Str → Option Bool} {b : SF} {su : Exc → EF} (hs : X.stack = X.env :: X.outer) (hf : X.env.frame = some X.env.locals) (hN : X.N.Nodup) (hi : X.N[i]? = some n) (hln : X.env.kindOf n = some .local) (hK : X.K = M.K) (E : CatchX X.K X.mg M.cn x ok) (hg : Gl X x) (tk : Takes X Wout)
    (hb : ∀ (W : WX) (pn : List (Addr × Obj)) (xe : Value → Shared → Prop), Takes (X.tr pn xe) W → PassesOwn (model X.prog X.w) X.A X.env xe → DSs (X.tr pn xe) M W body b)
    (hsu : ∀ (a : Addr) (oe : Obj) (cls : Value) (d : Option Addr) (pn : List (Addr × Obj)) (x : Exc), Zc cls d oe → (∃ vs, oe.data = .fields vs) → DEi (X.suite a ((a, oe) :: pn)) M i a cls d x e (su x)) (hdb : (x == ("__debug__" : Str)) = false := by decide) :
    DS X M Wout (.Try body [.ExceptHandler (some (.Name x np)) (some n) [.Return (some e) rp] pos'] [] [] pos) (fTryRet ok i b su) := by
  obtain ⟨C, e1, e2⟩ := E.ok
  refine (ps_try_as (c := .ref C) (i := i) (ts := fun a cls d D σ H => ∃ x, tI2 M i a cls d x (rS M) (su x) σ H fun u H' => D.rt u H') hs hf hN hi hln ⟨hg, hdb, .inl e1⟩ tk hb (fun a oe cls d pn hz hf => ?_)).weak fun D σ H ⟨g, Γ, S, r, v, p⟩ => ⟨g, Γ, S, r, v, ?_⟩
  · refine ⟨fun pins s σ H D I h => ?_⟩
    obtain ⟨x, h⟩ := h
    exact (pss_one (ps_ret (hsu a oe cls d pn x hz hf))).run pins s σ H D I h
  unfold fTryRet at p
  cases hbo : b Γ S with
  | no => rw [hbo] at p; exact p
  | ex y S' => rw [hbo] at p; exact p
  | ok f S' =>
    rw [hbo] at p
    cases f with
    | nx Γ' => exact p
    | rt w => exact p
    | bk Γ' => exact p
    | ct Γ' => exact p
    | xc y Γ' =>
      simp only at p
      intro cls d σ' g' H' gr r' v' q'
      obtain ⟨B, n1, rfl, q2⟩ := id q'
      cases ho : ok y.cls with
      | none => rw [ho] at p; exact p.elim
      | some t =>
        rw [ho] at p
        refine ⟨t, e2 _ _ ho _ n1, fun ht a na => ?_, fun ht => ?_⟩
        · subst ht
          simp only at p
          by_cases hiΓ : i < Γ'.length
          case neg => rw [if_neg hiΓ] at p; exact p.elim
          rw [if_pos hiΓ] at p
          cases hsx : su y (Γ'.set i none) S' with
          | no => rw [hsx] at p; exact p.elim
          | ex z S2 => rw [hsx] at p; exact p.elim
          | ok w S2 =>
            rw [hsx] at p
            have hl : i < σ'.length := by rw [v'.len]; exact hiΓ
            refine ⟨y, g', Γ'.set i none, S', r', ?_, ⟨List.getElem?_set_self hl, B, n1, rfl, q2⟩, ?_⟩
            · exact v'.hide i _
            · rw [hsx]
              exact fun u g2 H2 gr2 r2 q3 => p u g2 H2 (gr.trans r' gr2) r2 q3
        · subst ht
          exact p _ _ σ' g' H' gr r' v' q'
end DL
/-! D12: the facts of exception classes, at the end. -/
namespace DL
open PySem L2
def miX (K : PySem.W.Frag) (mg : Str → Option Value) : Mi := ⟨K, cnOf mg⟩
def okL (l : List (Str × Bool)) : Str → Option Bool := fun c => l.lookup c
def AllC (mg : Str → Option Value) (f : Addr → Bool → Prop) : List (Str × Bool) → Prop
  | [] => True
  | (c, b) :: r => (∃ D, mg c = some (.ref D) ∧ f D b) ∧ AllC mg f r
theorem AllC.at {mg : Str → Option Value} {f : Addr → Bool → Prop} : ∀ {l : List (Str × Bool)}, AllC mg f l → ∀ c b, okL l c = some b → ∀ D, cnOf mg c = some D → f D b
  | [], _, c, b, h, _, _ => by cases h
  | (c', b') :: r, h, c, b, e, D, eD => by
    obtain ⟨⟨D', m', f'⟩, hr⟩ := h
    unfold okL at e
    rw [List.lookup_cons] at e
    cases hb : c == c' with
    | true =>
      rw [hb] at e
      cases e
      have := eq_of_beq hb
      subst this
      rw [cnOf_ok m'] at eD
      cases eD
      exact f'
    | false =>
      rw [hb] at e
      exact AllC.at hr c b e D eD
theorem ExX.of {K : PySem.W.Frag} {h : Heap} {mg : Str → Option Value} {x : Str} {C : Addr} (X : K.In h) (G : h.Ns mainGlobals mg) (a : PySem.W.nsIn K mainGlobals x = some (some (.ref C)))
    (q : PySem.W.excIn K C [.type "ValueError", .type "Exception", .type "BaseException", .type "object"] "ValueError.__new__" = true) (kp : PySem.W.keepIn K (.ref C) = true) (sb : PySem.W.subIn K (.ref C) (.type "BaseException") = some true) (ty : PySem.W.typeIn K (.ref C) = some (.type "type")) : ExX K mg (cnOf mg) x :=
  ⟨C, cnOf_ok (PySem.W.mg_of X G a), PySem.W.mg_of X G a, q, kp, sb, ty⟩
theorem CatchX.of {K : PySem.W.Frag} {h : Heap} {mg : Str → Option Value} {x : Str} {C : Addr} {l : List (Str × Bool)} (X : K.In h) (G : h.Ns mainGlobals mg) (a : PySem.W.nsIn K mainGlobals x = some (some (.ref C))) (sb : PySem.W.subIn K (.ref C) (.type "BaseException") = some true) (hd : PySem.W.hasDictIn K C = true) (ty : PySem.W.typeIn K (.ref C) = some (.type "type"))
    (al : AllC mg (fun D b => PySem.W.subIn K (.ref D) (.ref C) = some b) l) : CatchX K mg (cnOf mg) x (okL l) :=
  ⟨C, PySem.W.mg_of X G a, fun c b e D eD => PySem.W.exm_ref sb hd ty (al.at c b e D eD)⟩
theorem IsX.of {K : PySem.W.Frag} {h : Heap} {mg : Str → Option Value} {x : Str} {C : Addr} {l : List (Str × Bool)} (X : K.In h) (G : h.Ns mainGlobals mg) (a : PySem.W.nsIn K mainGlobals x = some (some (.ref C)))
    (al : AllC mg (fun D b => ExcC K D ∧ PySem.W.kitOne K (.ref D) (.ref C) = some b) l) : IsX K mg (cnOf mg) x (okL l) :=
  ⟨C, PySem.W.mg_of X G a, fun c b e D eD => al.at c b e D eD⟩
end DL
/-! D13: comprehensions with two generators. -/
namespace DL
open PySem L2
def lc2L (ok : Store → Bool) (gf : GF) (tf : TF) (f1 : IF) (gf1 : GF) (tf1 : TF) (ef : EF) (vs vs1 : List Nat) (Γ : Ev) : List PyData → Store → Out (List PyData)
  | [], S => if ok S then .ok [] S else .no
  | d :: ds, S => if ok S then (match gf (.d d) (wipeE Γ vs) S with
    | .ok Γ1 S1 => match tf Γ1 S1 with
      | .ok true S2 => match f1 Γ1 S2 with
        | .ok s1 S3 => (lcL s1.ok gf1 tf1 ef vs1 Γ1 s1.items S3).bind fun xs S4 => (lc2L ok gf tf f1 gf1 tf1 ef vs vs1 Γ ds S4).bind fun ys S => .ok (xs ++ ys) S
        | _ => .no
      | .ok false S2 => lc2L ok gf tf f1 gf1 tf1 ef vs vs1 Γ ds S2
      | _ => .no
    | _ => .no) else .no
def finZ (fin : List PyData → Store → Out SV) : List PyData → Store → Out SV := fun xs S => if xs.length ≤ 16777216 then fin xs S else .no
def eLc2 (fin : List PyData → Store → Out SV) (f : IF) (gf : GF) (tf : TF) (f1 : IF) (gf1 : GF) (tf1 : TF) (ef : EF) (vs vs1 : List Nat) : EF := fun Γ S => (f Γ S).bind fun s S => match lc2L s.ok gf tf f1 gf1 tf1 ef vs vs1 Γ s.items S with
  | .ok xs S => finZ fin xs S
  | _ => .no
section
variable {X : Cx} {M : Mi} {W : WX} {T T1 : List Nat} {tg iter tg1 iter1 elt : Expr} {ifs ifs1 : List Expr} {f f1 : IF} {gf gf1 : GF} {tf tf1 : TF} {ef : EF} {pos : Pos} {scope : Scope} {own : List (Str × Nat)} {vs1 : List Nat}
theorem keepD {K : PySem.W.Frag} {D : Addr} {ga gb : Gh} {Ha Hb : Hp} {Sa : Store} (ra : Rel K ga Ha Sa) (gb' : Grow ga Ha gb Hb) (k1 : ga.F D = none) (k2 : D ∉ ga.B) (k3 : ∃ vs, Ha D = some (.lst vs)) : gb.F D = none ∧ D ∉ gb.B ∧ Hb D = Ha D := by
  obtain ⟨ws, k3⟩ := k3
  refine ⟨?_, fun hm => ?_, by rw [gb'.frm D _ k3 k2, k3]⟩
  · cases q : gb.F D with
    | none => rfl
    | some o =>
      rcases gb'.newF D o q with z | z
      · rw [k1] at z; cases z
      · rw [k3] at z; cases z
  · rcases gb'.newB D hm with z | z
    · exact k2 z
    · rw [k3] at z; cases z
/-- the list that is made: where it stands, what it holds -/
structure Making (M : Mi) (D : Addr) (g1 : Gh) (H1 : Hp) (g : Gh) (H : Hp) (S : Store) (acc : List PyData) : Prop where
  r : Rel M.K g H S
  gr : Grow g1 H1 g H
  hF : g.F D = none
  hB : D ∉ g.B
  vs : ∃ vs, H D = some (.lst vs) ∧ RpAll M.K g.F vs acc
theorem Making.step {D : Addr} {g1 g g' : Gh} {H1 H H' : Hp} {S S' : Store} {acc : List PyData} (m : Making M D g1 H1 g H S acc) (gr : Grow g H g' H') (r' : Rel M.K g' H' S') : Making M D g1 H1 g' H' S' acc := by
  obtain ⟨vs, hD, t⟩ := m.vs
  obtain ⟨a1, a2, a3⟩ := keepD m.r gr m.hF m.hB ⟨vs, hD⟩
  exact ⟨r', m.gr.trans m.r gr, a1, a2, vs, by rw [a3]; exact hD, RpAll.sub gr.sub _ _ t⟩
theorem Making.put {D : Addr} {g1 g : Gh} {H1 H : Hp} {S : Store} {acc : List PyData} (m : Making M D g1 H1 g H S acc) (hD0 : H1 D = none) {y : V} {x : PyData} (q : Rp M.K g.F y x) : ∃ vs, H D = some (.lst vs) ∧ vs.length = acc.length ∧ Making M D g1 H1 g (upd H D (.lst (vs ++ [y]))) S (acc ++ [x]) := by
  obtain ⟨vs, hD, t⟩ := m.vs
  have ne : ∀ b ∈ g.B, b ≠ D := fun b hb e => m.hB (e ▸ hb)
  refine ⟨vs, hD, t.len, ⟨fun b o e => ?_, m.r.nd, m.r.dis, m.r.len, fun j b mm e1 e2 => ?_⟩, ⟨m.gr.pre, m.gr.sub, fun b o e hb => ?_, m.gr.newB, m.gr.newF⟩, m.hF, m.hB, _, upd_same, t.append (.cons q .nil)⟩
  · rw [upd_ne (fun z => by rw [z, m.hF] at e; cases e)]; exact m.r.sub _ _ e
  · rw [upd_ne (ne b (List.mem_of_getElem? e1))]; exact m.r.at_ j b mm e1 e2
  · rw [upd_ne (ne_of_none e hD0)]; exact m.gr.frm b o e hb
theorem lcL_ok {ok : Store → Bool} {ds : List PyData} {vs : List Nat} {Γ : Ev} {S : Store} {xs : List PyData} {S' : Store} (h : lcL ok gf tf ef vs Γ ds S = .ok xs S') : ok S = true := by
  cases ds with
  | nil =>
    unfold lcL at h
    cases ho : ok S with
    | true => rfl
    | false => rw [ho] at h; cases h
  | cons d ds =>
    unfold lcL at h
    cases ho : ok S with
    | true => rfl
    | false => rw [ho] at h; cases h
theorem lc2L_ok {ok : Store → Bool} {ds : List PyData} {vs : List Nat} {Γ : Ev} {S : Store} {xs : List PyData} {S' : Store} (h : lc2L ok gf tf f1 gf1 tf1 ef vs vs1 Γ ds S = .ok xs S') : ok S = true := by
  cases ds with
  | nil =>
    unfold lc2L at h
    cases ho : ok S with
    | true => rfl
    | false => rw [ho] at h; cases h
  | cons d ds =>
    unfold lc2L at h
    cases ho : ok S with
    | true => rfl
    | false => rw [ho] at h; cases h
theorem lc2_of {fin : List PyData → Store → Out SV} (hf : Fin M fin) (hT : ∀ j ∈ T, j ∈ own.map (·.2)) (hT1 : ∀ j ∈ T1, j ∈ vs1) {σ : St} {H : Hp} {Q : VK} (h : tE M W (eLc2 fin f gf tf f1 gf1 tf1 ef (own.map (·.2)) vs1) σ H Q) :
    tLc2 (tI M W f) (tT1 M T gf) (tT M W0 tf) (tI M W0 f1) (tT1 M T1 gf1) (tT M W0 tf1) (tE M W0 ef) (own.map (·.2)) vs1 σ H Q := by
  obtain ⟨g0, Γ, S0, r0, v0, p0⟩ := h
  unfold eLc2 at p0
  refine DL.step r0 v0 p0 fun J H1 g1 S1 s gr1 r1 v1 q1 p1 => ?_
  obtain ⟨hz, hit⟩ := q1
  intro D hD
  obtain ⟨hFD, hBD⟩ := r1.free hD
  obtain ⟨rD, grD⟩ := Rel.lay r1 hD (.lst [])
  obtain ⟨xs, S', hl, p1⟩ : ∃ xs S', lc2L s.ok gf tf f1 gf1 tf1 ef (own.map (·.2)) vs1 Γ s.items S1 = .ok xs S' ∧ Post M W σ (rS M) Q g1 H1 (finZ fin xs S') := by
    cases hl : lc2L s.ok gf tf f1 gf1 tf1 ef (own.map (·.2)) vs1 Γ s.items S1 with
    | ok xs S' => rw [hl] at p1; exact ⟨xs, S', rfl, p1⟩
    | ex y S' => rw [hl] at p1; exact p1.elim
    | no => rw [hl] at p1; exact p1.elim
  refine ⟨fun i m H => m = s.items.length - i ∧ i ≤ s.items.length ∧ ∃ g S acc xs S', Making M D g1 H1 g H S acc ∧ lc2L s.ok gf tf f1 gf1 tf1 ef (own.map (·.2)) vs1 Γ (s.items.drop i) S = .ok xs S' ∧ Post M W σ (rS M) Q g1 H1 (finZ fin (acc ++ xs) S'),
    ⟨_, rfl, Nat.zero_le _, g1, S1, [], xs, S', ⟨rD, grD, hFD, hBD, [], upd_same, .nil⟩, by rw [List.drop_zero]; exact hl, p1⟩, ?_⟩
  rintro i m H2 ⟨rfl, hi, g, S, acc, xs, S', mk, hl, p⟩
  have hok := lc2L_ok hl
  obtain ⟨hst, hgo⟩ := hit g H2 S mk.r mk.gr.pre mk.gr.sub hok
  by_cases hlt : i < s.items.length
  · have e : s.items[i]? = some s.items[i] := List.getElem?_eq_getElem hlt
    obtain ⟨go, yl⟩ := hgo i _ e
    rw [List.drop_eq_getElem_cons hlt] at hl
    unfold lc2L at hl
    rw [if_pos hok] at hl
    refine .inr ⟨go, fun H' => ∃ g S acc xs S', Making M D g1 H1 g H' S acc ∧ lc2L s.ok gf tf f1 gf1 tf1 ef (own.map (·.2)) vs1 Γ (s.items.drop (i + 1)) S = .ok xs S' ∧ Post M W σ (rS M) Q g1 H1 (finZ fin (acc ++ xs) S'), fun H' h => ⟨s.items.length - (i + 1), by omega, rfl, hlt, h⟩, fun x H' y => ?_⟩
    obtain ⟨g', gr', r', rp⟩ := yl x H' y
    have mk' := mk.step gr' r'
    have vσ : Vars M.K g' (wipe σ (own.map (·.2))) (wipeE Γ (own.map (·.2))) := mk'.gr.vars v1 |>.wipe _
    refine ⟨g', _, S, .d s.items[i], r', vσ, rp, ?_⟩
    cases h1 : gf (.d s.items[i]) (wipeE Γ (own.map (·.2))) S with
    | ex x S' => rw [h1] at hl; cases hl
    | no => rw [h1] at hl; cases hl
    | ok Γ1 S1' =>
      rw [h1] at hl
      intro σ2 g2 H3 t2 gr2 r2 v2
      refine ⟨wipe_only t2 hT, ?_⟩
      have mk2 := mk'.step gr2 r2
      refine ⟨g2, Γ1, S1', r2, v2, ?_⟩
      cases h2 : tf Γ1 S1' with
      | ex x S' => simp only [h2] at hl; cases hl
      | no => simp only [h2] at hl; cases hl
      | ok b S2 =>
        intro u g3 H4 gr3 r3 q3
        obtain rfl : u = b := q3
        have mk3 := mk2.step gr3 r3
        cases u with
        | false =>
          simp only [h2] at hl
          exact iteF ⟨g3, S2, acc, xs, S', mk3, hl, p⟩
        | true =>
          simp only [h2] at hl
          refine iteT ⟨g3, Γ1, S2, r3, gr3.vars v2, ?_⟩
          cases h3 : f1 Γ1 S2 with
          | ex x S' => rw [h3] at hl; cases hl
          | no => rw [h3] at hl; cases hl
          | ok s1 S3 =>
            rw [h3] at hl
            intro J1 g4 H5 gr4 r4 q4
            obtain ⟨hz1, hit1⟩ := q4
            have mk4 := mk3.step gr4 r4
            have v4 := gr4.vars (gr3.vars v2)
            obtain ⟨zs, S4, ys, S5, hl1, hl2, rfl, rfl⟩ : ∃ zs S4 ys S5, lcL s1.ok gf1 tf1 ef vs1 Γ1 s1.items S3 = .ok zs S4 ∧ lc2L s.ok gf tf f1 gf1 tf1 ef (own.map (·.2)) vs1 Γ (s.items.drop (i + 1)) S4 = .ok ys S5 ∧ xs = zs ++ ys ∧ S' = S5 := by
              cases ha : lcL s1.ok gf1 tf1 ef vs1 Γ1 s1.items S3 with
              | ex x S' => simp only [ha, Out.bind] at hl; cases hl
              | no => simp only [ha, Out.bind] at hl; cases hl
              | ok zs S4 =>
                cases hb : lc2L s.ok gf tf f1 gf1 tf1 ef (own.map (·.2)) vs1 Γ (s.items.drop (i + 1)) S4 with
                | ex x S' => simp only [ha, hb, Out.bind] at hl; cases hl
                | no => simp only [ha, hb, Out.bind] at hl; cases hl
                | ok ys S5 =>
                  simp only [ha, hb, Out.bind] at hl
                  injection hl with h1 h2
                  exact ⟨zs, S4, ys, S5, rfl, hb, h1.symm, h2.symm⟩
            refine ⟨fun j k H => k = s1.items.length - j ∧ j ≤ s1.items.length ∧ ∃ g S acc zs S4 ys S5, Making M D g1 H1 g H S acc ∧ Vars M.K g σ2 Γ1 ∧ (∃ C, g.B = g4.B ++ C) ∧ Sub g4.F g.F ∧ lcL s1.ok gf1 tf1 ef vs1 Γ1 (s1.items.drop j) S = .ok zs S4 ∧
                lc2L s.ok gf tf f1 gf1 tf1 ef (own.map (·.2)) vs1 Γ (s.items.drop (i + 1)) S4 = .ok ys S5 ∧ Post M W σ (rS M) Q g1 H1 (finZ fin (acc ++ (zs ++ ys)) S5),
              ⟨_, rfl, Nat.zero_le _, g4, S3, acc, zs, S4, ys, S', mk4, v4, ⟨[], by simp⟩, fun _ _ h => h, by rw [List.drop_zero]; exact hl1, hl2, p⟩, ?_⟩
            rintro j k H6 ⟨rfl, hj, g, S, acc, zs, S4, ys, S5, mk, v, hpre, hsub, hl1, hl2, p⟩
            have hok1 := lcL_ok hl1
            obtain ⟨hst1, hgo1⟩ := hit1 g H6 S mk.r hpre hsub hok1
            by_cases hlt1 : j < s1.items.length
            · have e1 : s1.items[j]? = some s1.items[j] := List.getElem?_eq_getElem hlt1
              obtain ⟨go1, yl1⟩ := hgo1 j _ e1
              rw [List.drop_eq_getElem_cons hlt1] at hl1
              unfold lcL at hl1
              rw [if_pos hok1] at hl1
              refine .inr ⟨go1, fun H' => ∃ g S acc zs S4 ys S5, Making M D g1 H1 g H' S acc ∧ Vars M.K g σ2 Γ1 ∧ (∃ C, g.B = g4.B ++ C) ∧ Sub g4.F g.F ∧ lcL s1.ok gf1 tf1 ef vs1 Γ1 (s1.items.drop (j + 1)) S = .ok zs S4 ∧
                lc2L s.ok gf tf f1 gf1 tf1 ef (own.map (·.2)) vs1 Γ (s.items.drop (i + 1)) S4 = .ok ys S5 ∧ Post M W σ (rS M) Q g1 H1 (finZ fin (acc ++ (zs ++ ys)) S5), fun H' h => ⟨s1.items.length - (j + 1), by omega, rfl, hlt1, h⟩, fun x H' y => ?_⟩
              obtain ⟨g5, gr5, r5, rp5⟩ := yl1 x H' y
              have ext : ∀ {ga gb : Gh} {Ha Hb : Hp}, Grow ga Ha gb Hb → (∃ C, ga.B = g4.B ++ C) → Sub g4.F ga.F → (∃ C, gb.B = g4.B ++ C) ∧ Sub g4.F gb.F := fun {ga gb Ha Hb} gr ⟨C, h1⟩ h2 => by
                obtain ⟨C', h3⟩ := gr.pre
                exact ⟨⟨C ++ C', by rw [h3, h1, List.append_assoc]⟩, fun b o e => gr.sub _ _ (h2 _ _ e)⟩
              have mk5 := mk.step gr5 r5
              obtain ⟨pre5, sub5⟩ := ext gr5 hpre hsub
              have v5 := gr5.vars v
              refine ⟨g5, _, S, .d s1.items[j], r5, v5.wipe _, rp5, ?_⟩
              cases k1 : gf1 (.d s1.items[j]) (wipeE Γ1 vs1) S with
              | ex x S' => rw [k1] at hl1; cases hl1
              | no => rw [k1] at hl1; cases hl1
              | ok Γ2 S2' =>
                rw [k1] at hl1
                intro σ3 g6 H7 t6 gr6 r6 v6
                refine ⟨wipe_only t6 hT1, ?_⟩
                have mk6 := mk5.step gr6 r6
                obtain ⟨pre6, sub6⟩ := ext gr6 pre5 sub5
                refine ⟨g6, Γ2, S2', r6, v6, ?_⟩
                cases k2 : tf1 Γ2 S2' with
                | ex x S' => simp only [k2] at hl1; cases hl1
                | no => simp only [k2] at hl1; cases hl1
                | ok b S7 =>
                  intro u g7 H8 gr7 r7 q7
                  obtain rfl : u = b := q7
                  have mk7 := mk6.step gr7 r7
                  obtain ⟨pre7, sub7⟩ := ext gr7 pre6 sub6
                  have v7 := gr7.vars (gr6.vars v5)
                  cases u with
                  | false =>
                    simp only [k2] at hl1
                    exact iteF ⟨g7, S7, acc, zs, S4, ys, S5, mk7, v7, pre7, sub7, hl1, hl2, p⟩
                  | true =>
                    simp only [k2] at hl1
                    refine iteT ⟨g7, Γ2, S7, r7, gr7.vars v6, ?_⟩
                    cases k3 : ef Γ2 S7 with
                    | ex x S' => rw [k3] at hl1; cases hl1
                    | no => rw [k3] at hl1; cases hl1
                    | ok z S8 =>
                      cases z with
                      | cell _ => rw [k3] at hl1; cases hl1
                      | scr _ => rw [k3] at hl1; cases hl1
                      | d w =>
                        rw [k3] at hl1
                        intro y2 g8 H9 gr8 r8 q8
                        have mk8 := mk7.step gr8 r8
                        obtain ⟨pre8, sub8⟩ := ext gr8 pre7 sub7
                        obtain ⟨vs, hDv, hlen, mk9⟩ := mk8.put hD q8
                        obtain ⟨zs', hl3, rfl⟩ : ∃ zs', lcL s1.ok gf1 tf1 ef vs1 Γ1 (s1.items.drop (j + 1)) S8 = .ok zs' S4 ∧ zs = w :: zs' := by
                          cases ha : lcL s1.ok gf1 tf1 ef vs1 Γ1 (s1.items.drop (j + 1)) S8 with
                          | ex x S' => simp only [ha, Out.bind] at hl1; cases hl1
                          | no => simp only [ha, Out.bind] at hl1; cases hl1
                          | ok zs' S9 =>
                            simp only [ha, Out.bind] at hl1
                            injection hl1 with h1 h2
                            subst h2
                            exact ⟨zs', rfl, h1.symm⟩
                        have hbound : acc.length < 16777216 := by
                          unfold finZ at p
                          split at p
                          · rename_i h
                            simp only [List.length_append, List.length_cons] at h
                            omega
                          · exact p.elim
                        refine ⟨vs, hDv, by rw [hlen, sizeLine_eq]; exact hbound, g8, S8, acc ++ [w], zs', S4, ys, S5, mk9, gr8.vars v7, pre8, sub8, hl3, hl2, ?_⟩
                        have e9 : acc ++ [w] ++ (zs' ++ ys) = acc ++ (w :: zs' ++ ys) := by simp
                        rw [e9]
                        exact p
            · have e1 : j = s1.items.length := by omega
              subst e1
              rw [List.drop_length] at hl1
              unfold lcL at hl1
              rw [if_pos hok1] at hl1
              cases hl1
              refine .inl ⟨hst1, g, _, acc, ys, S5, mk, hl2, ?_⟩
              exact p
  · have e : i = s.items.length := by omega
    subst e
    rw [List.drop_length] at hl
    unfold lc2L at hl
    rw [if_pos hok] at hl
    cases hl
    refine .inl ⟨hst, ?_⟩
    rw [List.append_nil] at p
    unfold finZ at p
    split at p
    · rename_i hz2
      obtain ⟨vs, hDv, t⟩ := mk.vs
      exact hf W σ Q g1 H1 g H2 S D vs acc mk.r mk.gr hD hDv mk.hF mk.hB hz2 t p
    · exact p.elim
theorem d_lc2 {fin : List PyData → Store → Out SV} (hf : Fin M fin) (hT : ∀ j ∈ T, j ∈ own.map (·.2)) (hT1 : ∀ j ∈ T1, j ∈ vs1) (hv : ∀ i ∈ vs1, i ∈ own.map (·.2)) (hc : X.calm = true) (hN : X.N.Nodup) (hi : DI X M W tg iter f) (ok : BlkOk X.N X.env.scope scope own)
    (hg : ∀ (s : Shared) (H : Hp) (C : Addr) (cl : List (Str × Addr)) (fp : List Addr), DG (X.blk s H scope (compEnvC scope cl C X.env) fp) M T tg gf) (ht : ∀ (s : Shared) (H : Hp) (C : Addr) (cl : List (Str × Addr)) (fp : List Addr), PTs (X.blk s H scope (compEnvC scope cl C X.env) fp) ifs (tT M W0 tf))
    (hi1 : ∀ (s : Shared) (H : Hp) (C : Addr) (cl : List (Str × Addr)) (fp : List Addr), DI (X.blk s H scope (compEnvC scope cl C X.env) fp) M W0 tg1 iter1 f1)
    (hg1 : ∀ (s : Shared) (H : Hp) (C : Addr) (cl : List (Str × Addr)) (fp : List Addr), DG (X.blk s H scope (compEnvC scope cl C X.env) fp) M T1 tg1 gf1) (ht1 : ∀ (s : Shared) (H : Hp) (C : Addr) (cl : List (Str × Addr)) (fp : List Addr), PTs (X.blk s H scope (compEnvC scope cl C X.env) fp) ifs1 (tT M W0 tf1))
    (he : ∀ (s : Shared) (H : Hp) (C : Addr) (cl : List (Str × Addr)) (fp : List Addr), DE (X.blk s H scope (compEnvC scope cl C X.env) fp) M W0 elt ef) (hs : ∀ x, foldedSetIterable iter X.env x = pure x := by intro _; rfl) (hs1 : ∀ env x, foldedSetIterable iter1 env x = pure x := by intro _ _; rfl) :
    DE X M W (.ListComp elt [⟨tg, iter, ifs, 0⟩, ⟨tg1, iter1, ifs1, 0⟩] scope pos) (eLc2 fin f gf tf f1 gf1 tf1 ef (own.map (·.2)) vs1) := (pe_lc2 hc hN hi ok hv hg ht hi1 hg1 ht1 he hs hs1).weak fun _ _ _ h => lc2_of hf hT hT1 h
theorem s_setLc2 {fin : List PyData → Store → Out SV} (hf : Fin M fin) {i : Nat} {y : Str} {py spos : Pos} (hT : ∀ j ∈ T, j ∈ own.map (·.2)) (hT1 : ∀ j ∈ T1, j ∈ vs1) (hv : ∀ i ∈ vs1, i ∈ own.map (·.2)) (hc : X.calm = true) (hN : X.N.Nodup) (hy : X.N[i]? = some y) (hyl : X.env.scope.names.lookup y = some .local)
    (hsw : swapsWith (.ListComp elt [⟨tg, iter, ifs, 0⟩, ⟨tg1, iter1, ifs1, 0⟩] scope pos) (some (.Name y py)) spos.line X.env = pure true) (hi : DI X M W tg iter f) (ok : BlkOk X.N X.env.scope scope own)
    (hg : ∀ (s : Shared) (H : Hp) (C : Addr) (cl : List (Str × Addr)) (fp : List Addr), DG (X.blk s H scope (compEnvC scope cl C X.env) fp) M T tg gf) (ht : ∀ (s : Shared) (H : Hp) (C : Addr) (cl : List (Str × Addr)) (fp : List Addr), PTs (X.blk s H scope (compEnvC scope cl C X.env) fp) ifs (tT M W0 tf))
    (hi1 : ∀ (s : Shared) (H : Hp) (C : Addr) (cl : List (Str × Addr)) (fp : List Addr), DI (X.blk s H scope (compEnvC scope cl C X.env) fp) M W0 tg1 iter1 f1)
    (hg1 : ∀ (s : Shared) (H : Hp) (C : Addr) (cl : List (Str × Addr)) (fp : List Addr), DG (X.blk s H scope (compEnvC scope cl C X.env) fp) M T1 tg1 gf1) (ht1 : ∀ (s : Shared) (H : Hp) (C : Addr) (cl : List (Str × Addr)) (fp : List Addr), PTs (X.blk s H scope (compEnvC scope cl C X.env) fp) ifs1 (tT M W0 tf1))
    (he : ∀ (s : Shared) (H : Hp) (C : Addr) (cl : List (Str × Addr)) (fp : List Addr), DE (X.blk s H scope (compEnvC scope cl C X.env) fp) M W0 elt ef) (hs : ∀ x, foldedSetIterable iter X.env x = pure x := by intro _; rfl) (hs1 : ∀ env x, foldedSetIterable iter1 env x = pure x := by intro _ _; rfl) :
    DS X M W (.Assign [.Name y py] (.ListComp elt [⟨tg, iter, ifs, 0⟩, ⟨tg1, iter1, ifs1, 0⟩] scope pos) spos) (fSet i (eLc2 fin f gf tf f1 gf1 tf1 ef (own.map (·.2)) vs1)) := (ps_setLc2 hc hN hy hyl hsw hi ok hv hg ht hi1 hg1 ht1 he hs hs1).weak fun _ _ _ h => set_of (fun _ _ _ h => lc2_of hf hT hT1 h) h
end
end DL
/-! D14: sorted. -/
namespace DL
open PySem L2 PySem.Calls PyProof.Rows PySem.W
section
variable {prog : Program} {w : World} {A : Around} {E : Value → Shared → Prop} {s : Shared}
theorem collect_tup {l : Addr} {vs : List Value} {o : Obj} {n : Nat} {Q : List Value → Shared → Prop} (ho : s.heap.get? l = some o) (hc : o.cls = .type "tuple") (hd : o.data = .seq vs.toArray n)
    (h : Q vs { s with heap := (s.heap.push (seqObj "list" #[] 0)).update s.heap.objs.size (Obj.mapSeq (· ++ vs.toArray)) }) (hsz : vs.length ≤ sizeLine) :
    wpAny (model prog w) A (collect (.ref l)) Q E s := by
  unfold collect
  refine wpAny_bind (wpAny_runValue (codeAny_builtin entry_proto_collect' ?_))
  show wpAny _ _ (do again (.builtin "list.__iadd__" ⟨[← newList [], .ref l], []⟩)) _ _ s
  refine wpAny_bind (wpAny_newList (wpAny_pure ⟨Code.quiet_builtin _ (by decide +kernel), codeAny_builtin entry_list_iadd' ?_⟩))
  show wpAny _ _ (Builtin.List.listExtendWith (.ref s.heap.objs.size) (.ref l) (.ref s.heap.objs.size)) _ _ { s with heap := s.heap.push (seqObj "list" #[] 0) }
  unfold Builtin.List.listExtendWith
  have ho' : (s.heap.push (seqObj "list" #[] 0)).get? l = some o := Heap.get?_push_of_some _ ho
  refine wpAny_bind (wpAny_typeOf (T := "tuple") ⟨o, ho', hc⟩ ?_)
  have ht : (Value.type "tuple" == Value.type "tuple") = true := by rfl
  rw [if_pos (by rw [ht]; simp)]
  refine wpAny_bind (listItems_at ho' hd ?_)
  refine wpAny_bind (listItems_at (xs := #[]) (n := 0) (Heap.get?_push_size _ rfl) rfl ?_)
  rw [if_neg (by simp)]
  refine wpAny_bind (listUpdate_at (xs := #[]) (n := 0) (Heap.get?_push_size _ rfl) rfl ?_ (Nat.zero_le _) (by show (#[] ++ vs.toArray).size ≤ sizeLine + 1; simp only [Array.size_append, List.size_toArray, List.length_nil]; omega))
  refine wpAny_pure ?_
  show wpAny (model prog w) A (do
      let o ← load s.heap.objs.size
      match o.data with
      | .seq xs _ => pure xs.toList
      | _ => unsupported "internal:collect") Q E { s with heap := (s.heap.push (seqObj "list" #[] 0)).update s.heap.objs.size (Obj.mapSeq (· ++ vs.toArray)) }
  refine wpAny_bind (wpAny_load (get?_update_seq (Heap.get?_push_size _ rfl) _) ?_)
  show wpAny _ _ (pure ((#[] : Array Value) ++ vs.toArray).toList) Q E _
  rw [show ((#[] : Array Value) ++ vs.toArray).toList = vs by simp]
  exact wpAny_pure h
/-- sorted(a tuple) is list.sort of a new list of its items -/
theorem sorted_of_tup {l : Addr} {vs : List Value} {o : Obj} {n : Nat} {Q : Value → Shared → Prop} (ho : s.heap.get? l = some o) (hc : o.cls = .type "tuple") (hd : o.data = .seq vs.toArray n) (hL : vs.length ≤ sizeLine)
    (body : ∀ E' : Value → Shared → Prop, wpAny (model prog w) A.in1.in1 (Builtin.«list.sort» ⟨[.ref (s.heap.objs.size + 1)], []⟩) (fun f s' => f = .done (.ret .none) ∧ Q (.ref (s.heap.objs.size + 1)) s') E' { s with heap := copyHeap s.heap vs }) :
    wpAny (model prog w) A (call (.builtin "sorted") [.ref l]) Q E s := by
  refine call_function_entry_kw kind_sorted plain_sorted entry_sorted (args_sorted1 _) ?_
  unfold Builtin.«sorted»
  refine wpAny_bind (m := checkCount "sorted" 1 1 _) (wpAny_pure ?_)
  refine wpAny_bind (collect_tup ho hc hd ?_ hL)
  refine wpAny_bind (wpAny_newList ?_ hL)
  have hsz : ((s.heap.push (seqObj "list" #[] 0)).update s.heap.objs.size (Obj.mapSeq (· ++ vs.toArray))).objs.size = s.heap.objs.size + 1 := by
    rw [Heap.size_update, size_push']
  show wpAny _ _ _ _ _ { s with heap := copyHeap s.heap vs }
  rw [hsz]
  refine wpAny_bind (wpAny_holding (wpAny_call_entry_kw slot_list_sort ⟨_, copyHeap_at s.heap vs, rfl⟩ entry_list_sort ?body (args_list_sort _)))
  case body =>
    show wpAny (model prog w) A.in1.in1 (Builtin.«list.sort» ⟨[.ref (s.heap.objs.size + 1)], []⟩) _ _ _
    refine wpAny_mono (body _) (fun f s' hf => ?_) fun _ _ e => e
    obtain ⟨rfl, hq⟩ := hf
    exact ⟨_, rfl, wpAny_pure ⟨_, rfl, hq⟩⟩
theorem sorted_tup_data {l : Addr} {o : Obj} {n : Nat} {vs : List Value} {bs : List PyData} {R : Value → PyData → Prop} {Q : Value → Shared → Prop} (ho : s.heap.get? l = some o) (hc : o.cls = .type "tuple") (hd : o.data = .seq vs.toArray n) (e : EachIs R vs bs) (er : EachIs (fun v b => ∃ as, Reads s.heap v (id b) as) vs bs) (hal : AllAlike (bs.map id)) (hk : Sortable (bs.map id)) (hL : bs.length ≤ sizeLine)
    (hu : ∀ b, b ∈ bs → A.units + 2 + (id b).depth < cLine) (h : ∀ out, out.length = bs.length → EachIs R out (bs.mergeSort (dataLe false id)) → Q (.ref (s.heap.objs.size + 1)) { s with heap := sortedAll s.heap vs (List.toArray out) }) :
    wpAny (model prog w) A (call (.builtin "sorted") [.ref l]) Q E s := by
  have er' : EachIs (fun v b => ∃ as, Reads (sortingHeap (copyHeap s.heap vs) (s.heap.objs.size + 1) vs) v (id b) as) vs bs := er.mono fun _ _ ⟨as, r⟩ => ⟨as, PyProof.Rows.Reads.keeps (fun _ _ => sorting_copy_old) r⟩
  have hL' : vs.length ≤ sizeLine := by rw [e.length]; exact hL
  exact sorted_of_tup ho hc hd hL' fun _ => list_sort_vals (s := { s with heap := copyHeap s.heap vs }) (copyHeap_at s.heap vs) (SortsAt.data (s := { s with heap := sortingHeap (copyHeap s.heap vs) (s.heap.objs.size + 1) vs }) (each_map (R := fun v d => ∃ as, Reads (sortingHeap (copyHeap s.heap vs) (s.heap.objs.size + 1) vs) v d as) id er') hal hk (bound_map hu)) hL'
    ⟨rfl, h _ (by rw [sortVals_length false rfl]; exact e.length) (sortVals_data false e er' hal)⟩
end
theorem each_of {R : V → PyData → Prop} : ∀ {vs : List V} {us : List Value} {ds : List PyData}, Vals vs us → Paired R vs ds → EachIs (fun u d => ∃ v, RelV v u ∧ R v d) us ds
  | _, _, _, .nil, .nil => .nil
  | _, _, _, .cons a b, .cons c d => .cons ⟨_, a, c⟩ (each_of b d)
theorem each_back {R : V → PyData → Prop} : ∀ {us : List Value} {ds : List PyData}, EachIs (fun u d => ∃ v, RelV v u ∧ R v d) us ds → ∃ vs, Vals vs us ∧ Paired R vs ds
  | _, _, .nil => ⟨[], .nil, .nil⟩
  | _, _, .cons ⟨v, a, c⟩ d => by
    obtain ⟨vs, h1, h2⟩ := each_back d
    exact ⟨v :: vs, .cons a h1, .cons c h2⟩
theorem each_reads {h : Heap} : ∀ {us : List Value} {ds : List PyData} {as : List Addr}, ReadsAll h us ds as → EachIs (fun v b => ∃ as, Reads h v (id b) as) us ds
  | _, _, _, .nil => .nil
  | _, _, _, .cons a b => .cons ⟨_, a⟩ (each_reads b)
def rSortD (K : PySem.W.Frag) : List V → Hp → VK → Prop := fun us H Q => ∃ (a : Addr) (vs : List V) (ds : List PyData) (R : V → PyData → Prop), us = [.ref a] ∧ (SqL K H a vs ∨ SqT K H a vs) ∧ DpAll K H vs ds ∧ Paired R vs ds ∧ AllAlike ds ∧ Sortable ds ∧ (∀ d ∈ ds, d.depth ≤ 62) ∧
  ∀ p vs', H p = none → Paired R vs' (ds.mergeSort (dataLe false id)) → Q (.ref p) (upd H p (.lst vs'))
theorem cr_sortedD {X : Cx} (hu : X.A.units + 65 < cLine) : CallR X (.builtin "sorted") (rSortD X.K) := by
  intro pins s σ H xs us Q I r h
  obtain ⟨a, vs, ds, R, rfl, hs, hd, hp, hal, hk, hdep, q⟩ := h
  rw [Vals.ref1 r]
  have fin : ∀ (its : List Value), Vals vs its → its.length ≤ sizeLine → ∀ out : List Value, out.length = ds.length → EachIs (fun u d => ∃ v, RelV v u ∧ R v d) out (ds.mergeSort (dataLe false id)) → EP X pins σ Q (.ref (s.heap.objs.size + 1)) { s with heap := sortedAll s.heap its (List.toArray out) } := by
    intro its rv hz out ho he
    obtain ⟨vs', h1, h2⟩ := each_back he
    obtain ⟨ep, he'⟩ := PyProof.Rows.sortedAll_at s.heap its out.toArray
    have hlen : vs'.length ≤ sizeLine := by
      rw [h1.length, ho, ← hp.length, rv.length]
      exact hz
    exact ⟨.ref _, upd H (s.heap.objs.size + 1) (.lst vs'), I.laid (t' := s.toks) (fun _ _ => PyProof.Rows.sortedAll_old) (Nat.le_succ _) ⟨hlen, out, ep, h1, he'⟩, rfl, q _ _ (I.hok.fresh (Nat.le_succ _)) h2⟩
  rcases hs with hs | hs
  · obtain ⟨its, rv, ⟨o, n, ho, hc', hd', hdt⟩, hz⟩ := I.list hs
    obtain ⟨as, hr⟩ := Dp.readsAll I ds _ its hd rv
    have hlen : ds.length ≤ sizeLine := by rw [← hp.length]; exact hz
    refine PySem.W.sorted_data (enc := id) (PlainL.isList ⟨o, n, ho, hc', hd', by simpa using hdt⟩) (each_of rv hp) (each_reads hr) (by rw [List.map_id]; exact hal) (by rw [List.map_id]; exact hk) hlen (fun b hb => ?_) fun out h1 h2 => fin its rv (by rw [← rv.length, hp.length]; exact hlen) out h1 h2
    have := hdep b hb
    show X.A.units + 2 + b.depth < cLine
    omega
  · obtain ⟨its, rv, ⟨o, ho, hc', n, hd'⟩, hz⟩ := I.tuple hs
    obtain ⟨as, hr⟩ := Dp.readsAll I ds _ its hd rv
    have hlen : ds.length ≤ sizeLine := by rw [← hp.length]; exact hz
    refine sorted_tup_data ho hc' hd' (each_of rv hp) (each_reads hr) (by rw [List.map_id]; exact hal) (by rw [List.map_id]; exact hk) hlen (fun b hb => ?_) fun out h1 h2 => fin its rv (by rw [← rv.length, hp.length]; exact hlen) out h1 h2
    have := hdep b hb
    show X.A.units + 2 + b.depth < cLine
    omega
/-- all are whole numbers, or all are tuples of whole numbers with an item at least -/
def isInt : PyData → Bool
  | .int _ => true
  | _ => false
def isRow : PyData → Bool
  | .tuple (x :: xs) => isInt x && xs.all isInt
  | _ => false
def sortC (ds : List PyData) : Bool := ds.all isInt || ds.all isRow
theorem isInt_ok {d : PyData} (h : isInt d = true) : ∃ i, d = .int i := by
  cases d <;> simp [isInt] at h ⊢
theorem alike_ints : ∀ {xs ys : List PyData}, xs.all isInt = true → ys.all isInt = true → alikeAll xs ys = true
  | [], _, _, _ => by simp [alikeAll]
  | _ :: _, [], _, _ => by simp [alikeAll]
  | x :: xs, y :: ys, h1, h2 => by
    rw [List.all_cons, Bool.and_eq_true] at h1 h2
    obtain ⟨i, rfl⟩ := isInt_ok h1.1
    obtain ⟨j, rfl⟩ := isInt_ok h2.1
    simp only [alikeAll, alike, Bool.true_and]
    exact alike_ints h1.2 h2.2
theorem isRow_ok {d : PyData} (h : isRow d = true) : ∃ x xs, d = .tuple (x :: xs) ∧ (x :: xs).all isInt = true := by
  cases d with
  | tuple ys =>
    cases ys with
    | nil => simp [isRow] at h
    | cons x xs => exact ⟨x, xs, rfl, by simpa [isRow] using h⟩
  | _ => simp [isRow] at h
theorem sortC_ok {ds : List PyData} (h : sortC ds = true) : AllAlike ds ∧ Sortable ds := by
  unfold sortC at h
  rcases Bool.or_eq_true_iff.mp h with h | h
  · have k := List.all_eq_true.mp h
    refine ⟨fun d hd d' hd' => ?_, .inr fun d hd => ?_⟩
    · obtain ⟨i, rfl⟩ := isInt_ok (k d hd)
      obtain ⟨j, rfl⟩ := isInt_ok (k d' hd')
      simp [alike]
    · obtain ⟨i, rfl⟩ := isInt_ok (k d hd)
      exact ⟨(fun z => by cases z), fun _ z => by cases z⟩
  · have k := List.all_eq_true.mp h
    refine ⟨fun d hd d' hd' => ?_, .inl fun d hd => ?_⟩
    · obtain ⟨x, xs, rfl, e⟩ := isRow_ok (k d hd)
      obtain ⟨y, ys, rfl, e'⟩ := isRow_ok (k d' hd')
      simp only [alike]
      exact alike_ints e e'
    · obtain ⟨x, xs, rfl, e⟩ := isRow_ok (k d hd)
      exact ⟨x, xs, rfl⟩
theorem plain_ints : ∀ {xs : List PyData}, xs.all isInt = true → PyData.plainAll xs = true
  | [], _ => by simp [PyData.plainAll]
  | x :: xs, h => by
    rw [List.all_cons, Bool.and_eq_true] at h
    obtain ⟨i, rfl⟩ := isInt_ok h.1
    simp [PyData.plainAll, PyData.plain, plain_ints h.2]
theorem plain_rows : ∀ {xs : List PyData}, xs.all isRow = true → PyData.plainAll xs = true
  | [], _ => by simp [PyData.plainAll]
  | x :: xs, h => by
    rw [List.all_cons, Bool.and_eq_true] at h
    obtain ⟨y, ys, rfl, e⟩ := isRow_ok h.1
    rw [PyData.plainAll, PyData.plain, plain_ints e, plain_rows h.2, Bool.and_self]
theorem sortC_plain {ds : List PyData} (h : sortC ds = true) : PyData.plainAll ds = true := by
  unfold sortC at h
  rcases Bool.or_eq_true_iff.mp h with h | h
  · exact plain_ints h
  · exact plain_rows h
def srtD (ds : List PyData) : List PyData := ds.mergeSort (dataLe false id)
def sortS (fin : List PyData → Store → Out SV) : List SV → Store → Out SV := fun vs S => match vs with
  | [v] => match asD v S with
    | some (.list xs) => if sortC xs && xs.all (fun d => decide (d.depth ≤ 62)) then fin (srtD xs) S else .no
    | some (.tuple xs) => if sortC xs && xs.all (fun d => decide (d.depth ≤ 62)) then fin (srtD xs) S else .no
    | _ => .no
  | _ => .no
theorem paired_of {K : PySem.W.Frag} {F : Hp} : ∀ {vs : List V} {ds : List PyData}, RpAll K F vs ds → Paired (Rp K F) vs ds
  | _, _, .nil => .nil
  | _, _, .cons a b => .cons a (paired_of b)
theorem of_paired {K : PySem.W.Frag} {F : Hp} : ∀ {vs : List V} {ds : List PyData}, Paired (Rp K F) vs ds → RpAll K F vs ds
  | _, _, .nil => .nil
  | _, _, .cons a b => .cons a (of_paired b)
theorem sat_sort {M : Mi} {fin : List PyData → Store → Out SV} (hf : Fin M fin) : SatA M (rSortD M.K) (sortS fin) := by
  intro W σ Q g H S us vs r q p
  unfold sortS at p
  split at p
  · cases q with
    | cons q1 q2 =>
      cases q2
      split at p
      · rename_i xs e1
        split at p
        · rename_i hc
          obtain ⟨h1, h2⟩ := Bool.and_eq_true_iff.mp hc
          obtain ⟨k1, k2⟩ := sortC_ok h1
          obtain ⟨a, ws, rfl, hl, t1, hz⟩ := asD_list r q1 e1
          exact ⟨a, ws, xs, Rp M.K g.F, rfl, .inl (SqL.of hl), RpAll.dp r.sub _ _ (sortC_plain h1) t1, paired_of t1, k1, k2, fun d hd => of_decide_eq_true (List.all_eq_true.mp h2 d hd), fun p' vs' hp' h' => hf.lay r (by rw [List.length_mergeSort]; exact hz) (of_paired h') p p' hp'⟩
        · exact p.elim
      · rename_i xs e1
        split at p
        · rename_i hc
          obtain ⟨h1, h2⟩ := Bool.and_eq_true_iff.mp hc
          obtain ⟨k1, k2⟩ := sortC_ok h1
          obtain ⟨a, ws, rfl, hl, t1, _, hz⟩ := asD_tup q1 e1
          exact ⟨a, ws, xs, Rp M.K g.F, rfl, .inr (SqT.sub r.sub hl), RpAll.dp r.sub _ _ (sortC_plain h1) t1, paired_of t1, k1, k2, fun d hd => of_decide_eq_true (List.all_eq_true.mp h2 d hd), fun p' vs' hp' h' => hf.lay r (by rw [List.length_mergeSort]; exact hz) (of_paired h') p p' hp'⟩
        · exact p.elim
      · exact p.elim
  · exact p.elim
theorem d_sorted {X : Cx} {M : Mi} {W : WX} {a : Expr} {fa : EF} {p pos : Pos} (hK : X.K = M.K) (hu : X.A.units + 65 < cLine) {fin : List PyData → Store → Out SV} (hf : Fin M fin) (hg : Gl X "sorted") (hm : X.mg "sorted" = none) (ha : DE X M W a fa) (he : starEach [a] X.env = (false, eval a X.env) :: starEach [] X.env := by rfl) (hpl : (backTo pos (starEach [] X.env)).any (·.1) = false := by rfl) :
    DE X M W (.Call (.Name "sorted" p) [a] [] pos) (eCall (sortS fin) (aCons fa aNil)) :=
  d_callB (by rw [← hK]; exact cr_sortedD hu) (sat_sort hf) hg hm (by decide +kernel) (da_cons ha da_nil he) (by decide) (by decide) he hpl
end DL
/-! D15: sum. -/
namespace DL
open PySem L2
def intsD : List PyData → Option (List Int)
  | [] => some []
  | .int i :: r => (intsD r).map (i :: ·)
  | _ :: _ => none
theorem intsD_ok : ∀ {ds : List PyData} {ns : List Int}, intsD ds = some ns → ds = ns.map .int
  | [], _, h => by cases h; rfl
  | d :: ds, ns, h => by
    cases d with
    | int i =>
      unfold intsD at h
      cases h2 : intsD ds with
      | none => rw [h2] at h; cases h
      | some ms =>
        rw [h2] at h
        cases h
        rw [intsD_ok h2]
        rfl
    | _ => cases h
theorem intsV : ∀ {K : PySem.W.Frag} {F : Hp} {vs : List V} {ns : List Int}, RpAll K F vs (ns.map .int) → vs = ns.map V.int
  | _, _, _, [], .nil => rfl
  | _, _, _, n :: ns, .cons a b => by
    cases a
    rw [intsV b]
    rfl
def sumS : List SV → Store → Out SV := fun vs S => match vs with
  | [v] => match asD v S with
    | some (.list xs) => match intsD xs with
      | some ns => .ok (.d (.int ns.sum)) S
      | none => .no
    | _ => .no
  | _ => .no
theorem sat_sum {M : Mi} : SatA M (rSum M.K) sumS := by
  intro W σ Q g H S us vs r q p
  unfold sumS at p
  split at p
  · cases q with
    | cons q1 q2 =>
      cases q2
      split at p
      · rename_i xs e1
        split at p
        · rename_i ns hn
          obtain rfl := intsD_ok hn
          obtain ⟨a, ws, rfl, hl, t1, hz⟩ := asD_list r q1 e1
          obtain rfl := intsV t1
          exact ⟨a, ns, rfl, SqL.of hl, p.now r (.int _)⟩
        · exact p.elim
      · exact p.elim
  · exact p.elim
theorem d_sum {X : Cx} {M : Mi} {W : WX} {a : Expr} {fa : EF} {p pos : Pos} (hK : X.K = M.K) (hc : X.calm = true) (hg : Gl X "sum") (hm : X.mg "sum" = none) (ha : DE X M W a fa) (he : starEach [a] X.env = (false, eval a X.env) :: starEach [] X.env := by rfl) (hpl : (backTo pos (starEach [] X.env)).any (·.1) = false := by rfl) :
    DE X M W (.Call (.Name "sum" p) [a] [] pos) (eCall sumS (aCons fa aNil)) :=
  d_callB (by rw [← hK]; exact cr_sum hc) sat_sum hg hm (by decide +kernel) (da_cons ha da_nil he) (by decide) (by decide) he hpl
end DL
/-! D16: the empty dict; errors with a field: super().__init__(n); self.f = n. -/
namespace DL
open PySem L2
theorem d_dict0 {X : Cx} {M : Mi} {W : WX} {pos : Pos} : DE X M W (.Dict [] [] pos) (eC (.dict [])) := pe_dnewK.weak fun σ H Q h => by
  obtain ⟨g, Γ, S, r, v, p⟩ := h
  intro q hq
  obtain ⟨r', gr⟩ := r.frz hq (.dK [])
  exact p _ _ _ gr r' (Rp.dct upd_same)

/-! ### the __init__ -/
abbrev initB (n f : Str) (p0 p1 p2 p3 p4 p5 p6 p7 p8 p9 : Pos) : List Stmt :=
  [.Expr (.Call (.Attribute (.Call (.Name "super" p0) [] [] p1) "__init__" p2) [.Name n p3] [] p4) p5, .Assign [.Attribute (.Name "self" p6) f p7] (.Name n p8) p9]
theorem ns_keep {h h' : Heap} {L : Addr} {m : Str → Option Value} (n : h.Ns L m) (k : ∀ o, h.get? L = some o → h'.get? L = some o) : h'.Ns L m := let ⟨o, es, ep, e, r⟩ := n; ⟨o, es, ep, k o e, r⟩
def mwo (x : Addr) : Obj := PySem.W.kxs_mw "ValueError.__init__" x
section
open PySem.W PySem.Calls PyProof.Rows
theorem call_mw {prog : Program} {w : World} {A : Around} {E : Value → Shared → Prop} {h : Heap} {g : Array GenState} {d : Drawn} {t : Nat} {os : OsState}
    {nm q : Str} {C N : Addr} {bs bm : List Value} {hdct : Bool} {sn : List Str} {sub : List Value} {ab : Bool} {col : Option Bool} {dd : Option Addr} {k0 k1 k2 k3 k5 : Option Value}
    {u e t0 : Addr} {rest : List Value} {Q : Value → Shared → Prop}
    (hC : h.get? C = some (excClassObj nm q C N bs bm hdct sn sub ab col dd k0 k1 k2 k3 k5 "ValueError.__new__")) (he : h.get? e = some (excRec (.ref C) t0 none .none .none (.bool false))) (hu : h.get? u = some (mwo e)) (hrest : rest.length ≤ sizeLine)
    (hq : ∀ h' t1, (∀ b o, b ≠ e → h.get? b = some o → h'.get? b = some o) → h'.get? e = some (excRec (.ref C) t1 none .none .none (.bool false)) → Q .none ⟨h', g, d, t, os⟩) :
    wpAny (model prog w) A (call (.ref u) rest) Q E ⟨h, g, d, t, os⟩ := by
  refine wpAny_call (codeAny_of_tree ?_)
  show wpAny _ A.in1 (callAny (.ref u) ⟨rest, []⟩) _ _ _
  simp only [callAny]
  refine wpAny_bind (wpAny_load hu ?_)
  simp only [mwo, kxs_mw, show (Value.type "method-wrapper" == Value.type "method" || Value.type "method-wrapper" == Value.type "builtin_function_or_method" || Value.type "method-wrapper" == Value.type "method-wrapper") = true by decide, if_true]
  refine KFB.if_so (by decide) ?_
  refine wpAny_bind (check_bound_init PySem.F.excBase_ValueError.toExcCallFacts hC he rfl ?_)
  refine wpAny_bind (wpAny_pure (wpAny_pure ?_))
  refine ⟨plainId_quiet PySem.F.excBase_ValueError.init.plain _, codeAny_builtin PySem.F.excBase_ValueError.initEntry ?_⟩
  exact exc_init_tree (cls := .ref C) (t0 := t0) (dv := none) (c2 := .none) (c3 := .none) (b4 := .bool false) he hrest fun h' k e' _ => hq h' _ k e'
theorem callWith_mw {M : Model} {A : Around} {E : Value → Shared → Prop} {s : Shared} {pos : Pos} {env : Env} {e : Expr} {rest : List Expr} {u x : Addr} {Q : Value → Shared → Prop}
    (h : wpAny M A (spliced (backTo pos (starEach (e :: rest) env))) (fun vs s₁ => s₁.heap.get? u = some (mwo x) ∧ wpAny M A (call (.ref u) vs) Q E s₁) E s)
    (he : starEach (e :: rest) env = (false, eval e env) :: starEach rest env := by rfl) (hplain : (backTo pos (starEach rest env)).any (·.1) = false := by rfl) :
    wpAny M A (callWith pos (.ref u) [] (backTo pos (starEach (e :: rest) env)) []) Q E s := by
  rw [he] at h ⊢
  refine kxs_callWith (i := "ValueError.__init__") (x := x) (by show (false || (backTo pos (starEach rest env)).any (·.1)) = false; rw [hplain]; rfl) ?_
  exact evalArgs_plain h
end

/-- what the __init__ of such a class leaves -/
def spInit (C : Addr) (f : Str) : Sp := fun vs H Q _ => ∃ (a : Addr) (y : V), vs = [.ref a, y] ∧ H a = some (exo a C none) ∧ ∀ dx, H dx = none → dx ≠ a → Q .non (upd (upd H dx (exd dx [(f, y)])) a (exo a C (some dx)))
/-- the facts of such a class -/
structure InK (K : PySem.W.Frag) (C cc cda : Addr) (f : Str) : Prop where
  T : OexC K C
  fs : PySem.W.findIn K (.ref C) f = some none
  cell : ∃ cl cld csl, K.lookup cc = some ⟨cl, cld, .cell (some (.ref C)), csl⟩
  code : ∃ ccl cdd vs ccs file tf, K.lookup cda = some ⟨ccl, cdd, .fields vs, ccs⟩ ∧ vs[2]? = some (.str file tf) ∧ (PySem.Str.ofString "/claim/cut.py" == file) = true
  th : PySem.W.nsIn K cStatics "thirdparty.any" = some none
  sp : PySem.W.nsIn K mainGlobals "super" = some none
  up : PySem.W.ks_superIn K C C "__init__" = some (some (.builtin "ValueError.__init__"))
  ve : PySem.W.subIn K (.ref C) (.type "ValueError") = some true
  me : PySem.W.mroIn K C (.ref C) = some true
structure InP (P : Program) : Prop where
  file : P.main.file = PySem.Str.ofString "/claim/cut.py"
  top : (P.main.scope.names.lookup ("super" : Str)).isSome = false
structure InS (n : Str) (params : Arguments) (sc : Scope) : Prop where
  kind : sc.kind = .function
  co : sc.isCoroutine = false
  gen : sc.isGenerator = false
  cel : ∀ x ∈ sc.names, x.2 ≠ .cell
  kself : sc.names.lookup ("self" : Str) = some .local
  kn : sc.names.lookup n = some .local
  ksup : sc.names.lookup ("super" : Str) = some .globalImplicit
  kcls : sc.names.lookup ("__class__" : Str) = some .free
  ar : ∃ ar, (params.posonlyargs ++ params.args).head? = some ar ∧ ar.arg = "self"
  ne : (("self" : Str) == n) = false
section
open PySem.W PySem.Calls PyProof.Rows
theorem call_init_eq {p0 p1 p2 p3 p4 : Pos} {n : Str} (env : Env) (hp : (p2.endLine == p4.line) = true) : ∃ pl, eval (.Call (.Attribute (.Call (.Name "super" p0) [] [] p1) "__init__" p2) [.Name n p3] [] p4) env = (do
      let ov ← attributeBase (.Call (.Name "super" p0) [] [] p1) "__init__" env (eval (.Call (.Name "super" p0) [] [] p1) env)
      standAt p2.atName
      let (f, first) ← holding [ov] (getMethod ov "__init__" pl)
      callWith p4 f first (backTo p4 (starEach [.Name n p3] env)) []) := by
  refine ⟨(do return (← importBound (.Call (.Name "super" p0) [] [] p1) env).getD true), ?_⟩
  have e : methodCallPos true (.Call (.Name "super" p0) [] [] p1) env p2 p4 = pure p4 := by
    unfold methodCallPos
    rw [hp]
    rfl
  have e2 : eval (.Call (.Attribute (.Call (.Name "super" p0) [] [] p1) "__init__" p2) [.Name n p3] [] p4) env = (do
    let ov ← attributeBase (.Call (.Name "super" p0) [] [] p1) "__init__" env (eval (.Call (.Name "super" p0) [] [] p1) env)
    standAt p2.atName
    let (f, first) ← holding [ov] (calleeOf true (.Call (.Name "super" p0) [] [] p1) env ov "__init__")
    let callPos ← methodCallPos true (.Call (.Name "super" p0) [] [] p1) env p2 p4
    callWith callPos f first (backTo p4 (starEach [.Name n p3] env)) []) := by rfl
  rw [e2, e]
  rfl
theorem init_ok {P : Program} {w : World} {K : Frag} {mg : Str → Option Value} {base : Heap} {CX : CXT} {k : Nat} {fI C cc cda : Addr} {name qual n f : Str} {params : Arguments} {body : List Stmt} {scope : Scope} {dV kV doc pm ct oc : Value} {an od : Option Addr}
    {osl : Array (Option Value)} {p0 p1 p2 p3 p4 p5 p6 p7 p8 p9 : Pos} (IK : InK K C cc cda f) (IP : InP P) (S : InS n params scope) (hbd : body = initB n f p0 p1 p2 p3 p4 p5 p6 p7 p8 p9) (hpos : (p2.endLine == p4.line) = true) (hdn : (n == ("__debug__" : Str)) = false)
    (lk : K.lookup fI = some ⟨oc, od, .func (ksFn name qual params body scope dV kV doc pm an (.ref cda) ct cc), osl⟩) (hcd : codeIn K (.ref cda) qual = true) :
    FnOk P w K mg base CX (k + 1) fI (ksFn name qual params body scope dV kV doc pm an (.ref cda) ct cc) ["self", n] (spInit C f) := by
  subst hbd
  refine ⟨fun vs H Q E h => (by obtain ⟨a, y, rfl, _⟩ := h; rfl), fun A outer s H args us vs Q E hr e0 hb r hsp => ?_⟩
  obtain ⟨a, y, rfl, ea, hq⟩ := hsp
  obtain ⟨hh, g, dr, tk, os⟩ := s
  have KX : K.In hh := e0.mod.kin.keeps fun b o e => (e0.bs b o e).1
  have lim : hh.NoLimit := e0.mod.nolimit.keeps fun b o e => (e0.bs b o e).1
  have bk : ∀ b o, base.get? b = some o → hh.get? b = some o := fun b o e => (e0.bs b o e).1
  obtain ⟨nm, q, N, bs, bm, sn, sub, ab, col, dd, k0, k1, k2, k3, k5, hC, hbm⟩ := IK.T.cls
  have hcl : clsIn K C = some { name := nm, bases := bs, mro := .ref C :: bm, ns := N, qualname := q, hasDict := true, slotNames := sn, subclasses := sub, abstract := ab, collection := col, hasDel := false } := by unfold clsIn; rw [hC] <;> rfl
  obtain ⟨t1, hx⟩ := exo_at e0.hok ea
  cases r with
  | @cons _ u0 _ ur ra rr =>
  cases rr with
  | @cons _ u1 _ ur2 ry rr2 =>
  cases rr2
  obtain rfl : u0 = Value.ref a := ra
  have xC : a ≠ C := ks_ne KX (ox := { cls := .ref C, dict := none, data := .fields #[.ref t1, .none, .none, .none, .bool false, .none] }) (odx := none) ⟨hx, rfl, rfl, trivial⟩ hcl
  refine ks_codeAny_call_defAt (fd := ksFn name qual params _ scope dV kV doc pm an (.ref cda) ct cc) (body := initB n f p0 p1 p2 p3 p4 p5 p6 p7 p8 p9) (binds := [("self", .ref a), (n, u1)]) hr.depth (KX _ _ lk) rfl lim (codeRec_of KX hcd) rfl hb S.cel
    (fun x hx => ?_) (fun h₀ hns hk => ?_) S.co S.gen S.kind
  · rcases List.mem_cons.mp hx with rfl | hx
    · exact S.kself
    · rcases List.mem_cons.mp hx with rfl | hx
      · exact S.kn
      · cases hx
  have hself : ([("self", Value.ref a), (n, u1)] : List (Str × Value)).reverse.lookup ("self" : Str) = some (.ref a) := by
    show List.lookup ("self" : Str) [(n, u1), ("self", Value.ref a)] = _
    rw [List.lookup_cons, S.ne]; rfl
  have hn : ([("self", Value.ref a), (n, u1)] : List (Str × Value)).reverse.lookup n = some u1 := by
    show List.lookup n [(n, u1), ("self", Value.ref a)] = _
    rw [List.lookup_cons, beq_self_eq_true]
  obtain ⟨cl, cld, csl, hcell⟩ := IK.cell
  obtain ⟨ccl, cdd, cvs, ccs, file, tf, hcode, hvs, hfile⟩ := IK.code
  obtain ⟨ar, har, hself'⟩ := S.ar
  obtain ⟨mb, hmb, hmb2⟩ := e0.mod.blt
  have X0 : K.In h₀ := KX.keeps hk
  have hx0 := hk _ _ hx
  have hbase : ∀ b o, base.get? b = some o → h₀.get? b = some o := fun b o e => hk _ _ (bk _ _ e)
  have hLa : hh.objs.size ≠ a := Nat.ne_of_gt (Heap.lt_size hx)
  obtain ⟨pl, hpl⟩ := call_init_eq (p0 := p0) (p1 := p1) (p3 := p3) (n := n) (ksEnv qual scope hh.objs.size fI (.ref cda) cc) hpos
  refine ks_wpAt_execs_cons (ks_wpAt_Expr_any (ks_wpAt_MethodCall ?_ hpl) (by show (scope.kind == ScopeKind.module && _) = false; rw [S.kind]; rfl) (by rfl))
  refine ks_wpAt_super_base (env := ksEnv qual scope hh.objs.size fI (.ref cda) cc) S.ksup S.kcls (by decide) rfl (X0 _ _ lk) rfl har rfl (X0 _ _ hcode) rfl hvs (by rw [IP.file]; exact hfile) IP.top ?_
  refine ks_loadName_global S.kind S.ksup (loadGlobal_builtin (env := ksEnv qual scope hh.objs.size fI (.ref cda) cc) (e0.mod.glob.keeps hbase) (mg_none_of e0.mod.kin e0.mod.glob IK.sp) (hmb.keeps hbase) ((hmb2 _ (by decide)).trans (by decide +kernel)) ⟨rfl, ?_⟩)
  refine wpAny_loadName_free S.kind S.kcls rfl ⟨_, X0 _ _ hcell, rfl⟩ ?_
  refine wpAny_loadName_local S.kind (by rw [hself']; exact S.kself) hns (by rw [hself']; exact hself) ?_
  have hC0 := X0 _ _ hC
  refine ks_wpAny_isType_cls hC0 rfl ⟨rfl, ?_⟩
  refine ks_wpAny_call_super hC0 rfl hx0 rfl (fun c e => by cases e) (looks_mroIn X0 IK.me) (fun h1 e1 k1 => ?_)
  have X1 : K.In h1 := X0.keeps k1
  have hx1 := k1 _ _ hx0
  have I1 : InstAt h1 a { cls := .ref C, dict := none, data := .fields #[.ref t1, .none, .none, .none, .bool false, .none] } C none := ⟨hx1, rfl, rfl, trivial⟩
  have hup := IK.up
  unfold ks_superIn at hup
  rw [hcl] at hup
  refine kxs_getMethod kxs_ValueError e1 (looks_opaque X1 IK.th) (l₀ := .ref C :: bm) (fun A Q E s k q => wpAny_bind ((looks_clsIn X1 hcl) A _ E s k (wpAny_pure q))) rfl X1 hup (I1.type.andThen (looks_subIn X1 IK.ve)) xC (by decide) ?_
  have k2 : ∀ b o, h1.get? b = some o → (h1.push (kxs_mw "ValueError.__init__" a)).get? b = some o := fun b o e => Heap.get?_push_of_some _ e
  have hx2 := k2 _ _ hx1
  have hu2 : (h1.push (kxs_mw "ValueError.__init__" a)).get? h1.objs.size = some (mwo a) := Heap.get?_push_at rfl rfl
  have hns2 := ns_keep hns (fun o e => k2 _ _ (k1 _ _ e))
  refine callWith_mw (x := a) ?_
  refine spliced_cons (ESX.ldL hns2 hn (spliced_nil ⟨hu2, ?_⟩) S.kind S.kn hdn)
  refine call_mw ((X1.keeps k2) _ _ hC) hx2 hu2 (by show 1 ≤ sizeLine; decide) (fun h3 t3 k3 hx3 => ?_)
  have hns3 := ns_keep hns2 (fun o e => k3 _ _ hLa e)
  refine ks_wpAt_execs_cons (ks_wpAt_Assign_Attr (wpAt_of_wpAny (ESX.ldL hns3 hn (ESX.ldL hns3 hself ?_ S.kind S.kself) S.kind S.kn hdn)) (by rfl))
  have X3 : K.In h3 := fun b o hb => k3 b o (fun z => by
    have := (e0.bs b o (e0.mod.kin b o hb)).2
    rw [z, ea] at this
    cases this) ((X1.keeps k2) b o hb)
  refine set_plain X3 (ox := { cls := .ref C, dict := none, data := .fields #[.ref t3, .none, .none, .none, .bool false, .none] }) (od := none) ⟨hx3, rfl, rfl, trivial⟩ IK.T.sa ?_
  refine PySem.HandSPX.exc_osa X3 hx3 hcl (show PySem.HandSPX.refsVE (.ref C :: bm) = true from hbm) rfl IK.fs (fun h4 tk4 dx k4 hdx dne hx4 hn4 => ?_)
  refine wpAt_of_wpAny (wpAny_execs_nil ?_)
  have dn : hh.objs.size ≤ dx := Nat.le_trans (Nat.le_of_lt hns3.lt) hdx
  have k : ∀ b o, b ≠ a → hh.get? b = some o → h4.get? b = some o := fun b o n e => k4 b o n (k3 b o n (k2 _ _ (k1 _ _ (hk _ _ e))))
  have hnd : H dx = none := e0.hok.fresh dn
  have nd : ∀ {b : Addr} {o : Obj}, hh.get? b = some o → b ≠ dx := fun {b o} q => Nat.ne_of_lt (Nat.lt_of_lt_of_le (Heap.lt_size q) dn)
  have na : ∀ {b : Addr}, H b = none → b ≠ a := fun {b} n z => by
    rw [z, ea] at n
    cases n
  have Un1 : Un (frs outer) [] H (upd (upd H dx (exd dx [(f, y)])) a (exo a C (some dx))) hh h4 := {
    keep := fun b o q n _ _ => k b o (na n) q
    slot := fun b o q n _ _ => ⟨o.slots, k b o (na n) q⟩
    free := fun b o q n _ => by rw [upd_ne (na n), upd_ne (nd q)]; exact n
    there := fun b o q _ => by
      by_cases hb : b = a
      · exact ⟨_, by rw [hb]; exact hx4⟩
      · exact ⟨o, k b o hb q⟩
    tups := fun b xs q => by rw [upd_ne (at_ne ea q exo_tup), upd_ne (ne_of_none q hnd)]; exact q
    frzs := fun b o v q => by rw [upd_ne (at_ne ea q exo_frz), upd_ne (ne_of_none q hnd)]; exact q
    tbls := fun b ps q => ⟨#[], by rw [upd_ne (at_ne ea q exo_tbl), upd_ne (ne_of_none q hnd), q]; simp⟩ }
  show CE outer P w H _ Q .none _
  refine ⟨.non, _, rfl, e0.bare, Un1, fun b o q => ?_, rfl, hq dx hnd dne⟩
  by_cases hb : b = a
  · subst hb
    rw [upd_same] at q
    cases q
    exact exo_ok hx4
  · rw [upd_ne hb] at q
    by_cases hd : b = dx
    · subst hd
      rw [upd_same] at q
      cases q
      exact exd_ok hn4 (relO_put (fs := []) ry fun g => True.intro)
    · rw [upd_ne hd] at q
      exact (e0.hok b o q).stay (fun c v hc z => k c v (by
          rcases hc with hc | hc
          · rw [hc]
            exact hb
          · exact at_ne ea hc exo_own) z)
        (fun c hc => by rw [upd_ne (at_ne ea hc exo_own), upd_ne (ne_of_none hc hnd)]; exact hc) (fun c xs hc => by rw [upd_ne (at_ne ea hc exo_tup), upd_ne (ne_of_none hc hnd)]; exact hc)
end
/-- an own exception class with such an __init__ -/
structure ExI (P : Program) (K : PySem.W.Frag) (mg : Str → Option Value) (cn : Str → Option Addr) (x f : Str) : Prop where
  ok : ∃ (C fI : Addr) (fd : FuncData) (n : Str), cn x = some C ∧ mg x = some (.ref C) ∧ OexC K C ∧ PySem.W.findIn K (.ref C) "__init__" = some (some (.ref fI)) ∧ PySem.W.typeIn K (.ref fI) = some (.type "function") ∧ Binds K fd ["self", n] [] ∧
    ∀ (w : World) (base : Heap), FnOk P w K mg base (L2.CX P w) 1 fI fd ["self", n] (spInit C f)
def fRaiseF (c f : Str) (fe : EF) : SF := fun Γ S => sB ((aCons fe aNil) Γ S) Γ fun vs S => match vs with
  | [.d y] => .ok (.xc ⟨c, [(f, y)]⟩ Γ) S
  | _ => .no
theorem s_raiseF {X : Cx} {M : Mi} {W : WX} {x f : Str} {e : Expr} {fe : EF} {k : Nat} {p pos pos' : Pos} (hK : X.K = M.K) (hc : X.calm = true) (tk : Takes X W) (E : ExI X.prog X.K X.mg M.cn x f) (hr : Room k X.A) (hk : 2 ≤ k) (hg : Gl X x) (he : DE X M W e fe)
    (hdb : (x == ("__debug__" : Str)) = false := by decide) (hs : starEach [e] X.env = (false, eval e X.env) :: starEach [] X.env := by rfl) (hpl : (backTo pos (starEach [] X.env)).any (·.1) = false := by rfl) :
    DS X M W (.Raise (some (.Call (.Name x p) [e] [] pos)) none pos') (fRaiseF x f fe) := by
  obtain ⟨C, fI, fd, n, e1, e2, T, iC, tI, hb, F⟩ := E.ok
  refine (ps_raise hc tk (pmk_oex T iC tI (F X.w X.base) (hr.mono hk) hb .nil passL hg e2 (da_cons he da_nil hs) hdb hs hpl)).weak fun D σ H ⟨g, Γ, S, r, v, p⟩ => stepS r v p fun us H1 g1 S1 vs gr r1 v1 q1 p1 => ?_
  split at p1
  · rename_i y
    cases q1 with
    | @cons u _ _ _ qa qb =>
    cases qb
    refine ⟨(by show 1 ≤ 1000; decide), fun a ha => ⟨a, u, rfl, upd_same, fun dx hd hne => ⟨rfl, dx, _, upd_same, (by rw [upd_ne hne, upd_same]), ?_, ?_⟩⟩⟩
    · rw [upd_ne hne] at hd; exact hd
    · rw [upd_ne hne] at hd
      have eH : upd (del (upd (upd (upd H1 a (exo a C none)) dx (exd dx [(f, u)])) a (exo a C (some dx))) a) dx (.xd [(f, u)]) = upd H1 dx (.xd [(f, u)]) := by
        funext b
        by_cases hb : b = dx
        · rw [hb, upd_same, upd_same]
        · rw [upd_ne hb, upd_ne hb]
          by_cases hba : b = a
          · rw [hba, del_same, ha]
          · rw [del_ne hba, upd_ne hba, upd_ne hb, upd_ne hba]
      rw [eH]
      obtain ⟨r2, gr2⟩ := r1.frz hd (.xd [(f, u)])
      obtain ⟨hF, _⟩ := r1.free hd
      exact p1 _ _ σ _ _ gr2 r2 (gr2.vars v1) ⟨C, e1, rfl, .inr ⟨by simp, dx, [(f, u)], rfl, upd_same, .cons ⟨rfl, Rp.sub (sub_upd hF) _ _ qa⟩ .nil⟩⟩
  · exact p1.elim
end DL
/-! D17: isinstance of the error that the suite holds, with a field or without. -/
namespace DL
open PySem L2
section
open PySem.W PySem.Spec PySem.Calls PyProof.Rows
variable {prog : Program} {w : World} {A : Around} {E : Value → Shared → Prop} {s : Shared} {K : Frag} {x D : Addr} {ox : Obj} {od : Option Obj}
theorem clsOf_hd (e : ExcC K D) : ∃ cd, clsIn K D = some cd := by
  obtain ⟨cd, hc, _⟩ := any_some e.hd
  exact ⟨cd, hc⟩
theorem find_cls (e : ExcC K D) : findObj K D od "__class__" = some (.bind (.builtin "getset_descriptor.__get__") (.builtin "object.__class__")) := by
  obtain ⟨cd, hc⟩ := clsOf_hd e
  unfold findObj
  rw [hc, Option.bind_some, e.ha, Option.bind_some]
  simp [e.hn, e.ht]
theorem cls_of_inst {Q : Option Value → Shared → Prop} (e : ExcC K D) (X : K.In s.heap) (I : InstAt s.heap x ox D od) (h : Q (some (.ref D)) { s with toks := s.toks + 1 }) : wpAny (model prog w) A (getAttr? (.ref x) "__class__") Q E s := by
  obtain ⟨hp, g, d, t, os⟩ := s
  have q0 := I.type (M := model prog w)
  have q1 := looks_findIn (M := model prog w) X e.hg
  have q2 := looks_findIn (M := model prog w) X e.hk
  have q3 := looks_find (M := model prog w) X I (find_cls e)
  have q4 : Looks (model prog w) hp (isInstance (.ref x) (.type "BaseException")) true := q0.andThen (looks_subIn X e.hs)
  have n2 : (Value.builtin "BaseException.__getattribute__" == Value.builtin "object.__getattribute__") = false := by decide +kernel
  have n1 : (onTheHeap (Value.ref D) && Value.builtin "BaseException.__getattribute__" == Value.builtin "object.__getattribute__") = false := by rw [n2]; rfl
  unfold getAttr? getAttrBy? getAttrBy
  refine wpAny_bind (wpAny_mkText (wpAny_bind (wpAny_attempt (wpAny_holding (wpAny_bind (q0.at (wpAny_bind (q1.at ?_))))))))
  show wpAny _ _ (if (onTheHeap (Value.ref D) && Value.builtin "BaseException.__getattribute__" == Value.builtin "object.__getattribute__") = true then _ else _) _ _ _
  rw [n1, if_neg Bool.false_ne_true]
  unfold getAttrByItsOwn hookBefore
  refine wpAny_bind ?_
  rw [if_pos (show onTheHeap (Value.ref D) = true from rfl)]
  refine q2.at (wpAny_bind (wpAny_attempt (wpAny_holding ?_)))
  unfold callGetattribute
  rw [show (false && onTheHeap (Value.builtin "BaseException.__getattribute__")) = false from rfl, if_neg Bool.false_ne_true]
  unfold boundAndCalled
  rw [PySem.F.excAttr_ValueError.ga.bind (.ref x)]
  refine wpAny_bind (wpAny_pure ?_)
  show wpAny _ _ (call (.builtin "BaseException.__getattribute__") [.ref x, .str "__class__" t]) _ _ _
  refine wpAny_call (codeAny_call_builtin PySem.F.excAttr_ValueError.ga.plain PySem.F.entry_bexc_ga ?_)
  refine @check_slot (model prog w) _ _ ⟨hp, g, d, t + 1, os⟩ "BaseException.__getattribute__" "BaseException" "__getattribute__" (.ref x) [.str "__class__" t] [] _ (by decide +kernel) (by decide +kernel) q4 (PySem.F.args_bexc_ga (.ref x) (.str "__class__" t)) ?_
  unfold Builtin.«object.__getattribute__»
  refine wpAny_bind (wpAny_of_eq (a := ((Value.ref x : Value), [Value.str "__class__" t])) (by first | rfl | (simp only [slotArgs]; rfl)) ?_)
  refine wpAny_bind (wpAny_pure (wpAny_bind (q0.at (wpAny_bind (q3.at ?_)))))
  show wpAny _ _ (holding [Value.builtin "object.__class__"] (call (.builtin "getset_descriptor.__get__") [.builtin "object.__class__", .ref x, .ref D]) >>= ret) _ _ _
  refine wpAny_bind (wpAny_holding (wpAny_call (class_get (s := ⟨hp, g, d, t + 1, os⟩) (ox := ox) (od := od) X I e.hm ?_)))
  refine wpAny_pure ?_
  show wpAny _ _ (handedOut (.ref D)) _ _ _
  rw [handedOut_of (v := .ref D) rfl]
  first
    | exact wpAny_pure (wpAny_pure h)
    | exact wpAny_pure h
    | exact wpAny_pure (wpAny_bind (wpAny_pure (wpAny_pure h)))
theorem kitx_e (e : ExcC K D) : KitX K (.ref x) (.ref D) (fun h => InstAt h x ox D od) where
  ty := fun _ _ _ I => I.type
  it := fun _ _ X _ => by
    obtain ⟨cdD, hcD⟩ := clsOf_hd e
    unfold clsIn at hcD
    split at hcD
    · rename_i c' d' cd' sl' ho
      intro A' Q' E' s' k q
      unfold isType loadHead
      exact wpAny_bind (wpAny_loadPart (k _ _ (X _ _ ho)) (wpAny_pure q))
    · cases hcD
  ne := fun h tp dd its n sl X htp => by
    obtain ⟨cdD, hcD⟩ := clsOf_hd e
    refine Bool.eq_false_iff.mpr fun q => ?_
    have e' : D = tp := Value.ref.inj (beq_iff_eq.mp q)
    subst e'
    unfold clsIn at hcD
    split at hcD
    · rename_i c' d' cd' sl' ho
      cases (X _ _ ho).symm.trans htp
    · cases hcD
  ca := fun X I k => cls_of_inst e X I k
end
theorem call_isF {X : Cx} {a D dx : Addr} {oe : Obj} {pn : List (Addr × Obj)} {fs : List (Str × V)} (C : ExcC X.K D) (hz : Zc (.ref D) (some dx) oe) (hf : ∃ vs, oe.data = .fields vs) : CallR (X.suite a ((a, oe) :: pn)) (.builtin "isinstance")
    (fun xs H Q => rIsE X.K D a xs H Q ∧ H dx = some (.xd fs)) := by
  intro pins s σ H xs us Q I r h
  obtain ⟨⟨c, cv, b, rfl, hcv, e, q⟩, hd⟩ := h
  cases r with
  | cons rx rr =>
    cases rr with
    | cons rt rr =>
      cases rr
      cases rx
      have ec := hcv _ rt
      subst ec
      obtain ⟨hget, _⟩ := I.pin (a, oe) (List.mem_append.mpr (.inl List.mem_cons_self))
      obtain ⟨vs, hv⟩ := hf
      obtain ⟨mA, hns, _⟩ := (show ObjOk X.prog X.w H s.heap dx (.xd fs) from I.hok dx _ hd)
      obtain ⟨oD, _, _, hoD, _⟩ := hns
      have J : PySem.W.InstAt s.heap a oe D (some oD) := by
        obtain ⟨oc, od, oda, osl⟩ := oe
        obtain ⟨h1, h2⟩ := hz
        dsimp only at h1 h2 hv
        subst h1 h2 hv
        exact ⟨hget, rfl, rfl, hoD⟩
      exact PySem.W.kia_one (kitx_e C) I.kIn J e (fun z => nomatch z) fun tk => ⟨.bl b, H, I.kept (t' := tk) fun _ _ z => z, rfl, q⟩
/-- isinstance(n, C), n held with a field or without -/
def eIsF (x : Exc) (ok : Str → Option Bool) : EF := fun Γ S => match ok x.cls with
  | some b => .ok (.d (.bool b)) S
  | _ => .no
theorem di_isF {X : Cx} {M : Mi} {i : Nat} {a : Addr} {cls : Value} {d : Option Addr} {x : Exc} {oe : Obj} {pn : List (Addr × Obj)} {n c : Str} {p p2 p3 pos : Pos} {ok : Str → Option Bool} (hK : X.K = M.K) (T : IsX X.K X.mg M.cn c ok) (hz : Zc cls d oe) (hf : ∃ vs, oe.data = .fields vs) (hg : Gl X "isinstance") (hm : X.mg "isinstance" = none) (hc : Gl X c) (hdb : (c == ("__debug__" : Str)) = false)
    (hv : PE (X.suite a ((a, oe) :: pn)) (.Name n p) (tVar i)) (he : starEach [.Name n p, .Name c p2] X.env = (false, eval (.Name n p) X.env) :: starEach [.Name c p2] X.env := by rfl) (he2 : starEach [.Name c p2] X.env = (false, eval (.Name c p2) X.env) :: starEach [] X.env := by rfl) (hpl : (backTo pos (starEach [.Name c p2] X.env)).any (·.1) = false := by rfl) :
    DEi (X.suite a ((a, oe) :: pn)) M i a cls d x (.Call (.Name "isinstance" p3) [.Name n p, .Name c p2] [] pos) (eIsF x ok) := by
  refine ⟨fun pins s σ H Q I h => ?_⟩
  obtain ⟨g, Γ, S, r, v, hx, q⟩ := h
  obtain ⟨D, e1, e2, e3⟩ := hx.rep
  obtain ⟨C, c1, c2⟩ := T.ok
  unfold eIsF at q
  split at q
  · rename_i b h2
    subst e2
    obtain ⟨k1, k2⟩ := c2 _ _ h2 _ e1
    have pa := pa_cons (X := X.suite a ((a, oe) :: pn)) hv (pa_cons (pe_glob (X := X.suite a ((a, oe) :: pn)) (v := .ref C) hc c1 rfl hdb) pa_nil he2) he
    cases d with
    | none =>
      refine (pe_callB (X := X.suite a ((a, oe) :: pn)) (r := rIsE X.K D a) (call_isE k1 hz hf) hg hm (by decide +kernel) pa (by decide) (by decide) he hpl).run pins s σ H Q I ?_
      exact ⟨.ref a, hx.slot, .ref C, .ref C, b, rfl, fun u hu => hu, k2, q.now r (.bl _)⟩
    | some dx =>
      rcases e3 with ⟨_, h⟩ | ⟨_, dx', vs, h1, h3, _⟩
      · cases h
      · cases h1
        refine (pe_callB (X := X.suite a ((a, oe) :: pn)) (call_isF (fs := vs) k1 hz hf) hg hm (by decide +kernel) pa (by decide) (by decide) he hpl).run pins s σ H Q I ?_
        exact ⟨.ref a, hx.slot, ⟨.ref C, .ref C, b, rfl, fun u hu => hu, k2, q.now r (.bl _)⟩, r.sub _ _ h3⟩
  · exact q.elim
end DL
/-! D18: len(set(a)), a a list or tuple of whole numbers. -/
namespace DL
open PySem PySem.Spec PyProof.Rows L2
/-- how many different numbers -/
def distN : List Int → Nat
  | [] => 0
  | n :: ns => if ns.elem n then distN ns else distN ns + 1
def ddN : List Int → List Int
  | [] => []
  | n :: ns => if ns.elem n then ddN ns else n :: ddN ns
theorem ddN_len : ∀ ns, (ddN ns).length = distN ns
  | [] => rfl
  | n :: ns => by
    rw [ddN, distN]
    split
    · exact ddN_len ns
    · rw [List.length_cons, ddN_len ns]
theorem ddN_mem (k : Int) : ∀ ns, k ∈ ddN ns ↔ k ∈ ns
  | [] => Iff.rfl
  | n :: ns => by
    rw [ddN]
    split
    · rename_i h
      rw [ddN_mem k ns, List.mem_cons]
      refine ⟨.inr, fun h' => h'.elim (fun e => ?_) id⟩
      rw [e]; exact List.elem_iff.mp h
    · rw [List.mem_cons, List.mem_cons, ddN_mem k ns]
theorem ddN_nodup : ∀ ns, (ddN ns).Nodup
  | [] => List.nodup_nil
  | n :: ns => by
    rw [ddN]
    split
    · exact ddN_nodup ns
    · rename_i h
      rw [List.nodup_cons, ddN_mem]
      exact ⟨fun z => h (List.elem_iff.mpr z), ddN_nodup ns⟩
theorem len_le_of {α : Type} [DecidableEq α] : ∀ {l1 l2 : List α}, l1.Nodup → (∀ x ∈ l1, x ∈ l2) → l1.length ≤ l2.length
  | [], _, _, _ => Nat.zero_le _
  | x :: l1, l2, h, hs => by
    rw [List.nodup_cons] at h
    have hx := hs x List.mem_cons_self
    have := len_le_of (l2 := l2.erase x) h.2 fun y hy => (List.mem_erase_of_ne (show y ≠ x from fun e => h.1 (e ▸ hy))).mpr (hs y (List.mem_cons_of_mem _ hy))
    rw [List.length_erase_of_mem hx] at this
    have := List.length_pos_of_mem hx
    rw [List.length_cons]
    omega
theorem len_eq_of {α : Type} [DecidableEq α] {l1 l2 : List α} (h1 : l1.Nodup) (h2 : l2.Nodup) (h : ∀ x, x ∈ l1 ↔ x ∈ l2) : l1.length = l2.length :=
  Nat.le_antisymm (len_le_of h1 fun x hx => (h x).mp hx) (len_le_of h2 fun x hx => (h x).mpr hx)
theorem dist_of {l ns : List Int} (h1 : l.Nodup) (h : ∀ x, x ∈ l ↔ x ∈ ns) : l.length = distN ns := by
  rw [← ddN_len]
  exact len_eq_of h1 (ddN_nodup ns) fun x => (h x).trans (ddN_mem x ns).symm
theorem fold_dd : ∀ (ns acc : List Int), acc.Nodup → (ns.foldl PyProof.Rows.step_dedup acc).Nodup ∧ ∀ k, k ∈ ns.foldl PyProof.Rows.step_dedup acc ↔ k ∈ acc ∨ k ∈ ns
  | [], acc, h => ⟨h, fun k => by simp⟩
  | n :: ns, acc, h => by
    rw [List.foldl_cons]
    unfold PyProof.Rows.step_dedup
    by_cases hn : (acc.any fun x => x == n) = true
    · have hm : n ∈ acc := by
        obtain ⟨x, hx, e⟩ := List.any_eq_true.mp hn
        rw [← eq_of_beq e]; exact hx
      have e : (if acc.any (· == n) then acc else acc ++ [n]) = acc := if_pos hn
      rw [e]
      obtain ⟨h1, h2⟩ := fold_dd ns acc h
      refine ⟨h1, fun k => (h2 k).trans ?_⟩
      rw [List.mem_cons]
      exact ⟨fun z => z.elim .inl fun z => .inr (.inr z), fun z => z.elim .inl fun z => z.elim (fun e => .inl (e ▸ hm)) .inr⟩
    · have hm : n ∉ acc := fun z => hn (List.any_eq_true.mpr ⟨n, z, beq_self_eq_true n⟩)
      have e : (if acc.any (· == n) then acc else acc ++ [n]) = acc ++ [n] := if_neg hn
      rw [e]
      obtain ⟨h1, h2⟩ := fold_dd ns (acc ++ [n]) (by
        rw [List.nodup_append]
        exact ⟨h, by simp, fun a ha b hb => by simp at hb; subst hb; exact fun z => hm (z ▸ ha)⟩)
      refine ⟨h1, fun k => (h2 k).trans ?_⟩
      rw [List.mem_append, List.mem_singleton, List.mem_cons]
      exact or_assoc
theorem first_dist (ns : List Int) : (PyProof.Rows.firstMet (fun i => ns.getD i 0) ns.length).length = distN ns := by
  unfold PyProof.Rows.firstMet
  have e : (List.range ns.length).map (fun i => ns.getD i 0) = ns := by
    refine List.ext_getElem? fun i => ?_
    by_cases hi : i < ns.length
    · rw [List.getElem?_map, List.getElem?_range hi, Option.map_some, List.getD_eq_getElem?_getD, List.getElem?_eq_getElem hi]; rfl
    · rw [List.getElem?_eq_none (by simpa using hi), List.getElem?_eq_none (by simpa using hi)]
  rw [e]
  obtain ⟨h1, h2⟩ := fold_dd ns [] List.nodup_nil
  exact dist_of h1 fun k => (h2 k).trans (by simp)
def tLenDist (K : PySem.W.Frag) (ta : TE) : TE := fun σ H Q => ta σ H fun x H1 => ∃ (l : Addr) (ns : List Int), x = .ref l ∧ (SqL K H1 l (ns.map V.int) ∨ SqT K H1 l (ns.map V.int)) ∧ ns.length ≤ 4000 ∧ Q (.int (distN ns : Nat)) H1
theorem pe_lenDist {X : Cx} {a : Expr} {ta : TE} {p p2 q pos : Pos} (hg : Gl X "len") (hm : X.mg "len" = none) (hg2 : Gl X "set") (hm2 : X.mg "set" = none) (ha : PE X a ta) (hc : X.calm = true := by rfl)
    (na : starEach [a] X.env = (false, eval a X.env) :: starEach [] X.env := by rfl) : PE X (.Call (.Name "len" p) [.Call (.Name "set" p2) [a] [] q] [] pos) (tLenDist X.K ta) := by
  refine ⟨fun pins s σ H Q I h => ?_⟩
  refine Call_ (ld_blt I hg hm boot_len ?_)
  refine PyProof.Rows.callWith_builtin1 (PyProof.Rows.args_cons ?_ rfl) rfl rfl
  refine Call_ (ld_blt I hg2 hm2 boot_set ?_)
  refine PyProof.Rows.callWith_type1 (PyProof.Rows.args_cons (thn (ha.run pins s σ H _ I h) fun v s1 ⟨x, H1, I1, r1, q1⟩ => PyProof.Rows.args_nil ?_) na) na rfl
  obtain ⟨l, ns, rfl, hq, hl, q1⟩ := q1
  cases r1
  rcases hq with hq | hq
  · obtain ⟨its, r, pl, hz⟩ := I1.list hq
    have hlen : its.toArray.size = ns.length := by rw [List.size_toArray, ← r.length, List.length_map]
    refine call_set_list (I1.ok.hd hc) pl.isList (by simpa using RZ.intsAre_vals r) (by rw [hlen]; unfold scanBound; omega) fun h' tk hS hk => ?_
    refine PyProof.Rows.args_nil ?_
    rw [hlen, first_dist] at hS
    obtain ⟨o, es, ep, t, ho, hex, hd, _, _, _, hf, hn⟩ := hS
    have I2 : Inv X pins σ H1 { s1 with heap := h', toks := tk } := I1.kept fun b o e => hk b o (Heap.lt_size e) e
    have hdl : distN ns ≤ ns.length := by rw [← ddN_len]; exact len_le_of (ddN_nodup ns) fun x hx => (ddN_mem x ns).mp hx
    exact call_len_set ho hex hd hf (by rw [hn]; omega) ⟨.int (distN ns : Nat), H1, I2.tok _, ⟨_, by rw [hn]⟩, q1⟩
  · obtain ⟨its, r, pl, hz⟩ := I1.tuple hq
    have hdl : distN ns ≤ ns.length := by rw [← ddN_len]; exact len_le_of (ddN_nodup ns) fun x hx => (ddN_mem x ns).mp hx
    refine call_set_tupI ns (I1.ok.hd hc) (show s1.heap.IsTuple l its.toArray from pl) (by simpa using RZ.intsAre_vals r) (by unfold scanBound; omega) fun h' tk c hS hcl hk => ?_
    refine PyProof.Rows.args_nil ?_
    obtain ⟨o, es, ep, t, ho, hex, hd, _, hnd, hmem, _, hf, hn, _⟩ := hS
    have hc' : c = distN ns := by
      rw [← hn, ← dist_of hnd (fun x => ((hmem x).symm.trans decide_eq_true_iff)), List.length_map, Array.length_toList]
    subst hc'
    have I2 : Inv X pins σ H1 { s1 with heap := h', toks := tk } := I1.kept hk
    exact call_len_set ho hex hd hf (by rw [hn]; omega) ⟨.int (distN ns : Nat), H1, I2.tok _, ⟨_, by rw [hn]⟩, q1⟩
def intOf : PyData → Int
  | .int i => i
  | _ => 0
theorem ints_of : ∀ {ds : List PyData}, ds.all isInt = true → ds = (ds.map intOf).map .int
  | [], _ => rfl
  | d :: ds, h => by
    rw [List.all_cons, Bool.and_eq_true] at h
    obtain ⟨i, rfl⟩ := isInt_ok h.1
    rw [List.map_cons, List.map_cons, ← ints_of h.2]; rfl
def dstS : SV → Store → Out SV := fun v S => match asD v S with
  | some (.list ds) => if ds.all isInt && decide (ds.length ≤ 4000) then .ok (.d (.int (distN (ds.map intOf) : Nat))) S else .no
  | some (.tuple ds) => if ds.all isInt && decide (ds.length ≤ 4000) then .ok (.d (.int (distN (ds.map intOf) : Nat))) S else .no
  | _ => .no
def eLenSet (fa : EF) : EF := fun Γ S => (fa Γ S).bind dstS
theorem d_lenSet {X : Cx} {M : Mi} {W : WX} {a : Expr} {fa : EF} {p p2 q pos : Pos} (hK : X.K = M.K) (hc : X.calm = true) (hg : Gl X "len") (hm : X.mg "len" = none) (hg2 : Gl X "set") (hm2 : X.mg "set" = none) (ha : DE X M W a fa) (na : starEach [a] X.env = (false, eval a X.env) :: starEach [] X.env := by rfl) :
    DE X M W (.Call (.Name "len" p) [.Call (.Name "set" p2) [a] [] q] [] pos) (eLenSet fa) :=
  (pe_lenDist hg hm hg2 hm2 ha hc na).weak fun σ H Q h => by
    obtain ⟨g, Γ, S, r0, v0, p⟩ := h
    refine step r0 v0 p fun u H1 g1 S1 v gr r1 v1 q1 p1 => ?_
    unfold dstS at p1
    split at p1
    · rename_i ds e
      split at p1
      · rename_i hz
        rw [Bool.and_eq_true, decide_eq_true_iff] at hz
        obtain ⟨l, vs, rfl, h1, t1, _⟩ := asD_list r1 q1 e
        rw [ints_of hz.1] at t1
        rw [t1.ints] at h1
        exact ⟨l, _, rfl, .inl (by rw [hK]; exact SqL.of h1), by rw [List.length_map]; exact hz.2, p1.now r1 (.int _)⟩
      · exact p1.elim
    · rename_i ds e
      split at p1
      · rename_i hz
        rw [Bool.and_eq_true, decide_eq_true_iff] at hz
        obtain ⟨l, vs, rfl, h1, t1, _, _⟩ := asD_tup q1 e
        rw [ints_of hz.1] at t1
        rw [t1.ints] at h1
        exact ⟨l, _, rfl, .inr (by rw [hK]; exact SqT.sub r1.sub h1), by rw [List.length_map]; exact hz.2, p1.now r1 (.int _)⟩
      · exact p1.elim
    · exact p1.elim
end DL
/-! D19: fields of errors by a table; the facts of such classes at the end. -/
namespace DL
open PySem L2
structure FieldT (K : PySem.W.Frag) (cn : Str → Option Addr) (f : Str) (ok : Str → Option Bool) : Prop where
  ok : ∀ c, ok c = some true → ∀ C, cn c = some C → XfC K C ∧ PySem.W.findIn K (.ref C) f = some none
def eXg (ok : Str → Option Bool) (x : Exc) (f : Str) : EF := fun Γ S => match ok x.cls with
  | some true => eXf x f Γ S
  | _ => .no
theorem di_xg {X : Cx} {M : Mi} {i : Nat} {a : Addr} {cls : Value} {d : Option Addr} {x : Exc} {oe : Obj} {pn : List (Addr × Obj)} {n f : Str} {p pos : Pos} {ok : Str → Option Bool} (hK : X.K = M.K) (T : FieldT X.K M.cn f ok) (hz : Zc cls d oe) (hf : ∃ vs, oe.data = .fields vs)
    (hv : PE (X.suite a ((a, oe) :: pn)) (.Name n p) (tVar i)) (hb : attributeBase (.Name n p) f X.env (eval (.Name n p) X.env) = eval (.Name n p) X.env := by rfl) :
    DEi (X.suite a ((a, oe) :: pn)) M i a cls d x (.Attribute (.Name n p) f pos) (eXg ok x f) := by
  refine ⟨fun pins s σ H Q I h => ?_⟩
  obtain ⟨g, Γ, S, r, v, hx, q⟩ := h
  unfold eXg at q
  split at q
  · rename_i e
    exact (di_xf hK ⟨T.ok _ e⟩ hz hf hv hb).run pins s σ H Q I ⟨g, Γ, S, r, v, hx, q⟩
  · exact q.elim
theorem FieldT.of {K : PySem.W.Frag} {mg : Str → Option Value} {f : Str} {l : List (Str × Bool)} (al : AllC mg (fun D b => b = true → XfC K D ∧ PySem.W.findIn K (.ref D) f = some none) l) : FieldT K (cnOf mg) f (okL l) :=
  ⟨fun c e D eD => al.at c true e D eD rfl⟩
def clsBody (s : Stmt) : List Stmt := match s with
  | .ClassDef (body := b) .. => b
  | _ => []
theorem AllC.cons' {mg : Str → Option Value} {f : Addr → Bool → Prop} {c : Str} {b : Bool} {r : List (Str × Bool)} {D : Addr} (m : mg c = some (.ref D)) (h : f D b) (t : AllC mg f r) : AllC mg f ((c, b) :: r) := ⟨⟨D, m, h⟩, t⟩
theorem InK.of {K : PySem.W.Frag} {C cc cda : Addr} {f nm q : Str} {N : Addr} {bs bm : List Value} {sn : List Str} {sub : List Value} {ab : Bool} {col : Option Bool} {dd : Option Addr} {k0 k1 k2 k3 k5 : Option Value} {cl ccl : Value} {cld cdd : Option Addr} {csl ccs : Array (Option Value)} {vs : Array Value} {file : Str} {tf : Tok}
    (c1 : K.lookup C = some (excClassObj nm q C N bs bm true sn sub ab col dd k0 k1 k2 k3 k5 "ValueError.__new__")) (c2 : PySem.HandSPX.refsVE bm = true) (sa : PySem.W.findIn K (.ref C) "__setattr__" = some (some (.builtin "object.__setattr__"))) (ec : PySem.W.subIn K (.ref C) (.type "BaseException") = some true)
    (ty : PySem.W.typeIn K (.ref C) = some (.type "type")) (kc : PySem.W.keepIn K (.ref C) = true) (fs : PySem.W.findIn K (.ref C) f = some none) (ce : K.lookup cc = some ⟨cl, cld, .cell (some (.ref C)), csl⟩) (co : K.lookup cda = some ⟨ccl, cdd, .fields vs, ccs⟩) (c3 : vs[2]? = some (.str file tf)) (c4 : (PySem.Str.ofString "/claim/cut.py" == file) = true)
    (th : PySem.W.nsIn K cStatics "thirdparty.any" = some none) (sp : PySem.W.nsIn K mainGlobals "super" = some none) (up : PySem.W.ks_superIn K C C "__init__" = some (some (.builtin "ValueError.__init__"))) (ve : PySem.W.subIn K (.ref C) (.type "ValueError") = some true) (me : PySem.W.mroIn K C (.ref C) = some true) : InK K C cc cda f :=
  ⟨⟨⟨nm, q, N, bs, bm, sn, sub, ab, col, dd, k0, k1, k2, k3, k5, c1, c2⟩, sa, ec, ty, kc⟩, fs, ⟨cl, cld, csl, ce⟩, ⟨ccl, cdd, vs, ccs, file, tf, co, c3, c4⟩, th, sp, up, ve, me⟩
structure InB (n f : Str) (body : List Stmt) : Prop where
  ok : ∃ p0 p1 p2 p3 p4 p5 p6 p7 p8 p9, body = initB n f p0 p1 p2 p3 p4 p5 p6 p7 p8 p9 ∧ (p2.endLine == p4.line) = true
open PySem.W in
theorem ExI.of {P : Program} {K : Frag} {h : Heap} {mg : Str → Option Value} {x f n qual : Str} {C fI cc cda : Addr} {st : Stmt} {oc : Value} {od an : Option Addr} {osl : Array (Option Value)} {dV kV doc pm ct : Value} (IP : InP P) (X : K.In h) (G : h.Ns mainGlobals mg) (a : nsIn K mainGlobals x = some (some (.ref C)))
    (l : K.lookup fI = some ⟨oc, od, .func (ksFn "__init__" qual (defArgs st) (defBody st) (defScope st) dV kV doc pm an (.ref cda) ct cc), osl⟩) (c : codeIn K (.ref cda) qual = true) (S : InS n (defArgs st) (defScope st)) (hdn : (n == ("__debug__" : Str)) = false) (B : InB n f (defBody st))
    (iC : findIn K (.ref C) "__init__" = some (some (.ref fI))) (tI : typeIn K (.ref fI) = some (.type "function")) (IK : InK K C cc cda f)
    (hb : ∀ us : List Value, us.length = 2 → bindArgs (ksFn "__init__" qual (defArgs st) (defBody st) (defScope st) dV kV doc pm an (.ref cda) ct cc) ⟨us, []⟩ = pure ((["self", n] : List Str).zip us)) : ExI P K mg (cnOf mg) x f := by
  obtain ⟨p0, p1, p2, p3, p4, p5, p6, p7, p8, p9, e, hp⟩ := B.ok
  have m := mg_of X G a
  exact ⟨C, fI, _, n, cnOf_ok m, m, IK.T, iC, tI, .all hb, fun w base => init_ok (k := 0) IK IP S e hp hdn l c⟩
theorem law_finP {l : PySem.W.OpenLaw} (mi : PySem.W.Frag → (Str → Option Value) → Mi) (hmi : ∀ K mg, (mi K mg).K = K) {k : Nat} {q : Program} {loose : List Str} {XP : (Str → Option Value) → Heap → Prop} {YP : World → Heap → Prop} {d : DefRec} {K : Params → PySem.W.Frag} {st : Stmt} {F : FD} (Txt : Program → PySem.W.Frag → (Str → Option Value) → Prop) (hr : Room k callerA) (hn : l.most = some 63) (hdf : d.params.defaults = []) (hd : d.name = "law")
    (hY : ∀ (w : World) (h : Heap), YP w h → (K w.params).In h)
    (D : ∀ {P : Program} {w : World} {K : PySem.W.Frag} {mg : Str → Option Value} {base : Heap} {f : Addr} {fd : FuncData}, Txt P K mg → Fun K "law" "law" st f fd → FnOk P w K mg base (L2.CX P w) k f fd ["script"] (spD (mi K mg) 1 F))
    (law : ∀ ns : List Int, ns.length ≤ 63 → F [.scr ns] [] = .ok (.d (.bool true)) [])
    (T : ∀ (w : World) (mg : Str → Option Value) (h : Heap), (K w.params).In h → h.Ns mainGlobals mg → Txt l.prog (K w.params) mg ∧ LawX (K w.params) mg st) :
    PySem.W.WalkO q loose XP YP l.row.toRowW d [] (fun f vs => PySem.call f vs) := by
  refine law_end (k := k) hr hn hdf hY fun w mg fa h KX G hmg => ?_
  obtain ⟨t, f, fd, Fn, hm, hb⟩ := T w mg h KX G
  rw [hd, hm] at hmg
  cases hmg
  exact ⟨fd, hb, fun base _ _ => law_sp (hmi _ _) (D t Fn) law⟩
end DL
/-! D20: dicts whose keys are whole numbers and texts, as cells of the store. -/
namespace DL
open PySem L2
def keyP : PyData → Option Key
  | .int i => some (.inl i)
  | .str x => some (.inr x)
  | _ => none
theorem keyP_ok {K : PySem.W.Frag} {F : Hp} {v : V} {d : PyData} {k : Key} (r : Rp K F v d) (e : keyP d = some k) : v = kV k := by
  cases d with
  | int i => cases e; cases r; rfl
  | str x => cases e; cases r; rfl
  | _ => cases e
def pKey : Key → PyData
  | .inl i => .int i
  | .inr x => .str x
theorem pKey_rep {K : PySem.W.Frag} {F : Hp} : ∀ k : Key, Rp K F (kV k) (pKey k)
  | .inl i => .int i
  | .inr x => .str x
def valD (ds : List (Key × PyData)) (k : Key) : Option PyData := (ds.find? fun kv => decide (kv.1 = k)).map (·.2)
def putD (ds : List (Key × PyData)) (k : Key) (x : PyData) : List (Key × PyData) :=
  if (ds.any fun kv => decide (kv.1 = k)) = true then ds.map (fun kv => if kv.1 = k then (kv.1, x) else kv) else ds ++ [(k, x)]
section
variable {K : PySem.W.Frag} {F : Hp} {g g' : Gh} {H : Hp} {S : Store} {x : V} {v : SV}
theorem RpKV.len {kvs : List (Key × V)} {ds : List (Key × PyData)} (r : RpKV K F kvs ds) : kvs.length = ds.length := Paired.length r
theorem RpKV.val {kvs : List (Key × V)} {ds : List (Key × PyData)} (r : RpKV K F kvs ds) (k : Key) : (valV kvs k = none ∧ valD ds k = none) ∨ ∃ v d, valV kvs k = some v ∧ valD ds k = some d ∧ Rp K F v d := by
  unfold RpKV at r
  induction r with
  | nil => exact .inl ⟨rfl, rfl⟩
  | @cons p q ps qs a b ih =>
    obtain ⟨a1, a2⟩ := a
    unfold valV valD
    rw [List.find?_cons, List.find?_cons, ← a1]
    by_cases h : p.1 = k
    · rw [decide_eq_true h]
      exact .inr ⟨p.2, q.2, rfl, rfl, a2⟩
    · rw [decide_eq_false h]
      exact ih
theorem RpKV.any {kvs : List (Key × V)} {ds : List (Key × PyData)} (r : RpKV K F kvs ds) (k : Key) : (kvs.any fun kv => decide (kv.1 = k)) = (ds.any fun kv => decide (kv.1 = k)) := by
  unfold RpKV at r
  induction r with
  | nil => rfl
  | cons a b ih => rw [List.any_cons, List.any_cons, ih, a.1]
theorem RpKV.put {kvs : List (Key × V)} {ds : List (Key × PyData)} (r : RpKV K F kvs ds) (k : Key) {y : V} {d : PyData} (q : Rp K F y d) : RpKV K F (putK kvs k y) (putD ds k d) := by
  unfold putK putD
  rw [r.any k]
  split
  · rename_i h
    clear h
    unfold RpKV at r ⊢
    induction r with
    | nil => exact .nil
    | @cons p q' ps qs a b ih =>
      rw [List.map_cons, List.map_cons]
      refine .cons ?_ ih
      rw [← a.1]
      by_cases h : p.1 = k
      · rw [if_pos h, if_pos h]; exact ⟨rfl, q⟩
      · rw [if_neg h, if_neg h]; exact a
  · rename_i h
    clear h
    unfold RpKV at r ⊢
    induction r with
    | nil => exact .cons ⟨rfl, q⟩ .nil
    | cons a b ih => exact .cons a ih
theorem RpKV.keys {kvs : List (Key × V)} {ds : List (Key × PyData)} (r : RpKV K F kvs ds) : RpAll K F (kvs.map fun kv => kV kv.1) (ds.map fun kv => pKey kv.1) := by
  unfold RpKV at r
  induction r with
  | nil => exact .nil
  | @cons p q ps qs a b ih => exact .cons (show Rp K F (kV p.1) (pKey q.1) by rw [a.1]; exact pKey_rep _) ih
theorem putD_len (ds : List (Key × PyData)) (k : Key) (x : PyData) : (putD ds k x).length ≤ ds.length + 1 := by
  unfold putD
  split
  · rw [List.length_map]; omega
  · simp
/-- a dict of the store -/
def cellD (v : SV) (S : Store) : Option (Nat × List (Key × PyData)) := match v with
  | .cell c => match S[c]? with
    | some (.dct ds) => some (c, ds)
    | _ => none
  | _ => none
theorem cellD_ok (r : Rel K g H S) (q : RepS K g x v) {c : Nat} {ds : List (Key × PyData)} (h : cellD v S = some (c, ds)) : ∃ a kvs, v = .cell c ∧ x = .ref a ∧ g.B[c]? = some a ∧ H a = some (.dK kvs) ∧ RpKV K g.F kvs ds ∧ ds.length ≤ 16777216 := by
  cases v with
  | d y => cases h
  | scr ns => cases h
  | cell i =>
    unfold cellD at h
    simp only at h
    split at h
    · rename_i es hs
      cases h
      obtain ⟨a, ha, rfl⟩ := q
      obtain ⟨z, kvs, h1, h2⟩ := r.at_ c a _ ha hs
      exact ⟨a, kvs, rfl, rfl, ha, h1, h2, z⟩
    · cases h
theorem Rel.celM (r : Rel K g H S) {p : Addr} (hp : H p = none) {m : MO} {o : HO} (q : RepM K g.F (some o) m) : Rel K (g.cel p) (upd H p o) (S ++ [m]) ∧ Grow g H (g.cel p) (upd H p o) ∧ RepS K (g.cel p) (.ref p) (.cell S.length) := by
  obtain ⟨hF, hB⟩ := r.free hp
  have ne : ∀ b ∈ g.B, b ≠ p := fun b hb e => hB (e ▸ hb)
  refine ⟨⟨fun b u e => ?_, ?_, fun b hb => ?_, ?_, fun i a m' e1 e2 => ?_⟩, ⟨⟨[p], rfl⟩, fun _ _ h => h, fun b u e _ => ?_, fun b hb => ?_, fun b u e => .inl e⟩, ⟨p, ?_, rfl⟩⟩
  · have e' : g.F b = some u := e
    have nb : b ≠ p := fun z => by rw [z, hF] at e'; cases e'
    rw [upd_ne nb]; exact r.sub _ _ e'
  · show (g.B ++ [p]).Nodup
    rw [List.nodup_append]
    exact ⟨r.nd, by simp, fun a ha b hb => by simp at hb; subst hb; exact ne a ha⟩
  · rcases List.mem_append.mp hb with h | h
    · exact r.dis b h
    · simp at h; subst h; exact hF
  · show (g.B ++ [p]).length = _
    rw [List.length_append, List.length_append, r.len]; rfl
  · have e1' : (g.B ++ [p])[i]? = some a := e1
    by_cases hi : i < g.B.length
    · rw [List.getElem?_append_left hi] at e1'
      rw [List.getElem?_append_left (by rw [← r.len]; exact hi)] at e2
      rw [upd_ne (ne a (List.mem_of_getElem? e1'))]
      exact r.at_ i a m' e1' e2
    · have hl := (List.getElem?_eq_some_iff.mp e1').1
      rw [List.length_append, List.length_singleton] at hl
      have ei : i = g.B.length := by omega
      subst ei
      rw [List.getElem?_append_right (Nat.le_refl _), Nat.sub_self] at e1'
      rw [r.len, List.getElem?_append_right (Nat.le_refl _), Nat.sub_self] at e2
      cases e1'
      cases e2
      rw [upd_same]
      exact q
  · rw [upd_ne (ne_of_none e hp)]; exact e
  · rcases List.mem_append.mp hb with h | h
    · exact .inl h
    · simp at h; subst h; exact .inr hp
  · show (g.B ++ [p])[S.length]? = some p
    rw [← r.len, List.getElem?_append_right (Nat.le_refl _), Nat.sub_self]; rfl
theorem Rel.putM (r : Rel K g H S) {i : Nat} {a : Addr} (ha : g.B[i]? = some a) {m : MO} {o : HO} (q : RepM K g.F (some o) m) : Rel K g (upd H a o) (S.set i m) ∧ Grow g H g (upd H a o) := by
  have am : a ∈ g.B := List.mem_of_getElem? ha
  have hF := r.dis a am
  refine ⟨⟨fun b u e => ?_, r.nd, r.dis, by rw [List.length_set]; exact r.len, fun j b m' e1 e2 => ?_⟩, ⟨⟨[], by simp⟩, fun _ _ h => h, fun b u e hb => ?_, fun b hb => .inl hb, fun b u e => .inl e⟩⟩
  · have nb : b ≠ a := fun z => by rw [z, hF] at e; cases e
    rw [upd_ne nb]; exact r.sub _ _ e
  · by_cases hj : i = j
    · subst hj
      rw [ha] at e1; cases e1
      have hl := (List.getElem?_eq_some_iff.mp ha).1
      rw [List.getElem?_set_self (by rw [← r.len]; exact hl)] at e2
      cases e2
      rw [upd_same]
      exact q
    · rw [List.getElem?_set_ne hj] at e2
      have nb : b ≠ a := fun z => by
        subst z
        obtain ⟨h1, e1'⟩ := List.getElem?_eq_some_iff.mp ha
        obtain ⟨h2, e2'⟩ := List.getElem?_eq_some_iff.mp e1
        exact hj ((List.getElem_inj r.nd).mp (e1'.trans e2'.symm))
      rw [upd_ne nb]
      exact r.at_ j b m' e1 e2
  · have nb : b ≠ a := fun z => hb (z ▸ am)
    rw [upd_ne nb]; exact e
end
section
variable {X : Cx} {M : Mi} {W : WX}
/-- {} as a cell -/
def eDctC : EF := fun _ S => .ok (.cell S.length) (S ++ [.dct []])
theorem d_dctC {pos : Pos} : DE X M W (.Dict [] [] pos) eDctC := pe_dnewK.weak fun σ H Q h => by
  obtain ⟨g, Γ, S, r, v, p⟩ := h
  intro q hq
  obtain ⟨r', gr, rp⟩ := r.celM (m := .dct []) (o := .dK []) hq ⟨Nat.zero_le _, [], rfl, .nil⟩
  exact p _ _ _ gr r' rp
def dgetS (o k d : SV) (S : Store) : Out SV := match cellD o S, k with
  | some (_, ds), .d kd => match keyP kd with
    | some key => match valD ds key with
      | some x => .ok (.d x) S
      | none => .ok d S
    | none => .no
  | _, _ => .no
/-- o.get(e, f) -/
def eGet2 (fo fe ff : EF) : EF := fun Γ S => (fo Γ S).bind fun o S => if (cellD o S).isSome then (fe Γ S).bind fun k S => (ff Γ S).bind fun d S => dgetS o k d S else .no
theorem isSome_ex {α : Type} {o : Option α} (h : o.isSome = true) : ∃ a, o = some a := Option.isSome_iff_exists.mp h
theorem d_get2 {o e f : Expr} {apos cpos : Pos} {fo fe ff : EF} (hu : X.A.units + 64 < cLine) (ho : DE X M W o fo) (he : DE X M W e fe) (hf : DE X M W f ff) (m : M2 X o "get" apos e f cpos) : DE X M W (.Call (.Attribute o "get" apos) [e, f] [] cpos) (eGet2 fo fe ff) :=
  (pe_dget2 (by omega) ho he hf m).weak fun σ H Q h => by
    obtain ⟨g, Γ, S, r0, v0, p⟩ := h
    refine step r0 v0 p fun u H1 g1 S1 v gr r1 v1 q1 p1 => ?_
    split at p1
    · rename_i hc
      obtain ⟨⟨c, ds⟩, hc⟩ := isSome_ex hc
      obtain ⟨a, kvs, rfl, rfl, ha, hH, _, _⟩ := cellD_ok r1 q1 hc
      refine ⟨a, rfl, .inl ⟨kvs, .inl hH⟩, ?_⟩
      refine step r1 v1 p1 fun u2 H2 g2 S2 w gr2 r2 v2 q2 p2 => ?_
      refine step r2 v2 p2 fun u3 H3 g3 S3 z gr3 r3 v3 q3 p3 => ?_
      unfold dgetS at p3
      have qa := gr3.rep (gr2.rep q1)
      have qk := gr3.rep q2
      split at p3
      · rename_i c' es kd e1
        split at p3
        · rename_i key ek
          obtain ⟨a', kvs', ec, ex, ha', hH', rk, _⟩ := cellD_ok r3 qa e1
          cases ex
          have ey := keyP_ok qk ek
          subst ey
          refine ⟨valV kvs' key, .inl ⟨kvs', key, .inl hH', rfl, rfl⟩, ?_⟩
          rcases rk.val key with ⟨n1, n2⟩ | ⟨y, d, n1, n2, n3⟩
          · rw [n2] at p3
            rw [n1]
            exact p3.now r3 q3
          · rw [n2] at p3
            rw [n1]
            exact p3.now r3 n3
        · exact p3.elim
      · exact p3.elim
    · exact p1.elim
end
end DL
/-! D21: d[k] = v, list(d), k in d, d[k]; a, b = a list. -/
namespace DL
open PySem L2
section
variable {X : Cx} {M : Mi} {W : WX}
/-- o[i] = v, o a dict of the store -/
def dputK (Γ : Ev) (o k v : SV) (S : Store) : Out Fl := match cellD o S, k, v with
  | some (c, ds), .d kd, .d x => match keyP kd with
    | some key => if ds.length < 16777216 then .ok (.nx Γ) (S.set c (.dct (putD ds key x))) else .no
    | none => .no
  | _, _, _ => .no
def fDput (fo fi fv : EF) : SF := fun Γ S => sB (fv Γ S) Γ fun v S => sB (fo Γ S) Γ fun o S => sB (fi Γ S) Γ fun k S => dputK Γ o k v S
theorem s_dput {o i value : Expr} {pos pos' : Pos} {fo fi fv : EF} (hu : X.A.units + 64 < cLine) (ho : DE X M W o fo) (hi : DE X M W i fi) (hv : DE X M W value fv) (hs : swapsWith value (some (.Subscript o i pos')) pos.line X.env = pure false := by rfl) :
    DS X M W (.Assign [.Subscript o i pos'] value pos) (fDput fo fi fv) := (ps_dput (by omega) ho hi hv hs).weak fun D σ H ⟨g, Γ, S, r, v, p⟩ =>
  stepS r v p fun u H1 g1 S1 a gr r1 v1 q1 p1 => stepS r1 v1 p1 fun u2 H2 g2 S2 a2 gr2 r2 v2 q2 p2 => stepS r2 v2 p2 fun u3 H3 g3 S3 a3 gr3 r3 v3 q3 p3 => by
    unfold dputK at p3
    have qa := gr3.rep q2
    have qv := gr3.rep (gr2.rep q1)
    split at p3
    · rename_i c ds kd x e1
      split at p3
      · rename_i key ek
        split at p3
        · rename_i hl
          obtain ⟨ad, kvs, ec, ex, ha, hH, rk, hz⟩ := cellD_ok r3 qa e1
          have ey := keyP_ok q3 ek
          subst ey
          have hm : RepM M.K g3.F (some (.dK (putK kvs key u))) (.dct (putD ds key x)) := ⟨by have := putD_len ds key x; omega, _, rfl, rk.put key qv⟩
          obtain ⟨r4, gr4⟩ := r3.putM ha hm
          exact ⟨ad, _, ex, DPut.k hH (by rw [rk.len]; exact hl), p3 σ _ _ gr4 r4 v3⟩
        · exact p3.elim
      · exact p3.elim
    · exact p3.elim
/-- list(d) -/
def dkeysS (fin : List PyData → Store → Out SV) : List SV → Store → Out SV := fun vs S => match vs with
  | [v] => match cellD v S with
    | some (_, ds) => fin (ds.map fun kv => pKey kv.1) S
    | none => .no
  | _ => .no
theorem d_listDct {fin : List PyData → Store → Out SV} {a : Expr} {fa : EF} {p pos : Pos} (hc : X.calm = true) (hf : Fin M fin) (hg : Gl X "list") (hm : X.mg "list" = none) (ha : DE X M W a fa) (he : starEach [a] X.env = (false, eval a X.env) :: starEach [] X.env := by rfl) (hpl : (backTo pos (starEach [] X.env)).any (·.1) = false := by rfl) :
    DE X M W (.Call (.Name "list" p) [a] [] pos) (eCall (dkeysS fin) (aCons fa aNil)) :=
  d_callTy (call_listD hc) (fun W σ Q g H S us vs r q p => by
    unfold dkeysS at p
    split at p
    · cases q with
      | cons q1 q2 =>
        cases q2
        split at p
        · rename_i c ds e1
          obtain ⟨ad, kvs, ec, rfl, ha, hH, rk, hz⟩ := cellD_ok r q1 e1
          exact ⟨ad, kvs, rfl, .inl hH, hf.lay r (by rw [List.length_map]; exact hz) rk.keys p⟩
        · exact p.elim
    · exact p.elim) hg hm PyProof.Rows.boot_list (da_cons ha da_nil he) (by decide) (by decide) he hpl
/-- o[i], o a dict of the store -/
def dixS (o k : SV) (S : Store) : Out SV := match cellD o S, k with
  | some (_, ds), .d kd => match keyP kd with
    | some key => match valD ds key with
      | some x => .ok (.d x) S
      | none => .no
    | none => .no
  | _, _ => .no
def eDix (fo fi : EF) : EF := fun Γ S => (fo Γ S).bind fun o S => (fi Γ S).bind fun k S => dixS o k S
theorem d_dix {o i : Expr} {pos : Pos} {fo fi : EF} (hu : X.A.units + 64 < cLine) (ho : DE X M W o fo) (hi : DE X M W i fi) (hs : NoSl i := by intro _ _; rfl) : DE X M W (.Subscript o i pos) (eDix fo fi) :=
  (pe_dget (by omega) ho hi hs).weak fun σ H Q h => by
    obtain ⟨g, Γ, S, r0, v0, p⟩ := h
    refine step r0 v0 p fun u H1 g1 S1 v gr r1 v1 q1 p1 => step r1 v1 p1 fun u2 H2 g2 S2 w gr2 r2 v2 q2 p2 => ?_
    unfold dixS at p2
    have qa := gr2.rep q1
    split at p2
    · rename_i c ds kd e1
      split at p2
      · rename_i key ek
        split at p2
        · rename_i x ev
          obtain ⟨ad, kvs, ec, ex, ha, hH, rk, hz⟩ := cellD_ok r2 qa e1
          have ey := keyP_ok q2 ek
          subst ey
          rcases rk.val key with ⟨n1, n2⟩ | ⟨y, d, n1, n2, n3⟩
          · rw [n2] at ev; cases ev
          · rw [n2] at ev
            cases ev
            exact ⟨ad, y, ex, .inl ⟨kvs, key, .inl hH, rfl, n1.symm⟩, p2.now r2 n3⟩
        · exact p2.elim
      · exact p2.elim
    · exact p2.elim
end
end DL
/-! D22: sorted(set(a)), a a list or tuple of whole numbers; targets that take a tuple or a list; k in d. -/
namespace DL
open PySem PySem.Spec PyProof.Rows L2
section
variable {P : Program} {w : World} {A : Around} {E : Value → Shared → Prop} {s : Shared}
abbrev newS (w : World) : Obj := { cls := .type "set", dict := none, data := .set #[] 0 (.fresh 0 0 (!w.params.followText "set-order")) }
/-- set(l) of a list of ints: who is in, how many -/
theorem set_of_list {l : Addr} {items : Array Value} (ns : List Int) {Q : Value → Shared → Prop} (hh : A.handled = none) (hl : s.heap.IsList l items) (hit : IntsAre items.toList ns) (hb : ns.length + 1 < scanBound)
    (h : ∀ (h' : Heap) (tk c : Nat), SetR w h' s.heap.objs.size (fun j => decide (j ∈ ns)) c → c ≤ ns.length → (∀ b o, s.heap.get? b = some o → h'.get? b = some o) → Q (.ref s.heap.objs.size) { s with heap := h', toks := tk }) :
    wpAny (model P w) A (call (.type "set") [.ref l]) Q E s := by
  have hisz : items.size = ns.length := by
    have q := IntsAre.length hit
    rwa [Array.length_toList] at q
  obtain ⟨c, tl, hmro⟩ := F.called_set.mro
  have hmade := F.called_set.made
  have hsub := F.called_set.sub
  refine wpAny_call (codeAny_of_tree ?_)
  show wpAny _ _ (callAny (.type "set") _) _ _ _
  refine wpAny_pure ⟨Code.quiet_builtin _ (by decide +kernel), codeAny_builtin F.entry_type_call ?_⟩
  rw [Around.under_plain (weight_type_call_type "set" [.ref l] []) rfl]
  have h1 := F.called_set.notType
  have h2 := F.called_set.canCreate
  have hct := F.typeCall_set_1 (.ref l)
  repeat (any_goals (first | assumption | wp_step))
  refine codeAny_mono (code_set_led1 (.ref l) (E := E) (Q₁ := fun obj s₁ => obj = .ref s.heap.objs.size ∧ s₁ = { s with heap := s.heap.push (newS w) }) ⟨rfl, rfl⟩) fun r s₁ hr => ?_
  cases r with
  | error e => exact hr
  | ok fl =>
    cases fl with
    | ret obj =>
      obtain ⟨rfl, rfl⟩ := hr
      have hS : (s.heap.push (newS w)).get? s.heap.objs.size = some (newS w) := Heap.get?_push_size _ rfl
      have hT : Shared.TypeIs { s with heap := s.heap.push (newS w) } (.ref s.heap.objs.size) "set" := ⟨_, hS, rfl⟩
      have hli := F.called_set.init.lookup
      have hbi := F.called_set.init.bind (.ref s.heap.objs.size)
      repeat (any_goals (first | assumption | wp_step))
      refine codeAny_mono (codeAny_call_builtin (R := wants (fun r s₂ => r = .none ∧ ∃ h' tk c, s₂ = { s with heap := h', toks := tk } ∧ SetR w h' s.heap.objs.size (fun j => decide (j ∈ ns)) c ∧ c ≤ ns.length ∧
          (∀ b o, s.heap.get? b = some o → h'.get? b = some o)) E) F.called_set.init.plain F.entry_set_init (check_set_init_1 hT ?_)) fun r₂ s₂ hr₂ => ?_
      · obtain ⟨⟨ocls, odict, odata, oslots⟩, hol, hcl, nl, hdl⟩ := hl
        simp only at hcl hdl
        subst hcl hdl
        have hol' : (s.heap.push (newS w)).get? l = some { cls := .type "list", dict := odict, data := .seq items nl, slots := oslots } := Heap.get?_push_of_some _ hol
        have hsls := F.sub_list_set
        have hslf := F.sub_list_frozenset
        have hne : (Value.type "list" == Value.type "dict") = false := by decide
        have hl1 : (s.heap.push (newS w)).IsList l items := ⟨_, hol', rfl, nl, rfl⟩
        unfold Builtin.«set.__init__» noKeywords Builtin.Frozenset.updateFrom
        generalize hPI : pyIter = PI
        wp_walk
        subst hPI
        refine wpAny_pyIter_list hl1 (wpAny_bind (wpAny_runValue ?_))
        have hlS : l < s.heap.objs.size := Heap.lt_size hol
        have hh3 : A.in1.in1.in1.handled = none := by simp [hh]
        have hz1 : (s.heap.push (newS w)).objs.size = s.heap.objs.size + 1 := Heap.size_push ..
        have hneI : l ≠ (s.heap.push (newS w)).objs.size := by rw [hz1]; exact Nat.ne_of_lt (Nat.lt_succ_of_lt hlS)
        have hSf : s.heap.objs.size ∉ [(s.heap.push (newS w)).objs.size, l] := by
          rw [hz1]
          simp only [List.mem_cons, List.not_mem_nil, or_false, not_or]
          exact ⟨Nat.ne_of_lt (Nat.lt_succ_self _), Nat.ne_of_gt hlS⟩
        have hval : ∀ (i : Nat) (v : Value), items[i]? = some v → ∃ k t, ns[i]? = some k ∧ v = .int k t := fun i v hv => by
          have hi : i < ns.length := by rw [← hisz]; exact (Array.getElem?_eq_some_iff.mp hv).1
          obtain ⟨t, e⟩ := PyProof.Rows.IntsAre.int_at hit i v (by rw [Array.getElem?_toList]; exact hv)
          refine ⟨ns[i], t, List.getElem?_eq_getElem hi, ?_⟩
          rw [e, List.getD_eq_getElem?_getD, List.getElem?_eq_getElem hi] <;> rfl
        refine set_update_ints ((Walks.list hh3 _ l hneI items).toS) s.heap.objs.size hSf ns hisz hb hval (items.size - 0) 0 _ (by omega) (Nat.zero_le _) ⟨⟨_, Heap.get?_push_size _ rfl, rfl, rfl⟩, (hl1.push _)⟩
          ⟨0, Nat.le_refl 0, setR_new_at (Heap.get?_push_of_some _ hS)⟩ ?hR
        case hR =>
          intro s' c' hm hc' hS'
          obtain ⟨h', g2, d', tk', os'⟩ := s'
          have eg : g2 = s.gens := hm.gens
          have ed : d' = s.drawn := hm.drawn
          have eo : os' = s.os := hm.os
          subst eg ed eo
          show wpAny _ _ _ _ _ _
          refine wpAny_pure ?_
          show wpAny _ _ (ret Value.none) _ _ _
          rw [hisz] at hc'
          refine wpAny_pure ⟨rfl, h', tk', c', rfl, hS', hc', fun b o e => ?_⟩
          have hb0 : b < s.heap.objs.size := Heap.lt_size e
          refine hm.heap b o ?_ (Heap.get?_push_of_some _ (Heap.get?_push_of_some _ e))
          simp only [List.mem_cons, List.not_mem_nil, or_false, not_or]
          exact ⟨Nat.ne_of_lt hb0, by rw [hz1]; exact Nat.ne_of_lt (Nat.lt_succ_of_lt hb0)⟩
      · cases r₂ with
        | error e => exact hr₂
        | ok fl₂ =>
          cases fl₂ with
          | ret r =>
            obtain ⟨rfl, h', tk, c', rfl, hS', hc', hk'⟩ := hr₂
            repeat (any_goals (first | assumption | wp_step))
            exact h _ _ _ hS' hc' hk'
          | _ => exact hr₂.elim
    | _ => exact hr.elim
end
end DL
/-! D23: sorted(set(a)); targets that take a tuple or a list; k in d. -/
namespace DL
open PySem PySem.Spec PyProof.Rows L2
/-- the different numbers, ascending -/
def sdN (ns : List Int) : List Int := (ddN ns).mergeSort fun a b => decide (a ≤ b)
theorem sdN_mem (k : Int) (ns : List Int) : k ∈ sdN ns ↔ k ∈ ns := by
  unfold sdN
  rw [List.mem_mergeSort, ddN_mem]
theorem sdN_pw (ns : List Int) : (sdN ns).Pairwise (· < ·) := by
  have h1 : (sdN ns).Pairwise fun a b => decide (a ≤ b) = true := List.pairwise_mergeSort (fun a b c h1 h2 => by simp at h1 h2 ⊢; omega) (fun a b => by simp; omega) _
  have h2 : (sdN ns).Nodup := (List.mergeSort_perm _ _).nodup_iff.mpr (ddN_nodup ns)
  refine (h1.and h2).imp ?_
  rintro a b ⟨h1, h2⟩
  have := of_decide_eq_true h1
  omega
theorem sdN_len (ns : List Int) : (sdN ns).length = distN ns := by
  unfold sdN
  rw [List.length_mergeSort, ddN_len]
theorem sdN_eq {ms ns : List Int} (h1 : ms.Pairwise (· < ·)) (h2 : ∀ k, k ∈ ms ↔ k ∈ ns) : ms = sdN ns :=
  List.Perm.eq_of_pairwise (le := (· < ·)) (fun a b _ _ h1 h2 => absurd h1 (Int.not_lt.mpr (Int.le_of_lt h2))) h1 (sdN_pw ns)
    ((List.perm_ext_iff_of_nodup (h1.imp fun h => Int.ne_of_lt h) ((sdN_pw ns).imp fun h => Int.ne_of_lt h)).mpr fun k => (h2 k).trans (sdN_mem k ns).symm)
def tSrtSet (K : PySem.W.Frag) (ta : TE) : TE := fun σ H Q => ta σ H fun x H1 => ∃ (l : Addr) (ns : List Int), x = .ref l ∧ (SqL K H1 l (ns.map V.int) ∨ SqT K H1 l (ns.map V.int)) ∧ ns.length ≤ 4000 ∧ distN ns < 64 ∧ ∀ p, H1 p = none → Q (.ref p) (upd H1 p (.lst ((sdN ns).map V.int)))
theorem pe_srtSet {X : Cx} {a : Expr} {ta : TE} {p p2 q pos : Pos} (hg : Gl X "sorted") (hm : X.mg "sorted" = none) (hg2 : Gl X "set") (hm2 : X.mg "set" = none) (ha : PE X a ta) (hc : X.calm = true := by rfl)
    (na : starEach [a] X.env = (false, eval a X.env) :: starEach [] X.env := by rfl) : PE X (.Call (.Name "sorted" p) [.Call (.Name "set" p2) [a] [] q] [] pos) (tSrtSet X.K ta) := by
  refine ⟨fun pins s σ H Q I h => ?_⟩
  refine Call_ (ld_blt I hg hm (u := .builtin "sorted") (by decide +kernel) ?_)
  refine PyProof.Rows.callWith_builtin1 (PyProof.Rows.args_cons ?_ rfl) rfl rfl
  refine Call_ (ld_blt I hg2 hm2 boot_set ?_)
  refine PyProof.Rows.callWith_type1 (PyProof.Rows.args_cons (thn (ha.run pins s σ H _ I h) fun v s1 ⟨x, H1, I1, r1, q1⟩ => PyProof.Rows.args_nil ?_) na) na rfl
  obtain ⟨l, ns, rfl, hq, hl, hd, q1⟩ := q1
  cases r1
  have fin : ∀ (h' : Heap) (tk c : Nat), SetR X.w h' s1.heap.objs.size (fun j => decide (j ∈ ns)) c → (∀ b o, s1.heap.get? b = some o → h'.get? b = some o) →
      wpAny (model X.prog X.w) X.A (call (.builtin "sorted") [.ref s1.heap.objs.size]) (EP X pins σ Q) X.xe { s1 with heap := h', toks := tk } := fun h' tk c hS hk => by
    have I2 : Inv X pins σ H1 { s1 with heap := h', toks := tk } := I1.kept hk
    have hc' : c = distN ns := by
      obtain ⟨o, es, ep, t, ho, hex, hd, _, hnd, hmem, _, hf, hn, _⟩ := hS
      rw [← hn, ← dist_of hnd (fun x => ((hmem x).symm.trans decide_eq_true_iff)), List.length_map, Array.length_toList]
    subst hc'
    refine sorted_set hS (I2.ok.hd hc) hd fun s' p out c ms k g o hp hg hi hs hm hl => ?_
    have em : ms = sdN ns := sdN_eq hs fun k => (hm k).trans decide_eq_true_iff
    subst em
    have hlen : ((sdN ns).map V.int).length ≤ sizeLine := by rw [List.length_map, sdN_len, sizeLine_eq]; omega
    have hn : H1 p = none := I2.hok.fresh hp
    have J := I2.call (h' := s'.heap) (g' := s'.gens) (d' := s'.drawn) (t' := s'.toks) (ch := []) (Un.laid (o := .lst ((sdN ns).map V.int)) k hp hn) (I2.hok.laid k hp (show ObjOk X.prog X.w (upd H1 p (.lst ((sdN ns).map V.int))) s'.heap p (.lst ((sdN ns).map V.int)) from ⟨hlen, out.toList, c, vals_of_ints hi, hg⟩)) (by rw [g]; exact I2.bare) (fun _ z => nomatch z)
    have e : ({ ({ s1 with heap := h', toks := tk } : Shared) with heap := s'.heap, gens := s'.gens, drawn := s'.drawn, toks := s'.toks } : Shared) = s' := by
      cases s'
      cases s1
      cases o
      rfl
    rw [e] at J
    exact ⟨.ref p, _, J, rfl, q1 p hn⟩
  rcases hq with hq | hq
  · obtain ⟨its, r, pl, hz⟩ := I1.list hq
    refine set_of_list ns (I1.ok.hd hc) pl.isList (by simpa using RZ.intsAre_vals r) (by unfold scanBound; omega) fun h' tk c hS hcl hk => PyProof.Rows.args_nil ?_
    exact fin h' tk c hS hk
  · obtain ⟨its, r, pl, hz⟩ := I1.tuple hq
    refine call_set_tupI ns (I1.ok.hd hc) (show s1.heap.IsTuple l its.toArray from pl) (by simpa using RZ.intsAre_vals r) (by unfold scanBound; omega) fun h' tk c hS hcl hk => PyProof.Rows.args_nil ?_
    exact fin h' tk c hS hk
/-- sorted(set(a)) -/
def srtSetS (fin : List PyData → Store → Out SV) : SV → Store → Out SV := fun v S => match asD v S with
  | some (.list ds) => if ds.all isInt && decide (ds.length ≤ 4000) && decide (distN (ds.map intOf) < 64) then fin ((sdN (ds.map intOf)).map .int) S else .no
  | some (.tuple ds) => if ds.all isInt && decide (ds.length ≤ 4000) && decide (distN (ds.map intOf) < 64) then fin ((sdN (ds.map intOf)).map .int) S else .no
  | _ => .no
def eSrtSet (fin : List PyData → Store → Out SV) (fa : EF) : EF := fun Γ S => (fa Γ S).bind (srtSetS fin)
theorem d_srtSet {X : Cx} {M : Mi} {W : WX} {a : Expr} {fa : EF} {p p2 q pos : Pos} (hK : X.K = M.K) (hc : X.calm = true) {fin : List PyData → Store → Out SV} (hf : Fin M fin) (hg : Gl X "sorted") (hm : X.mg "sorted" = none) (hg2 : Gl X "set") (hm2 : X.mg "set" = none) (ha : DE X M W a fa) (na : starEach [a] X.env = (false, eval a X.env) :: starEach [] X.env := by rfl) :
    DE X M W (.Call (.Name "sorted" p) [.Call (.Name "set" p2) [a] [] q] [] pos) (eSrtSet fin fa) :=
  (pe_srtSet hg hm hg2 hm2 ha hc na).weak fun σ H Q h => by
    obtain ⟨g, Γ, S, r0, v0, p⟩ := h
    refine step r0 v0 p fun u H1 g1 S1 v gr r1 v1 q1 p1 => ?_
    unfold srtSetS at p1
    have hz : ∀ ds : List PyData, distN (ds.map intOf) < 64 → ((sdN (ds.map intOf)).map PyData.int).length ≤ 16777216 := fun ds h => by rw [List.length_map, sdN_len]; omega
    split at p1
    · rename_i ds e
      split at p1
      · rename_i hc
        rw [Bool.and_eq_true, Bool.and_eq_true, decide_eq_true_iff, decide_eq_true_iff] at hc
        obtain ⟨⟨c1, c2⟩, c3⟩ := hc
        obtain ⟨l, vs, rfl, h1, t1, _⟩ := asD_list r1 q1 e
        rw [ints_of c1] at t1
        rw [t1.ints] at h1
        refine ⟨l, ds.map intOf, rfl, .inl (by rw [hK]; exact SqL.of h1), by rw [List.length_map]; exact c2, c3, hf.lay r1 (hz ds c3) (RpAll.of_ints _) p1⟩
      · exact p1.elim
    · rename_i ds e
      split at p1
      · rename_i hc
        rw [Bool.and_eq_true, Bool.and_eq_true, decide_eq_true_iff, decide_eq_true_iff] at hc
        obtain ⟨⟨c1, c2⟩, c3⟩ := hc
        obtain ⟨l, vs, rfl, h1, t1, _, _⟩ := asD_tup q1 e
        rw [ints_of c1] at t1
        rw [t1.ints] at h1
        refine ⟨l, ds.map intOf, rfl, .inr (by rw [hK]; exact SqT.sub r1.sub h1), by rw [List.length_map]; exact c2, c3, hf.lay r1 (hz ds c3) (RpAll.of_ints _) p1⟩
      · exact p1.elim
    · exact p1.elim
/-- a, b, .. = a tuple or a list -/
def gSeqF (n : Nat) (gf : List PyData → Ev → Store → Out Ev) : GF := fun v Γ S => match asD v S with
  | some (.list ds) => if ds.length = n then gf ds Γ S else .no
  | some (.tuple ds) => if ds.length = n then gf ds Γ S else .no
  | _ => .no
theorem g_seq {X : Cx} {M : Mi} (hK : X.K = M.K) {T : List Nat} {es : List Expr} {k n : Nat} {pos : Pos} {gf : List PyData → Ev → Store → Out Ev} (hc : X.calm = true) (h : DGs X M T es gf)
    (hn : (assignEach es X.env).length = n := by rfl) (hst : (assignEach es X.env).findIdx? (·.1) = none := by rfl) : DG X M T (.Tuple es k pos) (gSeqF n gf) := by
  refine ⟨fun pins s σ H x u Q I r hw => ?_⟩
  obtain ⟨g, Γ, S, v, rl, vs, q, p⟩ := hw
  unfold gSeqF at p
  split at p
  · rename_i ds e
    obtain ⟨a, ws, rfl, h1, t1, _⟩ := asD_list rl q e
    split at p
    · rename_i hl
      exact (pg_lst hc h hn hst).run pins s σ H _ u Q I r ⟨a, ws, rfl, by rw [hK]; exact SqL.of h1, by rw [t1.len]; exact hl, g, Γ, S, ds, rl, vs, t1, p⟩
    · exact p.elim
  · rename_i ds e
    obtain ⟨a, ws, rfl, h1, t1, _, _⟩ := asD_tup q e
    split at p
    · rename_i hl
      exact (pg_tup hc h hn hst).run pins s σ H _ u Q I r ⟨a, ws, rfl, by rw [hK]; exact SqT.sub rl.sub h1, by rw [t1.len]; exact hl, g, Γ, S, ds, rl, vs, t1, p⟩
    · exact p.elim
  · exact p.elim
end DL
/-! D24: enumerate of a tuple. -/
namespace DL
open PySem PySem.Spec PyProof.Rows L2
abbrev tupIt (a : Addr) : Obj := { cls := .type "tuple_iterator", data := .fields #[.ref a, .int 0 0] }
abbrev enObj (it : Addr) : Obj := { cls := .type "enumerate", data := .fields #[.none, .bool false, .ref it, rawInt 0, .none, .none] }
theorem meets_enum_tup (a : Addr) (items : Array Value) :
    Meets (Builtin.«enumerate.__new__» ⟨[.type "enumerate", .ref a], []⟩) (fun _ R s => s.heap.IsTuple a items ∧ R (.ok (.ret (.ref (s.heap.push (tupIt a)).objs.size))) { s with heap := (s.heap.push (tupIt a)).push (enObj s.heap.objs.size) }) :=
  .of_wp fun prog w A R s h => by
    obtain ⟨hp, g, d, tk, os⟩ := s; obtain ⟨hl, h⟩ := h
    have hsub := sub_enumerate
    obtain ⟨ol, hol, hcl, nl, hdl⟩ := id hl
    have q1 : ∀ {A' : Around} {E : Value → Shared → Prop} {Q : Value → Shared → Prop}, Q (.ref hp.objs.size) ⟨hp.push (tupIt a), g, d, tk, os⟩ → wpAny (model prog w) A' (pyIter (.ref a)) Q E ⟨hp, g, d, tk, os⟩ := fun q => wpAny_pyIter_tuple (s := ⟨hp, g, d, tk, os⟩) hl q
    wp_walk using q1, wpAny_loadPart' hol
    refine wpAny_stack_any fun st => wpAny_pure ?_
    split
    · rename_i c _ _ _ _ _
      cases (c == Value.type "enumerate")
      · wp_walk using q1, wpAny_loadPart' hol
        exact ⟨_, rfl, h⟩
      · wp_walk using q1, wpAny_loadPart' hol
        exact ⟨_, rfl, h⟩
    · wp_walk using q1, wpAny_loadPart' hol
      exact ⟨_, rfl, h⟩
theorem call_enum_tup {prog : Program} {w : World} {A : Around} {E : Value → Shared → Prop} {s : Shared} {a : Addr} {items : Array Value} {Q : Value → Shared → Prop} (hl : s.heap.IsTuple a items)
    (h : ∀ h', IsEnum h' (s.heap.objs.size + 1) s.heap.objs.size 0 .none → h'.IsTupleIter s.heap.objs.size a 0 → h'.objs.size = s.heap.objs.size + 2 →
      (∀ b o, s.heap.get? b = some o → h'.get? b = some o) → Q (.ref (s.heap.objs.size + 1)) { s with heap := h' }) :
    wpAny (model prog w) A (call (.type "enumerate") [.ref a]) Q E s := by
  refine callType_new F.called_enumerate (by decide) (F.typeCall_enumerate_1 _) (F.newCall_enumerate_1 _) (fun obj => F.args_object_init_2 obj _) F.entry_enumerate_new (meets_enum_tup a items) ⟨hl, ?_⟩
  have hz : (s.heap.push (tupIt a)).objs.size = s.heap.objs.size + 1 := Heap.size_push ..
  show _ ∧ _
  rw [hz]
  have he : IsEnum ((s.heap.push (tupIt a)).push (enObj s.heap.objs.size)) (s.heap.objs.size + 1) s.heap.objs.size 0 .none := by
    have := Heap.get?_push_size (s.heap.push (tupIt a)) (o := enObj s.heap.objs.size) rfl
    rwa [hz] at this
  exact ⟨⟨_, he, rfl⟩, h _ he ⟨_, Heap.get?_push_of_some _ (Heap.get?_push_size _ rfl), rfl, rfl⟩ (by rw [Heap.size_push, hz]) fun b o x => Heap.get?_push_of_some _ (Heap.get?_push_of_some _ x)⟩
/-- the tuple at a at each turn, each item in a new pair -/
def ItET (K : PySem.W.Frag) (a : Addr) : It :=
  ⟨fun i H => ∃ (xs : List V) (x : V), SqT K H a xs ∧ xs[i]? = some x, fun i H v H' => ∃ T x, v = .ref T ∧ H T = none ∧ H' = upd H T (.tup [.int (i : Nat), x]) ∧ ∀ xs, SqT K H a xs → xs[i]? = some x, fun i H => ∃ xs : List V, SqT K H a xs ∧ xs.length ≤ i⟩
theorem turn_enumT {P : Program} {w : World} {K : PySem.W.Frag} {elts : List Expr} {kk : Nat} {tpos : Pos} (a e it : Addr) :
    Turn P w K (.Tuple elts kk tpos) (ItET K a) [e, it] e (fun i h => (∃ old, IsEnum h e it ((i : Nat) : Int) old) ∧ h.IsTupleIter it a i ∧ e ≠ it) where
  mem := by simp
  obj := fun i h st b hb => by
    obtain ⟨⟨old, he⟩, ⟨o, ho, hc, hd⟩, _⟩ := st
    have e' : b = e ∨ b = it := by simpa using hb
    rcases e' with z | z
    · rw [z]; exact ⟨_, he, fun v q => nomatch q⟩
    · rw [z]; exact ⟨o, ho, fun v q => by rw [hd] at q; cases q⟩
  keep := fun i h h' st k => let ⟨⟨old, he⟩, hi, hne⟩ := st; ⟨⟨old, k e (by simp) _ he⟩, hi.at fun o q => k it (by simp) o q, hne⟩
  item := by
    intro X hP hw hK hc i pins s σ H E I hf st hg
    subst hP hw hK
    obtain ⟨⟨old, he⟩, hit, hne⟩ := st
    obtain ⟨xs, x, hq, hx⟩ := hg
    obtain ⟨its, rv, p, hz⟩ := I.tuple hq
    obtain ⟨u, hu, ru⟩ := rv.get hx
    have hT0 : s.heap.IsTuple a its.toArray := p
    have hel : e < s.heap.objs.size := Heap.lt_size he
    have hil : it < s.heap.objs.size := by obtain ⟨_, q, _⟩ := hit; exact Heap.lt_size q
    have nai : a ≠ it := fun z => by
      obtain ⟨o, h1, h2, _⟩ := hT0
      obtain ⟨o', h3, h4, _⟩ := hit
      rw [z, h3] at h1
      cases h1
      rw [h4] at h2
      exact absurd h2 (by decide)
    have nae : e ∉ [it, a] := fun hm => by
      rcases List.mem_cons.mp hm with z | hm
      · exact hne z
      · rw [List.mem_singleton.mp hm] at he
        obtain ⟨o, h1, h2, _⟩ := hT0
        rw [show s.heap.get? a = _ from he] at h1
        cases h1
        exact absurd (show Value.type "enumerate" = Value.type "tuple" from h2) (by decide)
    have hd : X.A.in1.handled = none := by simp [I.ok.hd hc]
    have hi : i < its.toArray.size := by rw [List.size_toArray]; exact (List.getElem?_eq_some_iff.mp hu).1
    refine wpAny_pyNext_enum_itemD (Draws.tuple hd it a nai its.toArray) he ⟨hit, hT0⟩ hi hne nae fun y h' tk hy ho hst' hT hsz hk => ?_
    have ey : y = u := by
      have hy' : its[i]? = some y := by simpa using hy
      rw [hu] at hy'
      exact (Option.some.inj hy').symm
    subst ey
    refine ⟨_, rfl, wpAny_letOwnedTupleGo_enum (s := { s with heap := h', toks := tk + 1 }) ho fun h'' he' sb => ?_⟩
    have hT2 : h''.get? s.heap.objs.size = some { cls := .type "tuple", data := .seq #[.int i tk, y] } := (sb.2 _ (Nat.ne_of_gt hel)).trans hT
    have new : ObjOk X.prog X.w (upd H s.heap.objs.size (.tup [.int (i : Nat), x])) h'' s.heap.objs.size (.tup [.int (i : Nat), x]) :=
      ⟨by show 2 ≤ sizeLine; decide, [.int i tk, y], .cons ⟨_, rfl⟩ (.cons ru .nil), ⟨_, hT2, rfl, _, rfl⟩⟩
    have I1 : Inv X pins σ (upd H s.heap.objs.size (.tup [.int (i : Nat), x])) { s with heap := h'', toks := tk + 1 } :=
      I.turnedNew (ch := [e, it]) (fun b ob hb q => (sb.2 b (fun z => hb (by simp [z]))).trans (hk b ob (fun z => hb (by simp [z])) (fun z => hb (by simp [z])) q)) hf (Nat.le_refl _) new
    refine ⟨.ref s.heap.objs.size, _, I1, rfl, ⟨_, x, rfl, I.hok.fresh (Nat.le_refl _), rfl, fun ys hy => by rw [I.tuple_inj hy hq]; exact hx⟩, ⟨⟨y, ?_⟩, hst'.1.at fun o q => (sb.2 it (Ne.symm hne)).trans q, hne⟩, fun b hb => ?_⟩
    · have e1 : ((i + 1 : Nat) : Int) = (i : Int) + 1 := by omega
      rw [e1]; exact he'
    · have hb' : b < s.heap.objs.size := by
        have e' : b = e ∨ b = it := by simpa using hb
        rcases e' with z | z
        · rw [z]; exact hel
        · rw [z]; exact hil
      rw [upd_ne (Nat.ne_of_lt hb')]
      exact (hf b hb).1
  done := by
    intro X hP hw hK hc i pins s σ H E I hf st hg
    subst hP hw hK
    obtain ⟨⟨old, he⟩, hit, hne⟩ := st
    obtain ⟨xs, hq, hx⟩ := hg
    obtain ⟨its, rv, p, hz⟩ := I.tuple hq
    obtain ⟨f0, f1, f2, f3, f4, f5⟩ := hf it (by simp)
    have hl := rv.length
    have hT0 : s.heap.IsTuple a its.toArray := p
    have hd : X.A.in1.handled = none := by simp [I.ok.hd hc]
    have hT := (show s.TypeIs (.ref e) "enumerate" from ⟨_, he, rfl⟩)
    unfold pyNext
    refine wpAny_bind (wpAny_attempt (wpAny_callSpecial?_slot (name := Str.ofString "__next__") hT F.slot_enumerate_next
      (wpAny_call_entry F.slot_enumerate_next hT F.entry_enumerate_next ?_ (F.args_enumerate_next_1 _))))
    show wpAny _ _ (field (.ref e) 2 >>= _) _ _ _
    refine wpAny_bind (wpAny_field he rfl (x := .ref it) rfl ?_)
    refine wpAny_bind (wpAny_nextOf_tuple_end hd hit hT0 (by simp; omega) fun h' x he' hx' => ?_)
    obtain ⟨o, ho, hc'⟩ := hx'
    refine wpAny_bind (wpAny_isInstance (T := "StopIteration") (b := true) ⟨o, ho, hc'⟩ isSubtype_stop ?_)
    exact wpAny_pure ⟨rfl, I.turned (t' := s.toks) (fun b o hb q => he' b o hb q) f0 f1 f3 f4 f5⟩
  self := fun A i s Q E st h => let ⟨⟨_, he⟩, _⟩ := st; wpAny_pyIter_enum he h
def iEnumT (K : PySem.W.Frag) (ta : TA) : TI := fun σ H R => ta σ H fun vs H1 => ∃ a xs, vs = [.ref a] ∧ ((SqL K H1 a xs ∧ R (Ite K a) H1) ∨ (SqT K H1 a xs ∧ R (ItET K a) H1))
theorem pi_enumT {X : Cx} {e : Expr} {ta : TA} {p pos tpos : Pos} {elts : List Expr} {kk : Nat} (hg : Gl X "enumerate") (hm : X.mg "enumerate" = none) (ha : PA X [e] ta) (hs : starEach [e] X.env = [(false, eval e X.env)] := by rfl) :
    PI X (.Tuple elts kk tpos) (.Call (.Name "enumerate" p) [e] [] pos) (iEnumT X.K ta) := by
  refine ⟨fun pins s σ H R I h => ?_⟩
  refine Call_ (ld_blt I hg hm boot_enumerate (PyProof.Rows.callWith_type1 (thn (ha.run pos pins s σ H _ I h) fun us s1 ⟨vs, H1, I1, r1, q1⟩ => ?_) hs rfl))
  obtain ⟨a, xs, ex, q⟩ := q1
  subst ex
  cases r1 with
  | cons r rr =>
    cases rr
    cases r
    have fin : ∀ {h' : Heap} {J : It} {tn : Nat → Heap → Prop}, (∀ b o, s1.heap.get? b = some o → h'.get? b = some o) → Turn X.prog X.w X.K (.Tuple elts kk tpos) J [s1.heap.objs.size + 1, s1.heap.objs.size] (s1.heap.objs.size + 1) tn → tn 0 h' → R J H1 →
        PIE X pins σ (.Tuple elts kk tpos) R (.ref (s1.heap.objs.size + 1)) { s1 with heap := h' } := fun {h' J tn} hk T t0 q => by
      have I2 : Inv X pins σ H1 { s1 with heap := h' } := I1.kept (t' := s1.toks) hk
      refine ⟨s1.heap.objs.size + 1, [s1.heap.objs.size + 1, s1.heap.objs.size], _, _, H1, rfl, I2, T, t0, fun b hb => ?_, q⟩
      have hle : s1.heap.objs.size ≤ b := by
        have e' : b = s1.heap.objs.size + 1 ∨ b = s1.heap.objs.size := by simpa using hb
        rcases e' with z | z
        · rw [z]; exact Nat.le_add_right _ _
        · rw [z]; exact Nat.le_refl _
      exact I1.fpOk hle (I1.hok.fresh hle)
    rcases q with ⟨hq, q⟩ | ⟨hq, q⟩
    · obtain ⟨its, rv, p', hz⟩ := I1.list hq
      refine call_enumerate_list p'.isList fun h' he hit hsz hk => wpAny_pyIter_enum he ?_
      exact fin hk (turn_enum a _ _) ⟨⟨.none, he⟩, hit, Nat.succ_ne_self _⟩ q
    · obtain ⟨its, rv, p', hz⟩ := I1.tuple hq
      refine call_enum_tup (show s1.heap.IsTuple a its.toArray from p') fun h' he hit hsz hk => wpAny_pyIter_enum he ?_
      exact fin hk (turn_enumT a _ _) ⟨⟨.none, he⟩, hit, Nat.succ_ne_self _⟩ q
/-- enumerate of a list or a tuple -/
def enumTS : SV → Store → Out Src := fun v S => match v with
  | .d (.list xs) => .ok ⟨enumD xs, fun _ => true⟩ S
  | .d (.tuple xs) => .ok ⟨enumD xs, fun _ => true⟩ S
  | _ => .no
def iEnmT (fa : EF) : IF := fun Γ S => (fa Γ S).bind fun v S => enumTS v S
theorem i_enumT {X : Cx} {M : Mi} {W : WX} {a : Expr} {fa : EF} {p pos : Pos} (hK : X.K = M.K) {elts : List Expr} {kk : Nat} {tpos : Pos} (hg : Gl X "enumerate") (hm : X.mg "enumerate" = none) (ha : DE X M W a fa) (hs : starEach [a] X.env = (false, eval a X.env) :: starEach [] X.env := by rfl) (hs' : starEach [a] X.env = [(false, eval a X.env)] := by rfl) :
    DI X M W (.Tuple elts kk tpos) (.Call (.Name "enumerate" p) [a] [] pos) (iEnmT fa) :=
  (pi_enumT hg hm (pa_cons ha pa_nil hs) hs').weak fun σ H R h => by
    obtain ⟨g, Γ, S, r, v, p⟩ := h
    refine step r v p fun u H1 g1 S1 w gr r1 v1 q1 p1 => ?_
    rw [hK]
    unfold enumTS at p1
    split at p1
    · rename_i xs
      cases q1 with
      | lst h1 z1 t1 =>
        refine ⟨_, _, rfl, .inl ⟨SqL.of (r1.sub _ _ h1), p1.now r1 ⟨by unfold enumD; rw [List.length_mapIdx]; exact z1, fun g H S r hB hF _ => ?_⟩⟩⟩
        have e1 := r.sub _ _ (hF _ _ h1)
        refine ⟨⟨_, SqL.of e1, ?_⟩, fun i d e => ?_⟩
        · show _ ≤ (enumD xs).length
          unfold enumD
          rw [List.length_mapIdx, t1.len]; exact Nat.le_refl _
        · have e' : (enumD xs)[i]? = some d := e
          unfold enumD at e'
          rw [List.getElem?_mapIdx] at e'
          cases hx : xs[i]? with
          | none => rw [hx] at e'; cases e'
          | some x =>
            rw [hx] at e'
            cases e'
            obtain ⟨a1, hu, ru⟩ := t1.get hx
            refine ⟨⟨_, a1, SqL.of e1, hu⟩, fun z H' yy => ?_⟩
            obtain ⟨T, a2, rfl, hT, rfl, y1⟩ := yy
            have k1 := y1 _ (SqL.of e1)
            rw [hu] at k1
            cases k1
            exact pair_new r hT (.int _) (Rp.sub hF _ _ ru)
    · rename_i xs
      cases q1 with
      | tup h1 z1 t1 =>
        refine ⟨_, _, rfl, .inr ⟨SqT.sub r1.sub h1, p1.now r1 ⟨by unfold enumD; rw [List.length_mapIdx]; exact z1, fun g H S r hB hF _ => ?_⟩⟩⟩
        have e1 := SqT.sub r.sub (SqT.sub hF h1)
        refine ⟨⟨_, e1, ?_⟩, fun i d e => ?_⟩
        · show _ ≤ (enumD xs).length
          unfold enumD
          rw [List.length_mapIdx, t1.len]; exact Nat.le_refl _
        · have e' : (enumD xs)[i]? = some d := e
          unfold enumD at e'
          rw [List.getElem?_mapIdx] at e'
          cases hx : xs[i]? with
          | none => rw [hx] at e'; cases e'
          | some x =>
            rw [hx] at e'
            cases e'
            obtain ⟨a1, hu, ru⟩ := t1.get hx
            refine ⟨⟨_, a1, e1, hu⟩, fun z H' yy => ?_⟩
            obtain ⟨T, a2, rfl, hT, rfl, y1⟩ := yy
            have k1 := y1 _ e1
            rw [hu] at k1
            cases k1
            exact pair_new r hT (.int _) (Rp.sub hF _ _ ru)
    · exact p1.elim
end DL
/-! D25: several clauses «except X as n: return e», one after the other. -/
namespace DL
open PySem PySem.Spec PyProof.Rows L2
/-- a clause that binds: the class it names, the slot of its name, what its suite does -/
structure AsCl where
  c : Value
  i : Nat
  ts : Addr → Value → Option Addr → TS
/-- behind a clause its name is gone -/
def clEnds (D : Ends) (i : Nat) : Ends where
  nx σ H := D.nx (σ.set i none) H
  rt := D.rt
  bk σ H := D.bk (σ.set i none) H
  ct σ H := D.ct (σ.set i none) H
def wAsL (K : PySem.W.Frag) (Wout : WX) (D : Ends) : List AsCl → WX
  | [] => Wout
  | k :: r => fun cls d σ H => ∃ b, PySem.W.exmOne K cls k.c = some b ∧ (b = true → ∀ a, H a = none → k.ts a cls d (clEnds D k.i) (σ.set k.i (some (.ref a))) H) ∧ (b = false → wAsL K Wout D r cls d σ H)
inductive AsOk (X : Cx) : List ExceptHandler → List AsCl → Prop
  | nil : AsOk X [] []
  | cons {x n : Str} {k : AsCl} {b0 : Stmt} {bs : List Stmt} {p q : Pos} {hs : List ExceptHandler} {l : List AsCl} (hc : Names X x k.c) (hi : X.N[k.i]? = some n) (hn : X.env.kindOf n = some .local)
      (su : ∀ (a : Addr) (o : Obj) (cls : Value) (d : Option Addr) (pn : List (Addr × Obj)), Zc cls d o → (∃ vs, o.data = .fields vs) → PSs (X.suite a ((a, o) :: pn)) (b0 :: bs) (k.ts a cls d)) (r : AsOk X hs l) :
      AsOk X (.ExceptHandler (some (.Name x p)) (some n) (b0 :: bs) q :: hs) (k :: l)
/-- the exception has been caught here, no clause has taken it yet -/
structure Caught (X : Cx) (pins : List (Addr × Obj)) (a : Addr) (cls : Value) (d : Option Addr) (σ : L2.St) (H : Hp) (B : Heap) (sI s : Shared) : Prop where
  J : Inv X pins σ H sI
  nb : ∀ b o, sI.heap.get? b = some o → b ∉ frs X.stack → B.get? b = some o
  up : sI.heap.UpToSlots s.heap
  na : H a = none
  os : s.os = sI.os
  ag : AllBare s.gens
  fl : HandSPX.FlyingZ B (X.env :: X.outer) a (Zc cls d) s.heap
section
variable {X : Cx} {pins : List (Addr × Obj)} {a : Addr} {cls : Value} {d : Option Addr} {σ : L2.St} {H : Hp} {B : Heap} {sI s : Shared}
theorem Caught.inv (c : Caught X pins a cls d σ H B sI s) : Inv X pins σ H s := c.J.landed c.nb c.fl.1 c.up c.os c.ag
theorem Caught.later (c : Caught X pins a cls d σ H B sI s) {h : Heap} (fl : HandSPX.FlyingZ B (X.env :: X.outer) a (Zc cls d) h) (up : s.heap.UpToSlots h) : Caught X pins a cls d σ H B sI { s with heap := h } :=
  ⟨c.J, c.nb, c.up.trans up, c.na, c.os, c.ag, fl⟩
/-- the suite's own context -/
theorem Caught.suite (hf : X.env.frame = some X.env.locals) (c : Caught X pins a cls d σ H B sI s) : ∃ o, Zc cls d o ∧ (∃ vs, o.data = .fields vs) ∧ s.heap.get? a = some o ∧ Inv (X.suite a ((a, o) :: (X.pn ++ pins))) [] σ H s := by
  obtain ⟨o, vs, he, hz, hd⟩ := c.fl.there
  have far : a ∉ frs (X.env :: X.outer) := fun hm => by
    obtain ⟨_, o', e', z⟩ := c.fl.2.2.1.mem hm
    rw [he] at e'
    cases e'
    exact z _ hd
  refine ⟨o, hz, ⟨vs, hd⟩, he, c.inv.suite he hd c.na (fun z => far ?_) fun hm => ?_⟩
  · exact List.mem_filterMap.mpr ⟨X.env, List.mem_cons_self, by rw [hf, z]⟩
  · obtain ⟨e, h1, h2⟩ := List.mem_filterMap.mp hm
    exact far (List.mem_filterMap.mpr ⟨e, List.mem_cons_of_mem _ h1, h2⟩)
variable {Wout : WX} {D : Ends}
/-- no clause is left: it flies on -/
theorem Caught.on (hs : X.stack = X.env :: X.outer) (hf : X.env.frame = some X.env.locals) (tk : Takes X Wout) (c : Caught X pins a cls d σ H B sI s) (hw : Wout cls d σ H) : wpAny (model X.prog X.w) X.A (handleBy (.ref a) X.env []) (SP X pins D) X.xe s := by
  have go : wpAny (model X.prog X.w) X.A (setFlight (.ref a) X.env.frame) (fun _ t => wpAny (model X.prog X.w) X.A (throw (.ref a) : Sem Flow) (SP X pins D) X.xe t) X.xe s := by
    rw [hf]
    exact HandSPX.setFlight_upZ c.fl fun h hh up => wpAny_throw (tk _ _ ⟨a, B, sI, pins, σ, H, cls, d, rfl, c.J, c.nb, c.up.trans up, .inr (.inr (by rw [hs]; exact hh)), c.na, c.os, c.ag, hw⟩)
  obtain ⟨_, _, _, o, vs, T, _, _, he, _, hd, h1, _⟩ := c.fl
  refine wpAny_handleBy_nil ?_
  unfold PySem.passOn
  refine wpAny_bind (wpAny_field he hd h1 ?_)
  rw [if_neg (show ¬ ((Value.ref T == Value.none) = true) by simp)]
  first
    | exact wpAny_bind go
    | exact wpAny_bind (wpAny_pure (wpAny_bind go))
theorem Caught.by {hs' : List ExceptHandler} {l : List AsCl} (hs : X.stack = X.env :: X.outer) (hf : X.env.frame = some X.env.locals) (hN : X.N.Nodup) (tk : Takes X Wout) (hk : AsOk X hs' l) (c : Caught X pins a cls d σ H B sI s) (hw : wAsL X.K Wout D l cls d σ H) :
    wpAny (model X.prog X.w) X.A (handleBy (.ref a) X.env hs') (SP X pins D) X.xe s := by
  induction hk with
  | nil => exact c.on hs hf tk hw
  | @cons x n k b0 bs p q hs2 l2 hc hi hn su r ih =>
    obtain ⟨b, hb, yes, no⟩ := hw
    obtain ⟨o, hz, hd, he, S⟩ := c.suite hf
    have seen : PySem.W.Looks (model X.prog X.w) s.heap (typeOf (.ref a)) cls := fun A Q E t k q => wpAny_typeOf_ref (k _ _ he) (by rw [hz.1]; exact q)
    have met := PySem.W.exm_one (M := model X.prog X.w) c.inv.kIn seen hb
    refine wpAny_handleBy_cons (codeAny_handlers_test ?_) (by intro z; cases z)
    have named : ∀ {Q E : Value → Shared → Prop}, Q k.c s → wpAny (model X.prog X.w) (X.A.mark (some (.ref a))) (eval (.Name x p) X.env) Q E s := fun {Q E} z => by
      obtain ⟨hg, hdb, h | ⟨h1, h2, h3⟩⟩ := hc
      · exact ld_glob (X := X.suite a ((a, o) :: (X.pn ++ pins))) S hg h z hdb
      · exact ld_blt (X := X.suite a ((a, o) :: (X.pn ++ pins))) S hg h1 h2 z h3 hdb
    refine named (met.here ?_)
    cases b with
    | false => exact ih (no rfl)
    | true =>
      refine codeAny_handlers_suite_as (HandSPX.lands_againZ c.fl fun h fl up => ?_)
      obtain ⟨o', hz', hd', he', S'⟩ := (c.later fl up).suite hf
      refine store_ok (X := X.suite a ((a, o') :: (X.pn ++ pins))) (v := .ref a) S' hN hi (.inl hn) rfl (fun t S2 => ?_) (.inr hn)
      refine wpAny_mono ((su a o' cls d (X.pn ++ pins) hz' hd').run [] t _ H _ S2 (yes rfl a c.na)) (fun f t2 hf2 => ?_) fun _ _ z => z.elim
      have gone : ∀ {σ' : L2.St} {H' : Hp} {Q : Shared → Prop}, Inv (X.suite a ((a, o') :: (X.pn ++ pins))) [] σ' H' t2 → (∀ t3, Inv X pins (σ'.set k.i none) H' t3 → Q t3) → wpAny (model X.prog X.w) X.A (do bindName X.env n .none; unbindBehindTheSuite X.env n q) (fun _ t3 => Q t3) X.xe t2 :=
        fun {σ' H' Q} I' hq => gone_ok (I'.unsuite c.J.ok) hN hi hn hq
      cases f with
      | ret u =>
        obtain ⟨v, σ', H', I', rv, z⟩ := hf2
        exact gone I' fun t3 J3 => ⟨v, _, _, J3, rv, z⟩
      | next =>
        obtain ⟨σ', H', I', z⟩ := hf2
        exact gone I' fun t3 J3 => ⟨_, _, J3, z⟩
      | brk =>
        obtain ⟨σ', H', I', z⟩ := hf2
        exact gone I' fun t3 J3 => ⟨_, _, J3, z⟩
      | cont =>
        obtain ⟨σ', H', I', z⟩ := hf2
        exact gone I' fun t3 J3 => ⟨_, _, J3, z⟩
theorem ps_tryAsL {body : List Stmt} {h0 : ExceptHandler} {hs' : List ExceptHandler} {l : List AsCl} {pos : Pos} {tb : WX → TS} (hs : X.stack = X.env :: X.outer) (hf : X.env.frame = some X.env.locals) (hN : X.N.Nodup) (tk : Takes X Wout)
    (hb : ∀ (W : WX) (pn : List (Addr × Obj)) (xe : Value → Shared → Prop), Takes (X.tr pn xe) W → PassesOwn (model X.prog X.w) X.A X.env xe → PSs (X.tr pn xe) body (tb W)) (hk : AsOk X (h0 :: hs') l) :
    PS X (.Try body (h0 :: hs') [] [] pos) (fun D σ H => tb (wAsL X.K Wout D l) D σ H) := by
  refine ⟨fun pins s σ H D I h => wpAny_Try_except ?_⟩
  have ok := I.ok
  refine wpAny_mono ((hb (wAsL X.K Wout D l) (X.pn ++ pins) (fun e t => wpAny (model X.prog X.w) X.A (noteFrame e X.env) (fun _ t2 => wpAny (model X.prog X.w) X.A (setFlight e none) (fun _ t3 => wpAny (model X.prog X.w) X.A (handleBy e X.env (h0 :: hs')) (SP X pins D) X.xe t3) X.xe t2) X.xe t) (fun u t x => ?_) PassesOwn.looking).run [] s σ H D (I.toTry _) h) (fun f t z => ?_) fun _ _ z => z
  · obtain ⟨a, B, sI, pins', σ', H', cls, d, rfl, J, nb, up, sky, na, os, ag, w⟩ := x
    rw [show (X.tr (X.pn ++ pins) _).stack = X.env :: X.outer from hs] at sky
    refine Sky.land Zc.steady (by rw [ok.frames, hs]) hf sky fun h fl up3 => ?_
    exact Caught.by (s := { t with heap := h }) hs hf hN tk hk ⟨J.ofTry ok, nb, up.trans up3, na, os, ag, fl⟩ w
  · cases f with
    | ret u =>
      obtain ⟨v, σ', H', J, r, q⟩ := z
      exact ⟨v, σ', H', J.ofTry ok, r, q⟩
    | next =>
      obtain ⟨σ', H', J, q⟩ := z
      exact wpAny_execs_nil ⟨σ', H', J.ofTry ok, q⟩
    | brk =>
      obtain ⟨σ', H', J, q⟩ := z
      exact ⟨σ', H', J.ofTry ok, q⟩
    | cont =>
      obtain ⟨σ', H', J, q⟩ := z
      exact ⟨σ', H', J.ofTry ok, q⟩
end
/-- a clause as the layer tells it: what it catches, its slot, the row it hands back -/
abbrev RetCl := (Str → Option Bool) × Nat × (Exc → EF)
def pickX : List RetCl → Exc → Ev → Store → Out Fl
  | [], x, Γ, S => .ok (.xc x Γ) S
  | (ok, i, su) :: r, x, Γ, S => match ok x.cls with
    | some true => if i < Γ.length then (match su x (Γ.set i none) S with
      | .ok v S' => .ok (.rt v) S'
      | _ => .no) else .no
    | some false => pickX r x Γ S
    | none => .no
/-- try: body / except X as n: return e / except Y as m: return f .. -/
def fTryRets (l : List RetCl) (body : SF) : SF := fun Γ S => match body Γ S with
  | .ok (.xc x Γ') S' => pickX l x Γ' S'
  | o => o
def asCl (M : Mi) (k : Value × RetCl) : AsCl := ⟨k.1, k.2.2.1, fun a cls d D σ H => ∃ x, tI2 M k.2.2.1 a cls d x (rS M) (k.2.2.2 x) σ H fun u H' => D.rt u H'⟩
inductive RetOk (X : Cx) (M : Mi) : List ExceptHandler → List (Value × RetCl) → Prop
  | nil : RetOk X M [] []
  | cons {x n : Str} {C : Addr} {ok : Str → Option Bool} {i : Nat} {su : Exc → EF} {e : Expr} {p q rp : Pos} {hs : List ExceptHandler} {l : List (Value × RetCl)} (hc : Names X x (.ref C)) (hok : ∀ c b, ok c = some b → ∀ D, M.cn c = some D → PySem.W.exmOne X.K (.ref D) (.ref C) = some b) (hi : X.N[i]? = some n) (hn : X.env.kindOf n = some .local)
      (hsu : ∀ (a : Addr) (o : Obj) (cls : Value) (d : Option Addr) (pn : List (Addr × Obj)) (y : Exc), Zc cls d o → (∃ vs, o.data = .fields vs) → DEi (X.suite a ((a, o) :: pn)) M i a cls d y e (su y)) (r : RetOk X M hs l) :
      RetOk X M (.ExceptHandler (some (.Name x p)) (some n) [.Return (some e) rp] q :: hs) ((.ref C, ok, i, su) :: l)
theorem RetOk.as {X : Cx} {M : Mi} {hs : List ExceptHandler} {l : List (Value × RetCl)} (h : RetOk X M hs l) : AsOk X hs (l.map (asCl M)) := by
  induction h with
  | nil => exact .nil
  | cons hc hok hi hn hsu r ih =>
    refine .cons hc hi hn (fun a o cls d pn hz hd => ⟨fun pins s σ H D I h => ?_⟩) ih
    obtain ⟨y, h⟩ := h
    exact (pss_one (ps_ret (hsu a o cls d pn y hz hd))).run pins s σ H D I h
theorem RetOk.wish {X : Cx} {M : Mi} {Wout : WX} {D : Ends} {hs : List ExceptHandler} {l : List (Value × RetCl)} (h : RetOk X M hs l) {y : Exc} {Γ : Ev} {S : Store} {cls : Value} {d : Option Addr} {σ : L2.St} {g : Gh} {H : Hp} (r : Rel M.K g H S) (v : Vars M.K g σ Γ) (xr : XRep M g.F y cls d)
    (out : ∀ u H' g' S' w, Grow g H g' H' → Rel M.K g' H' S' → RepS M.K g' u w → pickX (l.map (·.2)) y Γ S = .ok (.rt w) S' → D.rt u H') (pass : pickX (l.map (·.2)) y Γ S = .ok (.xc y Γ) S → Wout cls d σ H)
    (good : (∃ w S', pickX (l.map (·.2)) y Γ S = .ok (.rt w) S') ∨ pickX (l.map (·.2)) y Γ S = .ok (.xc y Γ) S) : wAsL X.K Wout D (l.map (asCl M)) cls d σ H := by
  induction h with
  | nil => exact pass rfl
  | @cons x n C ok i su e p q rp hs l hc hok hi hn hsu r' ih =>
    obtain ⟨B, n1, rfl, q2⟩ := id xr
    simp only [List.map_cons, pickX] at out pass good ⊢
    cases ho : ok y.cls with
    | none => simp [ho] at good
    | some t =>
      refine ⟨t, hok _ _ ho _ n1, fun ht a na => ?_, fun ht => ?_⟩
      · subst ht
        simp only [ho] at out good
        by_cases hl : i < Γ.length
        · rw [if_pos hl] at out good
          cases hx : su y (Γ.set i none) S with
          | no => simp [hx] at good
          | ex _ _ => simp [hx] at good
          | ok w S' =>
            refine ⟨y, g, Γ.set i none, S, r, v.hide i _, ⟨List.getElem?_set_self (by rw [v.len]; exact hl), B, n1, rfl, q2⟩, ?_⟩
            show Post _ _ _ _ _ _ _ (su y (Γ.set i none) S)
            rw [hx]
            exact fun u g2 H2 gr2 r2 q3 => out u H2 g2 S' w gr2 r2 q3 (by rw [hx])
        · rw [if_neg hl] at good
          simp at good
      · subst ht
        simp only [ho] at out pass good
        exact ih out pass good
theorem pickX_cases (l : List RetCl) (y : Exc) (Γ : Ev) (S : Store) : (∃ w S', pickX l y Γ S = .ok (.rt w) S') ∨ pickX l y Γ S = .ok (.xc y Γ) S ∨ pickX l y Γ S = .no := by
  induction l with
  | nil => exact .inr (.inl rfl)
  | cons k l ih =>
    obtain ⟨ok, i, su⟩ := k
    unfold pickX
    cases ho : ok y.cls with
    | none => exact .inr (.inr rfl)
    | some t =>
      cases t with
      | false => exact ih
      | true =>
        simp only
        by_cases hl : i < Γ.length
        · rw [if_pos hl]
          cases hx : su y (Γ.set i none) S with
          | no => exact .inr (.inr rfl)
          | ex _ _ => exact .inr (.inr rfl)
          | ok w S' => exact .inl ⟨w, S', rfl⟩
        · rw [if_neg hl]
          exact .inr (.inr rfl)
theorem s_tryRets {X : Cx} {M : Mi} {Wout : WX} {body : List Stmt} {h0 : ExceptHandler} {hs' : List ExceptHandler} {pos : Pos} {b : SF} {l : List (Value × RetCl)} (hs : X.stack = X.env :: X.outer) (hf : X.env.frame = some X.env.locals) (hN : X.N.Nodup) (tk : Takes X Wout)
    (hb : ∀ (W : WX) (pn : List (Addr × Obj)) (xe : Value → Shared → Prop), Takes (X.tr pn xe) W → PassesOwn (model X.prog X.w) X.A X.env xe → DSs (X.tr pn xe) M W body b) (hk : RetOk X M (h0 :: hs') l) :
    DS X M Wout (.Try body (h0 :: hs') [] [] pos) (fTryRets (l.map (·.2)) b) := by
  refine (ps_tryAsL hs hf hN tk hb hk.as).weak fun D σ H ⟨g, Γ, S, r, v, p⟩ => ⟨g, Γ, S, r, v, ?_⟩
  unfold fTryRets at p
  cases hbo : b Γ S with
  | no => rw [hbo] at p; exact p
  | ex y S' => rw [hbo] at p; exact p
  | ok f S' =>
    rw [hbo] at p
    cases f with
    | nx Γ' => exact p
    | rt w => exact p
    | bk Γ' => exact p
    | ct Γ' => exact p
    | xc y Γ' =>
      simp only at p
      intro cls d σ' g' H' gr r' v' q'
      refine hk.wish r' v' q' (fun u H2 g2 S2 w gr2 r2 q2 e => ?_) (fun e => ?_) ?_
      · rw [e] at p
        exact p u g2 H2 (gr.trans r' gr2) r2 q2
      · rw [e] at p
        exact p _ _ σ' g' H' gr r' v' q'
      · rcases pickX_cases (l.map (·.2)) y Γ' S' with h | h | h
        · exact .inl h
        · exact .inr h
        · rw [h] at p
          exact p.elim
end DL
/-! D26: {k: v, ..} as a new cell. -/
namespace DL
open PySem L2
/-- the pairs, from the left -/
def runPs : List (EF × EF) → Ev → Store → Option (List (SV × SV) × Store)
  | [], _, S => some ([], S)
  | (f, h) :: r, Γ, S => match f Γ S with
    | .ok a S1 => match h Γ S1 with
      | .ok b S2 => match runPs r Γ S2 with
        | some (ps, S3) => some ((a, b) :: ps, S3)
        | none => none
      | _ => none
    | _ => none
def keyedD : List (SV × SV) → Option (List (Key × PyData))
  | [] => some []
  | (.d k, .d v) :: r => match keyP k, keyedD r with
    | some key, some ds => some ((key, v) :: ds)
    | _, _ => none
  | _ :: _ => none
def mergeD (ds more : List (Key × PyData)) : List (Key × PyData) := more.foldl (fun acc kv => putD acc kv.1 kv.2) ds
def dispS (ps : List (SV × SV)) (S : Store) : Out SV := match keyedD ps with
  | some ds => if ds.length ≤ 15 then .ok (.cell S.length) (S ++ [.dct (mergeD [] ds)]) else .no
  | none => .no
def eDisp (l : List (EF × EF)) : EF := fun Γ S => match runPs l Γ S with
  | some (ps, S') => dispS ps S'
  | none => .no
section
variable {K : PySem.W.Frag} {F : Hp}
theorem RpKV.merge {more : List (Key × V)} {md : List (Key × PyData)} (q : RpKV K F more md) : ∀ {kvs : List (Key × V)} {ds : List (Key × PyData)}, RpKV K F kvs ds → RpKV K F (mergeK kvs more) (mergeD ds md) := by
  unfold RpKV at q
  induction q with
  | nil => exact fun r => r
  | @cons p p' ps qs a b ih =>
    intro kvs ds r
    have e := r.put p.1 a.2
    refine ih (kvs := putK kvs p.1 p.2) (ds := putD ds p'.1 p'.2) ?_
    rw [← a.1]
    exact e
theorem mergeD_len (more ds : List (Key × PyData)) : (mergeD ds more).length ≤ ds.length + more.length := by
  induction more generalizing ds with
  | nil => exact Nat.le_refl _
  | cons p r ih =>
    have h1 := ih (putD ds p.1 p.2)
    have h2 := putD_len ds p.1 p.2
    rw [List.length_cons]
    show (mergeD (putD ds p.1 p.2) r).length ≤ _
    omega
/-- the pairs as they are told -/
inductive Prs (K : PySem.W.Frag) (g : Gh) : List (V × V) → List (SV × SV) → Prop
  | nil : Prs K g [] []
  | cons {x y : V} {a b : SV} {ps : List (V × V)} {qs : List (SV × SV)} (h1 : RepS K g x a) (h2 : RepS K g y b) (r : Prs K g ps qs) : Prs K g ((x, y) :: ps) ((a, b) :: qs)
theorem Prs.keyed {g : Gh} {ps : List (V × V)} {qs : List (SV × SV)} (h : Prs K g ps qs) : ∀ {ds : List (Key × PyData)}, keyedD qs = some ds → ∃ kvs : List (Key × V), ps = kvs.map (fun kv => (kV kv.1, kv.2)) ∧ RpKV K g.F kvs ds := by
  induction h with
  | nil => intro ds e; cases e; exact ⟨[], rfl, .nil⟩
  | @cons x y a b ps qs h1 h2 r ih =>
    intro ds e
    cases a with
    | cell _ => cases e
    | scr _ => cases e
    | d k =>
      cases b with
      | cell _ => cases e
      | scr _ => cases e
      | d v =>
        unfold keyedD at e
        cases hk : keyP k with
        | none => rw [hk] at e; cases e
        | some key =>
          cases hd : keyedD qs with
          | none => rw [hk, hd] at e; cases e
          | some ds' =>
            rw [hk, hd] at e
            cases e
            obtain ⟨kvs, e1, e2⟩ := ih hd
            exact ⟨(key, y) :: kvs, by rw [List.map_cons, ← e1, keyP_ok h1 hk], .cons ⟨rfl, h2⟩ e2⟩
end
theorem keepO {D : Addr} {ga gb : Gh} {Ha Hb : Hp} {o : HO} (gr : Grow ga Ha gb Hb) (k1 : ga.F D = none) (k2 : D ∉ ga.B) (k3 : Ha D = some o) : gb.F D = none ∧ D ∉ gb.B ∧ Hb D = some o := by
  refine ⟨?_, fun hm => ?_, gr.frm D _ k3 k2⟩
  · cases q : gb.F D with
    | none => rfl
    | some o' =>
      rcases gr.newF D o' q with z | z
      · rw [k1] at z; cases z
      · rw [k3] at z; cases z
  · rcases gr.newB D hm with z | z
    · exact k2 z
    · rw [k3] at z; cases z
section
variable {X : Cx} {M : Mi} {W : WX}
/-- the readings of the pairs -/
inductive DPs (X : Cx) (M : Mi) (W : WX) (pos : Pos) : List (Option Expr) → List Expr → List (EF × EF) → Prop
  | nil : DPs X M W pos [] [] []
  | cons {k v : Expr} {ks : List (Option Expr)} {vs : List Expr} {f h : EF} {l : List (EF × EF)} (hk : DE X M W k f) (hv : DE X M W v h) (r : DPs X M W pos ks vs l) : DPs X M W pos (some k :: ks) (v :: vs) ((f, h) :: l)
theorem DPs.pps {pos : Pos} {ks : List (Option Expr)} {vs : List Expr} {l : List (EF × EF)} (h : DPs X M W pos ks vs l) : PPs X pos ks vs (l.map fun p => (tE M W p.1, tE M W p.2)) := by
  induction h with
  | nil => exact pps_nil
  | cons hk hv r ih => exact pps_cons hk hv ih
theorem tPairs_of {σ : L2.St} {Γ : Ev} : ∀ (l : List (EF × EF)) {H : Hp} {g : Gh} {S S' : Store} {qs : List (SV × SV)} {Q : List (V × V) → Hp → Prop}, Rel M.K g H S → Vars M.K g σ Γ → runPs l Γ S = some (qs, S') →
    (∀ ps H' g', Grow g H g' H' → Rel M.K g' H' S' → Prs M.K g' ps qs → Q ps H') → tPairs (l.map fun p => (tE M W p.1, tE M W p.2)) σ H Q
  | [], H, g, S, S', qs, Q, r, v, p, h => by
    cases p
    exact h [] H g (Grow.refl _ _) r .nil
  | (f, e) :: l, H, g, S, S', qs, Q, r, v, p, h => by
    unfold runPs at p
    cases hf : f Γ S with
    | no => rw [hf] at p; cases p
    | ex _ _ => rw [hf] at p; cases p
    | ok a S1 =>
      rw [hf] at p
      simp only at p
      cases he : e Γ S1 with
      | no => rw [he] at p; cases p
      | ex _ _ => rw [he] at p; cases p
      | ok b S2 =>
        rw [he] at p
        simp only at p
        cases hr : runPs l Γ S2 with
        | none => rw [hr] at p; cases p
        | some z =>
          obtain ⟨ps, S3⟩ := z
          rw [hr] at p
          cases p
          refine ⟨g, Γ, S, r, v, ?_⟩
          show Post M W σ (rS M) _ g H (f Γ S)
          rw [hf]
          intro x g1 H1 gr1 r1 q1
          refine ⟨g1, Γ, S1, r1, gr1.vars v, ?_⟩
          show Post M W σ (rS M) _ g1 H1 (e Γ S1)
          rw [he]
          intro y g2 H2 gr2 r2 q2
          refine tPairs_of l r2 (gr2.vars (gr1.vars v)) hr fun ps H3 g3 gr3 r3 q3 => ?_
          exact h _ H3 g3 (gr1.trans r1 (gr2.trans r2 gr3)) r3 (.cons (gr3.rep (gr2.rep q1)) (gr3.rep q2) q3)
/-- an object that only the program knows becomes a cell -/
theorem Rel.take {K : PySem.W.Frag} {g0 g : Gh} {H0 H : Hp} {S : Store} {p : Addr} {m : MO} {o o' : HO} (r : Rel K g H S) (gr : Grow g0 H0 g H) (hn : H0 p = none) (hp : H p = some o') (hF : g.F p = none) (hB : p ∉ g.B) (q : RepM K g.F (some o) m) :
    Rel K (g.cel p) (upd H p o) (S ++ [m]) ∧ Grow g0 H0 (g.cel p) (upd H p o) ∧ RepS K (g.cel p) (.ref p) (.cell S.length) := by
  have ne : ∀ b ∈ g.B, b ≠ p := fun b hb e => hB (e ▸ hb)
  refine ⟨⟨fun b u e => ?_, ?_, fun b hb => ?_, ?_, fun i a m' e1 e2 => ?_⟩, ⟨?_, gr.sub, fun b u e hb => ?_, fun b hb => ?_, gr.newF⟩, ⟨p, ?_, rfl⟩⟩
  · rw [upd_ne (fun z => by rw [z] at e; exact absurd (hF.symm.trans e) (by simp))]
    exact r.sub _ _ e
  · show (g.B ++ [p]).Nodup
    rw [List.nodup_append]
    exact ⟨r.nd, by simp, fun a ha b hb => by rw [List.mem_singleton.mp hb]; exact ne a ha⟩
  · rcases List.mem_append.mp hb with h | h
    · exact r.dis b h
    · rw [List.mem_singleton.mp h]; exact hF
  · show (g.B ++ [p]).length = _
    rw [List.length_append, List.length_append, r.len]; rfl
  · rcases Nat.lt_or_ge i g.B.length with hi | hi
    · have e1' : (g.B ++ [p])[i]? = some a := e1
      rw [List.getElem?_append_left hi] at e1'
      rw [List.getElem?_append_left (r.len ▸ hi)] at e2
      rw [upd_ne (ne a (List.mem_of_getElem? e1'))]
      exact r.at_ i a m' e1' e2
    · have e1' : (g.B ++ [p])[i]? = some a := e1
      rw [List.getElem?_append_right hi] at e1'
      rw [List.getElem?_append_right (r.len ▸ hi), ← r.len] at e2
      cases hk : i - g.B.length with
      | zero =>
        rw [hk] at e1' e2
        cases e1'
        cases e2
        rw [upd_same]
        exact q
      | succ j => rw [hk] at e1'; cases e1'
  · obtain ⟨C, e⟩ := gr.pre
    exact ⟨C ++ [p], by show g.B ++ [p] = _; rw [e, List.append_assoc]⟩
  · rw [upd_ne (ne_of_none e hn)]; exact gr.frm b u e hb
  · rcases List.mem_append.mp hb with h | h
    · exact gr.newB b h
    · rw [List.mem_singleton.mp h]; exact .inr hn
  · show (g.B ++ [p])[S.length]? = some p
    rw [← r.len, List.getElem?_append_right (Nat.le_refl _), Nat.sub_self]; rfl
theorem d_disp {pos : Pos} {ks : List (Option Expr)} {vs : List Expr} {l : List (EF × EF)} (h : DPs X M W pos ks vs l) (hall : ks.all (·.isSome) = true := by rfl) (hl : ks.length = vs.length := by rfl) (h0 : ks ≠ [] := by simp) (h15 : ks.length ≤ 15 := by decide) : DE X M W (.Dict ks vs pos) (eDisp l) :=
  (pe_disp h.pps hall hl h0 h15).weak fun σ H Q h => by
    obtain ⟨g, Γ, S, r, v, post⟩ := h
    intro p hp
    obtain ⟨hF, hB⟩ := r.free hp
    obtain ⟨r1, gr1⟩ := Rel.lay r hp (.dK [])
    unfold eDisp at post
    cases hr : runPs l Γ S with
    | none => rw [hr] at post; exact post.elim
    | some z =>
      obtain ⟨qs, S'⟩ := z
      rw [hr] at post
      simp only [dispS] at post
      refine tPairs_of l r1 (gr1.vars v) hr fun ps H' g' gr r' q => ?_
      obtain ⟨kF, kB, kH⟩ := keepO gr hF hB upd_same
      cases hk : keyedD qs with
      | none => rw [hk] at post; exact post.elim
      | some ds =>
        rw [hk] at post
        simp only at post
        split at post
        · rename_i h15
          obtain ⟨kvs, e1, e2⟩ := q.keyed hk
          refine ⟨kH, kvs, e1, by rw [e2.len]; exact h15, ?_⟩
          have hm : RepM M.K g'.F (some (.dK (mergeK [] kvs))) (.dct (mergeD [] ds)) := ⟨by have := mergeD_len ds []; simp at this; omega, _, rfl, RpKV.merge e2 .nil⟩
          obtain ⟨r2, gr2, rp⟩ := r'.take (gr1.trans r1 gr) hp kH kF kB hm
          exact post _ _ _ gr2 r2 rp
        · exact post.elim
end
end DL
/-! D27: sorted({k for .. in .. for .. in ..}) over ints. -/
namespace DL
open PySem PySem.Spec PyProof.Rows L2
/-- the set that is being filled: D, its numbers so far; g, H as they were ahead of it -/
structure Filling (X : Cx) (M : Mi) (D : Addr) (g0 : Gh) (H0 : Hp) (g : Gh) (H : Hp) (S : Store) (acc : List Int) : Prop where
  r : Rel M.K g H S
  gr : Grow g0 H0 g H
  hF : g.F D = none
  hB : D ∉ g.B
  at_ : ∃ c, c ≤ acc.length ∧ ∃ T : Int → Bool, (∀ k, T k = decide (k ∈ acc)) ∧ H D = some (SetO X.w D T c)
section
variable {X : Cx} {M : Mi} {D : Addr} {g0 g g' : Gh} {H0 H H' : Hp} {S S' : Store} {acc : List Int}
theorem Filling.step (m : Filling X M D g0 H0 g H S acc) (gr : Grow g H g' H') (r : Rel M.K g' H' S') : Filling X M D g0 H0 g' H' S' acc := by
  obtain ⟨c, hc, T, hT, hD⟩ := m.at_
  obtain ⟨a1, a2, a3⟩ := keepO gr m.hF m.hB hD
  exact ⟨r, m.gr.trans m.r gr, a1, a2, c, hc, T, hT, a3⟩
/-- one number is put in -/
theorem Filling.put {Y : Cx} {pins : List (Addr × Obj)} {σ : L2.St} {s : Shared} {E : Value → Shared → Prop} {Q : Value → Shared → Prop} {k : Int} {tk : Tok} (hw : Y.w = X.w) (m : Filling X M D g0 H0 g H S acc) (hn : H0 D = none) (I : Inv Y pins σ H s) (room : acc.length + 1 < scanBound)
    (h : ∀ s' H', Inv Y pins σ H' s' → (∀ b, b ≠ D → H' b = H b) → Filling X M D g0 H0 g H' S (acc ++ [k]) → Q .none s') : wpAny (model Y.prog Y.w) Y.A (call (.builtin "set.add") [.ref D, .int k tk]) Q E s := by
  obtain ⟨c, hc, T, hT, hD⟩ := m.at_
  have R : SetR Y.w s.heap D T c := setO_get I (by rw [hw]; exact hD)
  refine setR_add R (by omega) fun h' sb new => ?_
  have he : ∃ u, h'.get? D = some u := by
    obtain ⟨o, _, _, _, ho, _⟩ := id new
    exact ⟨o, ho⟩
  have J := I.write (e := D) (t' := s.toks + 1) (x := D) (by rw [hD]; trivial) (.inl rfl) (fun b u hb hu => (sb.2 b hb).trans hu) he (setO_new new)
  have ne : ∀ b ∈ g.B, b ≠ D := fun b hb e => m.hB (e ▸ hb)
  refine h _ _ J (fun b hb => upd_ne hb) ⟨⟨fun b o e => ?_, m.r.nd, m.r.dis, m.r.len, fun j b mm e1 e2 => ?_⟩, ⟨m.gr.pre, m.gr.sub, fun b o e hb => ?_, m.gr.newB, m.gr.newF⟩, m.hF, m.hB, _, ?_, _, fun j => ?_, by rw [← hw]; exact upd_same⟩
  · rw [upd_ne (fun z => by rw [z, m.hF] at e; cases e)]; exact m.r.sub _ _ e
  · rw [upd_ne (ne b (List.mem_of_getElem? e1))]; exact m.r.at_ j b mm e1 e2
  · rw [upd_ne (ne_of_none e hn)]; exact m.gr.frm b o e hb
  · rw [List.length_append, List.length_singleton]
    split <;> omega
  · rw [hT]
    by_cases h1 : j ∈ acc
    · simp [h1]
    · by_cases h2 : j = k
      · simp [h2]
      · simp [h1, h2]
end
/-! ### the loops of the text -/
theorem turn_in (elt t0 i0 t1 i1 : Expr) (c0 c1 : List Expr) (sc : Scope) (ps : Pos) (it D : Value) (env : Env) :
    compTurn (.SetComp elt [⟨t0, i0, c0, 0⟩, ⟨t1, i1, c1, 0⟩] sc ps) 1 it D env = (do
      standAt i1.pos
      match ← pyNext it with
      | none => pure (.done .next)
      | some u =>
        letOwnedTupleGo t1 it u
        assign t1 env u
        let mut b := true
        for q in c1 do
          if b then b ← isTrue q env (eval q env)
        if b then
          (do let u ← eval elt env; standAt elt.pos; let _ ← call (.builtin "set.add") [D, u])
        again (.compLoop (.SetComp elt [⟨t0, i0, c0, 0⟩, ⟨t1, i1, c1, 0⟩] sc ps) 1 it D env)) := by rfl
theorem turn_out (elt t0 i0 t1 i1 : Expr) (c0 c1 : List Expr) (sc : Scope) (ps : Pos) (it D : Value) (env : Env) :
    compTurn (.SetComp elt [⟨t0, i0, c0, 0⟩, ⟨t1, i1, c1, 0⟩] sc ps) 0 it D env = (do
      standAt i0.pos
      match ← pyNext it with
      | none => pure (.done .next)
      | some u =>
        letOwnedTupleGo t0 it u
        assign t0 env u
        let mut b := true
        for q in c0 do
          if b then b ← isTrue q env (eval q env)
        if b then
          let u ← eval i1 env
          standAt i1.pos
          let u ← foldedSetIterable i1 env u
          let _ ← runOwn (.compStart (.SetComp elt [⟨t0, i0, c0, 0⟩, ⟨t1, i1, c1, 0⟩] sc ps) 1 (← holding [u] (pyIter u)) D env) env
        again (.compLoop (.SetComp elt [⟨t0, i0, c0, 0⟩, ⟨t1, i1, c1, 0⟩] sc ps) 0 it D env)) := by rfl
section
variable {Y : Cx} {M : Mi} {T T1 : List Nat} {elt t0 i0 t1 i1 : Expr} {c0 c1 : List Expr} {sc : Scope} {ps : Pos} {f1 : IF} {gf gf1 : GF} {tf tf1 : TF} {ef : EF} {vs vs1 : List Nat} {R : Result → Shared → Prop} {s : Shared} {it D : Addr}
/-- a loop's turn by its steps -/
theorem loop_by {gens : List Comprehension} {lv : Nat} {it D : Value} {env : Env} (I : Nat → Shared → Prop)
    (h : ∀ n s, I n s → wpAny (model Y.prog Y.w) Y.A (compTurn (.SetComp elt gens sc ps) lv it D env) (fun fin s' => match fin with
      | .done f => R (.ok f) s'
      | .again c' => c' = .compLoop (.SetComp elt gens sc ps) lv it D env ∧ ∃ m, m < n ∧ I m s') (fun _ _ => False) s) (n : Nat) (h0 : I n s) :
    codeAny (model Y.prog Y.w) Y.A (.compLoop (.SetComp elt gens sc ps) lv it D env) R s := by
  refine codeAny_loop rfl I (fun n s hI => ?_) n h0
  show wpAny _ Y.A ((compTurn (.SetComp elt gens sc ps) lv it D env).onRaise (fun x => do noteFrame x env; theTreesLotGoes x)) _ _ s
  exact wpAny_noted (thnF (h n s hI) fun _ _ z => z)
theorem inner (hx : ∀ e s, ¬ Y.xe e s) (hc : Y.calm = true) (hT1 : ∀ j ∈ T1, j ∈ vs1) (pg : DG Y M T1 t1 gf1) (pt : PTs Y c1 (tT M W0 tf1)) (pe : DE Y M W0 elt ef) {J : It} {fp : List Addr} {tn : Nat → Heap → Prop} {src : Src} {g0 g4 : Gh} {H0 : Hp} {pins : List (Addr × Obj)} {σ : L2.St} {Γ : Ev} {zs : List PyData} {S4 : Store}
    (tu : Turn Y.prog Y.w Y.K t1 J fp it tn) (hit : ItR M.K g4 J src) (hn : H0 D = none) (whole : ∀ d ∈ zs, isInt d = true)
    {acc : List Int} {g : Gh} {H : Hp} {S : Store} (I : Inv Y pins (wipe σ vs1) H s) (st : tn 0 s.heap) (hfp : ∀ b ∈ fp, FpOk Y pins H b) (mk : Filling Y M D g0 H0 g H S acc) (v : Vars M.K g σ Γ) (pre : ∃ C, g.B = g4.B ++ C) (sub : Sub g4.F g.F)
    (hl : lcL src.ok gf1 tf1 ef vs1 Γ src.items S = .ok zs S4) (room : acc.length + zs.length + 1 < scanBound)
    (out : ∀ s' g' H', Inv Y pins (wipe σ vs1) H' s' → Grow g0 H0 g' H' → (∃ C, g'.B = g4.B ++ C) → Sub g4.F g'.F → Filling Y M D g0 H0 g' H' S4 (acc ++ zs.map intOf) → R (.ok .next) s') :
    codeAny (model Y.prog Y.w) Y.A (.compLoop (.SetComp elt [⟨t0, i0, c0, 0⟩, ⟨t1, i1, c1, 0⟩] sc ps) 1 (.ref it) (.ref D) Y.env) R s := by
  refine loop_by (fun n s => ∃ j g H S acc' ys, Inv Y pins (wipe σ vs1) H s ∧ tn j s.heap ∧ (∀ b ∈ fp, H b = none) ∧ n = src.items.length - j ∧ j ≤ src.items.length ∧ Filling Y M D g0 H0 g H S acc' ∧ Vars M.K g σ Γ ∧ (∃ C, g.B = g4.B ++ C) ∧ Sub g4.F g.F ∧
    lcL src.ok gf1 tf1 ef vs1 Γ (src.items.drop j) S = .ok ys S4 ∧ (∀ d ∈ ys, isInt d = true) ∧ acc'.length + ys.length + 1 < scanBound ∧ acc' ++ ys.map intOf = acc ++ zs.map intOf) ?_ _
    ⟨0, g, H, S, acc, zs, I, st, fun b hb => (hfp b hb).1, rfl, Nat.zero_le _, mk, v, pre, sub, hl, whole, room, rfl⟩
  rintro n s ⟨j, g, H, S, acc', ys, I, st, hz, rfl, hj, mk, v, pre, sub, hl, whole, room, eacc⟩
  have fpo : ∀ {H' : Hp}, (∀ b ∈ fp, H' b = none) → ∀ b ∈ fp, FpOk Y pins H' b := fun z b hb => ⟨z b hb, (hfp b hb).2⟩
  have hok := lcL_ok hl
  obtain ⟨hst, hgo⟩ := hit g H S mk.r pre sub hok
  rw [turn_in]
  refine wpAny_bind (wpAny_standAt (wpAny_bind ?_))
  rcases Nat.lt_or_ge j src.items.length with hlt | hge
  · obtain ⟨go, yl⟩ := hgo j _ (List.getElem?_eq_getElem hlt)
    rw [List.drop_eq_getElem_cons hlt] at hl
    unfold lcL at hl
    rw [if_pos hok] at hl
    refine thnF (tu.item Y rfl rfl rfl hc j pins s _ H (fun _ _ => False) I (fpo hz) st go) fun q s1 ⟨u, hq, h1⟩ => ?_
    subst hq
    refine wpAny_bind (thnF h1 fun _ s2 ⟨x, H2, I2, r2, y2, st2, z2⟩ => ?_)
    obtain ⟨g2, gr2, rl2, rp2⟩ := yl x H2 y2
    have mk2 := mk.step gr2 rl2
    have I2' := I2.pinned (fpo z2) (tu.obj _ _ st2)
    have ext : ∀ {ga gb : Gh} {Ha Hb : Hp}, Grow ga Ha gb Hb → (∃ C, ga.B = g4.B ++ C) → Sub g4.F ga.F → (∃ C, gb.B = g4.B ++ C) ∧ Sub g4.F gb.F := fun gr ⟨C, e1⟩ e2 =>
      let ⟨C', e3⟩ := gr.pre
      ⟨⟨C ++ C', by rw [e3, e1, List.append_assoc]⟩, fun b o e => gr.sub _ _ (e2 _ _ e)⟩
    obtain ⟨pre2, sub2⟩ := ext gr2 pre sub
    have v2 := gr2.vars v
    cases k1 : gf1 (.d src.items[j]) (wipeE Γ vs1) S with
    | ex _ _ => rw [k1] at hl; cases hl
    | no => rw [k1] at hl; cases hl
    | ok Γ3 S3 =>
      rw [k1] at hl
      simp only at hl
      refine wpAny_bind (wpAny_mono (pg.run _ s2 _ H2 x u (fun σ' H' => wipe σ' vs1 = wipe σ vs1 ∧ ∃ g', Grow g2 H2 g' H' ∧ Rel M.K g' H' S3 ∧ Vars M.K g' σ' Γ3) I2' r2 ⟨g2, _, S, .d src.items[j], rl2, v2.wipe _, rp2, by
        rw [k1]
        exact fun σ' g' H' t gr r' v' => ⟨wipe_only t hT1, g', gr, r', v'⟩⟩) (fun _ s3 ⟨σ3, H3, I3, w3, g3, gr3, rl3, v3⟩ => ?_) fun e t z => (hx e t z).elim)
      have mk3 := mk2.step gr3 rl3
      obtain ⟨pre3, sub3⟩ := ext gr3 pre2 sub2
      cases k2 : tf1 Γ3 S3 with
      | ex _ _ => simp only [k2] at hl; cases hl
      | no => simp only [k2] at hl; cases hl
      | ok b S5 =>
        refine wpAny_bind (wpAny_mono (pt.run _ s3 σ3 H3 (fun b' H' => b' = b ∧ ∃ g', Grow g3 H3 g' H' ∧ Rel M.K g' H' S5) I3 ⟨g3, Γ3, S3, rl3, v3, by
          rw [k2]
          exact fun b' g' H' gr r' e => ⟨e, g', gr, r'⟩⟩) (fun b' s4 ⟨H4, I4, e4, g5, gr5, rl5⟩ => ?_) fun e t z => (hx e t z).elim)
        subst e4
        have mk5 := mk3.step gr5 rl5
        obtain ⟨pre5, sub5⟩ := ext gr5 pre3 sub3
        -- the end of the turn
        have fin : ∀ {s' : Shared} {H' : Hp} {g' : Gh} {S' : Store} {acc2 : List Int} {ys2 : List PyData}, Inv Y (pins ++ pinsAt fp s2.heap) σ3 H' s' → Filling Y M D g0 H0 g' H' S' acc2 → Vars M.K g' σ Γ → (∃ C, g'.B = g4.B ++ C) → Sub g4.F g'.F →
            lcL src.ok gf1 tf1 ef vs1 Γ (src.items.drop (j + 1)) S' = .ok ys2 S4 → (∀ d ∈ ys2, isInt d = true) → acc2.length + ys2.length + 1 < scanBound → acc2 ++ ys2.map intOf = acc ++ zs.map intOf →
            ∃ m, m < src.items.length - j ∧ ∃ j g H S acc' ys, Inv Y pins (wipe σ vs1) H s' ∧ tn j s'.heap ∧ (∀ b ∈ fp, H b = none) ∧ m = src.items.length - j ∧ j ≤ src.items.length ∧ Filling Y M D g0 H0 g H S acc' ∧ Vars M.K g σ Γ ∧ (∃ C, g.B = g4.B ++ C) ∧ Sub g4.F g.F ∧
              lcL src.ok gf1 tf1 ef vs1 Γ (src.items.drop j) S = .ok ys S4 ∧ (∀ d ∈ ys, isInt d = true) ∧ acc'.length + ys.length + 1 < scanBound ∧ acc' ++ ys.map intOf = acc ++ zs.map intOf := by
          intro s' H' g' S' acc2 ys2 I' m' v' p' u' l' i' r' e'
          have held : ∀ b ∈ fp, ∀ o, s2.heap.get? b = some o → s'.heap.get? b = some o ∧ H' b = none := fun b hb o e =>
            let z := I'.pin (b, o) (List.mem_append_right _ (List.mem_append_right _ (mem_pinsAt hb e)))
            ⟨z.1, z.2.1⟩
          refine ⟨src.items.length - (j + 1), by omega, j + 1, g', H', S', acc2, ys2, I'.unpinned.weak (by rw [← w3, wipe_length]) (fun i v e => ?_), tu.keep _ _ _ st2 fun b hb o e => (held b hb o e).1, fun b hb => ?_, rfl, hlt, m', v', p', u', l', i', r', e'⟩
          · rw [← w3] at e
            exact (wipe_some e).1
          · obtain ⟨o, e, _⟩ := tu.obj _ _ st2 b hb
            exact (held b hb o e).2
        cases b' with
        | false =>
          simp only [k2] at hl
          exact wpAny_pure ⟨rfl, fin I4 mk5 (gr5.vars (gr3.vars v2)) pre5 sub5 hl whole room eacc⟩
        | true =>
          simp only [k2] at hl
          cases k3 : ef Γ3 S5 with
          | ex _ _ => rw [k3] at hl; cases hl
          | no => rw [k3] at hl; cases hl
          | ok z S6 =>
            cases z with
            | cell _ => rw [k3] at hl; cases hl
            | scr _ => rw [k3] at hl; cases hl
            | d d =>
              rw [k3] at hl
              simp only at hl
              obtain ⟨ys', hl', eys⟩ : ∃ ys', lcL src.ok gf1 tf1 ef vs1 Γ (src.items.drop (j + 1)) S6 = .ok ys' S4 ∧ ys = d :: ys' := by
                cases ha : lcL src.ok gf1 tf1 ef vs1 Γ (src.items.drop (j + 1)) S6 with
                | ex _ _ => rw [ha] at hl; cases hl
                | no => rw [ha] at hl; cases hl
                | ok ys' S9 =>
                  rw [ha] at hl
                  injection hl with h1 h2
                  subst h2
                  exact ⟨ys', rfl, h1.symm⟩
              subst eys
              refine wpAny_bind (wpAny_bind (wpAny_mono (pe.run _ s4 σ3 H4 (fun y H' => ∃ g', Grow g5 H4 g' H' ∧ Rel M.K g' H' S6 ∧ RepS M.K g' y (.d d)) I4 ⟨g5, Γ3, S5, rl5, gr5.vars v3, by
                rw [k3]
                exact fun y g' H' gr r' q => ⟨g', gr, r', q⟩⟩) (fun u s5 ⟨y, H6, I6, ry, g6, gr6, rl6, rp6⟩ => ?_) fun e t z => (hx e t z).elim))
              have mk6 := mk5.step gr6 rl6
              obtain ⟨pre6, sub6⟩ := ext gr6 pre5 sub5
              have id' := whole d (List.mem_cons_self)
              cases d with
              | int k =>
                cases rp6
                obtain ⟨tk, rfl⟩ : ∃ tk, u = .int k tk := ry
                refine wpAny_bind (wpAny_standAt (wpAny_bind (mk6.put rfl hn I6 (by simp at room; omega) fun s6 H7 I7 same mk7 => wpAny_pure (wpAny_pure ⟨rfl, ?_⟩))))
                exact fin I7 mk7 (gr6.vars (gr5.vars (gr3.vars v2))) pre6 sub6 hl' (fun d hd => whole d (List.mem_cons_of_mem _ hd)) (by simp at room ⊢; omega) (by simpa [intOf] using eacc)
              | _ => cases id'
  · have ej : j = src.items.length := by omega
    subst ej
    refine thnF (tu.done Y rfl rfl rfl hc _ pins s _ H (fun _ _ => False) I (fpo hz) st hst) fun q s1 ⟨hq, I1⟩ => ?_
    subst hq
    rw [List.drop_length] at hl
    unfold lcL at hl
    rw [if_pos hok] at hl
    cases hl
    simp only [List.map_nil, List.append_nil] at eacc
    subst eacc
    exact wpAny_pure (out s1 g H I1 mk.gr pre sub mk)
theorem start_in {env : Env} {it D : Value} (h0 : codeAny (model Y.prog Y.w) Y.A (.compLoop (.SetComp elt [⟨t0, i0, c0, 0⟩, ⟨t1, i1, c1, 0⟩] sc ps) 1 it D env) R s)
    (h : wpAny (model Y.prog Y.w) Y.A (pyIter it) (fun j t => codeAny (model Y.prog Y.w) Y.A (.compLoop (.SetComp elt [⟨t0, i0, c0, 0⟩, ⟨t1, i1, c1, 0⟩] sc ps) 1 j D env) R t) (fun _ _ => False) s) :
    codeAny (model Y.prog Y.w) Y.A (.compStart (.SetComp elt [⟨t0, i0, c0, 0⟩, ⟨t1, i1, c1, 0⟩] sc ps) 1 it D env) R s := by
  refine codeAny_of_tree ?_
  show wpAny _ _ ((compStart (.SetComp elt [⟨t0, i0, c0, 0⟩, ⟨t1, i1, c1, 0⟩] sc ps) 1 it D env).onRaise (fun x => do noteFrame x env; standAt theWindowsPlace)) _ _ s
  refine wpAny_notedAt ?_
  unfold compStart
  show wpAny _ _ (ask >>= _) _ _ s
  refine wpAny_bind (wpAny_askSetting (wpAny_ite ?_))
  have h' := wpAny_mono h (fun _ _ z => z) (E' := notedBy (model Y.prog Y.w) Y.A env fun x t => R (.error x) t) fun _ _ z => z.elim
  split
  · first
      | exact wpAny_pure ⟨rfl, h0⟩
      | exact wpAny_bind (wpAny_pure (wpAny_pure ⟨rfl, h0⟩))
  · first
      | exact wpAny_bind (wpAny_rule (wpAny_bind (wpAny_standAt (wpAny_bind (wpAny_mono h' (fun _ _ z => wpAny_pure ⟨rfl, z⟩) fun _ _ z => z)))))
      | (refine wpAny_bind (wpAny_rule ?_); show wpAny _ _ (standAt i1.pos >>= _) _ _ s; exact wpAny_bind (wpAny_standAt (wpAny_bind (wpAny_mono h' (fun _ _ z => wpAny_pure ⟨rfl, z⟩) fun _ _ z => z))))
theorem outer (hx : ∀ e s, ¬ Y.xe e s) (hc : Y.calm = true) (hs1 : ∀ x, foldedSetIterable i1 Y.env x = pure x) (hv : ∀ i ∈ vs1, i ∈ vs) (hT : ∀ j ∈ T, j ∈ vs) (hT1 : ∀ j ∈ T1, j ∈ vs1) (pg0 : DG Y M T t0 gf) (pt0 : PTs Y c0 (tT M W0 tf)) (di : DI Y M W0 t1 i1 f1) (pg : DG Y M T1 t1 gf1) (pt : PTs Y c1 (tT M W0 tf1)) (pe : DE Y M W0 elt ef)
    {J : It} {fp : List Addr} {tn : Nat → Heap → Prop} {src : Src} {g0 : Gh} {H0 : Hp} {σ : L2.St} {Γ : Ev} {all : List PyData} {S4 : Store}
    (tu : Turn Y.prog Y.w Y.K t0 J fp it tn) (hit : ItR M.K g0 J src) (hn : H0 D = none) (whole : ∀ d ∈ all, isInt d = true) (v0 : Vars M.K g0 σ Γ)
    {g : Gh} {H : Hp} {S : Store} (I : Inv Y [] (wipe σ vs) H s) (st : tn 0 s.heap) (hfp : ∀ b ∈ fp, FpOk Y [] H b) (mk : Filling Y M D g0 H0 g H S [])
    (hl : lc2L src.ok gf tf f1 gf1 tf1 ef vs vs1 Γ src.items S = .ok all S4) (room : all.length + 1 < scanBound)
    (out : ∀ s' g' H', Inv Y [] (wipe σ vs) H' s' → Filling Y M D g0 H0 g' H' S4 (all.map intOf) → R (.ok .next) s') :
    codeAny (model Y.prog Y.w) Y.A (.compLoop (.SetComp elt [⟨t0, i0, c0, 0⟩, ⟨t1, i1, c1, 0⟩] sc ps) 0 (.ref it) (.ref D) Y.env) R s := by
  refine loop_by (fun n s => ∃ j g H S acc ys, Inv Y [] (wipe σ vs) H s ∧ tn j s.heap ∧ (∀ b ∈ fp, H b = none) ∧ n = src.items.length - j ∧ j ≤ src.items.length ∧ Filling Y M D g0 H0 g H S acc ∧
    lc2L src.ok gf tf f1 gf1 tf1 ef vs vs1 Γ (src.items.drop j) S = .ok ys S4 ∧ (∀ d ∈ ys, isInt d = true) ∧ acc.length + ys.length + 1 < scanBound ∧ acc ++ ys.map intOf = all.map intOf) ?_ _
    ⟨0, g, H, S, [], all, I, st, fun b hb => (hfp b hb).1, rfl, Nat.zero_le _, mk, hl, whole, by simpa using room, rfl⟩
  rintro n s ⟨j, g, H, S, acc, ys, I, st, hz, rfl, hj, mk, hl, whole, room, eacc⟩
  have fpo : ∀ {H' : Hp}, (∀ b ∈ fp, H' b = none) → ∀ b ∈ fp, FpOk Y [] H' b := fun z b hb => ⟨z b hb, (hfp b hb).2⟩
  have hok := lc2L_ok hl
  obtain ⟨hst, hgo⟩ := hit g H S mk.r mk.gr.pre mk.gr.sub hok
  rw [turn_out]
  refine wpAny_bind (wpAny_standAt (wpAny_bind ?_))
  rcases Nat.lt_or_ge j src.items.length with hlt | hge
  · obtain ⟨go, yl⟩ := hgo j _ (List.getElem?_eq_getElem hlt)
    rw [List.drop_eq_getElem_cons hlt] at hl
    unfold lc2L at hl
    rw [if_pos hok] at hl
    refine thnF (tu.item Y rfl rfl rfl hc j [] s _ H (fun _ _ => False) I (fpo hz) st go) fun q s1 ⟨u, hq, h1⟩ => ?_
    subst hq
    refine wpAny_bind (thnF h1 fun _ s2 ⟨x, H2, I2, r2, y2, st2, z2⟩ => ?_)
    obtain ⟨g2, gr2, rl2, rp2⟩ := yl x H2 y2
    have mk2 := mk.step gr2 rl2
    have I2' := I2.pinned (fpo z2) (tu.obj _ _ st2)
    cases k1 : gf (.d src.items[j]) (wipeE Γ vs) S with
    | ex _ _ => rw [k1] at hl; cases hl
    | no => rw [k1] at hl; cases hl
    | ok Γ3 S3 =>
      rw [k1] at hl
      simp only at hl
      refine wpAny_bind (wpAny_mono (pg0.run _ s2 _ H2 x u (fun σ' H' => wipe σ' vs = wipe σ vs ∧ ∃ g', Grow g2 H2 g' H' ∧ Rel M.K g' H' S3 ∧ Vars M.K g' σ' Γ3) I2' r2 ⟨g2, _, S, .d src.items[j], rl2, (mk2.gr.vars v0).wipe _, rp2, by
        rw [k1]
        exact fun σ' g' H' t gr r' v' => ⟨wipe_only t hT, g', gr, r', v'⟩⟩) (fun _ s3 ⟨σ3, H3, I3, w3, g3, gr3, rl3, v3⟩ => ?_) fun e t z => (hx e t z).elim)
      have mk3 := mk2.step gr3 rl3
      cases k2 : tf Γ3 S3 with
      | ex _ _ => simp only [k2] at hl; cases hl
      | no => simp only [k2] at hl; cases hl
      | ok b S5 =>
        refine wpAny_bind (wpAny_mono (pt0.run _ s3 σ3 H3 (fun b' H' => b' = b ∧ ∃ g', Grow g3 H3 g' H' ∧ Rel M.K g' H' S5) I3 ⟨g3, Γ3, S3, rl3, v3, by
          rw [k2]
          exact fun b' g' H' gr r' e => ⟨e, g', gr, r'⟩⟩) (fun b' s4 ⟨H4, I4, e4, g5, gr5, rl5⟩ => ?_) fun e t z => (hx e t z).elim)
        subst e4
        have mk5 := mk3.step gr5 rl5
        have hl3 : (wipe σ vs).length = σ3.length := by rw [← w3, wipe_length]
        -- the end of the turn
        have fin : ∀ {σ' : L2.St} {s' : Shared} {H' : Hp} {g' : Gh} {S' : Store} {acc2 : List Int} {ys2 : List PyData}, Inv Y ([] ++ pinsAt fp s2.heap) σ' H' s' → (wipe σ vs).length = σ'.length → (∀ (i : Nat) v, (wipe σ vs)[i]? = some (some v) → σ'[i]? = some (some v)) → Filling Y M D g0 H0 g' H' S' acc2 →
            lc2L src.ok gf tf f1 gf1 tf1 ef vs vs1 Γ (src.items.drop (j + 1)) S' = .ok ys2 S4 → (∀ d ∈ ys2, isInt d = true) → acc2.length + ys2.length + 1 < scanBound → acc2 ++ ys2.map intOf = all.map intOf →
            ∃ m, m < src.items.length - j ∧ ∃ j g H S acc ys, Inv Y [] (wipe σ vs) H s' ∧ tn j s'.heap ∧ (∀ b ∈ fp, H b = none) ∧ m = src.items.length - j ∧ j ≤ src.items.length ∧ Filling Y M D g0 H0 g H S acc ∧
              lc2L src.ok gf tf f1 gf1 tf1 ef vs vs1 Γ (src.items.drop j) S = .ok ys S4 ∧ (∀ d ∈ ys, isInt d = true) ∧ acc.length + ys.length + 1 < scanBound ∧ acc ++ ys.map intOf = all.map intOf := by
          intro σ' s' H' g' S' acc2 ys2 I' hlen hkn m' l' i' r' e'
          have held : ∀ b ∈ fp, ∀ o, s2.heap.get? b = some o → s'.heap.get? b = some o ∧ H' b = none := fun b hb o e =>
            let z := I'.pin (b, o) (List.mem_append_right _ (List.mem_append_right _ (mem_pinsAt hb e)))
            ⟨z.1, z.2.1⟩
          refine ⟨src.items.length - (j + 1), by omega, j + 1, g', H', S', acc2, ys2, (I'.unpinned (pins := [])).weak hlen hkn, tu.keep _ _ _ st2 fun b hb o e => (held b hb o e).1, fun b hb => ?_, rfl, hlt, m', l', i', r', e'⟩
          obtain ⟨o, e, _⟩ := tu.obj _ _ st2 b hb
          exact (held b hb o e).2
        have kn3 : ∀ (i : Nat) v, (wipe σ vs)[i]? = some (some v) → σ3[i]? = some (some v) := fun i v e => by
          rw [← w3] at e
          exact (wipe_some e).1
        cases b' with
        | false =>
          simp only [k2] at hl
          exact wpAny_pure ⟨rfl, fin I4 hl3 kn3 mk5 hl whole room eacc⟩
        | true =>
          simp only [k2] at hl
          cases k3 : f1 Γ3 S5 with
          | ex _ _ => rw [k3] at hl; cases hl
          | no => rw [k3] at hl; cases hl
          | ok src1 S6 =>
            rw [k3] at hl
            simp only at hl
            obtain ⟨zs, S7, ys', hl1, hl2, eys⟩ : ∃ zs S7 ys', lcL src1.ok gf1 tf1 ef vs1 Γ3 src1.items S6 = .ok zs S7 ∧ lc2L src.ok gf tf f1 gf1 tf1 ef vs vs1 Γ (src.items.drop (j + 1)) S7 = .ok ys' S4 ∧ ys = zs ++ ys' := by
              cases ha : lcL src1.ok gf1 tf1 ef vs1 Γ3 src1.items S6 with
              | ex _ _ => simp only [ha, Out.bind] at hl; cases hl
              | no => simp only [ha, Out.bind] at hl; cases hl
              | ok zs S7 =>
                cases hb : lc2L src.ok gf tf f1 gf1 tf1 ef vs vs1 Γ (src.items.drop (j + 1)) S7 with
                | ex _ _ => simp only [ha, hb, Out.bind] at hl; cases hl
                | no => simp only [ha, hb, Out.bind] at hl; cases hl
                | ok ys' S8 =>
                  simp only [ha, hb, Out.bind] at hl
                  injection hl with h1 h2
                  subst h2
                  exact ⟨zs, S7, ys', rfl, hb, h1.symm⟩
            subst eys
            refine wpAny_bind (wpAny_mono (di.run _ s4 σ3 H4 (fun J1 H' => ∃ g', Grow g5 H4 g' H' ∧ Rel M.K g' H' S6 ∧ rIt M g' J1 src1) I4 ⟨g5, Γ3, S5, rl5, gr5.vars v3, by
              rw [k3]
              exact fun J1 g' H' gr r' q => ⟨g', gr, r', q⟩⟩) (fun xv s5 hxv => ?_) fun e t z => (hx e t z).elim)
            refine wpAny_bind (wpAny_standAt (wpAny_bind (wpAny_of_eq (hs1 xv) (wpAny_bind (wpAny_holding (wpAny_mono hxv (fun itv s6 h6 => ?_) fun e t z => (hx e t z).elim))))))
            obtain ⟨it1, fp1, tn1, J1, H6, rfl, I6, tu1, st6, fp6, g6, gr6, rl6, hz1, hit1⟩ := h6
            have mk6 := mk5.step gr6 rl6
            refine wpAny_bind (wpAny_runOwn ?_)
            rw [Around.mark_none]
            refine codeAny_mono (R := fun r s' => match r with
              | .ok .next => ∃ m, m < src.items.length - j ∧ ∃ j g H S acc ys, Inv Y [] (wipe σ vs) H s' ∧ tn j s'.heap ∧ (∀ b ∈ fp, H b = none) ∧ m = src.items.length - j ∧ j ≤ src.items.length ∧ Filling Y M D g0 H0 g H S acc ∧
                lc2L src.ok gf tf f1 gf1 tf1 ef vs vs1 Γ (src.items.drop j) S = .ok ys S4 ∧ (∀ d ∈ ys, isInt d = true) ∧ acc.length + ys.length + 1 < scanBound ∧ acc ++ ys.map intOf = all.map intOf
              | _ => False) ?_ fun r s' hr => ?_
            · have lp := inner (R := fun r s' => match r with
                | .ok .next => ∃ m, m < src.items.length - j ∧ ∃ j g H S acc ys, Inv Y [] (wipe σ vs) H s' ∧ tn j s'.heap ∧ (∀ b ∈ fp, H b = none) ∧ m = src.items.length - j ∧ j ≤ src.items.length ∧ Filling Y M D g0 H0 g H S acc ∧
                  lc2L src.ok gf tf f1 gf1 tf1 ef vs vs1 Γ (src.items.drop j) S = .ok ys S4 ∧ (∀ d ∈ ys, isInt d = true) ∧ acc.length + ys.length + 1 < scanBound ∧ acc ++ ys.map intOf = all.map intOf
                | _ => False) (c0 := c0) (t0 := t0) (i0 := i0) (i1 := i1) (sc := sc) (ps := ps) (s := s6) (σ := σ3) (Γ := Γ3) (zs := zs) (S4 := S7) (acc := acc) hx hc hT1 pg pt pe tu1 hit1 hn (fun d hd => whole d (List.mem_append_left _ hd))
                (I6.weak (wipe_length _ _) fun i v e => (wipe_some e).1) st6 fp6 mk6 (gr6.vars (gr5.vars v3)) ⟨[], by simp⟩ (fun _ _ h => h) hl1 (by simp at room; omega) fun s' g' H' I' _ _ _ m' => by
                  refine fin I' (hl3.trans (wipe_length σ3 vs1).symm) (fun i v e => ?_) m' hl2 (fun d hd => whole d (List.mem_append_right _ hd)) (by simp at room ⊢; omega) (by simpa using eacc)
                  rw [← w3] at e
                  obtain ⟨e1, e2⟩ := wipe_some e
                  rw [wipe_out fun z => e2 (hv i z)]
                  exact e1
              exact start_in lp (tu1.self Y.A 0 _ _ _ st6 lp)
            · cases r with
              | error e => exact hr.elim
              | ok f =>
                cases f with
                | next => first
                  | exact wpAny_pure ⟨rfl, hr⟩
                  | exact wpAny_bind (wpAny_pure (wpAny_pure ⟨rfl, hr⟩))
                | _ => exact hr.elim
  · have ej : j = src.items.length := by omega
    subst ej
    refine thnF (tu.done Y rfl rfl rfl hc _ [] s _ H (fun _ _ => False) I (fpo hz) st hst) fun q s1 ⟨hq, I1⟩ => ?_
    subst hq
    rw [List.drop_length] at hl
    unfold lc2L at hl
    rw [if_pos hok] at hl
    cases hl
    simp only [List.map_nil, List.append_nil] at eacc
    subst eacc
    exact wpAny_pure (out s1 g H I1 mk)
end
end DL
/-! D28: the rule of sorted({k for .. in .. for .. in ..}). -/
namespace DL
open PySem PySem.Spec PyProof.Rows L2
def srtIntsS (fin : List PyData → Store → Out SV) (xs : List PyData) (S : Store) : Out SV := if xs.all isInt && decide (xs.length ≤ 4000) && decide (distN (xs.map intOf) < 64) then fin ((sdN (xs.map intOf)).map .int) S else .no
def eSrtSc2 (fin : List PyData → Store → Out SV) (f : IF) (gf : GF) (tf : TF) (f1 : IF) (gf1 : GF) (tf1 : TF) (ef : EF) (vs vs1 : List Nat) : EF := fun Γ S => (f Γ S).bind fun s S => match lc2L s.ok gf tf f1 gf1 tf1 ef vs vs1 Γ s.items S with
  | .ok xs S => srtIntsS fin xs S
  | _ => .no
section
variable {X : Cx} {M : Mi} {W : WX} {T T1 : List Nat} {elt t0 i0 t1 i1 : Expr} {c0 c1 : List Expr} {sc : Scope} {f f1 : IF} {gf gf1 : GF} {tf tf1 : TF} {ef : EF} {own : List (Str × Nat)} {vs1 : List Nat} {p ps pos : Pos}
theorem setc_run {s : Shared} {pins : List (Addr × Obj)} {σ : L2.St} {H : Hp} {Q : Value → Shared → Prop} (hK : X.K = M.K) (hc : X.calm = true) (hN : X.N.Nodup) (hi : DI X M W t0 i0 f) (ok : BlkOk X.N X.env.scope sc own) (hv : ∀ i ∈ vs1, i ∈ own.map (·.2)) (hT : ∀ j ∈ T, j ∈ own.map (·.2)) (hT1 : ∀ j ∈ T1, j ∈ vs1)
    (hg : ∀ (s : Shared) (H : Hp) (C : Addr) (cl : List (Str × Addr)) (fp : List Addr), DG (X.blk s H sc (compEnvC sc cl C X.env) fp) M T t0 gf) (ht : ∀ (s : Shared) (H : Hp) (C : Addr) (cl : List (Str × Addr)) (fp : List Addr), PTs (X.blk s H sc (compEnvC sc cl C X.env) fp) c0 (tT M W0 tf))
    (hi1 : ∀ (s : Shared) (H : Hp) (C : Addr) (cl : List (Str × Addr)) (fp : List Addr), DI (X.blk s H sc (compEnvC sc cl C X.env) fp) M W0 t1 i1 f1)
    (hg1 : ∀ (s : Shared) (H : Hp) (C : Addr) (cl : List (Str × Addr)) (fp : List Addr), DG (X.blk s H sc (compEnvC sc cl C X.env) fp) M T1 t1 gf1) (ht1 : ∀ (s : Shared) (H : Hp) (C : Addr) (cl : List (Str × Addr)) (fp : List Addr), PTs (X.blk s H sc (compEnvC sc cl C X.env) fp) c1 (tT M W0 tf1))
    (he : ∀ (s : Shared) (H : Hp) (C : Addr) (cl : List (Str × Addr)) (fp : List Addr), DE (X.blk s H sc (compEnvC sc cl C X.env) fp) M W0 elt ef) (hs : ∀ x, foldedSetIterable i0 X.env x = pure x) (hs1 : ∀ env x, foldedSetIterable i1 env x = pure x)
    (I : Inv X pins σ H s) {g : Gh} {Γ : Ev} {S : Store} (r : Rel M.K g H S) (v : Vars M.K g σ Γ) {R : Out Src → Prop} {Qv : VK} {k : Src → Store → Out SV} (post : Post M W σ (rS M) Qv g H ((f Γ S).bind k))
    (out : ∀ (s' : Shared) (D : Addr) (H' : Hp) (g1 : Gh) (H1 : Hp) (g' : Gh) (src : Src) (S1 S4 : Store) (xs : List PyData), Post M W σ (rS M) Qv g1 H1 (k src S1) → lc2L src.ok gf tf f1 gf1 tf1 ef (own.map (·.2)) vs1 Γ src.items S1 = .ok xs S4 → Inv X pins σ H' s' → Filling X M D g1 H1 g' H' S4 (xs.map intOf) → Q (.ref D) s')
    (good : ∀ (g1 : Gh) (H1 : Hp) (src : Src) (S1 : Store), Post M W σ (rS M) Qv g1 H1 (k src S1) → ∃ xs S4, lc2L src.ok gf tf f1 gf1 tf1 ef (own.map (·.2)) vs1 Γ src.items S1 = .ok xs S4 ∧ (∀ d ∈ xs, isInt d = true) ∧ xs.length + 1 < scanBound) :
    wpAny (model X.prog X.w) X.A (eval (.SetComp elt [⟨t0, i0, c0, 0⟩, ⟨t1, i1, c1, 0⟩] sc ps) X.env) Q X.xe s := by
  have free : ∀ y ∈ sc.names, y.2 = .free → ∃ c, X.env.cells.lookup y.1 = some c := fun y hy e => (ok.free y hy e).elim (fun z => I.ok.has _ (.inl z)) fun z => I.ok.has _ (.inr z)
  rw [PpSet.eval_SetComp]
  refine wpAny_comprehension_free (use := none) rfl hs (closure_ok free) ok.kind (fun y hy e => by rw [ok.uniq y hy, e]) (thn (hi.run pins s σ H (fun J H1 => ∃ g1 S1 src, Rel M.K g1 H1 S1 ∧ Vars M.K g1 σ Γ ∧ rIt M g1 J src ∧ Post M W σ (rS M) Qv g1 H1 (k src S1)) I
    (step r v post fun J H1 g1 S1 src gr1 r1 v1 q1 p1 => ⟨g1, S1, src, r1, v1, q1, p1⟩)) fun xv s1 h1 => thn h1 fun itv s2 h2 => ?_)
  obtain ⟨it, fp, tn, J, H1, rfl, I1, tu, st, hfp, g1, S1, src, r1, v1, ⟨_, hit⟩, p1⟩ := h2
  obtain ⟨xs, S4, hl, whole, room⟩ := good g1 H1 src S1 p1
  refine PpSet.newSet_ok (newEnv_comp ?_)
  generalize hD : s2.heap.objs.size = D
  have hn : H1 D = none := I1.hok.fresh (Nat.le_of_eq hD)
  generalize h3 : ({ s2 with heap := s2.heap.push (newS X.w) } : Shared) = s3
  have e3 : s3.heap = s2.heap.push (newS X.w) := by rw [← h3]
  have I3 : Inv X pins σ (upd H1 D (SetO X.w D (fun _ => false) 0)) s3 := by
    rw [← h3]
    refine I1.laid (t' := s2.toks) (fun b o e => Heap.get?_push_of_some _ e) (Nat.le_of_eq hD) ?_
    rw [← hD]
    exact setO_new (setR_fresh X.w)
  have f3 : ∀ b ∈ fp, FpOk X pins (upd H1 D (SetO X.w D (fun _ => false) 0)) b ∧ b < s3.heap.objs.size := fun b hb => by
    obtain ⟨o, e, _⟩ := tu.obj _ _ st b hb
    have lt := Heap.lt_size e
    exact ⟨⟨(upd_ne (by rw [← hD]; exact Nat.ne_of_lt lt)).trans (hfp b hb).1, (hfp b hb).2⟩, by rw [e3, Heap.size_push]; exact Nat.lt_succ_of_lt lt⟩
  have I4 := block_start I3 ok hN f3
  obtain ⟨hF, hB⟩ := r1.free hn
  obtain ⟨r3, gr3⟩ := Rel.lay r1 hn (SetO X.w D (fun _ => false) 0)
  have y0 := hg s3 (upd H1 D (SetO X.w D (fun _ => false) 0)) s3.heap.objs.size (cellsFrom (s3.heap.objs.size + 1) sc.names (cloFrom X.env.cells sc.names [])) fp
  have y1 := ht s3 (upd H1 D (SetO X.w D (fun _ => false) 0)) s3.heap.objs.size (cellsFrom (s3.heap.objs.size + 1) sc.names (cloFrom X.env.cells sc.names [])) fp
  have y2 := hi1 s3 (upd H1 D (SetO X.w D (fun _ => false) 0)) s3.heap.objs.size (cellsFrom (s3.heap.objs.size + 1) sc.names (cloFrom X.env.cells sc.names [])) fp
  have y3 := hg1 s3 (upd H1 D (SetO X.w D (fun _ => false) 0)) s3.heap.objs.size (cellsFrom (s3.heap.objs.size + 1) sc.names (cloFrom X.env.cells sc.names [])) fp
  have y4 := ht1 s3 (upd H1 D (SetO X.w D (fun _ => false) 0)) s3.heap.objs.size (cellsFrom (s3.heap.objs.size + 1) sc.names (cloFrom X.env.cells sc.names [])) fp
  have y5 := he s3 (upd H1 D (SetO X.w D (fun _ => false) 0)) s3.heap.objs.size (cellsFrom (s3.heap.objs.size + 1) sc.names (cloFrom X.env.cells sc.names [])) fp
  have st3 : tn 0 s3.heap := tu.keep _ _ _ st fun b _ o e => by rw [e3]; exact Heap.get?_push_of_some _ e
  show codeAny _ _ (.compStart (.SetComp elt [⟨t0, i0, c0, 0⟩, ⟨t1, i1, c1, 0⟩] sc ps) 0 (.ref it) (.ref D) (compEnvC sc (cellsFrom (s3.heap.objs.size + 1) sc.names (cloFrom X.env.cells sc.names [])) s3.heap.objs.size X.env)) (compPost (model X.prog X.w) X.A X.xe none Q (.ref D) s3.heap.objs.size) { s3 with heap := pushCells (s3.heap.push { cls := .type "dict", data := .dict #[] }) sc.names }
  generalize hce : compEnvC sc (cellsFrom (s3.heap.objs.size + 1) sc.names (cloFrom X.env.cells sc.names [])) s3.heap.objs.size X.env = ce at I4 y0 y1 y2 y3 y4 y5 ⊢
  have cL : ce.locals = s3.heap.objs.size := by subst hce; rfl
  generalize hH3 : upd H1 D (SetO X.w D (fun _ => false) 0) = H3 at I3 I4 y0 y1 y2 y3 y4 y5 f3 r3 gr3
  have st4 : tn 0 ({ s3 with heap := pushCells (s3.heap.push { cls := .type "dict", data := .dict #[] }) sc.names } : Shared).heap := tu.keep _ _ _ st3 fun b _ o e => pushCells_keeps _ _ _ _ (Heap.get?_push_of_some _ e)
  have lp := outer (Y := X.blk s3 H3 sc ce fp) (c0 := c0) (t0 := t0) (i0 := i0) (i1 := i1) (sc := sc) (ps := ps) (vs := own.map (·.2)) (R := compPost (model X.prog X.w) X.A X.xe none Q (.ref D) s3.heap.objs.size) (fun _ _ z => z) hc (hs1 ce) hv hT hT1 y0 y1 y2 y3 y4 y5 tu hit hn whole v1 I4 st4
    (fun b hb => ⟨(f3 b hb).1.1, (I4.ok.exf b hb).1, I4.ok.exfs b hb, .inl hb, fun x c e => (I4.ok.exf b hb).2 x c e, fun p hp => absurd (show p ∈ ([] : List (Addr × Obj)) ++ [] from hp) (by simp)⟩)
    (show Filling (X.blk s3 H3 sc ce fp) M D g1 H1 g1 H3 S1 [] from ⟨r3, gr3, hF, hB, 0, Nat.le_refl _, fun _ => false, fun k => by simp, by rw [← hH3]; exact upd_same⟩) hl room fun s' g' H' I5 m5 => by
      have I6 : Inv X pins σ H' s' := I3.call' (ch := fp) I5.os I5.base I5.hok I5.bare fun b hb => ⟨(f3 b hb).1.2.2.2.1, (f3 b hb).1.2.1, (f3 b hb).1.2.2.2.2.1, (f3 b hb).1.2.2.2.2.2⟩
      have nC : H' s3.heap.objs.size = none := by
        have z : H' ce.locals = none := I5.free
        rwa [cL] at z
      obtain ⟨m, hm, _⟩ := I5.loc
      have hm : s'.heap.Ns ce.locals m := hm
      rw [cL] at hm
      obtain ⟨k0, k1, k2, k3, k4, k5⟩ := I3.fpOk (Nat.le_refl _) nC
      refine ⟨m, hm, fun h'' sb => ?_⟩
      exact out _ D H' g1 H1 g' src S1 S4 xs p1 hl (I6.turned (t' := s'.toks) (fun b o hb e => (sb.2 b hb).trans e) k0 k1 k3 k4 k5) ⟨m5.r, m5.gr, m5.hF, m5.hB, m5.at_⟩
  exact PpSet.codeAny_compStart_set lp (tu.self X.A 0 _ _ _ st4 lp)
theorem d_srtSc2 {fin : List PyData → Store → Out SV} (hf : Fin M fin) (hK : X.K = M.K) (hgl : Gl X "sorted") (hmg : X.mg "sorted" = none) (hT : ∀ j ∈ T, j ∈ own.map (·.2)) (hT1 : ∀ j ∈ T1, j ∈ vs1) (hv : ∀ i ∈ vs1, i ∈ own.map (·.2)) (hc : X.calm = true) (hN : X.N.Nodup) (hi : DI X M W t0 i0 f) (ok : BlkOk X.N X.env.scope sc own)
    (hg : ∀ (s : Shared) (H : Hp) (C : Addr) (cl : List (Str × Addr)) (fp : List Addr), DG (X.blk s H sc (compEnvC sc cl C X.env) fp) M T t0 gf) (ht : ∀ (s : Shared) (H : Hp) (C : Addr) (cl : List (Str × Addr)) (fp : List Addr), PTs (X.blk s H sc (compEnvC sc cl C X.env) fp) c0 (tT M W0 tf))
    (hi1 : ∀ (s : Shared) (H : Hp) (C : Addr) (cl : List (Str × Addr)) (fp : List Addr), DI (X.blk s H sc (compEnvC sc cl C X.env) fp) M W0 t1 i1 f1)
    (hg1 : ∀ (s : Shared) (H : Hp) (C : Addr) (cl : List (Str × Addr)) (fp : List Addr), DG (X.blk s H sc (compEnvC sc cl C X.env) fp) M T1 t1 gf1) (ht1 : ∀ (s : Shared) (H : Hp) (C : Addr) (cl : List (Str × Addr)) (fp : List Addr), PTs (X.blk s H sc (compEnvC sc cl C X.env) fp) c1 (tT M W0 tf1))
    (he : ∀ (s : Shared) (H : Hp) (C : Addr) (cl : List (Str × Addr)) (fp : List Addr), DE (X.blk s H sc (compEnvC sc cl C X.env) fp) M W0 elt ef) (hs : ∀ x, foldedSetIterable i0 X.env x = pure x := by intro _; rfl) (hs1 : ∀ env x, foldedSetIterable i1 env x = pure x := by intro _ _; rfl) :
    DE X M W (.Call (.Name "sorted" p) [.SetComp elt [⟨t0, i0, c0, 0⟩, ⟨t1, i1, c1, 0⟩] sc ps] [] pos) (eSrtSc2 fin f gf tf f1 gf1 tf1 ef (own.map (·.2)) vs1) := by
  refine ⟨fun pins s σ H Q I h => ?_⟩
  obtain ⟨g, Γ, S, r, v, post⟩ := h
  refine Call_ (ld_blt I hgl hmg (u := .builtin "sorted") (by decide +kernel) ?_)
  refine PyProof.Rows.callWith_builtin1 (PyProof.Rows.args_cons ?_ rfl) rfl rfl
  have look : ∀ (g1 : Gh) (H1 : Hp) (src : Src) (S1 : Store), Post M W σ (rS M) Q g1 H1 (match lc2L src.ok gf tf f1 gf1 tf1 ef (own.map (·.2)) vs1 Γ src.items S1 with | .ok xs S => srtIntsS fin xs S | _ => .no) →
      ∃ xs S4, lc2L src.ok gf tf f1 gf1 tf1 ef (own.map (·.2)) vs1 Γ src.items S1 = .ok xs S4 ∧ xs.all isInt = true ∧ xs.length ≤ 4000 ∧ distN (xs.map intOf) < 64 ∧ Post M W σ (rS M) Q g1 H1 (fin ((sdN (xs.map intOf)).map .int) S4) := fun g1 H1 src S1 z => by
    cases hl : lc2L src.ok gf tf f1 gf1 tf1 ef (own.map (·.2)) vs1 Γ src.items S1 with
    | ex _ _ => rw [hl] at z; exact z.elim
    | no => rw [hl] at z; exact z.elim
    | ok xs S4 =>
      rw [hl] at z
      simp only [srtIntsS] at z
      split at z
      · rename_i hc
        rw [Bool.and_eq_true, Bool.and_eq_true, decide_eq_true_iff, decide_eq_true_iff] at hc
        exact ⟨xs, S4, rfl, hc.1.1, hc.1.2, hc.2, z⟩
      · exact z.elim
  refine setc_run (R := fun _ => True) hK hc hN hi ok hv hT hT1 hg ht hi1 hg1 ht1 he hs hs1 I r v post (fun s' D H' g1 H1 g' src S1 S4 xs z hl I' m => ?_) fun g1 H1 src S1 z => ?_
  · obtain ⟨xs', S4', hl', a1, a2, a3, z⟩ := look g1 H1 src S1 z
    rw [hl] at hl'
    cases hl'
    obtain ⟨c, hcl, U, hU, hD⟩ := m.at_
    have hS := setO_get I' hD
    have ec : c = distN (xs.map intOf) := by
      obtain ⟨o, es, ep, t, ho, hex, hd, _, hnd, hmem, _, hf, hn, _⟩ := id hS
      rw [← hn, ← dist_of hnd (fun x => ((hmem x).symm.trans (by rw [hU]; exact decide_eq_true_iff))), List.length_map, Array.length_toList]
    subst ec
    refine PyProof.Rows.args_nil (sorted_set hS (I'.ok.hd hc) a3 fun s2 q out c2 ms kp gg oo hq hqo hin hsr hmm hln => ?_)
    have em : ms = sdN (xs.map intOf) := sdN_eq hsr fun k => (hmm k).trans (by rw [hU]; exact decide_eq_true_iff)
    subst em
    have hz : ((sdN (xs.map intOf)).map V.int).length ≤ sizeLine := by rw [List.length_map, sdN_len, sizeLine_eq]; omega
    have hn : H' q = none := I'.hok.fresh hq
    have J := I'.call (h' := s2.heap) (g' := s2.gens) (d' := s2.drawn) (t' := s2.toks) (ch := []) (Un.laid (o := .lst ((sdN (xs.map intOf)).map V.int)) kp hq hn) (I'.hok.laid kp hq (show ObjOk X.prog X.w (upd H' q (.lst ((sdN (xs.map intOf)).map V.int))) s2.heap q (.lst ((sdN (xs.map intOf)).map V.int)) from ⟨hz, out.toList, c2, vals_of_ints hin, hqo⟩)) (by rw [gg]; exact I'.bare) (fun _ z => nomatch z)
    have e : ({ s' with heap := s2.heap, gens := s2.gens, drawn := s2.drawn, toks := s2.toks } : Shared) = s2 := by
      cases s2
      cases s'
      cases oo
      rfl
    rw [e] at J
    exact ⟨.ref q, _, J, rfl, hf.lay m.r (by rw [List.length_map, sdN_len]; omega) (RpAll.of_ints _) (z.grow m.r m.gr) q hn⟩
  · obtain ⟨xs, S4, hl, a1, a2, _, _⟩ := look g1 H1 src S1 z
    exact ⟨xs, S4, hl, fun d hd => List.all_eq_true.mp a1 d hd, by unfold scanBound; omega⟩
end
end DL
/-! D29: what is never reached; several clauses, by the tables of the text. -/
namespace DL
open PySem L2
def eNo : EF := fun _ _ => .no
theorem d_no {X : Cx} {M : Mi} {W : WX} {e : Expr} : DE X M W e eNo := ⟨fun pins s σ H Q I ⟨g, Γ, S, r, v, p⟩ => p.elim⟩
def fNo : SF := fun _ _ => .no
theorem s_no {X : Cx} {M : Mi} {W : WX} {st : Stmt} : DS X M W st fNo := ⟨fun pins s σ H D I ⟨g, Γ, S, r, v, p⟩ => p.elim⟩
theorem RetOk.none {X : Cx} {M : Mi} : ∃ l, RetOk X M [] l ∧ l.map (·.2) = [] := ⟨[], .nil, rfl⟩
theorem RetOk.more {X : Cx} {M : Mi} {x n : Str} {ok : Str → Option Bool} {i : Nat} {su : Exc → EF} {e : Expr} {p q rp : Pos} {hs : List ExceptHandler} {ls : List RetCl} (hi : X.N[i]? = some n) (hn : X.env.kindOf n = some .local) (E : CatchX X.K X.mg M.cn x ok) (hg : Gl X x)
    (hsu : ∀ (a : Addr) (o : Obj) (cls : Value) (d : Option Addr) (pn : List (Addr × Obj)) (y : Exc), Zc cls d o → (∃ vs, o.data = .fields vs) → DEi (X.suite a ((a, o) :: pn)) M i a cls d y e (su y)) (r : ∃ l, RetOk X M hs l ∧ l.map (·.2) = ls) (hdb : (x == ("__debug__" : Str)) = false := by decide) :
    ∃ l, RetOk X M (.ExceptHandler (some (.Name x p)) (some n) [.Return (some e) rp] q :: hs) l ∧ l.map (·.2) = (ok, i, su) :: ls := by
  obtain ⟨l, h1, h2⟩ := r
  obtain ⟨C, e1, e2⟩ := E.ok
  exact ⟨(.ref C, ok, i, su) :: l, .cons ⟨hg, hdb, .inl e1⟩ e2 hi hn hsu h1, by rw [List.map_cons, h2]⟩
theorem s_tryRetsE {X : Cx} {M : Mi} {Wout : WX} {body : List Stmt} {h0 : ExceptHandler} {hs' : List ExceptHandler} {pos : Pos} {b : SF} {ls : List RetCl} (hs : X.stack = X.env :: X.outer) (hf : X.env.frame = some X.env.locals) (hN : X.N.Nodup) (tk : Takes X Wout)
    (hb : ∀ (W : WX) (pn : List (Addr × Obj)) (xe : Value → Shared → Prop), Takes (X.tr pn xe) W → PassesOwn (model X.prog X.w) X.A X.env xe → DSs (X.tr pn xe) M W body b) (hk : ∃ l, RetOk X M (h0 :: hs') l ∧ l.map (·.2) = ls) :
    DS X M Wout (.Try body (h0 :: hs') [] [] pos) (fTryRets ls b) := by
  obtain ⟨l, h1, rfl⟩ := hk
  exact s_tryRets hs hf hN tk hb h1
end DL
/-! E0: how the layer's meanings are reckoned: equations for simp, and what is told of an outcome. -/
namespace DL
open PySem L2
section
variable {α β : Type}
theorem bind_ok (a : α) (S : Store) (k : α → Store → Out β) : (Out.ok a S).bind k = k a S := rfl
theorem sB_ok (a : α) (S : Store) (Γ : Ev) (k : α → Store → Out Fl) : sB (.ok a S) Γ k = k a S := rfl
/-- the outcome is .ok, and P holds of it -/
structure Out.Ret (o : Out α) (P : α → Store → Prop) : Prop where
  ok : ∃ a S, o = .ok a S ∧ P a S
theorem Out.Ret.of {o : Out α} {a : α} {S : Store} {P : α → Store → Prop} (e : o = .ok a S) (h : P a S) : o.Ret P := ⟨a, S, e, h⟩
theorem Ret_ok (a : α) (S : Store) (P : α → Store → Prop) : (Out.ok a S).Ret P = P a S := propext ⟨fun ⟨_, _, e, h⟩ => by cases e; exact h, fun h => ⟨_, _, rfl, h⟩⟩
theorem Out.Ret.imp {o : Out α} {P Q : α → Store → Prop} (h : o.Ret P) (k : ∀ a S, P a S → Q a S) : o.Ret Q := by
  obtain ⟨a, S, rfl, h⟩ := h
  exact .of rfl (k a S h)
theorem Out.Ret.bind {o : Out α} {f : α → Store → Out β} {P : α → Store → Prop} {Q : β → Store → Prop} (h : o.Ret P) (k : ∀ a S, P a S → (f a S).Ret Q) : (o.bind f).Ret Q := by
  obtain ⟨a, S, rfl, h⟩ := h
  exact k a S h
theorem Out.Ret.sB {o : Out α} {Γ : Ev} {f : α → Store → Out Fl} {P : α → Store → Prop} {Q : Fl → Store → Prop} (h : o.Ret P) (k : ∀ a S, P a S → (f a S).Ret Q) : (DL.sB o Γ f).Ret Q := by
  obtain ⟨a, S, rfl, h⟩ := h
  exact k a S h
end
/-! ### equations -/
theorem eVar_at {i : Nat} {Γ : Ev} {S : Store} {x : SV} (h : Γ[i]? = some (some x)) : eVar i Γ S = .ok x S := by unfold eVar; rw [h]
theorem eVar_0 (a : SV) (Γ : Ev) (S : Store) : eVar 0 (some a :: Γ) S = .ok a S := rfl
theorem eVar_s (i : Nat) (o : Option SV) (Γ : Ev) (S : Store) : eVar (i + 1) (o :: Γ) S = eVar i Γ S := rfl
theorem eC_eq (x : PyData) (Γ : Ev) (S : Store) : eC x Γ S = .ok (.d x) S := rfl
theorem eBin_eq (op : SV → SV → Store → Out SV) (f g : EF) (Γ : Ev) (S : Store) : eBin op f g Γ S = (f Γ S).bind fun v S => (g Γ S).bind fun w S => op v w S := rfl
theorem eUn_eq (op : SV → Store → Out SV) (f : EF) (Γ : Ev) (S : Store) : eUn op f Γ S = (f Γ S).bind fun v S => op v S := rfl
theorem iOp_eq (C : Int → Int → Bool) (f : Int → Int → Int) (i j : Int) (S : Store) (h : C i j = true) : iOp C f (.d (.int i)) (.d (.int j)) S = .ok (.d (.int (f i j))) S := by
  show (if C i j then _ else _) = _
  rw [if_pos h]
theorem iOp0_eq (f : Int → Int → Int) (i j : Int) (S : Store) : iOp0 f (.d (.int i)) (.d (.int j)) S = .ok (.d (.int (f i j))) S := rfl
theorem iCmp_eq (f : Int → Int → Bool) (i j : Int) (S : Store) : iCmp f (.d (.int i)) (.d (.int j)) S = .ok (.d (.bool (f i j))) S := rfl
theorem tst_eq (f : EF) (Γ : Ev) (S : Store) : tst f Γ S = (f Γ S).bind fun v S => match v with
  | .d (.bool b) => .ok b S
  | _ => .no := rfl
theorem addI (fin : List PyData → Store → Out SV) (i j : Int) (S : Store) : addS fin (.d (.int i)) (.d (.int j)) S = .ok (.d (.int (i + j))) S := rfl
theorem mulI (fin : List PyData → Store → Out SV) {i j : Int} (S : Store) (h : mulC i j = true) : mulS fin (.d (.int i)) (.d (.int j)) S = .ok (.d (.int (i * j))) S := by
  show (if mulC i j then _ else _) = _
  rw [if_pos h]
theorem negI (i : Int) (S : Store) : negS (.d (.int i)) S = .ok (.d (.int (-i))) S := rfl
theorem fmod_pos {i j : Int} (h : 0 ≤ j) : Int.fmod i j = i % j := Int.fmod_eq_emod_of_nonneg i h
theorem fdiv_pos {i j : Int} (h : 0 ≤ j) : Int.fdiv i j = i / j := Int.fdiv_eq_ediv_of_nonneg i h
theorem modC_of {i j : Int} (h : j ≠ 0) : modC i j = true := decide_eq_true h
theorem divC_of {i j : Int} (h : j ≠ 0) (h2 : j.natAbs < 1073741824) : divC i j = true := by
  unfold divC
  rw [decide_eq_true (p := j ≠ 0 ∧ j.natAbs < 1073741824) ⟨h, h2⟩]
  rfl
theorem divC_big {i j : Int} (h : 0 < j) (h2 : j.natAbs.log2 < 9000) : divC i j = true := by
  unfold divC
  rw [decide_eq_true (p := 0 < j ∧ j.natAbs.log2 < 9000) ⟨h, h2⟩, Bool.or_true]
theorem mulC_l {i j : Int} (h1 : -(2 ^ 64) < i) (h2 : i < 2 ^ 64) : mulC i j = true := by
  unfold mulC
  rw [decide_eq_true (p := (-(2 ^ 64) < i ∧ i < 2 ^ 64) ∨ (-(2 ^ 64) < j ∧ j < 2 ^ 64)) (.inl ⟨h1, h2⟩)]
  rfl
theorem mulC_r {i j : Int} (h1 : -(2 ^ 64) < j) (h2 : j < 2 ^ 64) : mulC i j = true := by
  unfold mulC
  rw [decide_eq_true (p := (-(2 ^ 64) < i ∧ i < 2 ^ 64) ∨ (-(2 ^ 64) < j ∧ j < 2 ^ 64)) (.inr ⟨h1, h2⟩)]
  rfl
theorem log2_le {a k : Nat} (h : a < 2 ^ k) : a.log2 ≤ k := by
  by_cases e : a = 0
  · subst e; simp
  · exact Nat.le_of_lt ((Nat.log2_lt e).mpr h)
theorem mulC_big {i j : Int} (a b : Nat) (h1 : i.natAbs < 2 ^ a) (h2 : j.natAbs < 2 ^ b) (h : a + b < 1000000) : mulC i j = true := by
  unfold mulC
  have u1 := log2_le h1
  have u2 := log2_le h2
  rw [decide_eq_true (p := i.natAbs.log2 + j.natAbs.log2 < 1000000) (by omega), Bool.or_true]
theorem eAdd_eq (fin : List PyData → Store → Out SV) (f g : EF) (Γ : Ev) (S : Store) : eAddF fin f g Γ S = (f Γ S).bind fun v S => (g Γ S).bind fun w S => addS fin v w S := rfl
theorem eSub_eq (f g : EF) (Γ : Ev) (S : Store) : eSub f g Γ S = (f Γ S).bind fun v S => (g Γ S).bind fun w S => iOp0 (fun i j => i - j) v w S := rfl
theorem eMul_eq (fin : List PyData → Store → Out SV) (f g : EF) (Γ : Ev) (S : Store) : eMulF fin f g Γ S = (f Γ S).bind fun v S => (g Γ S).bind fun w S => mulS fin v w S := rfl
theorem eDiv_eq (f g : EF) (Γ : Ev) (S : Store) : eDiv f g Γ S = (f Γ S).bind fun v S => (g Γ S).bind fun w S => iOp divC Int.fdiv v w S := rfl
theorem eMod_eq (f g : EF) (Γ : Ev) (S : Store) : eMod f g Γ S = (f Γ S).bind fun v S => (g Γ S).bind fun w S => iOp modC Int.fmod v w S := rfl
theorem ePow_eq (f g : EF) (Γ : Ev) (S : Store) : ePow f g Γ S = (f Γ S).bind fun v S => (g Γ S).bind fun w S => iOp powC (fun i j => i ^ j.toNat) v w S := rfl
theorem eXor_eq (f g : EF) (Γ : Ev) (S : Store) : eXor f g Γ S = (f Γ S).bind fun v S => (g Γ S).bind fun w S => iOp0 Builtin.bitXor v w S := rfl
theorem eNeg_eq (f : EF) (Γ : Ev) (S : Store) : eNeg f Γ S = (f Γ S).bind fun v S => negS v S := rfl
theorem eIx_eq (f g : EF) (Γ : Ev) (S : Store) : eIx f g Γ S = (f Γ S).bind fun v S => (g Γ S).bind fun w S => ixS v w S := rfl
theorem eqI_t (i j : Int) (S : Store) : eqS false (.d (.int i)) (.d (.int j)) S = .ok (.d (.bool (decide (i = j)))) S := rfl
theorem eqI_f (i j : Int) (S : Store) : eqS true (.d (.int i)) (.d (.int j)) S = .ok (.d (.bool (decide (i ≠ j)))) S := by
  have e : eqS true (.d (.int i)) (.d (.int j)) S = .ok (.d (.bool (!decide (i = j)))) S := rfl
  rw [e]
  congr 3
  by_cases h : i = j <;> simp [h]
theorem tNot_eq (t : TF) (Γ : Ev) (S : Store) : tNotF t Γ S = (t Γ S).bind fun k S => .ok (!k) S := rfl
theorem tAnd_eq (ta tb : TF) (Γ : Ev) (S : Store) : tAndF ta tb Γ S = (ta Γ S).bind fun k S => if k = true then tb Γ S else .ok false S := rfl
theorem tOr_eq (ta tb : TF) (Γ : Ev) (S : Store) : tOrF ta tb Γ S = (ta Γ S).bind fun k S => if k = true then .ok true S else tb Γ S := rfl
theorem tru_eq (f : EF) (Γ : Ev) (S : Store) : tru f Γ S = (f Γ S).bind fun v S => match truS v S with
  | some k => .ok k S
  | none => .no := rfl
theorem tru_bool (b : Bool) (S : Store) : truS (.d (.bool b)) S = some b := rfl
theorem tru_int (i : Int) (S : Store) : truS (.d (.int i)) S = some (i != 0) := rfl
theorem tru_list (xs : List PyData) (S : Store) : truS (.d (.list xs)) S = some (!xs.isEmpty) := rfl
theorem eAnd_eq (f g : EF) (Γ : Ev) (S : Store) : eAndF f g Γ S = (f Γ S).bind fun v S => match truS v S with
  | some k => if k = true then g Γ S else .ok v S
  | none => .no := by
  unfold eAndF
  congr
  funext v S
  cases truS v S with
  | none => rfl
  | some k => cases k <;> rfl
theorem isi_eq (T : String) (f : EF) (Γ : Ev) (S : Store) : eIsi T f Γ S = (f Γ S).bind fun v S => match asD v S with
  | some d => .ok (.d (.bool (isiB (tyN d) T))) S
  | none => .no := rfl
theorem asD_d (x : PyData) (S : Store) : asD (.d x) S = some x := rfl
theorem eNot_eq (f : EF) (Γ : Ev) (S : Store) : eNotF f Γ S = (f Γ S).bind fun v S => match truS v S with
  | some k => .ok (.d (.bool (!k))) S
  | none => .no := rfl
/-! statements -/
theorem fSet_eq (i : Nat) (f : EF) (Γ : Ev) (S : Store) : fSet i f Γ S = sB (f Γ S) Γ fun v S => .ok (.nx (Γ.set i (some v))) S := rfl
theorem fRet_eq (f : EF) (Γ : Ev) (S : Store) : fRet f Γ S = sB (f Γ S) Γ fun v S => .ok (.rt v) S := rfl
theorem fExpr_eq (f : EF) (Γ : Ev) (S : Store) : fExpr f Γ S = sB (f Γ S) Γ fun v S => .ok (.nx Γ) S := rfl
theorem fIf_eq (t : TF) (f h : SF) (Γ : Ev) (S : Store) : fIf t f h Γ S = sB (t Γ S) Γ fun b S => if b = true then f Γ S else h Γ S := rfl
theorem fAsg_eq (f : EF) (gf : GF) (Γ : Ev) (S : Store) : fAsg f gf Γ S = sB (f Γ S) Γ fun v S => match gf v Γ S with
  | .ok Γ' S' => .ok (.nx Γ') S'
  | _ => .no := rfl
theorem fPar_eq (i j : Nat) (af : AF) (Γ : Ev) (S : Store) : fPar i j af Γ S = sB (af Γ S) Γ fun vs S => match vs with
  | [v, w] => .ok (.nx ((Γ.set i (some v)).set j (some w))) S
  | _ => .no := rfl
/-- what follows a statement -/
def seqK (h : SF) (o : Out Fl) : Out Fl := match o with
  | .ok (.nx Γ) S => h Γ S
  | o => o
theorem fSeq_eq (f h : SF) (Γ : Ev) (S : Store) : fSeq f h Γ S = seqK h (f Γ S) := rfl
theorem seqK_nx (h : SF) (Γ : Ev) (S : Store) : seqK h (.ok (.nx Γ) S) = h Γ S := rfl
theorem seqK_rt (h : SF) (v : SV) (S : Store) : seqK h (.ok (.rt v) S) = .ok (.rt v) S := rfl
theorem seqK_bk (h : SF) (Γ : Ev) (S : Store) : seqK h (.ok (.bk Γ) S) = .ok (.bk Γ) S := rfl
theorem seqK_ct (h : SF) (Γ : Ev) (S : Store) : seqK h (.ok (.ct Γ) S) = .ok (.ct Γ) S := rfl
theorem seqK_ite (h : SF) (c : Prop) [Decidable c] (a b : Out Fl) : seqK h (if c then a else b) = if c then seqK h a else seqK h b := by split <;> rfl
theorem fNil_eq (Γ : Ev) (S : Store) : fNil Γ S = .ok (.nx Γ) S := rfl
theorem fBreak_eq (Γ : Ev) (S : Store) : fBreak Γ S = .ok (.bk Γ) S := rfl
theorem fCont_eq (Γ : Ev) (S : Store) : fCont Γ S = .ok (.ct Γ) S := rfl
theorem gNm_eq (i : Nat) (v : SV) (Γ : Ev) (S : Store) : gNm i v Γ S = .ok (Γ.set i (some v)) S := rfl
theorem gsNil_eq (Γ : Ev) (S : Store) : gsNil [] Γ S = .ok Γ S := rfl
theorem gsCons_eq (gf : GF) (gr : List PyData → Ev → Store → Out Ev) (d : PyData) (ds : List PyData) (Γ : Ev) (S : Store) : gsCons gf gr (d :: ds) Γ S = (gf (.d d) Γ S).bind fun Γ S => gr ds Γ S := rfl
theorem gTup_eq (n : Nat) (gf : List PyData → Ev → Store → Out Ev) (ds : List PyData) (Γ : Ev) (S : Store) (h : ds.length = n) : gTupF n gf (.d (.tuple ds)) Γ S = gf ds Γ S := by
  show (if ds.length = n then _ else _) = _
  rw [if_pos h]
/-! calls -/
theorem aNil_eq (Γ : Ev) (S : Store) : aNil Γ S = .ok [] S := rfl
theorem aCons_eq (f : EF) (r : AF) (Γ : Ev) (S : Store) : aCons f r Γ S = (f Γ S).bind fun v S => (r Γ S).bind fun vs S => .ok (v :: vs) S := rfl
theorem eCall_eq (op : List SV → Store → Out SV) (f : AF) (Γ : Ev) (S : Store) : eCall op f Γ S = (f Γ S).bind fun vs S => op vs S := rfl
theorem eCallD_eq (n : Nat) (F : FD) (f : AF) (Γ : Ev) (S : Store) : eCallD n F f Γ S = (f Γ S).bind fun vs S => if vs.length = n then F vs S else .no := rfl
theorem intS_eq (i : Int) (S : Store) : intS [.d (.int i)] S = .ok (.d (.int i)) S := rfl
theorem absS_eq (i : Int) (S : Store) : absS [.d (.int i)] S = .ok (.d (.int (if i < 0 then -i else i))) S := rfl
theorem mmS_eq (f : Int → Int → Int) (i j : Int) (S : Store) : mmS f [.d (.int i), .d (.int j)] S = .ok (.d (.int (f i j))) S := rfl
theorem len_l (xs : List PyData) (S : Store) : lenS [.d (.list xs)] S = .ok (.d (.int xs.length)) S := rfl
theorem len_t (xs : List PyData) (S : Store) : lenS [.d (.tuple xs)] S = .ok (.d (.int xs.length)) S := rfl
theorem len_c {c : Nat} {xs : List PyData} {S : Store} (h : S[c]? = some (.lst xs)) : lenS [.cell c] S = .ok (.d (.int xs.length)) S := by
  simp only [lenS, asD, h]
theorem all_l {a : Bool} {xs : List PyData} (S : Store) (h : xs.all scaD = true) : allS a [.d (.list xs)] S = .ok (.d (.bool (if a then xs.any trB else xs.all trB))) S := by
  show (if xs.all scaD then _ else _) = _
  rw [if_pos h]
theorem all_t {a : Bool} {xs : List PyData} (S : Store) (h : xs.all scaD = true) : allS a [.d (.tuple xs)] S = .ok (.d (.bool (if a then xs.any trB else xs.all trB))) S := by
  show (if xs.all scaD then _ else _) = _
  rw [if_pos h]
theorem list_l (fin : List PyData → Store → Out SV) (xs : List PyData) (S : Store) : listS fin [.d (.list xs)] S = fin xs S := rfl
theorem list_t (fin : List PyData → Store → Out SV) (xs : List PyData) (S : Store) : listS fin [.d (.tuple xs)] S = fin xs S := rfl
theorem tup_l (xs : List PyData) (S : Store) : tupS [.d (.list xs)] S = .ok (.d (.tuple xs)) S := rfl
theorem tup_t (xs : List PyData) (S : Store) : tupS [.d (.tuple xs)] S = .ok (.d (.tuple xs)) S := rfl
theorem finF_eq (xs : List PyData) (S : Store) : finF xs S = .ok (.d (.list xs)) S := rfl
theorem finC_eq (xs : List PyData) (S : Store) : finC xs S = .ok (.cell S.length) (S ++ [.lst xs]) := rfl
theorem allD_nil (S : Store) : allD [] S = some [] := rfl
theorem allD_cons (x : PyData) (r : List SV) (S : Store) : allD (.d x :: r) S = (allD r S).map (x :: ·) := rfl
theorem eTup_eq (f : AF) (Γ : Ev) (S : Store) : eTup f Γ S = (f Γ S).bind fun vs S => match allD vs S with
  | some ds => if ds.length ≤ 16777216 then .ok (.d (.tuple ds)) S else .no
  | none => .no := rfl
theorem eLst_eq (fin : List PyData → Store → Out SV) (f : AF) (Γ : Ev) (S : Store) : eLst fin f Γ S = (f Γ S).bind fun vs S => match allD vs S with
  | some ds => if ds.length ≤ 16777216 then fin ds S else .no
  | none => .no := rfl
theorem eIf_eq (t : TF) (f g : EF) (Γ : Ev) (S : Store) : eIf t f g Γ S = (t Γ S).bind fun k S => if k = true then f Γ S else g Γ S := rfl
theorem ix_l {xs : List PyData} {i : Int} {x : PyData} (S : Store) (h : atI xs i = some x) : ixS (.d (.list xs)) (.d (.int i)) S = .ok (.d x) S := by
  show (match atI xs i with | some d => _ | none => _) = _
  rw [h]
theorem ix_t {xs : List PyData} {i : Int} {x : PyData} (S : Store) (h : atI xs i = some x) : ixS (.d (.tuple xs)) (.d (.int i)) S = .ok (.d x) S := by
  show (match atI xs i with | some d => _ | none => _) = _
  rw [h]
theorem ix_c {c : Nat} {xs : List PyData} {i : Int} {x : PyData} {S : Store} (hc : S[c]? = some (.lst xs)) (h : atI xs i = some x) : ixS (.cell c) (.d (.int i)) S = .ok (.d x) S := by
  unfold ixS asD
  simp only [hc, h]
theorem ix_nat {α : Type} {xs : List α} {i : Nat} {x : α} (h : xs[i]? = some x) : atI xs (i : Int) = some x := by
  have hl : i < xs.length := by
    rcases Nat.lt_or_ge i xs.length with q | q
    · exact q
    · rw [List.getElem?_eq_none q] at h; cases h
  unfold atI ixN
  rw [if_pos (by omega), if_pos (by omega), Int.toNat_natCast]
  exact h
/-! defs -/
def hand (h : Nat → SV → Store → Out SV) (n : Nat) (o : Out Fl) : Out SV := match o with
  | .ok (.rt v) S' => h n v S'
  | .ok (.nx _) S' => .ok (.d .none) (S'.take n)
  | .ok (.xc x _) S' => .ex x (S'.take n)
  | _ => .no
theorem runD_eq (h : Nat → SV → Store → Out SV) (nN : Nat) (f : SF) (ds : List SV) (S : Store) : runD h nN f ds S = hand h S.length (f (ds.map some ++ List.replicate (nN - ds.length) none) S) := rfl
theorem hand_rt (h : Nat → SV → Store → Out SV) (n : Nat) (v : SV) (S : Store) : hand h n (.ok (.rt v) S) = h n v S := rfl
theorem handF_d (n : Nat) (x : PyData) (S : Store) : handF n (.d x) S = .ok (.d x) (S.take n) := rfl
theorem handF_new {n i : Nat} {xs : List PyData} {S : Store} (h1 : n ≤ i) (h2 : S[i]? = some (.lst xs)) : handF n (.cell i) S = .ok (.d (.list xs)) (S.take n) := by
  unfold handF
  simp only [h2]
  rw [if_neg (by omega)]
theorem take_self (S : Store) : S.take S.length = S := List.take_length
/-! loops -/
theorem srcS_l (xs : List PyData) (S : Store) : srcS (.d (.list xs)) S = .ok ⟨xs, fun _ => true⟩ S := rfl
theorem srcS_t (xs : List PyData) (S : Store) : srcS (.d (.tuple xs)) S = .ok ⟨xs, fun _ => true⟩ S := rfl
theorem iSrc_eq (f : EF) (Γ : Ev) (S : Store) : iSrc f Γ S = (f Γ S).bind fun v S => srcS v S := rfl
theorem iZip_eq (f g : EF) (Γ : Ev) (S : Store) : iZip f g Γ S = (f Γ S).bind fun v S => (g Γ S).bind fun w S => zipS v w S := rfl
theorem zip_l (xs ys : List PyData) (S : Store) : zipS (.d (.list xs)) (.d (.list ys)) S = .ok ⟨pairD xs ys, fun _ => true⟩ S := rfl
theorem iEnm_eq (f : EF) (Γ : Ev) (S : Store) : iEnm f Γ S = (f Γ S).bind fun v S => enumS v S := rfl
theorem enum_l (xs : List PyData) (S : Store) : enumS (.d (.list xs)) S = .ok ⟨enumD xs, fun _ => true⟩ S := rfl
theorem iRg_eq (f : RF) (Γ : Ev) (S : Store) : iRg f Γ S = (f Γ S).bind rgSrc := rfl
theorem rg1_eq (f : EF) (Γ : Ev) (S : Store) : rg1 f Γ S = (f Γ S).bind fun v S => match v with
  | .d (.int i) => .ok ((0 : Int), i) S
  | _ => .no := rfl
theorem rgSrc_eq {a b : Int} (S : Store) (h : rgC a b = true) : rgSrc (a, b) S = .ok ⟨rgD a b, fun _ => true⟩ S := by
  show (if rgC a b then _ else _) = _
  rw [if_pos h]
theorem rgC_of {a b : Int} (h1 : 0 ≤ a) (h2 : a ≤ 16777216) (h3 : b ≤ 16777216) (h4 : 0 ≤ b) : rgC a b = true := by
  unfold rgC
  refine decide_eq_true ?_
  omega
theorem rgC_nat (n : Nat) (h : n ≤ 1000000) : rgC 0 (n : Int) = true := by
  have h2 : (n : Int) ≤ 16777216 := by omega
  have h3 : (0 : Int) ≤ n := by omega
  have h1 : (0 : Int) ≤ 16777216 := by omega
  exact rgC_of (Int.le_refl 0) h1 h2 h3
theorem iRg_ok {f : EF} {Γ : Ev} {S S' : Store} {n : Nat} (h : f Γ S = .ok (.d (.int n)) S') (hn : n ≤ 1000000) : iRg (rg1 f) Γ S = .ok ⟨rgD 0 n, fun _ => true⟩ S' := by
  have e : rg1 f Γ S = .ok (0, (n : Int)) S' := by
    rw [rg1_eq, h, bind_ok]
  rw [iRg_eq, e, bind_ok, rgSrc_eq _ (rgC_nat n hn)]
/-- range(n) of a number -/
theorem rgD_nat (n : Nat) : rgD 0 (n : Int) = (List.range n).map fun (i : Nat) => PyData.int i := by
  unfold rgD
  rw [Int.sub_zero, Int.toNat_natCast]
  refine List.map_congr_left fun i _ => ?_
  rw [Int.zero_add]
/-- a comprehension whose tests and words leave the store as it is -/
theorem lcL_pure {ok : Store → Bool} {gf : GF} {tf : TF} {ef : EF} {vs : List Nat} {Γ : Ev} {S : Store} (c : PyData → Bool) (h : PyData → PyData) (hok : ok S = true) : ∀ xs : List PyData,
    (∀ d ∈ xs, ∃ Γ1, gf (.d d) (wipeE Γ vs) S = .ok Γ1 S ∧ tf Γ1 S = .ok (c d) S ∧ (c d = true → ef Γ1 S = .ok (.d (h d)) S)) → lcL ok gf tf ef vs Γ xs S = .ok ((xs.filter c).map h) S
  | [], _ => by unfold lcL; rw [if_pos hok]; rfl
  | d :: ds, k => by
    obtain ⟨Γ1, h1, h2, h3⟩ := k d (List.mem_cons_self ..)
    have ih := lcL_pure (tf := tf) (ef := ef) c h hok ds fun d' m => k d' (List.mem_cons_of_mem _ m)
    unfold lcL
    rw [if_pos hok]
    simp only [h1, h2]
    cases hc : c d with
    | false =>
      simp only []
      rw [ih, List.filter_cons, hc]
      rfl
    | true =>
      simp only [h3 hc]
      rw [ih, List.filter_cons, hc]
      rfl
theorem tYes_eq (Γ : Ev) (S : Store) : tYesF Γ S = .ok true S := rfl
theorem lcL_map {ok : Store → Bool} {gf : GF} {ef : EF} {vs : List Nat} {Γ : Ev} {S : Store} (h : PyData → PyData) (hok : ok S = true) (xs : List PyData)
    (k : ∀ d ∈ xs, ∃ Γ1, gf (.d d) (wipeE Γ vs) S = .ok Γ1 S ∧ ef Γ1 S = .ok (.d (h d)) S) : lcL ok gf tYesF ef vs Γ xs S = .ok (xs.map h) S := by
  rw [lcL_pure (fun _ => true) h hok xs fun d m => ?_, List.filter_eq_self.mpr (fun _ _ => rfl)]
  obtain ⟨Γ1, h1, h2⟩ := k d m
  exact ⟨Γ1, h1, rfl, fun _ => h2⟩
theorem eLc_eq {fin : List PyData → Store → Out SV} {f : IF} {gf : GF} {tf : TF} {ef : EF} {vs : List Nat} {Γ : Ev} {S S1 : Store} {s : Src} (h : f Γ S = .ok s S1) : eLc fin f gf tf ef vs Γ S = (lcL s.ok gf tf ef vs Γ s.items S1).bind fun xs S => fin xs S := by
  unfold eLc
  rw [h]
  rfl
/-- a comprehension whose words change the store -/
theorem lcL_ret {ok : Store → Bool} {gf : GF} {ef : EF} {vs : List Nat} {Γ : Ev} (I : Store → Prop) (P : PyData → Prop) (hok : ∀ S, I S → ok S = true) : ∀ (xs : List PyData) (S : Store), I S →
    (∀ d ∈ xs, ∀ S, I S → (gf (.d d) (wipeE Γ vs) S).Ret fun Γ1 S1 => (ef Γ1 S1).Ret fun v S2 => (∃ x, v = .d x ∧ P x) ∧ I S2) →
    (lcL ok gf tYesF ef vs Γ xs S).Ret fun ys S' => ys.length = xs.length ∧ (∀ y ∈ ys, P y) ∧ I S'
  | [], S, i, _ => by
    unfold lcL
    rw [if_pos (hok S i), Ret_ok]
    exact ⟨rfl, fun y h => (List.not_mem_nil h).elim, i⟩
  | d :: ds, S, i, k => by
    unfold lcL
    rw [if_pos (hok S i)]
    obtain ⟨Γ1, S1, e1, h1⟩ := (k d (List.mem_cons_self ..) S i).ok
    obtain ⟨v, S2, e2, ⟨x, hx, hP⟩, i2⟩ := h1.ok
    subst hx
    simp only [e1, tYes_eq, e2]
    obtain ⟨ys, S3, e3, h3, h4, i3⟩ := (lcL_ret I P hok ds S2 i2 fun d' m => k d' (List.mem_cons_of_mem _ m)).ok
    rw [e3]
    refine .of rfl ⟨by simp [h3], fun y m => ?_, i3⟩
    rcases List.mem_cons.mp m with e | m
    · exact e ▸ hP
    · exact h4 y m
theorem fFor_eq {f : IF} {gf : GF} {b : SF} {Γ : Ev} {S S1 : Store} {s : Src} (h : f Γ S = .ok s S1) : fFor f gf b Γ S = forL s.ok gf b s.items Γ S1 := by
  unfold fFor
  rw [h]
  rfl
/-- a for loop: what holds of the items that are left, the locals and the store; it ends at the end, or by break, or by return -/
theorem forL_ret {ok : Store → Bool} {gf : GF} {b : SF} (I : List PyData → Ev → Store → Prop) (Q : Fl → Store → Prop) (hok : ∀ ds Γ S, I ds Γ S → ok S = true) (hend : ∀ Γ S, I [] Γ S → Q (.nx Γ) S)
    (hstep : ∀ d ds Γ S, I (d :: ds) Γ S → (gf (.d d) Γ S).Ret fun Γ1 S1 => (b Γ1 S1).Ret fun fl S2 => match fl with
      | .nx Γ2 => I ds Γ2 S2
      | .ct Γ2 => I ds Γ2 S2
      | .bk Γ2 => Q (.nx Γ2) S2
      | .rt v => Q (.rt v) S2
      | .xc x Γ2 => Q (.xc x Γ2) S2) : ∀ (ds : List PyData) (Γ : Ev) (S : Store), I ds Γ S → (forL ok gf b ds Γ S).Ret Q
  | [], Γ, S, i => by
    unfold forL
    rw [if_pos (hok _ _ _ i)]
    exact .of rfl (hend Γ S i)
  | d :: ds, Γ, S, i => by
    unfold forL
    rw [if_pos (hok _ _ _ i)]
    obtain ⟨Γ1, S1, e1, h1⟩ := (hstep d ds Γ S i).ok
    obtain ⟨fl, S2, e2, h2⟩ := h1.ok
    simp only [e1, e2]
    cases fl with
    | nx Γ2 => exact forL_ret I Q hok hend hstep ds Γ2 S2 h2
    | ct Γ2 => exact forL_ret I Q hok hend hstep ds Γ2 S2 h2
    | bk Γ2 => exact .of rfl h2
    | rt v => exact .of rfl h2
    | xc x Γ2 => exact .of rfl h2
/-- a while loop with what is left to do -/
theorem whF_ret {t : TF} {b : SF} (I : Nat → Ev → Store → Prop) (Q : Fl → Store → Prop)
    (hstep : ∀ n Γ S, I n Γ S → (t Γ S).Ret fun k S1 => if k = true then 0 < n ∧ (b Γ S1).Ret fun fl S2 => match fl with
      | .nx Γ2 => I (n - 1) Γ2 S2
      | .ct Γ2 => I (n - 1) Γ2 S2
      | .bk Γ2 => Q (.nx Γ2) S2
      | .rt v => Q (.rt v) S2
      | .xc x Γ2 => Q (.xc x Γ2) S2 else Q (.nx Γ) S1) : ∀ (m n : Nat) (Γ : Ev) (S : Store), n < m → I n Γ S → (whF t b m Γ S).Ret Q
  | 0, n, Γ, S, h, _ => (Nat.not_lt_zero _ h).elim
  | m + 1, n, Γ, S, h, i => by
    unfold whF
    obtain ⟨k, S1, e1, h1⟩ := (hstep n Γ S i).ok
    rw [e1]
    cases k with
    | false => exact .of rfl h1
    | true =>
      obtain ⟨hn, h2⟩ := h1
      obtain ⟨fl, S2, e2, h3⟩ := h2.ok
      simp only [sB_ok, if_true, e2]
      cases fl with
      | nx Γ2 => exact whF_ret I Q hstep m (n - 1) Γ2 S2 (by omega) h3
      | ct Γ2 => exact whF_ret I Q hstep m (n - 1) Γ2 S2 (by omega) h3
      | bk Γ2 => exact .of rfl h3
      | rt v => exact .of rfl h3
      | xc x Γ2 => exact .of rfl h3
/-! the pool: cell 0 with four items -/
theorem pix0 (a b c d : PyData) (R : Store) : ixS (.cell 0) (.d (.int 0)) (.lst [a, b, c, d] :: R) = .ok (.d a) (.lst [a, b, c, d] :: R) := rfl
theorem pix1 (a b c d : PyData) (R : Store) : ixS (.cell 0) (.d (.int 1)) (.lst [a, b, c, d] :: R) = .ok (.d b) (.lst [a, b, c, d] :: R) := rfl
theorem pix2 (a b c d : PyData) (R : Store) : ixS (.cell 0) (.d (.int 2)) (.lst [a, b, c, d] :: R) = .ok (.d c) (.lst [a, b, c, d] :: R) := rfl
theorem pix3 (a b c d : PyData) (R : Store) : ixS (.cell 0) (.d (.int 3)) (.lst [a, b, c, d] :: R) = .ok (.d d) (.lst [a, b, c, d] :: R) := rfl
theorem pset1 (a b c d x : PyData) (R : Store) : setS (.cell 0) (.d (.int 1)) (.d x) (.lst [a, b, c, d] :: R) = .ok () (.lst [a, x, c, d] :: R) := rfl
theorem pset2 (a b c d x : PyData) (R : Store) : setS (.cell 0) (.d (.int 2)) (.d x) (.lst [a, b, c, d] :: R) = .ok () (.lst [a, b, x, d] :: R) := rfl
theorem pset3 (a b c d x : PyData) (R : Store) : setS (.cell 0) (.d (.int 3)) (.d x) (.lst [a, b, c, d] :: R) = .ok () (.lst [a, b, c, x] :: R) := rfl
theorem gSub_eq (fo fi : EF) (v : SV) (Γ : Ev) (S : Store) : gSubF fo fi v Γ S = (fo Γ S).bind fun o S => (fi Γ S).bind fun w S => (setS o w v S).bind fun _ S => .ok Γ S := rfl
/-- the digits' pool -/
def PoolOk (m : MO) : Prop := ∃ (cells : List Int) (at_ rest seed : Int), m = .lst [.list (cells.map .int), .int at_, .int rest, .int seed] ∧ 0 ≤ at_
theorem tk1 {α : Type} (P : α) (R : List α) : (P :: R).take (R.length + 1) = P :: R := by rw [List.take_succ_cons, List.take_length]
end DL
/-! E1: comprehensions over lists of whole numbers. -/
namespace DL
open PySem L2
/-- a list of whole numbers -/
abbrev lst (xs : List Int) : PyData := .list (xs.map .int)
theorem zip_comp {Γ : Ev} {S : Store} {fa fb ef : EF} {gf : GF} {vs : List Nat} {row lead : List Int} (f : Int → Int → Int) (ha : fa Γ S = .ok (.d (lst row)) S) (hb : fb Γ S = .ok (.d (lst lead)) S)
    (h : ∀ p m : Int, p ∈ row → m ∈ lead → ∃ Γ1, gf (.d (.tuple [.int p, .int m])) (wipeE Γ vs) S = .ok Γ1 S ∧ ef Γ1 S = .ok (.d (.int (f p m))) S) : eLc finF (iZip fa fb) gf tYesF ef vs Γ S = .ok (.d (lst (List.zipWith f row lead))) S := by
  let hh : PyData → PyData := fun d => match d with
    | .tuple [.int p, .int m] => .int (f p m)
    | _ => .none
  have e0 : iZip fa fb Γ S = .ok ⟨pairD (row.map .int) (lead.map .int), fun _ => true⟩ S := by
    rw [iZip_eq, ha, bind_ok, hb, bind_ok, zip_l]
  rw [eLc_eq e0, lcL_map hh rfl]
  · rw [bind_ok, finF_eq]
    have : ∀ row lead : List Int, (pairD (row.map PyData.int) (lead.map PyData.int)).map hh = (List.zipWith f row lead).map PyData.int := by
      intro row
      induction row with
      | nil => intro lead; rfl
      | cons p row ih =>
        intro lead
        cases lead with
        | nil => rfl
        | cons m lead =>
          have := ih lead
          simp only [pairD, List.map_cons, List.zip_cons_cons, List.zipWith_cons_cons] at this ⊢
          rw [this]
    rw [this]
  · intro d m
    unfold pairD at m
    obtain ⟨⟨x, y⟩, mz, rfl⟩ := List.mem_map.mp m
    have := List.of_mem_zip mz
    obtain ⟨p, mp, rfl⟩ := List.mem_map.mp this.1
    obtain ⟨q, mq, rfl⟩ := List.mem_map.mp this.2
    exact h p q mp mq
theorem src_comp {Γ : Ev} {S : Store} {fa ef : EF} {gf : GF} {vs : List Nat} {row : List Int} (f : Int → Int) (ha : fa Γ S = .ok (.d (lst row)) S)
    (h : ∀ p : Int, p ∈ row → ∃ Γ1, gf (.d (.int p)) (wipeE Γ vs) S = .ok Γ1 S ∧ ef Γ1 S = .ok (.d (.int (f p))) S) : eLc finF (iSrc fa) gf tYesF ef vs Γ S = .ok (.d (lst (row.map f))) S := by
  let hh : PyData → PyData := fun d => match d with
    | .int p => .int (f p)
    | _ => .none
  have e0 : iSrc fa Γ S = .ok ⟨row.map .int, fun _ => true⟩ S := by
    rw [iSrc_eq, ha, bind_ok, srcS_l]
  rw [eLc_eq e0, lcL_map hh rfl]
  · rw [bind_ok, finF_eq, List.map_map]
    show _ = Out.ok (SV.d (.list ((row.map f).map PyData.int))) S
    rw [List.map_map]
    rfl
  · intro d m
    obtain ⟨p, mp, rfl⟩ := List.mem_map.mp m
    exact h p mp
theorem rg_comp {Γ : Ev} {S : Store} {fa ef : EF} {gf : GF} {vs : List Nat} {n : Nat} (f : Nat → Int) (ha : fa Γ S = .ok (.d (.int n)) S) (hn : n ≤ 1000000)
    (h : ∀ k : Nat, k < n → ∃ Γ1, gf (.d (.int k)) (wipeE Γ vs) S = .ok Γ1 S ∧ ef Γ1 S = .ok (.d (.int (f k))) S) : eLc finF (iRg (rg1 fa)) gf tYesF ef vs Γ S = .ok (.d (lst ((List.range n).map f))) S := by
  let hh : PyData → PyData := fun d => match d with
    | .int p => .int (f p.toNat)
    | _ => .none
  rw [eLc_eq (iRg_ok ha hn), lcL_map hh rfl]
  · rw [bind_ok, finF_eq, rgD_nat, List.map_map]
    show _ = Out.ok (SV.d (.list (((List.range n).map f).map PyData.int))) S
    rw [List.map_map]
    rfl
  · intro d m
    simp only [rgD_nat] at m
    obtain ⟨k, mk, rfl⟩ := List.mem_map.mp m
    exact h k (List.mem_range.mp mk)
theorem getD_zipWith (f : Int → Int → Int) (h0 : f 0 0 = 0) : ∀ (row lead : List Int), row.length = lead.length → ∀ i, (List.zipWith f row lead).getD i 0 = f (row.getD i 0) (lead.getD i 0)
  | [], [], _, i => by simp [h0]
  | x :: row, y :: lead, h, 0 => by simp
  | x :: row, y :: lead, h, i + 1 => by
    have := getD_zipWith f h0 row lead (by simpa using h) i
    simpa using this
theorem getD_map (f : Int → Int) (h0 : f 0 = 0) (row : List Int) (i : Nat) : (row.map f).getD i 0 = f (row.getD i 0) := by
  rcases Nat.lt_or_ge i row.length with h | h
  · simp [List.getD, h]
  · simp [List.getD, h, h0]
theorem eqPs_refl : ∀ {xs : List PyData}, (∀ x ∈ xs, eqP x x = true) → eqPs xs xs = true
  | [], _ => by simp [eqPs]
  | x :: xs, h => by
    simp only [eqPs, Bool.and_eq_true]
    exact ⟨h x (List.mem_cons_self ..), eqPs_refl fun y m => h y (List.mem_cons_of_mem _ m)⟩
theorem eqP_int (i : Int) : eqP (.int i) (.int i) = true := by simp [eqP]
theorem eqP_list {xs : List PyData} (h : ∀ x ∈ xs, eqP x x = true) : eqP (.list xs) (.list xs) = true := by
  simp only [eqP]
  exact eqPs_refl h
theorem eqP_tuple {xs : List PyData} (h : ∀ x ∈ xs, eqP x x = true) : eqP (.tuple xs) (.tuple xs) = true := by
  simp only [eqP]
  exact eqPs_refl h
theorem eqP_lst (xs : List Int) : eqP (lst xs) (lst xs) = true := eqP_list fun x m => by
  obtain ⟨i, _, rfl⟩ := List.mem_map.mp m
  exact eqP_int i
theorem srcS_c {c : Nat} {S : Store} {xs : List PyData} (h : S[c]? = some (.lst xs)) : ∃ ok, srcS (.cell c) S = .ok ⟨xs, ok⟩ S ∧ ∀ S' : Store, S'[c]? = some (.lst xs) → eqPs xs xs = true → ok S' = true := by
  refine ⟨_, by simp only [srcS, h]; exact rfl, fun S' h1 h2 => ?_⟩
  simp only [h1, h2]
end DL
/-! E2: comprehensions over rows of whole numbers. -/
namespace DL
open PySem L2
/-- two lists, each item of each with a partner -/
def Both {α β : Type} (R : α → β → Prop) (xs : List α) (ys : List β) : Prop := xs.length = ys.length ∧ (∀ x ∈ xs, ∃ y ∈ ys, R x y) ∧ ∀ y ∈ ys, ∃ x ∈ xs, R x y
theorem rows_map {ok : Store → Bool} {gf : GF} {ef : EF} {vs : List Nat} {Γ : Ev} {S : Store} (R : List Int → List Int → Prop) (hok : ok S = true) : ∀ (xs : List (List Int)),
    (∀ row ∈ xs, ∃ Γ1, gf (.d (lst row)) (wipeE Γ vs) S = .ok Γ1 S ∧ ∃ r2, ef Γ1 S = .ok (.d (lst r2)) S ∧ R row r2) → ∃ ys : List (List Int), lcL ok gf tYesF ef vs Γ (xs.map lst) S = .ok (ys.map lst) S ∧ Both R xs ys
  | [], _ => by
    refine ⟨[], ?_, rfl, fun x m => (List.not_mem_nil m).elim, fun x m => (List.not_mem_nil m).elim⟩
    show lcL ok gf tYesF ef vs Γ [] S = _
    unfold lcL
    rw [if_pos hok]
    rfl
  | x :: xs, k => by
    obtain ⟨Γ1, h1, r2, h2, h3⟩ := k x (List.mem_cons_self ..)
    obtain ⟨ys, e, hl, ha, hb⟩ := rows_map R hok xs fun r m => k r (List.mem_cons_of_mem _ m)
    refine ⟨r2 :: ys, ?_, by simp [hl], fun r m => ?_, fun r m => ?_⟩
    · show lcL ok gf tYesF ef vs Γ (lst x :: xs.map lst) S = _
      unfold lcL
      rw [if_pos hok]
      simp only [h1, h2, tYes_eq, e, bind_ok]
      rfl
    · rcases List.mem_cons.mp m with rfl | m
      · exact ⟨r2, List.mem_cons_self .., h3⟩
      · obtain ⟨y, my, hy⟩ := ha r m
        exact ⟨y, List.mem_cons_of_mem _ my, hy⟩
    · rcases List.mem_cons.mp m with rfl | m
      · exact ⟨x, List.mem_cons_self .., h3⟩
      · obtain ⟨y, my, hy⟩ := hb r m
        exact ⟨y, List.mem_cons_of_mem _ my, hy⟩
/-- any(row) -/
def nzr (xs : List Int) : Bool := xs.any fun x => x != 0
theorem sca_lst (xs : List Int) : (xs.map PyData.int).all scaD = true := List.all_eq_true.mpr fun x m => by
  obtain ⟨i, _, rfl⟩ := List.mem_map.mp m
  rfl
theorem any_lst (xs : List Int) : (xs.map PyData.int).any trB = nzr xs := by
  rw [List.any_map]
  rfl
theorem rows_filter {ok : Store → Bool} {gf : GF} {tf : TF} {ef : EF} {vs : List Nat} {Γ : Ev} {S : Store} (hok : ok S = true) (xs : List (List Int))
    (k : ∀ row ∈ xs, ∃ Γ1, gf (.d (lst row)) (wipeE Γ vs) S = .ok Γ1 S ∧ tf Γ1 S = .ok (nzr row) S ∧ ef Γ1 S = .ok (.d (lst row)) S) : lcL ok gf tf ef vs Γ (xs.map lst) S = .ok ((xs.filter nzr).map lst) S := by
  let c : PyData → Bool := fun d => match d with
    | .list ds => ds.any trB
    | _ => false
  rw [lcL_pure c id hok]
  · rw [List.map_id, List.filter_map]
    congr 2
    refine congrArg (fun p => List.filter p xs) ?_
    funext row
    exact any_lst row
  · intro d m
    obtain ⟨row, mr, rfl⟩ := List.mem_map.mp m
    obtain ⟨Γ1, h1, h2, h3⟩ := k row mr
    refine ⟨Γ1, h1, ?_, fun _ => h3⟩
    rw [h2]
    congr 1
    exact (any_lst row).symm
/-- the first place that is not 0 -/
theorem first_ok {c : PyData → Bool} {row : List Int} {n : Nat} (hn : row.length = n) (hc : ∀ k : Nat, c (.int k) = decide (row.getD k 0 ≠ 0)) (hz : nzr row = true) : ∃ (t : Nat) (rest : List PyData), (rgD 0 (n : Int)).filter c = .int t :: rest ∧ t < n ∧ row.getD t 0 ≠ 0 := by
  obtain ⟨x, mx, hx⟩ := List.any_eq_true.mp hz
  obtain ⟨i, hi, rfl⟩ := List.getElem_of_mem mx
  have e : row.getD i 0 = row[i] := by simp [List.getD, hi]
  have hx' : row[i] ≠ 0 := bne_iff_ne.mp hx
  have m1 : PyData.int (i : Int) ∈ (rgD 0 (n : Int)).filter c := by
    refine List.mem_filter.mpr ⟨?_, ?_⟩
    · rw [rgD_nat]
      exact List.mem_map.mpr ⟨i, List.mem_range.mpr (by omega), rfl⟩
    · rw [hc, e]
      exact decide_eq_true hx'
  cases hl : (rgD 0 (n : Int)).filter c with
  | nil => rw [hl] at m1; cases m1
  | cons d rest =>
    have md : d ∈ (rgD 0 (n : Int)).filter c := by rw [hl]; exact List.mem_cons_self ..
    obtain ⟨mr, hd⟩ := List.mem_filter.mp md
    rw [rgD_nat] at mr
    obtain ⟨t, mt, rfl⟩ := List.mem_map.mp mr
    rw [hc] at hd
    exact ⟨t, rest, rfl, List.mem_range.mp mt, of_decide_eq_true hd⟩
theorem sl_l (fin : List PyData → Store → Out SV) (xs : List PyData) (lo hi : Option Int) (S : Store) : slS fin (.d (.list xs)) lo hi S = fin (cutD xs lo hi) S := rfl
theorem eSl_eq (fin : List PyData → Store → Out SV) (fa : EF) (fl fh : OF) (Γ : Ev) (S : Store) : eSl fin fa fl fh Γ S = (fa Γ S).bind fun v S => (fl Γ S).bind fun lo S => (fh Γ S).bind fun hi S => slS fin v lo hi S := rfl
theorem oNone_eq (Γ : Ev) (S : Store) : oNone Γ S = .ok none S := rfl
theorem oSome_eq (f : EF) (Γ : Ev) (S : Store) : oSome f Γ S = (f Γ S).bind fun v S => match v with
  | .d (.int i) => .ok (some i) S
  | _ => .no := rfl
theorem cut_tail (x : PyData) (xs : List PyData) : cutD (x :: xs) (some 1) none = xs := by
  have e1 : HT.sIx (x :: xs).length 0 (some ((1 : Nat) : Int)) = 1 := by
    rw [HT.sIx_nat, List.length_cons]
    omega
  have e2 : HT.sIx (x :: xs).length (x :: xs).length none = xs.length + 1 := rfl
  show (List.drop (HT.sIx (x :: xs).length 0 (some ((1 : Nat) : Int))) (x :: xs)).take (HT.sIx (x :: xs).length (x :: xs).length none - HT.sIx (x :: xs).length 0 (some ((1 : Nat) : Int))) = xs
  rw [e1, e2, List.drop_succ_cons, List.drop_zero, Nat.add_sub_cancel, List.take_length]
end DL
namespace G29
open PySem L2 DL

def top (i : Nat) : Stmt := PySem.Challenge.pw_matroidproved_k29_whole_turns.main.body.getD i (.Pass ⟨0, 0, 0, 0⟩)
def k_MOST_EDGES : PyData := (.int 60)
def k_MOST_PLACES : PyData := (.int 200)
def ok_BadGraph : Str → Option Bool := okL [("BadGraph", true), ("BadTurn", false)]
def ok_BadTurn : Str → Option Bool := okL [("BadGraph", false), ("BadTurn", true)]
def ok_MatroidError : Str → Option Bool := okL [("BadGraph", true), ("BadTurn", true)]
def okf_number : Str → Option Bool := okL [("BadGraph", true)]
abbrev i_BadGraph : Stmt := (clsBody (top 5)).getD 0 (.Pass ⟨0, 0, 0, 0⟩)
abbrev s_is_number : Stmt := top 6
def N_is_number : List Str := ["value"]
def b_is_number : SF :=
  (fRet (eAndF (eIsi "int" (eVar 0)) (eNotF (eIsi "bool" (eVar 0)))))
def F_is_number : FD := runD handF 1 b_is_number
abbrev s_is_row : Stmt := top 7
def N_is_row : List Str := ["value"]
def b_is_row : SF :=
  (fRet (eIsi2 "tuple" "list" (eVar 0)))
def F_is_row : FD := runD handF 1 b_is_row
abbrev s_places_of : Stmt := top 10
def I_places_of_1 : IF :=
  (iSrc (eIx (eVar 0) (eVar 2)))
def E_places_of_1 : EF :=
  (eVar 3)
def C_places_of_1 : EF :=
  (eSrtSc2 finF (iSrc (eVar 1)) (gNm 2) tYesF I_places_of_1 (gNm 3) tYesF E_places_of_1 [2, 3] [3])
def N_places_of : List Str := ["edges", "some", "number", "place"]
def b_places_of : SF :=
  (fRet C_places_of_1)
def F_places_of : FD := runD handF 4 b_places_of
abbrev s_renamed : Stmt := top 13
def B_renamed_1 : SF :=
  (fExpr (eMeth appendS (eVar 3) (aCons (eIf (tst (eBin (inS false) (eVar 4) (eVar 1))) (eTup (aCons (eGet2 (eVar 2) (eVar 5) (eVar 5)) (aCons (eGet2 (eVar 2) (eVar 6) (eVar 6)) aNil))) (eTup (aCons (eVar 5) (aCons (eVar 6) aNil)))) aNil)))
def L_renamed_1 : SF :=
  (fFor (iEnmT (eVar 0)) (gTupF 2 (gsCons (gNm 4) (gsCons (gTupF 2 (gsCons (gNm 5) (gsCons (gNm 6) gsNil))) gsNil))) B_renamed_1)
def N_renamed : List Str := ["edges", "some", "names", "found", "number", "one", "other"]
def b_renamed : SF :=
  (fSeq (fSet 3 (eLst finC aNil))
  (fSeq L_renamed_1
  (fRet (eCall tupS (aCons (eVar 3) aNil)))))
def F_renamed : FD := runD handF 7 b_renamed
abbrev s__law_pool : Stmt := top 19
def E__law_pool_1 : EF :=
  (eIf (tst (eBin (iCmp fun i j => decide (j ≤ i)) (eVar 1) (eC (.int 0)))) (eMulF finF (eC (.int 2)) (eVar 1)) (eSub (eMulF finF (eNeg (eC (.int 2))) (eVar 1)) (eC (.int 1))))
def C__law_pool_1 : EF :=
  (eLc finF (iSrc (eVar 0)) (gNm 1) tYesF E__law_pool_1 [1])
def N__law_pool : List Str := ["script", "cell"]
def b__law_pool : SF :=
  (fRet (eLst finC (aCons C__law_pool_1 (aCons (eC (.int 0)) (aCons (eC (.int 0)) (aCons (eC (.int 17)) aNil))))))
def F__law_pool : FD := runD handC 2 b__law_pool
abbrev s__law_is_integer : Stmt := top 22
def N__law_is_integer : List Str := ["actual"]
def b__law_is_integer : SF :=
  (fRet (eAndF (eIsi "int" (eVar 0)) (eNotF (eIsi "bool" (eVar 0)))))
def F__law_is_integer : FD := runD handF 1 b__law_is_integer
abbrev s__law_all_sets : Stmt := top 27
def E__law_all_sets_1 : EF :=
  (eAddF finF (eVar 3) (eTup (aCons (eVar 2) aNil)))
def C__law_all_sets_1 : EF :=
  (eLc finF (iSrc (eVar 1)) (gNm 3) tYesF E__law_all_sets_1 [3])
def B__law_all_sets_1 : SF :=
  (fSet 1 (eAddF finF (eVar 1) C__law_all_sets_1))
def L__law_all_sets_1 : SF :=
  (fFor (iRg (rg1 (eVar 0))) (gNm 2) B__law_all_sets_1)
def N__law_all_sets : List Str := ["n", "found", "e", "row"]
def b__law_all_sets : SF :=
  (fSeq (fSet 1 (eLst finF (aCons (eTup aNil) aNil)))
  (fSeq L__law_all_sets_1
  (fRet (eVar 1))))
def F__law_all_sets : FD := runD handF 4 b__law_all_sets
abbrev s__law_forest : Stmt := top 31
def B__law_forest_1 : SF :=
  (fIf (tst (eBin (eqS false) (eGet2 (eVar 1) (eVar 7) (eVar 7)) (eVar 6))) (fDput (eVar 1) (eVar 7) (eVar 5)) fNil)
def L__law_forest_1 : SF :=
  (fFor (iSrc (eAddF finF (eCall (dkeysS finF) (aCons (eVar 1) aNil)) (eLst finF (aCons (eVar 3) (aCons (eVar 4) aNil))))) (gNm 7) B__law_forest_1)
def B__law_forest_2 : SF :=
  (fSeq (fPar 5 6 (aCons (eGet2 (eVar 1) (eVar 3) (eVar 3)) (aCons (eGet2 (eVar 1) (eVar 4) (eVar 4)) aNil)))
  (fIf (tst (eBin (eqS true) (eVar 5) (eVar 6))) (fSeq (fSet 2 (eAddF finF (eVar 2) (eC (.int 1))))
  (fSeq L__law_forest_1
  (fDput (eVar 1) (eVar 5) (eVar 5)))) fNil))
def L__law_forest_2 : SF :=
  (fFor (iSrc (eVar 0)) (gTupF 2 (gsCons (gNm 3) (gsCons (gNm 4) gsNil))) B__law_forest_2)
def N__law_forest : List Str := ["edges", "piece", "found", "one", "other", "first", "second", "place"]
def b__law_forest : SF :=
  (fSeq (fPar 1 2 (aCons eDctC (aCons (eC (.int 0)) aNil)))
  (fSeq L__law_forest_2
  (fRet (eVar 2))))
def F__law_forest : FD := runD handF 8 b__law_forest
abbrev s__law_others : Stmt := top 37
def E__law_others_1 : EF :=
  (eVar 2)
def T__law_others_1 : TF :=
  (tst (eBin (inS true) (eVar 2) (eVar 1)))
def C__law_others_1 : EF :=
  (eLc finF (iRg (rg1 (eVar 0))) (gNm 2) T__law_others_1 E__law_others_1 [2])
def N__law_others : List Str := ["n", "some", "e"]
def b__law_others : SF :=
  (fRet (eCall tupS (aCons C__law_others_1 aNil)))
def F__law_others : FD := runD handF 3 b__law_others
abbrev s__law_spots : Stmt := top 38
def E__law_spots_1 : EF :=
  (eIx (eIx (eVar 0) (eVar 2)) (eC (.int 0)))
def C__law_spots_1 : EF :=
  (eLc finF (iSrc (eVar 1)) (gNm 2) tYesF E__law_spots_1 [2])
def E__law_spots_2 : EF :=
  (eIx (eIx (eVar 0) (eVar 2)) (eC (.int 1)))
def C__law_spots_2 : EF :=
  (eLc finF (iSrc (eVar 1)) (gNm 2) tYesF E__law_spots_2 [2])
def N__law_spots : List Str := ["edges", "some", "e"]
def b__law_spots : SF :=
  (fRet (eSrtSet finF (eAddF finF C__law_spots_1 C__law_spots_2)))
def F__law_spots : FD := runD handF 3 b__law_spots
abbrev s__law_turned : Stmt := top 40
def B__law_turned_1 : SF :=
  (fSeq (fAsg (eIx (eVar 0) (eVar 7)) (gTupF 2 (gsCons (gNm 8) (gsCons (gNm 9) gsNil))))
  (fExpr (eMeth appendS (eVar 6) (aCons (eIf (tst (eBin (inS false) (eVar 7) (eVar 2))) (eTup (aCons (eGet2 (eVar 5) (eVar 8) (eVar 8)) (aCons (eGet2 (eVar 5) (eVar 9) (eVar 9)) aNil))) (eTup (aCons (eVar 8) (aCons (eVar 9) aNil)))) aNil))))
def L__law_turned_1 : SF :=
  (fFor (iRg (rg1 (eCall lenS (aCons (eVar 0) aNil)))) (gNm 7) B__law_turned_1)
def N__law_turned : List Str := ["edges", "word", "some", "u", "v", "names", "found", "e", "one", "other"]
def b__law_turned : SF :=
  (fSeq (fSet 5 (eIf (tst (eBin (eqS false) (eVar 1) (eC (.str "twist")))) (eDisp [((eVar 3), (eVar 4)), ((eVar 4), (eVar 3))]) (eDisp [((eVar 3), (eVar 4))])))
  (fSeq (fSet 6 (eLst finC aNil))
  (fSeq L__law_turned_1
  (fRet (eCall tupS (aCons (eVar 6) aNil))))))
def F__law_turned : FD := runD handF 10 b__law_turned
abbrev s_is_place : Stmt := top 8
def N_is_place : List Str := ["value"]
def b_is_place : SF :=
  (fRet (eAndF (eCallD 1 F_is_number (aCons (eVar 0) aNil)) (eChain (iCmp fun i j => decide (i ≤ j)) (iCmp fun i j => decide (i < j)) (eC (.int 0)) (eVar 0) (eC k_MOST_PLACES))))
def F_is_place : FD := runD handF 1 b_is_place
abbrev s_is_set : Stmt := top 14
def E_is_set_1 : EF :=
  (eAndF (eCallD 1 F_is_number (aCons (eVar 2) aNil)) (eChain (iCmp fun i j => decide (i ≤ j)) (iCmp fun i j => decide (i < j)) (eC (.int 0)) (eVar 2) (eCall lenS (aCons (eVar 0) aNil))))
def C_is_set_1 : EF :=
  (eLc finF (iSrc (eVar 1)) (gNm 2) tYesF E_is_set_1 [2])
def N_is_set : List Str := ["edges", "some", "number"]
def b_is_set : SF :=
  (fSeq (fIf (tOrF (tNotF (tru (eCallD 1 F_is_row (aCons (eVar 1) aNil)))) (tOrF (tNotF (tru (eVar 1))) (tNotF (tru (eCall (allS false) (aCons C_is_set_1 aNil)))))) (fRet (eC (.bool false))) fNil)
  (fRet (eBin (eqS false) (eLenSet (eVar 1)) (eCall lenS (aCons (eVar 1) aNil)))))
def F_is_set : FD := runD handF 3 b_is_set
abbrev s_made : Stmt := top 16
def N_made : List Str := ["edges", "turn", "word", "some", "u", "v"]
def b_made : SF :=
  (fSeq (fAsg (eVar 1) (gSeqF 4 (gsCons (gNm 2) (gsCons (gNm 3) (gsCons (gNm 4) (gsCons (gNm 5) gsNil))))))
  (fRet (eCallD 3 F_renamed (aCons (eVar 0) (aCons (eVar 3) (aCons (eIf (tst (eBin (eqS false) (eVar 2) (eC (.str "hang")))) (eDisp [((eVar 4), (eVar 5))]) (eDisp [((eVar 4), (eVar 5)), ((eVar 5), (eVar 4))])) aNil))))))
def F_made : FD := runD handF 6 b_made
abbrev s__law_ranks : Stmt := top 34
def E__law_ranks_1 : EF :=
  (eIx (eIx (eVar 0) (eC (.int 2))) (eVar 3))
def C__law_ranks_1 : EF :=
  (eLc finF (iSrc (eVar 1)) (gNm 3) tYesF E__law_ranks_1 [3])
def E__law_ranks_2 : EF :=
  (eCallD 1 F__law_forest (aCons C__law_ranks_1 aNil))
def C__law_ranks_2 : EF :=
  (eLc finF (iSrc (eCallD 1 F__law_all_sets (aCons (eVar 5) aNil))) (gNm 1) tYesF E__law_ranks_2 [1])
def N__law_ranks : List Str := ["making", "some", "sets", "e", "row", "n", "ranks", "rank", "m", "others", "code"]
def b__law_ranks : SF :=
  (fSeq (fIf (tst (eBin (eqS false) (eIx (eVar 0) (eC (.int 0))) (eC (.str "uniform")))) fNo fNil)
  (fSeq (fIf (tst (eBin (eqS false) (eIx (eVar 0) (eC (.int 0))) (eC (.str "bases")))) (fSeq (fSet 2 (eCallD 1 F__law_all_sets (aCons (eIx (eVar 0) (eC (.int 1))) aNil)))
  fNo) fNil)
  (fSeq (fIf (tst (eBin (eqS false) (eIx (eVar 0) (eC (.int 0))) (eC (.str "vectors")))) (fSeq (fSet 5 (eCall lenS (aCons (eIx (eVar 0) (eC (.int 2))) aNil)))
  fNo) fNil)
  (fSeq (fIf (tst (eBin (eqS false) (eIx (eVar 0) (eC (.int 0))) (eC (.str "graph")))) (fSeq (fSet 5 (eCall lenS (aCons (eIx (eVar 0) (eC (.int 2))) aNil)))
  (fRet (eTup (aCons (eVar 5) (aCons C__law_ranks_2 aNil))))) fNil)
  (fSeq fNo
  (fSeq fNo
  (fSeq fNo
  (fSeq fNo
  (fSeq fNo
  (fSeq fNo
  (fSeq fNo
  fNo)))))))))))
def F__law_ranks : FD := runD handF 11 b__law_ranks
abbrev s__law_is_turn : Stmt := top 39
def E__law_is_turn_1 : EF :=
  (eVar 8)
def T__law_is_turn_1 : TF :=
  (tst (eBin (inS false) (eVar 8) (eVar 6)))
def C__law_is_turn_1 : EF :=
  (eLc finF (iSrc (eVar 5)) (gNm 8) T__law_is_turn_1 E__law_is_turn_1 [8])
def E__law_is_turn_2 : EF :=
  (eBin (inS false) (eVar 8) (eTup (aCons (eVar 3) (aCons (eVar 4) aNil))))
def C__law_is_turn_2 : EF :=
  (eLc finF (iSrc (eVar 7)) (gNm 8) tYesF E__law_is_turn_2 [8])
def E__law_is_turn_3 : EF :=
  (eBin (eqS false) (eVar 8) (eVar 3))
def C__law_is_turn_3 : EF :=
  (eLc finF (iSrc (eVar 7)) (gNm 8) tYesF E__law_is_turn_3 [8])
def N__law_is_turn : List Str := ["edges", "word", "some", "u", "v", "own", "others", "both", "place"]
def b__law_is_turn : SF :=
  (fSeq (fAsg (eTup (aCons (eCallD 2 F__law_spots (aCons (eVar 0) (aCons (eVar 2) aNil))) (aCons (eCallD 2 F__law_spots (aCons (eVar 0) (aCons (eCallD 2 F__law_others (aCons (eCall lenS (aCons (eVar 0) aNil)) (aCons (eVar 2) aNil))) aNil))) aNil))) (gTupF 2 (gsCons (gNm 5) (gsCons (gNm 6) gsNil))))
  (fSeq (fSet 7 C__law_is_turn_1)
  (fSeq (fIf (tOrF (tNotF (tru (eVar 2))) (tst (eBin (eqS false) (eVar 3) (eVar 4)))) (fRet (eC (.bool false))) fNil)
  (fSeq (fIf (tst (eBin (eqS false) (eVar 1) (eC (.str "twist")))) (fRet (eCall (allS false) (aCons C__law_is_turn_2 aNil))) fNil)
  (fRet (eAndF (eBin (inS false) (eVar 3) (eVar 5)) (eAndF (eBin (inS true) (eVar 4) (eVar 5)) (eCall (allS false) (aCons C__law_is_turn_3 aNil)))))))))
def F__law_is_turn : FD := runD handF 9 b__law_is_turn
abbrev s_told_graph : Stmt := top 9
def E_told_graph_1 : EF :=
  (eCallD 1 F_is_place (aCons (eVar 3) aNil))
def C_told_graph_1 : EF :=
  (eLc finF (iSrc (eVar 2)) (gNm 3) tYesF E_told_graph_1 [3])
def B_told_graph_1 : SF :=
  (fIf (tOrF (tNotF (tru (eCallD 1 F_is_row (aCons (eVar 2) aNil)))) (tOrF (tst (eBin (eqS true) (eCall lenS (aCons (eVar 2) aNil)) (eC (.int 2)))) (tNotF (tru (eCall (allS false) (aCons C_told_graph_1 aNil)))))) (fRaiseF "BadGraph" "number" (eVar 1)) fNil)
def L_told_graph_1 : SF :=
  (fFor (iEnmT (eVar 0)) (gTupF 2 (gsCons (gNm 1) (gsCons (gNm 2) gsNil))) B_told_graph_1)
def E_told_graph_2 : EF :=
  (eCall tupS (aCons (eVar 2) aNil))
def C_told_graph_2 : EF :=
  (eLc finF (iSrc (eVar 0)) (gNm 2) tYesF E_told_graph_2 [2])
def N_told_graph : List Str := ["edges", "number", "pair", "place"]
def b_told_graph : SF :=
  (fSeq (fIf (tOrF (tNotF (tru (eCallD 1 F_is_row (aCons (eVar 0) aNil)))) (tst (eBin (iCmp fun i j => decide (j < i)) (eCall lenS (aCons (eVar 0) aNil)) (eC k_MOST_EDGES)))) (fRaiseF "BadGraph" "number" (eC .none)) fNil)
  (fSeq L_told_graph_1
  (fRet (eCall tupS (aCons C_told_graph_2 aNil)))))
def F_told_graph : FD := runD handF 4 b_told_graph
abbrev s_is_turn : Stmt := top 15
def E_is_turn_1 : EF :=
  (eVar 8)
def T_is_turn_1 : TF :=
  (tst (eBin (inS true) (eVar 8) (eVar 3)))
def C_is_turn_1 : EF :=
  (eLc finF (iRg (rg1 (eCall lenS (aCons (eVar 0) aNil)))) (gNm 8) T_is_turn_1 E_is_turn_1 [8])
def E_is_turn_2 : EF :=
  (eVar 10)
def T_is_turn_2 : TF :=
  (tst (eBin (inS false) (eVar 10) (eVar 7)))
def C_is_turn_2 : EF :=
  (eLc finF (iSrc (eVar 6)) (gNm 10) T_is_turn_2 E_is_turn_2 [10])
def E_is_turn_3 : EF :=
  (eBin (inS false) (eVar 10) (eTup (aCons (eVar 4) (aCons (eVar 5) aNil))))
def C_is_turn_3 : EF :=
  (eLc finF (iSrc (eVar 9)) (gNm 10) tYesF E_is_turn_3 [10])
def E_is_turn_4 : EF :=
  (eBin (eqS false) (eVar 10) (eVar 4))
def C_is_turn_4 : EF :=
  (eLc finF (iSrc (eVar 9)) (gNm 10) tYesF E_is_turn_4 [10])
def N_is_turn : List Str := ["edges", "turn", "word", "some", "u", "v", "own", "others", "number", "both", "place"]
def b_is_turn : SF :=
  (fSeq (fIf (tOrF (tNotF (tru (eCallD 1 F_is_row (aCons (eVar 1) aNil)))) (tOrF (tst (eBin (eqS true) (eCall lenS (aCons (eVar 1) aNil)) (eC (.int 4)))) (tOrF (tNotF (tru (eIsi "str" (eIx (eVar 1) (eC (.int 0)))))) (tst (eBin (inS true) (eIx (eVar 1) (eC (.int 0))) (eTup (aCons (eC (.str "hang")) (aCons (eC (.str "twist")) aNil)))))))) (fRet (eC (.bool false))) fNil)
  (fSeq (fAsg (eVar 1) (gSeqF 4 (gsCons (gNm 2) (gsCons (gNm 3) (gsCons (gNm 4) (gsCons (gNm 5) gsNil))))))
  (fSeq (fIf (tOrF (tNotF (tru (eCallD 2 F_is_set (aCons (eVar 0) (aCons (eVar 3) aNil))))) (tOrF (tNotF (tru (eCallD 1 F_is_place (aCons (eVar 4) aNil)))) (tOrF (tNotF (tru (eCallD 1 F_is_place (aCons (eVar 5) aNil)))) (tst (eBin (eqS false) (eVar 4) (eVar 5)))))) (fRet (eC (.bool false))) fNil)
  (fSeq (fSet 6 (eCallD 2 F_places_of (aCons (eVar 0) (aCons (eVar 3) aNil))))
  (fSeq (fSet 7 (eCallD 2 F_places_of (aCons (eVar 0) (aCons C_is_turn_1 aNil))))
  (fSeq (fSet 9 C_is_turn_2)
  (fSeq (fIf (tst (eBin (eqS false) (eVar 2) (eC (.str "twist")))) (fRet (eCall (allS false) (aCons C_is_turn_3 aNil))) fNil)
  (fRet (eAndF (eBin (inS false) (eVar 4) (eVar 6)) (eAndF (eBin (inS true) (eVar 5) (eVar 6)) (eCall (allS false) (aCons C_is_turn_4 aNil))))))))))))
def F_is_turn : FD := runD handF 11 b_is_turn
abbrev s__law_all_turns : Stmt := top 43
def B__law_all_turns_1 : SF :=
  (fIf (tru (eCallD 5 F__law_is_turn (aCons (eVar 0) (aCons (eVar 6) (aCons (eVar 3) (aCons (eVar 4) (aCons (eVar 5) aNil))))))) (fExpr (eMeth appendS (eVar 2) (aCons (eTup (aCons (eVar 6) (aCons (eVar 3) (aCons (eVar 4) (aCons (eVar 5) aNil))))) aNil))) fNil)
def L__law_all_turns_1 : SF :=
  (fFor (iSrc (eTup (aCons (eC (.str "hang")) (aCons (eC (.str "twist")) aNil)))) (gNm 6) B__law_all_turns_1)
def B__law_all_turns_2 : SF :=
  L__law_all_turns_1
def L__law_all_turns_2 : SF :=
  (fFor (iSrc (eVar 1)) (gNm 5) B__law_all_turns_2)
def B__law_all_turns_3 : SF :=
  L__law_all_turns_2
def L__law_all_turns_3 : SF :=
  (fFor (iSrc (eVar 1)) (gNm 4) B__law_all_turns_3)
def B__law_all_turns_4 : SF :=
  L__law_all_turns_3
def L__law_all_turns_4 : SF :=
  (fFor (iSrc (eCallD 1 F__law_all_sets (aCons (eCall lenS (aCons (eVar 0) aNil)) aNil))) (gNm 3) B__law_all_turns_4)
def N__law_all_turns : List Str := ["edges", "spots", "found", "some", "u", "v", "word"]
def b__law_all_turns : SF :=
  (fSeq (fSet 2 (eLst finC aNil))
  (fSeq L__law_all_turns_4
  (fRet (eVar 2))))
def F__law_all_turns : FD := runD handF 7 b__law_all_turns
abbrev s_turned : Stmt := top 17
def N_turned : List Str := ["edges", "turn", "told"]
def b_turned : SF :=
  (fSeq (fSet 2 (eCallD 1 F_told_graph (aCons (eVar 0) aNil)))
  (fSeq (fIf (tNotF (tru (eCallD 2 F_is_turn (aCons (eVar 2) (aCons (eVar 1) aNil))))) (fRaise "BadTurn") fNil)
  (fRet (eCallD 2 F_made (aCons (eVar 2) (aCons (eVar 1) aNil))))))
def F_turned : FD := runD handF 3 b_turned
abbrev s__law_take : Stmt := top 20
def N__law_take : List Str := ["pool", "many", "digit", "cell", "mixed"]
def b__law_take (F : FD) : SF :=
  (fSeq (fIf (tst (eBin (iCmp fun i j => decide (j < i)) (eIx (eVar 0) (eC (.int 2))) (eC (.int 0)))) (fSeq (fSet 2 (eMod (eCall intS (aCons (eIx (eVar 0) (eC (.int 2))) aNil)) (eVar 1)))
  (fSeq (fAsg (eDiv (eIx (eVar 0) (eC (.int 2))) (eVar 1)) (gSubF (eVar 0) (eC (.int 2))))
  (fRet (eVar 2)))) fNil)
  (fSeq (fSet 3 (eC (.int 0)))
  (fSeq (fIf (tst (eBin (iCmp fun i j => decide (i < j)) (eIx (eVar 0) (eC (.int 1))) (eCall lenS (aCons (eIx (eVar 0) (eC (.int 0))) aNil)))) (fSet 3 (eIx (eIx (eVar 0) (eC (.int 0))) (eIx (eVar 0) (eC (.int 1))))) fNil)
  (fSeq (fAsg (eAddF finF (eIx (eVar 0) (eC (.int 1))) (eC (.int 1))) (gSubF (eVar 0) (eC (.int 1))))
  (fSeq (fIf (tst (eBin (iCmp fun i j => decide (j ≤ i)) (eVar 3) (ePow (eC (.int 10)) (eC (.int 18))))) (fSeq (fAsg (eDiv (eVar 3) (eC (.int 2))) (gSubF (eVar 0) (eC (.int 2))))
  (fRet (eCallD 2 F (aCons (eVar 0) (aCons (eVar 1) aNil))))) fNil)
  (fSeq (fAsg (eMod (eCall intS (aCons (eAddF finF (eAddF finF (eMulF finF (eIx (eVar 0) (eC (.int 3))) (eC (.int 48271))) (eMulF finF (eVar 3) (eC (.int 69621)))) (eMulF finF (eIx (eVar 0) (eC (.int 1))) (eC (.int 613)))) aNil)) (eC (.int 2147483647))) (gSubF (eVar 0) (eC (.int 3))))
  (fSeq (fSet 4 (eMod (eCall intS (aCons (eAddF finF (eAddF finF (eMulF finF (eIx (eVar 0) (eC (.int 3))) (eIx (eVar 0) (eC (.int 3)))) (eMulF finF (eIx (eVar 0) (eC (.int 3))) (eC (.int 7919)))) (eC (.int 104729))) aNil)) (eC (.int 1000000007))))
  (fRet (eMod (eCall intS (aCons (eDiv (eVar 4) (eC (.int 3))) aNil)) (eVar 1))))))))))
def F__law_take_at : Nat → FD
  | 0 => fun _ _ => .no
  | n + 1 => runD handF 5 (b__law_take (F__law_take_at n))
def F__law_take : FD := F__law_take_at 3
abbrev s__law_pick : Stmt := top 21
def N__law_pick : List Str := ["pool", "rows"]
def b__law_pick : SF :=
  (fRet (eIx (eVar 1) (eCallD 2 F__law_take (aCons (eVar 0) (aCons (eCall lenS (aCons (eVar 1) aNil)) aNil)))))
def F__law_pick : FD := runD handF 2 b__law_pick
abbrev s__law_order : Stmt := top 24
def B__law_order_1 : SF :=
  (fSet 3 (eAddF finF (eVar 3) (eTup (aCons (eMeth popAtS (eVar 2) (aCons (eCallD 2 F__law_take (aCons (eVar 0) (aCons (eCall lenS (aCons (eVar 2) aNil)) aNil))) aNil)) aNil))))
def L__law_order_1 : SF :=
  (fFor (iRg (rg1 (eVar 1))) (gNm 4) B__law_order_1)
def N__law_order : List Str := ["pool", "many", "left", "found", "k"]
def b__law_order : SF :=
  (fSeq (fSet 2 (eLstRg finC (rg1 (eVar 1))))
  (fSeq (fSet 3 (eTup aNil))
  (fSeq L__law_order_1
  (fRet (eVar 3)))))
def F__law_order : FD := runD handF 5 b__law_order
abbrev s__law_given : Stmt := top 25
def N__law_given : List Str := ["pool", "row"]
def b__law_given : SF :=
  (fRet (eIf (tst (eBin (eqS false) (eCallD 2 F__law_take (aCons (eVar 0) (aCons (eC (.int 2)) aNil))) (eC (.int 0)))) (eCall (listS finF) (aCons (eVar 1) aNil)) (eCall tupS (aCons (eVar 1) aNil))))
def F__law_given : FD := runD handF 2 b__law_given
abbrev s__law_fault : Stmt := top 42
def N__law_fault : List Str := ["edges", "turn", "wrong"]
def b__law_fault : SF :=
  (fSeq (fTryRets [(ok_BadGraph, 2, fun x => (eTup (aCons (eC (.str "graph")) (aCons (eXg okf_number x "number") (aCons (eIsF x ok_MatroidError) (aCons (eIsF x ok_BadTurn) aNil)))))), (ok_BadTurn, 2, fun x => (eTup (aCons (eC (.str "turn")) (aCons (eIsF x ok_MatroidError) (aCons (eIsF x ok_BadGraph) aNil)))))] (fExpr (eCallD 2 F_turned (aCons (eVar 0) (aCons (eVar 1) aNil)))))
  (fRet (eTup (aCons (eC (.str "none")) aNil))))
def F__law_fault : FD := runD handF 3 b__law_fault
abbrev s__law_edges : Stmt := top 41
def E__law_edges_1 : EF :=
  (eTup (aCons (eAddF finF (eVar 4) (eMulF finF (eVar 5) (eIx (eVar 6) (eCallD 2 F__law_take (aCons (eVar 0) (aCons (eVar 3) aNil)))))) (aCons (eAddF finF (eVar 4) (eMulF finF (eVar 5) (eIx (eVar 6) (eCallD 2 F__law_take (aCons (eVar 0) (aCons (eVar 3) aNil)))))) aNil)))
def C__law_edges_1 : EF :=
  (eLc finF (iRg (rg1 (eVar 2))) (gNm 7) tYesF E__law_edges_1 [7])
def N__law_edges : List Str := ["pool", "most", "n", "m", "base", "step", "order", "e"]
def b__law_edges : SF :=
  (fSeq (fAsg (eTup (aCons (eCallD 2 F__law_take (aCons (eVar 0) (aCons (eAddF finF (eVar 1) (eC (.int 1))) aNil))) (aCons (eAddF finF (eC (.int 1)) (eCallD 2 F__law_take (aCons (eVar 0) (aCons (eC (.int 6)) aNil)))) aNil))) (gTupF 2 (gsCons (gNm 2) (gsCons (gNm 3) gsNil))))
  (fSeq (fAsg (eTup (aCons (eCallD 2 F__law_take (aCons (eVar 0) (aCons (eC (.int 100)) aNil))) (aCons (eAddF finF (eC (.int 1)) (eCallD 2 F__law_take (aCons (eVar 0) (aCons (eC (.int 9)) aNil)))) aNil))) (gTupF 2 (gsCons (gNm 4) (gsCons (gNm 5) gsNil))))
  (fSeq (fSet 6 (eCallD 2 F__law_order (aCons (eVar 0) (aCons (eVar 3) aNil))))
  (fRet (eCall tupS (aCons C__law_edges_1 aNil))))))
def F__law_edges : FD := runD handF 8 b__law_edges
abbrev s__law_same : Stmt := top 23
def E__law_same_1 (F : FD) : EF :=
  (eCallD 2 F (aCons (eIx (eVar 0) (eVar 2)) (aCons (eIx (eVar 1) (eVar 2)) aNil)))
def C__law_same_1 (F : FD) : EF :=
  (eLc finF (iRg (rg1 (eCall lenS (aCons (eVar 1) aNil)))) (gNm 2) tYesF (E__law_same_1 F) [2])
def E__law_same_2 (F : FD) : EF :=
  (eCallD 2 F (aCons (eIx (eVar 0) (eVar 2)) (aCons (eIx (eVar 1) (eVar 2)) aNil)))
def C__law_same_2 (F : FD) : EF :=
  (eLc finF (iRg (rg1 (eCall lenS (aCons (eVar 1) aNil)))) (gNm 2) tYesF (E__law_same_2 F) [2])
def N__law_same : List Str := ["actual", "due", "k"]
def b__law_same (F : FD) : SF :=
  (fSeq (fIf (tru (eIsi "tuple" (eVar 1))) (fSeq (fIf (tOrF (tNotF (tru (eIsi "tuple" (eVar 0)))) (tst (eBin (eqS true) (eCall lenS (aCons (eVar 0) aNil)) (eCall lenS (aCons (eVar 1) aNil))))) (fRet (eC (.bool false))) fNil)
  (fRet (eCall (allS false) (aCons (C__law_same_1 F) aNil)))) fNil)
  (fSeq (fIf (tru (eIsi "list" (eVar 1))) (fSeq (fIf (tOrF (tNotF (tru (eIsi "list" (eVar 0)))) (tst (eBin (eqS true) (eCall lenS (aCons (eVar 0) aNil)) (eCall lenS (aCons (eVar 1) aNil))))) (fRet (eC (.bool false))) fNil)
  (fRet (eCall (allS false) (aCons (C__law_same_2 F) aNil)))) fNil)
  (fSeq (fIf (tst (eBin (isNS false) (eVar 1) (eC .none))) (fRet (eBin (isNS false) (eVar 0) (eC .none))) fNil)
  (fSeq (fIf (tru (eIsi "bool" (eVar 1))) (fRet (eAndF (eIsi "bool" (eVar 0)) (eBin (eqS false) (eVar 0) (eVar 1)))) fNil)
  (fSeq (fIf (tru (eIsi "str" (eVar 1))) (fRet (eAndF (eIsi "str" (eVar 0)) (eBin (eqS false) (eVar 0) (eVar 1)))) fNil)
  (fRet (eAndF (eCallD 1 F__law_is_integer (aCons (eVar 0) aNil)) (eBin (eqS false) (eVar 0) (eVar 1)))))))))
def F__law_same_at : Nat → FD
  | 0 => fun _ _ => .no
  | n + 1 => runD handF 3 (b__law_same (F__law_same_at n))
def F__law_same : FD := F__law_same_at 6
abbrev s__law_always : Stmt := top 44
def E__law_always_1 : EF :=
  (eCallD 2 F__law_same (aCons (eCallD 2 F__law_fault (aCons (eVar 1) (aCons (eVar 4) aNil))) (aCons (eTup (aCons (eC (.str "turn")) (aCons (eC (.bool true)) (aCons (eC (.bool false)) aNil)))) aNil)))
def C__law_always_1 : EF :=
  (eLc finF (iSrc (eVar 3)) (gNm 4) tYesF E__law_always_1 [4])
def N__law_always : List Str := ["ring", "path", "told", "wrong", "turn"]
def b__law_always : SF :=
  (fSeq (fAsg (eTup (aCons (eTup (aCons (eTup (aCons (eC (.int 0)) (aCons (eC (.int 1)) aNil))) (aCons (eTup (aCons (eC (.int 1)) (aCons (eC (.int 2)) aNil))) (aCons (eTup (aCons (eC (.int 2)) (aCons (eC (.int 3)) aNil))) (aCons (eTup (aCons (eC (.int 3)) (aCons (eC (.int 0)) aNil))) aNil))))) (aCons (eTup (aCons (eTup (aCons (eC (.int 0)) (aCons (eC (.int 1)) aNil))) (aCons (eTup (aCons (eC (.int 1)) (aCons (eC (.int 2)) aNil))) aNil))) aNil))) (gTupF 2 (gsCons (gNm 0) (gsCons (gNm 1) gsNil))))
  (fSeq (fSet 2 (eTup (aCons (eCallD 2 F_turned (aCons (eVar 0) (aCons (eTup (aCons (eC (.str "twist")) (aCons (eTup (aCons (eC (.int 1)) (aCons (eC (.int 2)) aNil))) (aCons (eC (.int 1)) (aCons (eC (.int 3)) aNil))))) aNil))) (aCons (eCallD 2 F_turned (aCons (eVar 1) (aCons (eTup (aCons (eC (.str "hang")) (aCons (eTup (aCons (eC (.int 1)) aNil)) (aCons (eC (.int 1)) (aCons (eC (.int 7)) aNil))))) aNil))) (aCons (eCallD 2 F_turned (aCons (eVar 1) (aCons (eLst finF (aCons (eC (.str "hang")) (aCons (eLst finF (aCons (eC (.int 1)) (aCons (eC (.int 0)) aNil))) (aCons (eC (.int 0)) (aCons (eC (.int 5)) aNil))))) aNil))) aNil)))))
  (fSeq (fIf (tNotF (tru (eCallD 2 F__law_same (aCons (eVar 2) (aCons (eTup (aCons (eTup (aCons (eTup (aCons (eC (.int 0)) (aCons (eC (.int 1)) aNil))) (aCons (eTup (aCons (eC (.int 3)) (aCons (eC (.int 2)) aNil))) (aCons (eTup (aCons (eC (.int 2)) (aCons (eC (.int 1)) aNil))) (aCons (eTup (aCons (eC (.int 3)) (aCons (eC (.int 0)) aNil))) aNil))))) (aCons (eTup (aCons (eTup (aCons (eC (.int 0)) (aCons (eC (.int 1)) aNil))) (aCons (eTup (aCons (eC (.int 7)) (aCons (eC (.int 2)) aNil))) aNil))) (aCons (eTup (aCons (eTup (aCons (eC (.int 5)) (aCons (eC (.int 1)) aNil))) (aCons (eTup (aCons (eC (.int 1)) (aCons (eC (.int 2)) aNil))) aNil))) aNil)))) aNil))))) (fRet (eC (.bool false))) fNil)
  (fSeq (fSet 3 (eLst finF (aCons (eTup (aCons (eC (.str "hang")) (aCons (eTup (aCons (eC (.int 1)) aNil)) (aCons (eC (.int 1)) (aCons (eC (.int 2)) aNil))))) (aCons (eTup (aCons (eC (.str "twist")) (aCons (eTup (aCons (eC (.int 1)) aNil)) (aCons (eC (.int 1)) (aCons (eC (.int 1)) aNil))))) (aCons (eTup (aCons (eC (.str "twist")) (aCons (eTup (aCons (eC (.int 0)) aNil)) (aCons (eC (.int 2)) (aCons (eC (.int 3)) aNil))))) (aCons (eTup (aCons (eC (.str "hang")) (aCons (eTup (aCons (eC (.int 0)) aNil)) (aCons (eC (.int 0)) (aCons (eC (.int 9)) aNil))))) (aCons (eTup (aCons (eC (.str "hang")) (aCons (eTup (aCons (eC (.int 1)) aNil)) (aCons (eC (.int 5)) (aCons (eC (.int 6)) aNil))))) (aCons (eTup (aCons (eC (.str "twist")) (aCons (eTup aNil) (aCons (eC (.int 0)) (aCons (eC (.int 1)) aNil))))) (aCons (eTup (aCons (eC (.str "twist")) (aCons (eTup (aCons (eC (.int 0)) (aCons (eC (.int 0)) aNil))) (aCons (eC (.int 0)) (aCons (eC (.int 1)) aNil))))) (aCons (eTup (aCons (eC (.str "turn")) (aCons (eTup (aCons (eC (.int 0)) aNil)) (aCons (eC (.int 0)) (aCons (eC (.int 1)) aNil))))) aNil))))))))))
  (fRet (eCall (allS false) (aCons C__law_always_1 aNil)))))))
def F__law_always : FD := runD handF 5 b__law_always
abbrev s_law : Stmt := top 45
def E_law_1 : EF :=
  (eIx (eVar 10) (eVar 15))
def C_law_1 : EF :=
  (eLc finF (iSrc (eCallD 2 F__law_order (aCons (eVar 1) (aCons (eCall lenS (aCons (eVar 10) aNil)) aNil)))) (gNm 15) tYesF E_law_1 [15])
def E_law_2 : EF :=
  (eCallD 2 F__law_given (aCons (eVar 1) (aCons (eVar 17) aNil)))
def C_law_2 : EF :=
  (eLc finF (iSrc (eVar 3)) (gNm 17) tYesF E_law_2 [17])
def B_law_1 : SF :=
  (fIf (tru (eVar 6)) (fSeq (fAsg (eCallD 2 F__law_pick (aCons (eVar 1) (aCons (eVar 6) aNil))) (gTupF 4 (gsCons (gNm 9) (gsCons (gNm 10) (gsCons (gNm 11) (gsCons (gNm 12) gsNil))))))
  (fSeq (fSet 13 (eCallD 5 F__law_turned (aCons (eVar 3) (aCons (eVar 9) (aCons (eVar 10) (aCons (eVar 11) (aCons (eVar 12) aNil)))))))
  (fSeq (fSet 14 C_law_1)
  (fSeq (fSet 16 (eCallD 2 F_turned (aCons (eCallD 2 F__law_given (aCons (eVar 1) (aCons C_law_2 aNil))) (aCons (eCallD 2 F__law_given (aCons (eVar 1) (aCons (eTup (aCons (eVar 9) (aCons (eCallD 2 F__law_given (aCons (eVar 1) (aCons (eVar 14) aNil))) (aCons (eVar 11) (aCons (eVar 12) aNil))))) aNil))) aNil))))
  (fIf (tOrF (tNotF (tru (eCallD 2 F__law_same (aCons (eVar 16) (aCons (eVar 13) aNil))))) (tst (eBin (eqS true) (eIx (eCallD 1 F__law_ranks (aCons (eTup (aCons (eC (.str "graph")) (aCons (eC (.int 0)) (aCons (eVar 13) aNil)))) aNil)) (eC (.int 1))) (eVar 7)))) (fRet (eC (.bool false))) fNil))))) fNil)
def L_law_1 : SF :=
  (fFor (iRg (rg1 (eC (.int 5)))) (gNm 8) B_law_1)
def E_law_3 : EF :=
  (eVar 18)
def T_law_1 : TF :=
  (tst (eBin (eqS false) (eCallD 2 F__law_take (aCons (eVar 1) (aCons (eC (.int 2)) aNil))) (eC (.int 0))))
def C_law_3 : EF :=
  (eLc finF (iRg (rg1 (eVar 4))) (gNm 18) T_law_1 E_law_3 [18])
def B_law_2 : SF :=
  (fSeq (fAsg (eTup (aCons (eCallD 2 F__law_pick (aCons (eVar 1) (aCons (eLst finF (aCons (eC (.str "hang")) (aCons (eC (.str "twist")) aNil))) aNil))) (aCons (eCall tupS (aCons C_law_3 aNil)) aNil))) (gTupF 2 (gsCons (gNm 9) (gsCons (gNm 10) gsNil))))
  (fSeq (fPar 11 12 (aCons (eCallD 2 F__law_pick (aCons (eVar 1) (aCons (eVar 5) aNil))) (aCons (eCallD 2 F__law_pick (aCons (eVar 1) (aCons (eVar 5) aNil))) aNil)))
  (fIf (tNotF (tru (eCallD 2 F__law_same (aCons (eCallD 2 F__law_fault (aCons (eVar 3) (aCons (eTup (aCons (eVar 9) (aCons (eVar 10) (aCons (eVar 11) (aCons (eVar 12) aNil))))) aNil))) (aCons (eIf (tru (eCallD 5 F__law_is_turn (aCons (eVar 3) (aCons (eVar 9) (aCons (eVar 10) (aCons (eVar 11) (aCons (eVar 12) aNil))))))) (eTup (aCons (eC (.str "none")) aNil)) (eTup (aCons (eC (.str "turn")) (aCons (eC (.bool true)) (aCons (eC (.bool false)) aNil))))) aNil))))) (fRet (eC (.bool false))) fNil)))
def L_law_2 : SF :=
  (fFor (iRg (rg1 (eC (.int 5)))) (gNm 8) B_law_2)
def B_law_3 : SF :=
  (fSeq (fSet 3 (eCallD 2 F__law_edges (aCons (eVar 1) (aCons (eC (.int 6)) aNil))))
  (fSeq (fPar 4 5 (aCons (eCall lenS (aCons (eVar 3) aNil)) (aCons (eCallD 2 F__law_spots (aCons (eVar 3) (aCons (eLstRg finF (rg1 (eCall lenS (aCons (eVar 3) aNil)))) aNil))) aNil)))
  (fSeq (fSet 5 (eAddF finF (eSl finF (eVar 5) oNone (oSome (eC (.int 4)))) (eLst finF (aCons (eAddF finF (eC (.int 190)) (eCallD 2 F__law_take (aCons (eVar 1) (aCons (eC (.int 10)) aNil)))) aNil))))
  (fSeq (fSet 6 (eCallD 2 F__law_all_turns (aCons (eVar 3) (aCons (eVar 5) aNil))))
  (fSeq (fSet 7 (eIx (eCallD 1 F__law_ranks (aCons (eTup (aCons (eC (.str "graph")) (aCons (eC (.int 0)) (aCons (eVar 3) aNil)))) aNil)) (eC (.int 1))))
  (fSeq L_law_1
  L_law_2))))))
def L_law_3 : SF :=
  (fFor (iRg (rg1 (eC (.int 2)))) (gNm 2) B_law_3)
def N_law : List Str := ["script", "pool", "turn", "edges", "n", "spots", "some", "ranks", "step", "word", "row", "u", "v", "due", "order", "k", "told", "pair", "e", "wrong"]
def b_law : SF :=
  (fSeq (fSet 1 (eCallD 1 F__law_pool (aCons (eVar 0) aNil)))
  (fSeq (fIf (tNotF (tru (eCall0 F__law_always))) (fRet (eC (.bool false))) fNil)
  (fSeq L_law_3
  (fSeq (fSet 19 (eCallD 2 F__law_pick (aCons (eVar 1) (aCons (eLst finF (aCons (eC .none) (aCons (eC (.int 3)) (aCons (eC (.str "twist")) (aCons (eTup aNil) (aCons (eTup (aCons (eC (.str "twist")) (aCons (eTup (aCons (eC (.int 0)) aNil)) (aCons (eC (.int 0)) aNil)))) (aCons (eTup (aCons (eC (.str "twist")) (aCons (eTup (aCons (eC (.int 0)) aNil)) (aCons (eC (.int 0)) (aCons (eC (.int 1)) (aCons (eC (.int 2)) aNil)))))) (aCons (eTup (aCons (eC .none) (aCons (eTup (aCons (eC (.int 0)) aNil)) (aCons (eC (.int 0)) (aCons (eC (.int 1)) aNil))))) (aCons (eTup (aCons (eC (.str "twist")) (aCons (eC .none) (aCons (eC (.int 0)) (aCons (eC (.int 1)) aNil))))) (aCons (eTup (aCons (eC (.str "twist")) (aCons (eTup (aCons (eC (.int 0)) aNil)) (aCons (eC (.int 0)) (aCons (eC (.int 200)) aNil))))) (aCons (eTup (aCons (eC (.str "twist")) (aCons (eTup (aCons (eC (.int 0)) aNil)) (aCons (eC (.bool true)) (aCons (eC (.int 0)) aNil))))) (aCons (eTup (aCons (eC (.str "twist")) (aCons (eTup (aCons (eC (.int 2)) aNil)) (aCons (eC (.int 0)) (aCons (eC (.int 1)) aNil))))) (aCons (eTup (aCons (eC (.str "hang")) (aCons (eTup (aCons (eC (.str "0")) aNil)) (aCons (eC (.int 0)) (aCons (eC (.int 5)) aNil))))) aNil))))))))))))) aNil))))
  (fSeq (fIf (tNotF (tru (eCallD 2 F__law_same (aCons (eCallD 2 F__law_fault (aCons (eTup (aCons (eTup (aCons (eC (.int 0)) (aCons (eC (.int 1)) aNil))) (aCons (eTup (aCons (eC (.int 1)) (aCons (eC (.int 0)) aNil))) aNil))) (aCons (eVar 19) aNil))) (aCons (eTup (aCons (eC (.str "turn")) (aCons (eC (.bool true)) (aCons (eC (.bool false)) aNil)))) aNil))))) (fRet (eC (.bool false))) fNil)
  (fRet (eCallD 2 F__law_same (aCons (eCallD 2 F__law_fault (aCons (eTup (aCons (eTup (aCons (eC (.int 0)) (aCons (eC (.int 1)) aNil))) (aCons (eTup (aCons (eC (.int 1)) aNil)) aNil))) (aCons (eVar 19) aNil))) (aCons (eTup (aCons (eC (.str "graph")) (aCons (eC (.int 1)) (aCons (eC (.bool true)) (aCons (eC (.bool false)) aNil))))) aNil)))))))))
def F_law : FD := runD handF 20 b_law
end G29
namespace G29
open PySem L2 DL
structure Txt (P : Program) (K : PySem.W.Frag) (mg : Str → Option Value) : Prop where
  b_all : mg "all" = none
  b_bool : mg "bool" = none
  b_enumerate : mg "enumerate" = none
  b_int : mg "int" = none
  b_isinstance : mg "isinstance" = none
  b_len : mg "len" = none
  b_list : mg "list" = none
  b_range : mg "range" = none
  b_set : mg "set" = none
  b_sorted : mg "sorted" = none
  b_str : mg "str" = none
  b_tuple : mg "tuple" = none
  k_MOST_EDGES : ∃ (u : Value) (v : V), mg "MOST_EDGES" = some u ∧ RelV v u ∧ ∀ F, Rp K F v k_MOST_EDGES
  k_MOST_PLACES : ∃ (u : Value) (v : V), mg "MOST_PLACES" = some u ∧ RelV v u ∧ ∀ F, Rp K F v k_MOST_PLACES
  x_is_number : FnX K mg "is_number" s_is_number ["value"]
  x_is_row : FnX K mg "is_row" s_is_row ["value"]
  x_places_of : FnX K mg "places_of" s_places_of ["edges", "some"]
  x_renamed : FnX K mg "renamed" s_renamed ["edges", "some", "names"]
  x__law_pool : FnX K mg "_law_pool" s__law_pool ["script"]
  x__law_is_integer : FnX K mg "_law_is_integer" s__law_is_integer ["actual"]
  x__law_all_sets : FnX K mg "_law_all_sets" s__law_all_sets ["n"]
  x__law_forest : FnX K mg "_law_forest" s__law_forest ["edges"]
  x__law_others : FnX K mg "_law_others" s__law_others ["n", "some"]
  x__law_spots : FnX K mg "_law_spots" s__law_spots ["edges", "some"]
  x__law_turned : FnX K mg "_law_turned" s__law_turned ["edges", "word", "some", "u", "v"]
  x_is_place : FnX K mg "is_place" s_is_place ["value"]
  x_is_set : FnX K mg "is_set" s_is_set ["edges", "some"]
  x_made : FnX K mg "made" s_made ["edges", "turn"]
  x__law_ranks : FnX K mg "_law_ranks" s__law_ranks ["making"]
  x__law_is_turn : FnX K mg "_law_is_turn" s__law_is_turn ["edges", "word", "some", "u", "v"]
  x_told_graph : FnX K mg "told_graph" s_told_graph ["edges"]
  x_is_turn : FnX K mg "is_turn" s_is_turn ["edges", "turn"]
  x__law_all_turns : FnX K mg "_law_all_turns" s__law_all_turns ["edges", "spots"]
  x_turned : FnX K mg "turned" s_turned ["edges", "turn"]
  x__law_take : FnX K mg "_law_take" s__law_take ["pool", "many"]
  x__law_pick : FnX K mg "_law_pick" s__law_pick ["pool", "rows"]
  x__law_order : FnX K mg "_law_order" s__law_order ["pool", "many"]
  x__law_given : FnX K mg "_law_given" s__law_given ["pool", "row"]
  x__law_fault : FnX K mg "_law_fault" s__law_fault ["edges", "turn"]
  x__law_edges : FnX K mg "_law_edges" s__law_edges ["pool", "most"]
  x__law_same : FnX K mg "_law_same" s__law_same ["actual", "due"]
  x__law_always : FnX K mg "_law_always" s__law_always []
  e_BadGraph : ExI P K mg (cnOf mg) "BadGraph" "number"
  e_BadTurn : ExX K mg (cnOf mg) "BadTurn"
  c_BadGraph : CatchX K mg (cnOf mg) "BadGraph" ok_BadGraph
  c_BadTurn : CatchX K mg (cnOf mg) "BadTurn" ok_BadTurn
  i_BadGraph : IsX K mg (cnOf mg) "BadGraph" ok_BadGraph
  i_BadTurn : IsX K mg (cnOf mg) "BadTurn" ok_BadTurn
  i_MatroidError : IsX K mg (cnOf mg) "MatroidError" ok_MatroidError
  f_number : FieldT K (cnOf mg) "number" okf_number
section
variable {P : Program} {w : World} {K : PySem.W.Frag} {mg : Str → Option Value} {base : Heap}
theorem sc_is_number : FnScope N_is_number ["value"] (defScope s_is_number) := ⟨rfl, rfl, rfl, by decide +kernel, rfl, by decide +kernel, by decide +kernel⟩
theorem D_is_number (T : Txt P K mg) : DefD P w K mg base (miX K mg) 1 "is_number" 1 F_is_number :=
  FnX.at (n := 1) T.x_is_number hand_f sc_is_number rfl fun f cdv A outer s H E hr tk hp =>
    have sc := sc_is_number
    (ss_one (s_ret (d_andv rfl (d_isi (T' := "int") rfl (by decide +kernel) (by rfl) T.b_isinstance (dv 0 (pv 0)) (pe_bltn (by rfl) T.b_int (by decide +kernel) rfl)) (d_one (d_notv rfl (d_isi (T' := "bool") rfl (by decide +kernel) (by rfl) T.b_isinstance (dv 0 (pv 0)) (pe_bltn (by rfl) T.b_bool (by decide +kernel) rfl)))))))
theorem sc_is_row : FnScope N_is_row ["value"] (defScope s_is_row) := ⟨rfl, rfl, rfl, by decide +kernel, rfl, by decide +kernel, by decide +kernel⟩
theorem D_is_row (T : Txt P K mg) : DefD P w K mg base (miX K mg) 1 "is_row" 1 F_is_row :=
  FnX.at (n := 1) T.x_is_row hand_f sc_is_row rfl fun f cdv A outer s H E hr tk hp =>
    have sc := sc_is_row
    (ss_one (s_ret (d_isi2 (T1 := "tuple") (T2 := "list") rfl (by decide +kernel) (by decide +kernel) (by rfl) T.b_isinstance (dv 0 (pv 0)) (pe_bltn (by rfl) T.b_tuple (by decide +kernel) rfl) (pe_bltn (by rfl) T.b_list (by decide +kernel) rfl))))
theorem sc_places_of : FnScope N_places_of ["edges", "some"] (defScope s_places_of) := ⟨rfl, rfl, rfl, by decide +kernel, rfl, by decide +kernel, by decide +kernel⟩
theorem D_places_of (T : Txt P K mg) : DefD P w K mg base (miX K mg) 1 "places_of" 2 F_places_of :=
  FnX.at (n := 2) T.x_places_of hand_f sc_places_of rfl fun f cdv A outer s H E hr tk hp =>
    have sc := sc_places_of
    (ss_one (s_ret (d_srtSc2 fin_f rfl (by rfl) T.b_sorted (own := ([("number", 2), ("place", 3)] : List (Str × Nat))) (vs1 := ([3] : List Nat)) (by decide) (by decide) (by decide) rfl sc.nd (i_src rfl (dv 1 (pv 1))) (blkOk_by (by kernel_rfl)) (fun _ _ _ _ _ => (g_nm (i := 2) sc.nd rfl (by first | exact Or.inl rfl | exact Or.inr rfl))) (fun _ _ _ _ _ => ts_nil) (fun _ _ _ _ _ => (i_src rfl (d_ix rfl (dv 0 (pv 0)) (dv 2 (pv 2))))) (fun _ _ _ _ _ => (g_nm (i := 3) sc.nd rfl (by first | exact Or.inl rfl | exact Or.inr rfl))) (fun _ _ _ _ _ => ts_nil) (fun _ _ _ _ _ => (dv 3 (pv 3))))))
theorem sc_renamed : FnScope N_renamed ["edges", "some", "names"] (defScope s_renamed) := ⟨rfl, rfl, rfl, by decide +kernel, rfl, by decide +kernel, by decide +kernel⟩
theorem D_renamed (T : Txt P K mg) : DefD P w K mg base (miX K mg) 1 "renamed" 3 F_renamed :=
  FnX.at (n := 3) T.x_renamed hand_f sc_renamed rfl fun f cdv A outer s H E hr tk hp =>
    have sc := sc_renamed
    (ss_cons (s_set (i := 3) sc.nd rfl (by first | exact Or.inl rfl | exact Or.inr rfl) (d_lst fin_c da_nil))
  (ss_cons (s_for hp rfl (i_enumT rfl (by rfl) T.b_enumerate (dv 0 (pv 0))) (g_tup rfl rfl (gs_cons (g_nm (i := 4) sc.nd rfl (by first | exact Or.inl rfl | exact Or.inr rfl)) (gs_cons (g_tup rfl rfl (gs_cons (g_nm (i := 5) sc.nd rfl (by first | exact Or.inl rfl | exact Or.inr rfl)) (gs_cons (g_nm (i := 6) sc.nd rfl (by first | exact Or.inl rfl | exact Or.inr rfl)) gs_nil))) gs_nil))) (ss_one (s_expr (d_append rfl (dv 3 (pv 3)) (d_if (t_c (c_in rfl hr.u65) (dv 4 (pv 4)) (dv 1 (pv 1))) (d_tup (da_cons (d_get2 hr.u64 (dv 2 (pv 2)) (dv 5 (pv 5)) (dv 5 (pv 5)) ⟨rfl, rfl, rfl, rfl⟩) (da_cons (d_get2 hr.u64 (dv 2 (pv 2)) (dv 6 (pv 6)) (dv 6 (pv 6)) ⟨rfl, rfl, rfl, rfl⟩) da_nil))) (d_tup (da_cons (dv 5 (pv 5)) (da_cons (dv 6 (pv 6)) da_nil))))))))
  (ss_one (s_ret (d_tuple rfl (by rfl) T.b_tuple (dv 3 (pv 3)))))))
theorem sc__law_pool : FnScope N__law_pool ["script"] (defScope s__law_pool) := ⟨rfl, rfl, rfl, by decide +kernel, rfl, by decide +kernel, by decide +kernel⟩
theorem D__law_pool (T : Txt P K mg) : DefD P w K mg base (miX K mg) 1 "_law_pool" 1 F__law_pool :=
  FnX.at (n := 1) T.x__law_pool hand_c sc__law_pool rfl fun f cdv A outer s H E hr tk hp =>
    have sc := sc__law_pool
    (ss_one (s_ret (d_lst fin_c (da_cons (d_lc fin_f (own := ([("cell", 1)] : List (Str × Nat))) (by decide) rfl sc.nd (i_src rfl (dv 0 (pv 0))) (blkOk_by (by kernel_rfl)) (fun _ _ _ _ _ => (g_nm (i := 1) sc.nd rfl (by first | exact Or.inl rfl | exact Or.inr rfl))) (fun _ _ _ _ _ => ts_nil) (fun _ _ _ _ _ => (d_if (t_c c_ge (dv 1 (pv 1)) d_int) (d_mul fin_f d_int (dv 1 (pv 1))) (d_sub (d_mul fin_f (d_neg d_int) (dv 1 (pv 1))) d_int)))) (da_cons d_int (da_cons d_int (da_cons d_int da_nil)))))))
theorem sc__law_is_integer : FnScope N__law_is_integer ["actual"] (defScope s__law_is_integer) := ⟨rfl, rfl, rfl, by decide +kernel, rfl, by decide +kernel, by decide +kernel⟩
theorem D__law_is_integer (T : Txt P K mg) : DefD P w K mg base (miX K mg) 1 "_law_is_integer" 1 F__law_is_integer :=
  FnX.at (n := 1) T.x__law_is_integer hand_f sc__law_is_integer rfl fun f cdv A outer s H E hr tk hp =>
    have sc := sc__law_is_integer
    (ss_one (s_ret (d_andv rfl (d_isi (T' := "int") rfl (by decide +kernel) (by rfl) T.b_isinstance (dv 0 (pv 0)) (pe_bltn (by rfl) T.b_int (by decide +kernel) rfl)) (d_one (d_notv rfl (d_isi (T' := "bool") rfl (by decide +kernel) (by rfl) T.b_isinstance (dv 0 (pv 0)) (pe_bltn (by rfl) T.b_bool (by decide +kernel) rfl)))))))
theorem sc__law_all_sets : FnScope N__law_all_sets ["n"] (defScope s__law_all_sets) := ⟨rfl, rfl, rfl, by decide +kernel, rfl, by decide +kernel, by decide +kernel⟩
theorem D__law_all_sets (T : Txt P K mg) : DefD P w K mg base (miX K mg) 1 "_law_all_sets" 1 F__law_all_sets :=
  FnX.at (n := 1) T.x__law_all_sets hand_f sc__law_all_sets rfl fun f cdv A outer s H E hr tk hp =>
    have sc := sc__law_all_sets
    (ss_cons (s_set (i := 1) sc.nd rfl (by first | exact Or.inl rfl | exact Or.inr rfl) (d_lst fin_f (da_cons (d_tup da_nil) da_nil)))
  (ss_cons (s_for hp rfl (i_rg1 (by rfl) T.b_range (dv 0 (pv 0))) (g_nm (i := 2) sc.nd rfl (by first | exact Or.inl rfl | exact Or.inr rfl)) (ss_one (s_set (i := 1) sc.nd rfl (by first | exact Or.inl rfl | exact Or.inr rfl) (d_add rfl fin_f (dv 1 (pv 1)) (d_lc fin_f (own := ([("row", 3)] : List (Str × Nat))) (by decide) rfl sc.nd (i_src rfl (dv 1 (pv 1))) (blkOk_by (by kernel_rfl)) (fun _ _ _ _ _ => (g_nm (i := 3) sc.nd rfl (by first | exact Or.inl rfl | exact Or.inr rfl))) (fun _ _ _ _ _ => ts_nil) (fun _ _ _ _ _ => (d_add rfl fin_f (dv 3 (pv 3)) (d_tup (da_cons (dv 2 (pv 2)) da_nil)))))))))
  (ss_one (s_ret (dv 1 (pv 1))))))
theorem sc__law_forest : FnScope N__law_forest ["edges"] (defScope s__law_forest) := ⟨rfl, rfl, rfl, by decide +kernel, rfl, by decide +kernel, by decide +kernel⟩
theorem D__law_forest (T : Txt P K mg) : DefD P w K mg base (miX K mg) 1 "_law_forest" 1 F__law_forest :=
  FnX.at (n := 1) T.x__law_forest hand_f sc__law_forest rfl fun f cdv A outer s H E hr tk hp =>
    have sc := sc__law_forest
    (ss_cons (s_par (i := 1) (j := 2) rfl sc.nd rfl rfl (by decide) rfl rfl (da_cons d_dctC (da_cons d_int da_nil)) (by rfl))
  (ss_cons (s_for hp rfl (i_src rfl (dv 0 (pv 0))) (g_tup rfl rfl (gs_cons (g_nm (i := 3) sc.nd rfl (by first | exact Or.inl rfl | exact Or.inr rfl)) (gs_cons (g_nm (i := 4) sc.nd rfl (by first | exact Or.inl rfl | exact Or.inr rfl)) gs_nil))) (ss_cons (s_par (i := 5) (j := 6) rfl sc.nd rfl rfl (by decide) rfl rfl (da_cons (d_get2 hr.u64 (dv 1 (pv 1)) (dv 3 (pv 3)) (dv 3 (pv 3)) ⟨rfl, rfl, rfl, rfl⟩) (da_cons (d_get2 hr.u64 (dv 1 (pv 1)) (dv 4 (pv 4)) (dv 4 (pv 4)) ⟨rfl, rfl, rfl, rfl⟩) da_nil)) (by rfl))
  (ss_one (s_if (t_c (c_ne rfl hr.u64) (dv 5 (pv 5)) (dv 6 (pv 6))) (ss_cons (s_set (i := 2) sc.nd rfl (by first | exact Or.inl rfl | exact Or.inr rfl) (d_add rfl fin_f (dv 2 (pv 2)) d_int))
  (ss_cons (s_for hp rfl (i_src rfl (d_add rfl fin_f (d_listDct rfl fin_f (by rfl) T.b_list (dv 1 (pv 1))) (d_lst fin_f (da_cons (dv 3 (pv 3)) (da_cons (dv 4 (pv 4)) da_nil))))) (g_nm (i := 7) sc.nd rfl (by first | exact Or.inl rfl | exact Or.inr rfl)) (ss_one (s_if (t_c (c_eq rfl hr.u64) (d_get2 hr.u64 (dv 1 (pv 1)) (dv 7 (pv 7)) (dv 7 (pv 7)) ⟨rfl, rfl, rfl, rfl⟩) (dv 6 (pv 6))) (ss_one (s_dput hr.u64 (dv 1 (pv 1)) (dv 7 (pv 7)) (dv 5 (pv 5)))) ss_nil)))
  (ss_one (s_dput hr.u64 (dv 1 (pv 1)) (dv 5 (pv 5)) (dv 5 (pv 5)))))) ss_nil))))
  (ss_one (s_ret (dv 2 (pv 2))))))
theorem sc__law_others : FnScope N__law_others ["n", "some"] (defScope s__law_others) := ⟨rfl, rfl, rfl, by decide +kernel, rfl, by decide +kernel, by decide +kernel⟩
theorem D__law_others (T : Txt P K mg) : DefD P w K mg base (miX K mg) 1 "_law_others" 2 F__law_others :=
  FnX.at (n := 2) T.x__law_others hand_f sc__law_others rfl fun f cdv A outer s H E hr tk hp =>
    have sc := sc__law_others
    (ss_one (s_ret (d_tuple rfl (by rfl) T.b_tuple (d_lc fin_f (own := ([("e", 2)] : List (Str × Nat))) (by decide) rfl sc.nd (i_rg1 (by rfl) T.b_range (dv 0 (pv 0))) (blkOk_by (by kernel_rfl)) (fun _ _ _ _ _ => (g_nm (i := 2) sc.nd rfl (by first | exact Or.inl rfl | exact Or.inr rfl))) (fun _ _ _ _ _ => (ts_one (t_c (c_notIn rfl hr.u65) (dv 2 (pv 2)) (dv 1 (pv 1))))) (fun _ _ _ _ _ => (dv 2 (pv 2)))))))
theorem sc__law_spots : FnScope N__law_spots ["edges", "some"] (defScope s__law_spots) := ⟨rfl, rfl, rfl, by decide +kernel, rfl, by decide +kernel, by decide +kernel⟩
theorem D__law_spots (T : Txt P K mg) : DefD P w K mg base (miX K mg) 1 "_law_spots" 2 F__law_spots :=
  FnX.at (n := 2) T.x__law_spots hand_f sc__law_spots rfl fun f cdv A outer s H E hr tk hp =>
    have sc := sc__law_spots
    (ss_one (s_ret (d_srtSet rfl rfl fin_f (by rfl) T.b_sorted (by rfl) T.b_set (d_add rfl fin_f (d_lc fin_f (own := ([("e", 2)] : List (Str × Nat))) (by decide) rfl sc.nd (i_src rfl (dv 1 (pv 1))) (blkOk_by (by kernel_rfl)) (fun _ _ _ _ _ => (g_nm (i := 2) sc.nd rfl (by first | exact Or.inl rfl | exact Or.inr rfl))) (fun _ _ _ _ _ => ts_nil) (fun _ _ _ _ _ => (d_ix rfl (d_ix rfl (dv 0 (pv 0)) (dv 2 (pv 2))) d_int))) (d_lc fin_f (own := ([("e", 2)] : List (Str × Nat))) (by decide) rfl sc.nd (i_src rfl (dv 1 (pv 1))) (blkOk_by (by kernel_rfl)) (fun _ _ _ _ _ => (g_nm (i := 2) sc.nd rfl (by first | exact Or.inl rfl | exact Or.inr rfl))) (fun _ _ _ _ _ => ts_nil) (fun _ _ _ _ _ => (d_ix rfl (d_ix rfl (dv 0 (pv 0)) (dv 2 (pv 2))) d_int)))))))
theorem sc__law_turned : FnScope N__law_turned ["edges", "word", "some", "u", "v"] (defScope s__law_turned) := ⟨rfl, rfl, rfl, by decide +kernel, rfl, by decide +kernel, by decide +kernel⟩
theorem D__law_turned (T : Txt P K mg) : DefD P w K mg base (miX K mg) 1 "_law_turned" 5 F__law_turned :=
  FnX.at (n := 5) T.x__law_turned hand_f sc__law_turned rfl fun f cdv A outer s H E hr tk hp =>
    have sc := sc__law_turned
    (ss_cons (s_set (i := 5) sc.nd rfl (by first | exact Or.inl rfl | exact Or.inr rfl) (d_if (t_c (c_eq rfl hr.u64) (dv 1 (pv 1)) d_str) (d_disp (DPs.cons (dv 3 (pv 3)) (dv 4 (pv 4)) (DPs.cons (dv 4 (pv 4)) (dv 3 (pv 3)) DPs.nil))) (d_disp (DPs.cons (dv 3 (pv 3)) (dv 4 (pv 4)) DPs.nil))))
  (ss_cons (s_set (i := 6) sc.nd rfl (by first | exact Or.inl rfl | exact Or.inr rfl) (d_lst fin_c da_nil))
  (ss_cons (s_for hp rfl (i_rg1 (by rfl) T.b_range (d_len rfl (by rfl) T.b_len (dv 0 (pv 0)))) (g_nm (i := 7) sc.nd rfl (by first | exact Or.inl rfl | exact Or.inr rfl)) (ss_cons (s_asg (d_ix rfl (dv 0 (pv 0)) (dv 7 (pv 7))) (g_tup rfl rfl (gs_cons (g_nm (i := 8) sc.nd rfl (by first | exact Or.inl rfl | exact Or.inr rfl)) (gs_cons (g_nm (i := 9) sc.nd rfl (by first | exact Or.inl rfl | exact Or.inr rfl)) gs_nil))))
  (ss_one (s_expr (d_append rfl (dv 6 (pv 6)) (d_if (t_c (c_in rfl hr.u65) (dv 7 (pv 7)) (dv 2 (pv 2))) (d_tup (da_cons (d_get2 hr.u64 (dv 5 (pv 5)) (dv 8 (pv 8)) (dv 8 (pv 8)) ⟨rfl, rfl, rfl, rfl⟩) (da_cons (d_get2 hr.u64 (dv 5 (pv 5)) (dv 9 (pv 9)) (dv 9 (pv 9)) ⟨rfl, rfl, rfl, rfl⟩) da_nil))) (d_tup (da_cons (dv 8 (pv 8)) (da_cons (dv 9 (pv 9)) da_nil)))))))))
  (ss_one (s_ret (d_tuple rfl (by rfl) T.b_tuple (dv 6 (pv 6))))))))
theorem sc_is_place : FnScope N_is_place ["value"] (defScope s_is_place) := ⟨rfl, rfl, rfl, by decide +kernel, rfl, by decide +kernel, by decide +kernel⟩
theorem D_is_place (T : Txt P K mg) : DefD P w K mg base (miX K mg) 2 "is_place" 1 F_is_place :=
  FnX.at (n := 1) T.x_is_place hand_f sc_is_place rfl fun f cdv A outer s H E hr tk hp =>
    have sc := sc_is_place
    (ss_one (s_ret (d_andv rfl (d_call (D_is_number T) (hr.mono (by first | omega | (simp only [Nat.add_eq]; omega))) tk (by rfl) (da_cons (dv 0 (pv 0)) da_nil)) (d_one (d_chain c_le c_lt d_int (dv 0 (pv 0)) (d_globD (by rfl) T.k_MOST_PLACES))))))
theorem sc_is_set : FnScope N_is_set ["edges", "some"] (defScope s_is_set) := ⟨rfl, rfl, rfl, by decide +kernel, rfl, by decide +kernel, by decide +kernel⟩
theorem D_is_set (T : Txt P K mg) : DefD P w K mg base (miX K mg) 2 "is_set" 2 F_is_set :=
  FnX.at (n := 2) T.x_is_set hand_f sc_is_set rfl fun f cdv A outer s H E hr tk hp =>
    have sc := sc_is_set
    (ss_cons (s_if (t_w (w_or (t_not (t_tru rfl (d_call (D_is_row T) (hr.mono (by first | omega | (simp only [Nat.add_eq]; omega))) tk (by rfl) (da_cons (dv 1 (pv 1)) da_nil)))) (w_or (t_not (t_tru rfl (dv 1 (pv 1)))) (w_or1 (t_not (t_tru rfl (d_all rfl rfl (by rfl) T.b_all (d_lc fin_f (own := ([("number", 2)] : List (Str × Nat))) (by decide) rfl sc.nd (i_src rfl (dv 1 (pv 1))) (blkOk_by (by kernel_rfl)) (fun _ _ _ _ _ => (g_nm (i := 2) sc.nd rfl (by first | exact Or.inl rfl | exact Or.inr rfl))) (fun _ _ _ _ _ => ts_nil) (fun _ _ _ _ _ => (d_andv rfl (d_call (D_is_number T) (hr.mono (by first | omega | (simp only [Nat.add_eq]; omega))) takes0 (by rfl) (da_cons (dv 2 (pv 2)) da_nil)) (d_one (d_chain c_le c_lt d_int (dv 2 (pv 2)) (d_len rfl (by rfl) T.b_len (dv 0 (pv 0))))))))))))))) (ss_one (s_ret d_bl)) ss_nil)
  (ss_one (s_ret (d_c (c_eq rfl hr.u64) (d_lenSet rfl rfl (by rfl) T.b_len (by rfl) T.b_set (dv 1 (pv 1))) (d_len rfl (by rfl) T.b_len (dv 1 (pv 1)))))))
theorem sc_made : FnScope N_made ["edges", "turn"] (defScope s_made) := ⟨rfl, rfl, rfl, by decide +kernel, rfl, by decide +kernel, by decide +kernel⟩
theorem D_made (T : Txt P K mg) : DefD P w K mg base (miX K mg) 2 "made" 2 F_made :=
  FnX.at (n := 2) T.x_made hand_f sc_made rfl fun f cdv A outer s H E hr tk hp =>
    have sc := sc_made
    (ss_cons (s_asg (dv 1 (pv 1)) (g_seq rfl rfl (gs_cons (g_nm (i := 2) sc.nd rfl (by first | exact Or.inl rfl | exact Or.inr rfl)) (gs_cons (g_nm (i := 3) sc.nd rfl (by first | exact Or.inl rfl | exact Or.inr rfl)) (gs_cons (g_nm (i := 4) sc.nd rfl (by first | exact Or.inl rfl | exact Or.inr rfl)) (gs_cons (g_nm (i := 5) sc.nd rfl (by first | exact Or.inl rfl | exact Or.inr rfl)) gs_nil))))))
  (ss_one (s_ret (d_call (D_renamed T) (hr.mono (by first | omega | (simp only [Nat.add_eq]; omega))) tk (by rfl) (da_cons (dv 0 (pv 0)) (da_cons (dv 3 (pv 3)) (da_cons (d_if (t_c (c_eq rfl hr.u64) (dv 2 (pv 2)) d_str) (d_disp (DPs.cons (dv 4 (pv 4)) (dv 5 (pv 5)) DPs.nil)) (d_disp (DPs.cons (dv 4 (pv 4)) (dv 5 (pv 5)) (DPs.cons (dv 5 (pv 5)) (dv 4 (pv 4)) DPs.nil)))) da_nil)))))))
theorem sc__law_ranks : FnScope N__law_ranks ["making"] (defScope s__law_ranks) := ⟨rfl, rfl, rfl, by decide +kernel, rfl, by decide +kernel, by decide +kernel⟩
theorem D__law_ranks (T : Txt P K mg) : DefD P w K mg base (miX K mg) 2 "_law_ranks" 1 F__law_ranks :=
  FnX.at (n := 1) T.x__law_ranks hand_f sc__law_ranks rfl fun f cdv A outer s H E hr tk hp =>
    have sc := sc__law_ranks
    (ss_cons (s_if (t_c (c_eq rfl hr.u64) (d_ix rfl (dv 0 (pv 0)) d_int) d_str) (ss_one s_no) ss_nil)
  (ss_cons (s_if (t_c (c_eq rfl hr.u64) (d_ix rfl (dv 0 (pv 0)) d_int) d_str) (ss_cons (s_set (i := 2) sc.nd rfl (by first | exact Or.inl rfl | exact Or.inr rfl) (d_call (D__law_all_sets T) (hr.mono (by first | omega | (simp only [Nat.add_eq]; omega))) tk (by rfl) (da_cons (d_ix rfl (dv 0 (pv 0)) d_int) da_nil)))
  (ss_one s_no)) ss_nil)
  (ss_cons (s_if (t_c (c_eq rfl hr.u64) (d_ix rfl (dv 0 (pv 0)) d_int) d_str) (ss_cons (s_set (i := 5) sc.nd rfl (by first | exact Or.inl rfl | exact Or.inr rfl) (d_len rfl (by rfl) T.b_len (d_ix rfl (dv 0 (pv 0)) d_int)))
  (ss_one s_no)) ss_nil)
  (ss_cons (s_if (t_c (c_eq rfl hr.u64) (d_ix rfl (dv 0 (pv 0)) d_int) d_str) (ss_cons (s_set (i := 5) sc.nd rfl (by first | exact Or.inl rfl | exact Or.inr rfl) (d_len rfl (by rfl) T.b_len (d_ix rfl (dv 0 (pv 0)) d_int)))
  (ss_one (s_ret (d_tup (da_cons (dv 5 (pv 5)) (da_cons (d_lc fin_f (own := ([("some", 1)] : List (Str × Nat))) (by decide) rfl sc.nd (i_src rfl (d_call (D__law_all_sets T) (hr.mono (by first | omega | (simp only [Nat.add_eq]; omega))) tk (by rfl) (da_cons (dv 5 (pv 5)) da_nil))) (blkOk_by (by kernel_rfl)) (fun _ _ _ _ _ => (g_nm (i := 1) sc.nd rfl (by first | exact Or.inl rfl | exact Or.inr rfl))) (fun _ _ _ _ _ => ts_nil) (fun _ _ _ _ _ => (d_call (D__law_forest T) (hr.mono (by first | omega | (simp only [Nat.add_eq]; omega))) takes0 (by rfl) (da_cons (d_lc fin_f (own := ([("e", 3)] : List (Str × Nat))) (by decide) rfl sc.nd (i_src rfl (dv 1 (pv 1))) (blkOk_by (by kernel_rfl)) (fun _ _ _ _ _ => (g_nm (i := 3) sc.nd rfl (by first | exact Or.inl rfl | exact Or.inr rfl))) (fun _ _ _ _ _ => ts_nil) (fun _ _ _ _ _ => (d_ix rfl (d_ix rfl (dv 0 (pv 0)) d_int) (dv 3 (pv 3))))) da_nil)))) da_nil)))))) ss_nil)
  (ss_cons s_no
  (ss_cons s_no
  (ss_cons s_no
  (ss_cons s_no
  (ss_cons s_no
  (ss_cons s_no
  (ss_cons s_no
  (ss_one s_no))))))))))))
theorem sc__law_is_turn : FnScope N__law_is_turn ["edges", "word", "some", "u", "v"] (defScope s__law_is_turn) := ⟨rfl, rfl, rfl, by decide +kernel, rfl, by decide +kernel, by decide +kernel⟩
theorem D__law_is_turn (T : Txt P K mg) : DefD P w K mg base (miX K mg) 2 "_law_is_turn" 5 F__law_is_turn :=
  FnX.at (n := 5) T.x__law_is_turn hand_f sc__law_is_turn rfl fun f cdv A outer s H E hr tk hp =>
    have sc := sc__law_is_turn
    (ss_cons (s_asg (d_tup (da_cons (d_call (D__law_spots T) (hr.mono (by first | omega | (simp only [Nat.add_eq]; omega))) tk (by rfl) (da_cons (dv 0 (pv 0)) (da_cons (dv 2 (pv 2)) da_nil))) (da_cons (d_call (D__law_spots T) (hr.mono (by first | omega | (simp only [Nat.add_eq]; omega))) tk (by rfl) (da_cons (dv 0 (pv 0)) (da_cons (d_call (D__law_others T) (hr.mono (by first | omega | (simp only [Nat.add_eq]; omega))) tk (by rfl) (da_cons (d_len rfl (by rfl) T.b_len (dv 0 (pv 0))) (da_cons (dv 2 (pv 2)) da_nil))) da_nil))) da_nil))) (g_tup rfl rfl (gs_cons (g_nm (i := 5) sc.nd rfl (by first | exact Or.inl rfl | exact Or.inr rfl)) (gs_cons (g_nm (i := 6) sc.nd rfl (by first | exact Or.inl rfl | exact Or.inr rfl)) gs_nil))))
  (ss_cons (s_setLc fin_f (i := 7) (own := ([("place", 8)] : List (Str × Nat))) (by decide) rfl sc.nd rfl rfl (sw_true rfl rfl rfl (by kernel_rfl)) (i_src rfl (dv 5 (pv 5))) (blkOk_by (by kernel_rfl)) (fun _ _ _ _ _ => (g_nm (i := 8) sc.nd rfl (by first | exact Or.inl rfl | exact Or.inr rfl))) (fun _ _ _ _ _ => (ts_one (t_c (c_in rfl hr.u65) (dv 8 (pv 8)) (dv 6 (pv 6))))) (fun _ _ _ _ _ => (dv 8 (pv 8))))
  (ss_cons (s_if (t_w (w_or (t_not (t_tru rfl (dv 2 (pv 2)))) (w_or1 (t_c (c_eq rfl hr.u64) (dv 3 (pv 3)) (dv 4 (pv 4)))))) (ss_one (s_ret d_bl)) ss_nil)
  (ss_cons (s_if (t_c (c_eq rfl hr.u64) (dv 1 (pv 1)) d_str) (ss_one (s_ret (d_all rfl rfl (by rfl) T.b_all (d_lc fin_f (own := ([("place", 8)] : List (Str × Nat))) (by decide) rfl sc.nd (i_src rfl (dv 7 (pv 7))) (blkOk_by (by kernel_rfl)) (fun _ _ _ _ _ => (g_nm (i := 8) sc.nd rfl (by first | exact Or.inl rfl | exact Or.inr rfl))) (fun _ _ _ _ _ => ts_nil) (fun _ _ _ _ _ => (d_c (c_in rfl hr.u65) (dv 8 (pv 8)) (d_tup (da_cons (dv 3 (pv 3)) (da_cons (dv 4 (pv 4)) da_nil))))))))) ss_nil)
  (ss_one (s_ret (d_andv rfl (d_c (c_in rfl hr.u65) (dv 3 (pv 3)) (dv 5 (pv 5))) (d_andv rfl (d_c (c_notIn rfl hr.u65) (dv 4 (pv 4)) (dv 5 (pv 5))) (d_one (d_all rfl rfl (by rfl) T.b_all (d_lc fin_f (own := ([("place", 8)] : List (Str × Nat))) (by decide) rfl sc.nd (i_src rfl (dv 7 (pv 7))) (blkOk_by (by kernel_rfl)) (fun _ _ _ _ _ => (g_nm (i := 8) sc.nd rfl (by first | exact Or.inl rfl | exact Or.inr rfl))) (fun _ _ _ _ _ => ts_nil) (fun _ _ _ _ _ => (d_c (c_eq rfl hr.u64) (dv 8 (pv 8)) (dv 3 (pv 3)))))))))))))))
theorem sc_told_graph : FnScope N_told_graph ["edges"] (defScope s_told_graph) := ⟨rfl, rfl, rfl, by decide +kernel, rfl, by decide +kernel, by decide +kernel⟩
theorem D_told_graph (T : Txt P K mg) : DefD P w K mg base (miX K mg) 3 "told_graph" 1 F_told_graph :=
  FnX.at (n := 1) T.x_told_graph hand_f sc_told_graph rfl fun f cdv A outer s H E hr tk hp =>
    have sc := sc_told_graph
    (ss_cons (s_if (t_w (w_or (t_not (t_tru rfl (d_call (D_is_row T) (hr.mono (by first | omega | (simp only [Nat.add_eq]; omega))) tk (by rfl) (da_cons (dv 0 (pv 0)) da_nil)))) (w_or1 (t_c c_gt (d_len rfl (by rfl) T.b_len (dv 0 (pv 0))) (d_globD (by rfl) T.k_MOST_EDGES))))) (ss_one (s_raiseF rfl rfl tk T.e_BadGraph hr (by first | decide | omega | (simp only [Nat.add_eq]; omega)) (by rfl) d_non)) ss_nil)
  (ss_cons (s_for hp rfl (i_enumT rfl (by rfl) T.b_enumerate (dv 0 (pv 0))) (g_tup rfl rfl (gs_cons (g_nm (i := 1) sc.nd rfl (by first | exact Or.inl rfl | exact Or.inr rfl)) (gs_cons (g_nm (i := 2) sc.nd rfl (by first | exact Or.inl rfl | exact Or.inr rfl)) gs_nil))) (ss_one (s_if (t_w (w_or (t_not (t_tru rfl (d_call (D_is_row T) (hr.mono (by first | omega | (simp only [Nat.add_eq]; omega))) tk (by rfl) (da_cons (dv 2 (pv 2)) da_nil)))) (w_or (t_c (c_ne rfl hr.u64) (d_len rfl (by rfl) T.b_len (dv 2 (pv 2))) d_int) (w_or1 (t_not (t_tru rfl (d_all rfl rfl (by rfl) T.b_all (d_lc fin_f (own := ([("place", 3)] : List (Str × Nat))) (by decide) rfl sc.nd (i_src rfl (dv 2 (pv 2))) (blkOk_by (by kernel_rfl)) (fun _ _ _ _ _ => (g_nm (i := 3) sc.nd rfl (by first | exact Or.inl rfl | exact Or.inr rfl))) (fun _ _ _ _ _ => ts_nil) (fun _ _ _ _ _ => (d_call (D_is_place T) (hr.mono (by first | omega | (simp only [Nat.add_eq]; omega))) takes0 (by rfl) (da_cons (dv 3 (pv 3)) da_nil))))))))))) (ss_one (s_raiseF rfl rfl tk T.e_BadGraph hr (by first | decide | omega | (simp only [Nat.add_eq]; omega)) (by rfl) (dv 1 (pv 1)))) ss_nil)))
  (ss_one (s_ret (d_tuple rfl (by rfl) T.b_tuple (d_lc fin_f (own := ([("pair", 2)] : List (Str × Nat))) (by decide) rfl sc.nd (i_src rfl (dv 0 (pv 0))) (blkOk_by (by kernel_rfl)) (fun _ _ _ _ _ => (g_nm (i := 2) sc.nd rfl (by first | exact Or.inl rfl | exact Or.inr rfl))) (fun _ _ _ _ _ => ts_nil) (fun _ _ _ _ _ => (d_tuple rfl (by rfl) T.b_tuple (dv 2 (pv 2))))))))))
theorem sc_is_turn : FnScope N_is_turn ["edges", "turn"] (defScope s_is_turn) := ⟨rfl, rfl, rfl, by decide +kernel, rfl, by decide +kernel, by decide +kernel⟩
theorem D_is_turn (T : Txt P K mg) : DefD P w K mg base (miX K mg) 3 "is_turn" 2 F_is_turn :=
  FnX.at (n := 2) T.x_is_turn hand_f sc_is_turn rfl fun f cdv A outer s H E hr tk hp =>
    have sc := sc_is_turn
    (ss_cons (s_if (t_w (w_or (t_not (t_tru rfl (d_call (D_is_row T) (hr.mono (by first | omega | (simp only [Nat.add_eq]; omega))) tk (by rfl) (da_cons (dv 1 (pv 1)) da_nil)))) (w_or (t_c (c_ne rfl hr.u64) (d_len rfl (by rfl) T.b_len (dv 1 (pv 1))) d_int) (w_or (t_not (t_tru rfl (d_isi (T' := "str") rfl (by decide +kernel) (by rfl) T.b_isinstance (d_ix rfl (dv 1 (pv 1)) d_int) (pe_bltn (by rfl) T.b_str (by decide +kernel) rfl)))) (w_or1 (t_c (c_notIn rfl hr.u65) (d_ix rfl (dv 1 (pv 1)) d_int) (d_tup (da_cons d_str (da_cons d_str da_nil))))))))) (ss_one (s_ret d_bl)) ss_nil)
  (ss_cons (s_asg (dv 1 (pv 1)) (g_seq rfl rfl (gs_cons (g_nm (i := 2) sc.nd rfl (by first | exact Or.inl rfl | exact Or.inr rfl)) (gs_cons (g_nm (i := 3) sc.nd rfl (by first | exact Or.inl rfl | exact Or.inr rfl)) (gs_cons (g_nm (i := 4) sc.nd rfl (by first | exact Or.inl rfl | exact Or.inr rfl)) (gs_cons (g_nm (i := 5) sc.nd rfl (by first | exact Or.inl rfl | exact Or.inr rfl)) gs_nil))))))
  (ss_cons (s_if (t_w (w_or (t_not (t_tru rfl (d_call (D_is_set T) (hr.mono (by first | omega | (simp only [Nat.add_eq]; omega))) tk (by rfl) (da_cons (dv 0 (pv 0)) (da_cons (dv 3 (pv 3)) da_nil))))) (w_or (t_not (t_tru rfl (d_call (D_is_place T) (hr.mono (by first | omega | (simp only [Nat.add_eq]; omega))) tk (by rfl) (da_cons (dv 4 (pv 4)) da_nil)))) (w_or (t_not (t_tru rfl (d_call (D_is_place T) (hr.mono (by first | omega | (simp only [Nat.add_eq]; omega))) tk (by rfl) (da_cons (dv 5 (pv 5)) da_nil)))) (w_or1 (t_c (c_eq rfl hr.u64) (dv 4 (pv 4)) (dv 5 (pv 5)))))))) (ss_one (s_ret d_bl)) ss_nil)
  (ss_cons (s_set (i := 6) sc.nd rfl (by first | exact Or.inl rfl | exact Or.inr rfl) (d_call (D_places_of T) (hr.mono (by first | omega | (simp only [Nat.add_eq]; omega))) tk (by rfl) (da_cons (dv 0 (pv 0)) (da_cons (dv 3 (pv 3)) da_nil))))
  (ss_cons (s_set (i := 7) sc.nd rfl (by first | exact Or.inl rfl | exact Or.inr rfl) (d_call (D_places_of T) (hr.mono (by first | omega | (simp only [Nat.add_eq]; omega))) tk (by rfl) (da_cons (dv 0 (pv 0)) (da_cons (d_lc fin_f (own := ([("number", 8)] : List (Str × Nat))) (by decide) rfl sc.nd (i_rg1 (by rfl) T.b_range (d_len rfl (by rfl) T.b_len (dv 0 (pv 0)))) (blkOk_by (by kernel_rfl)) (fun _ _ _ _ _ => (g_nm (i := 8) sc.nd rfl (by first | exact Or.inl rfl | exact Or.inr rfl))) (fun _ _ _ _ _ => (ts_one (t_c (c_notIn rfl hr.u65) (dv 8 (pv 8)) (dv 3 (pv 3))))) (fun _ _ _ _ _ => (dv 8 (pv 8)))) da_nil))))
  (ss_cons (s_setLc fin_f (i := 9) (own := ([("place", 10)] : List (Str × Nat))) (by decide) rfl sc.nd rfl rfl (sw_true rfl rfl rfl (by kernel_rfl)) (i_src rfl (dv 6 (pv 6))) (blkOk_by (by kernel_rfl)) (fun _ _ _ _ _ => (g_nm (i := 10) sc.nd rfl (by first | exact Or.inl rfl | exact Or.inr rfl))) (fun _ _ _ _ _ => (ts_one (t_c (c_in rfl hr.u65) (dv 10 (pv 10)) (dv 7 (pv 7))))) (fun _ _ _ _ _ => (dv 10 (pv 10))))
  (ss_cons (s_if (t_c (c_eq rfl hr.u64) (dv 2 (pv 2)) d_str) (ss_one (s_ret (d_all rfl rfl (by rfl) T.b_all (d_lc fin_f (own := ([("place", 10)] : List (Str × Nat))) (by decide) rfl sc.nd (i_src rfl (dv 9 (pv 9))) (blkOk_by (by kernel_rfl)) (fun _ _ _ _ _ => (g_nm (i := 10) sc.nd rfl (by first | exact Or.inl rfl | exact Or.inr rfl))) (fun _ _ _ _ _ => ts_nil) (fun _ _ _ _ _ => (d_c (c_in rfl hr.u65) (dv 10 (pv 10)) (d_tup (da_cons (dv 4 (pv 4)) (da_cons (dv 5 (pv 5)) da_nil))))))))) ss_nil)
  (ss_one (s_ret (d_andv rfl (d_c (c_in rfl hr.u65) (dv 4 (pv 4)) (dv 6 (pv 6))) (d_andv rfl (d_c (c_notIn rfl hr.u65) (dv 5 (pv 5)) (dv 6 (pv 6))) (d_one (d_all rfl rfl (by rfl) T.b_all (d_lc fin_f (own := ([("place", 10)] : List (Str × Nat))) (by decide) rfl sc.nd (i_src rfl (dv 9 (pv 9))) (blkOk_by (by kernel_rfl)) (fun _ _ _ _ _ => (g_nm (i := 10) sc.nd rfl (by first | exact Or.inl rfl | exact Or.inr rfl))) (fun _ _ _ _ _ => ts_nil) (fun _ _ _ _ _ => (d_c (c_eq rfl hr.u64) (dv 10 (pv 10)) (dv 4 (pv 4))))))))))))))))))
theorem sc__law_all_turns : FnScope N__law_all_turns ["edges", "spots"] (defScope s__law_all_turns) := ⟨rfl, rfl, rfl, by decide +kernel, rfl, by decide +kernel, by decide +kernel⟩
theorem D__law_all_turns (T : Txt P K mg) : DefD P w K mg base (miX K mg) 3 "_law_all_turns" 2 F__law_all_turns :=
  FnX.at (n := 2) T.x__law_all_turns hand_f sc__law_all_turns rfl fun f cdv A outer s H E hr tk hp =>
    have sc := sc__law_all_turns
    (ss_cons (s_set (i := 2) sc.nd rfl (by first | exact Or.inl rfl | exact Or.inr rfl) (d_lst fin_c da_nil))
  (ss_cons (s_for hp rfl (i_src rfl (d_call (D__law_all_sets T) (hr.mono (by first | omega | (simp only [Nat.add_eq]; omega))) tk (by rfl) (da_cons (d_len rfl (by rfl) T.b_len (dv 0 (pv 0))) da_nil))) (g_nm (i := 3) sc.nd rfl (by first | exact Or.inl rfl | exact Or.inr rfl)) (ss_one (s_for hp rfl (i_src rfl (dv 1 (pv 1))) (g_nm (i := 4) sc.nd rfl (by first | exact Or.inl rfl | exact Or.inr rfl)) (ss_one (s_for hp rfl (i_src rfl (dv 1 (pv 1))) (g_nm (i := 5) sc.nd rfl (by first | exact Or.inl rfl | exact Or.inr rfl)) (ss_one (s_for hp rfl (i_src rfl (d_tup (da_cons d_str (da_cons d_str da_nil)))) (g_nm (i := 6) sc.nd rfl (by first | exact Or.inl rfl | exact Or.inr rfl)) (ss_one (s_if (t_tru rfl (d_call (D__law_is_turn T) (hr.mono (by first | omega | (simp only [Nat.add_eq]; omega))) tk (by rfl) (da_cons (dv 0 (pv 0)) (da_cons (dv 6 (pv 6)) (da_cons (dv 3 (pv 3)) (da_cons (dv 4 (pv 4)) (da_cons (dv 5 (pv 5)) da_nil))))))) (ss_one (s_expr (d_append rfl (dv 2 (pv 2)) (d_tup (da_cons (dv 6 (pv 6)) (da_cons (dv 3 (pv 3)) (da_cons (dv 4 (pv 4)) (da_cons (dv 5 (pv 5)) da_nil)))))))) ss_nil)))))))))
  (ss_one (s_ret (dv 2 (pv 2))))))
theorem sc_turned : FnScope N_turned ["edges", "turn"] (defScope s_turned) := ⟨rfl, rfl, rfl, by decide +kernel, rfl, by decide +kernel, by decide +kernel⟩
theorem D_turned (T : Txt P K mg) : DefD P w K mg base (miX K mg) 4 "turned" 2 F_turned :=
  FnX.at (n := 2) T.x_turned hand_f sc_turned rfl fun f cdv A outer s H E hr tk hp =>
    have sc := sc_turned
    (ss_cons (s_set (i := 2) sc.nd rfl (by first | exact Or.inl rfl | exact Or.inr rfl) (d_call (D_told_graph T) (hr.mono (by first | omega | (simp only [Nat.add_eq]; omega))) tk (by rfl) (da_cons (dv 0 (pv 0)) da_nil)))
  (ss_cons (s_if (t_not (t_tru rfl (d_call (D_is_turn T) (hr.mono (by first | omega | (simp only [Nat.add_eq]; omega))) tk (by rfl) (da_cons (dv 2 (pv 2)) (da_cons (dv 1 (pv 1)) da_nil))))) (ss_one (s_raise rfl tk T.e_BadTurn (by rfl))) ss_nil)
  (ss_one (s_ret (d_call (D_made T) (hr.mono (by first | omega | (simp only [Nat.add_eq]; omega))) tk (by rfl) (da_cons (dv 2 (pv 2)) (da_cons (dv 1 (pv 1)) da_nil)))))))
theorem sc__law_take : FnScope N__law_take ["pool", "many"] (defScope s__law_take) := ⟨rfl, rfl, rfl, by decide +kernel, rfl, by decide +kernel, by decide +kernel⟩
theorem D__law_take_at (T : Txt P K mg) : ∀ m : Nat, DefD P w K mg base (miX K mg) (1 + m) "_law_take" 2 (F__law_take_at m)
  | 0 => FnX.no T.x__law_take rfl
  | m + 1 => FnX.at (n := 2) T.x__law_take hand_f sc__law_take rfl fun f cdv A outer s H E hr tk hp =>
    have sc := sc__law_take
    have IH := D__law_take_at T m
    (ss_cons (s_if (t_c c_gt (d_ix rfl (dv 0 (pv 0)) d_int) d_int) (ss_cons (s_set (i := 2) sc.nd rfl (by first | exact Or.inl rfl | exact Or.inr rfl) (d_mod (d_int1 (by rfl) T.b_int (d_ix rfl (dv 0 (pv 0)) d_int)) (dv 1 (pv 1))))
  (ss_cons (s_asg (d_div (d_ix rfl (dv 0 (pv 0)) d_int) (dv 1 (pv 1))) (g_sub (W := DL.wE E) (dv 0 (pv 0)) d_int))
  (ss_one (s_ret (dv 2 (pv 2)))))) ss_nil)
  (ss_cons (s_set (i := 3) sc.nd rfl (by first | exact Or.inl rfl | exact Or.inr rfl) d_int)
  (ss_cons (s_if (t_c c_lt (d_ix rfl (dv 0 (pv 0)) d_int) (d_len rfl (by rfl) T.b_len (d_ix rfl (dv 0 (pv 0)) d_int))) (ss_one (s_set (i := 3) sc.nd rfl (by first | exact Or.inl rfl | exact Or.inr rfl) (d_ix rfl (d_ix rfl (dv 0 (pv 0)) d_int) (d_ix rfl (dv 0 (pv 0)) d_int)))) ss_nil)
  (ss_cons (s_asg (d_add rfl fin_f (d_ix rfl (dv 0 (pv 0)) d_int) d_int) (g_sub (W := DL.wE E) (dv 0 (pv 0)) d_int))
  (ss_cons (s_if (t_c c_ge (dv 3 (pv 3)) (d_pow d_int d_int)) (ss_cons (s_asg (d_div (dv 3 (pv 3)) d_int) (g_sub (W := DL.wE E) (dv 0 (pv 0)) d_int))
  (ss_one (s_ret (d_call IH (hr.mono (by first | omega | (simp only [Nat.add_eq]; omega))) tk (by rfl) (da_cons (dv 0 (pv 0)) (da_cons (dv 1 (pv 1)) da_nil)))))) ss_nil)
  (ss_cons (s_asg (d_mod (d_int1 (by rfl) T.b_int (d_add rfl fin_f (d_add rfl fin_f (d_mul fin_f (d_ix rfl (dv 0 (pv 0)) d_int) d_int) (d_mul fin_f (dv 3 (pv 3)) d_int)) (d_mul fin_f (d_ix rfl (dv 0 (pv 0)) d_int) d_int))) d_int) (g_sub (W := DL.wE E) (dv 0 (pv 0)) d_int))
  (ss_cons (s_set (i := 4) sc.nd rfl (by first | exact Or.inl rfl | exact Or.inr rfl) (d_mod (d_int1 (by rfl) T.b_int (d_add rfl fin_f (d_add rfl fin_f (d_mul fin_f (d_ix rfl (dv 0 (pv 0)) d_int) (d_ix rfl (dv 0 (pv 0)) d_int)) (d_mul fin_f (d_ix rfl (dv 0 (pv 0)) d_int) d_int)) d_int)) d_int))
  (ss_one (s_ret (d_mod (d_int1 (by rfl) T.b_int (d_div (dv 4 (pv 4)) d_int)) (dv 1 (pv 1))))))))))))
theorem D__law_take (T : Txt P K mg) : DefD P w K mg base (miX K mg) 4 "_law_take" 2 F__law_take := DefD.mono (j := 4) (D__law_take_at T 3) (by decide)
theorem sc__law_pick : FnScope N__law_pick ["pool", "rows"] (defScope s__law_pick) := ⟨rfl, rfl, rfl, by decide +kernel, rfl, by decide +kernel, by decide +kernel⟩
theorem D__law_pick (T : Txt P K mg) : DefD P w K mg base (miX K mg) 5 "_law_pick" 2 F__law_pick :=
  FnX.at (n := 2) T.x__law_pick hand_f sc__law_pick rfl fun f cdv A outer s H E hr tk hp =>
    have sc := sc__law_pick
    (ss_one (s_ret (d_ix rfl (dv 1 (pv 1)) (d_call (D__law_take T) (hr.mono (by first | omega | (simp only [Nat.add_eq]; omega))) tk (by rfl) (da_cons (dv 0 (pv 0)) (da_cons (d_len rfl (by rfl) T.b_len (dv 1 (pv 1))) da_nil))))))
theorem sc__law_order : FnScope N__law_order ["pool", "many"] (defScope s__law_order) := ⟨rfl, rfl, rfl, by decide +kernel, rfl, by decide +kernel, by decide +kernel⟩
theorem D__law_order (T : Txt P K mg) : DefD P w K mg base (miX K mg) 5 "_law_order" 2 F__law_order :=
  FnX.at (n := 2) T.x__law_order hand_f sc__law_order rfl fun f cdv A outer s H E hr tk hp =>
    have sc := sc__law_order
    (ss_cons (s_set (i := 2) sc.nd rfl (by first | exact Or.inl rfl | exact Or.inr rfl) (d_lstRg fin_c rfl (by rfl) T.b_list (drg1 (by rfl) T.b_range (dv 1 (pv 1)))))
  (ss_cons (s_set (i := 3) sc.nd rfl (by first | exact Or.inl rfl | exact Or.inr rfl) (d_tup da_nil))
  (ss_cons (s_for hp rfl (i_rg1 (by rfl) T.b_range (dv 1 (pv 1))) (g_nm (i := 4) sc.nd rfl (by first | exact Or.inl rfl | exact Or.inr rfl)) (ss_one (s_set (i := 3) sc.nd rfl (by first | exact Or.inl rfl | exact Or.inr rfl) (d_add rfl fin_f (dv 3 (pv 3)) (d_tup (da_cons (d_popAt rfl (dv 2 (pv 2)) (d_call (D__law_take T) (hr.mono (by first | omega | (simp only [Nat.add_eq]; omega))) tk (by rfl) (da_cons (dv 0 (pv 0)) (da_cons (d_len rfl (by rfl) T.b_len (dv 2 (pv 2))) da_nil)))) da_nil))))))
  (ss_one (s_ret (dv 3 (pv 3)))))))
theorem sc__law_given : FnScope N__law_given ["pool", "row"] (defScope s__law_given) := ⟨rfl, rfl, rfl, by decide +kernel, rfl, by decide +kernel, by decide +kernel⟩
theorem D__law_given (T : Txt P K mg) : DefD P w K mg base (miX K mg) 5 "_law_given" 2 F__law_given :=
  FnX.at (n := 2) T.x__law_given hand_f sc__law_given rfl fun f cdv A outer s H E hr tk hp =>
    have sc := sc__law_given
    (ss_one (s_ret (d_if (t_c (c_eq rfl hr.u64) (d_call (D__law_take T) (hr.mono (by first | omega | (simp only [Nat.add_eq]; omega))) tk (by rfl) (da_cons (dv 0 (pv 0)) (da_cons d_int da_nil))) d_int) (d_list rfl fin_f (by rfl) T.b_list (dv 1 (pv 1))) (d_tuple rfl (by rfl) T.b_tuple (dv 1 (pv 1))))))
theorem sc__law_fault : FnScope N__law_fault ["edges", "turn"] (defScope s__law_fault) := ⟨rfl, rfl, rfl, by decide +kernel, rfl, by decide +kernel, by decide +kernel⟩
theorem D__law_fault (T : Txt P K mg) : DefD P w K mg base (miX K mg) 5 "_law_fault" 2 F__law_fault :=
  FnX.at (n := 2) T.x__law_fault hand_f sc__law_fault rfl fun f cdv A outer s H E hr tk hp =>
    have sc := sc__law_fault
    (ss_cons (s_tryRetsE rfl rfl sc.nd tk (fun W1 pn1 xe1 tk1 hp1 => (ss_one (s_expr (d_call (D_turned T) (hr.mono (by first | omega | (simp only [Nat.add_eq]; omega))) tk1 (by rfl) (da_cons (dv 0 (pv 0)) (da_cons (dv 1 (pv 1)) da_nil)))))) (RetOk.more (i := 2) rfl rfl T.c_BadGraph (by rfl) (fun xa xoe xcls xd xpn x hz hf => (di_tup (dai_cons (di_lift d_str) (dai_cons (di_xg rfl T.f_number hz hf (pv 2)) (dai_cons (di_isF rfl T.i_MatroidError hz hf (by rfl) T.b_isinstance (by rfl) (by decide) (pv 2)) (dai_cons (di_isF rfl T.i_BadTurn hz hf (by rfl) T.b_isinstance (by rfl) (by decide) (pv 2)) dai_nil)))))) (RetOk.more (i := 2) rfl rfl T.c_BadTurn (by rfl) (fun xa xoe xcls xd xpn x hz hf => (di_tup (dai_cons (di_lift d_str) (dai_cons (di_isF rfl T.i_MatroidError hz hf (by rfl) T.b_isinstance (by rfl) (by decide) (pv 2)) (dai_cons (di_isF rfl T.i_BadGraph hz hf (by rfl) T.b_isinstance (by rfl) (by decide) (pv 2)) dai_nil))))) RetOk.none)))
  (ss_one (s_ret (d_tup (da_cons d_str da_nil)))))
theorem sc__law_edges : FnScope N__law_edges ["pool", "most"] (defScope s__law_edges) := ⟨rfl, rfl, rfl, by decide +kernel, rfl, by decide +kernel, by decide +kernel⟩
theorem D__law_edges (T : Txt P K mg) : DefD P w K mg base (miX K mg) 6 "_law_edges" 2 F__law_edges :=
  FnX.at (n := 2) T.x__law_edges hand_f sc__law_edges rfl fun f cdv A outer s H E hr tk hp =>
    have sc := sc__law_edges
    (ss_cons (s_asg (d_tup (da_cons (d_call (D__law_take T) (hr.mono (by first | omega | (simp only [Nat.add_eq]; omega))) tk (by rfl) (da_cons (dv 0 (pv 0)) (da_cons (d_add rfl fin_f (dv 1 (pv 1)) d_int) da_nil))) (da_cons (d_add rfl fin_f d_int (d_call (D__law_take T) (hr.mono (by first | omega | (simp only [Nat.add_eq]; omega))) tk (by rfl) (da_cons (dv 0 (pv 0)) (da_cons d_int da_nil)))) da_nil))) (g_tup rfl rfl (gs_cons (g_nm (i := 2) sc.nd rfl (by first | exact Or.inl rfl | exact Or.inr rfl)) (gs_cons (g_nm (i := 3) sc.nd rfl (by first | exact Or.inl rfl | exact Or.inr rfl)) gs_nil))))
  (ss_cons (s_asg (d_tup (da_cons (d_call (D__law_take T) (hr.mono (by first | omega | (simp only [Nat.add_eq]; omega))) tk (by rfl) (da_cons (dv 0 (pv 0)) (da_cons d_int da_nil))) (da_cons (d_add rfl fin_f d_int (d_call (D__law_take T) (hr.mono (by first | omega | (simp only [Nat.add_eq]; omega))) tk (by rfl) (da_cons (dv 0 (pv 0)) (da_cons d_int da_nil)))) da_nil))) (g_tup rfl rfl (gs_cons (g_nm (i := 4) sc.nd rfl (by first | exact Or.inl rfl | exact Or.inr rfl)) (gs_cons (g_nm (i := 5) sc.nd rfl (by first | exact Or.inl rfl | exact Or.inr rfl)) gs_nil))))
  (ss_cons (s_set (i := 6) sc.nd rfl (by first | exact Or.inl rfl | exact Or.inr rfl) (d_call (D__law_order T) (hr.mono (by first | omega | (simp only [Nat.add_eq]; omega))) tk (by rfl) (da_cons (dv 0 (pv 0)) (da_cons (dv 3 (pv 3)) da_nil))))
  (ss_one (s_ret (d_tuple rfl (by rfl) T.b_tuple (d_lc fin_f (own := ([("e", 7)] : List (Str × Nat))) (by decide) rfl sc.nd (i_rg1 (by rfl) T.b_range (dv 2 (pv 2))) (blkOk_by (by kernel_rfl)) (fun _ _ _ _ _ => (g_nm (i := 7) sc.nd rfl (by first | exact Or.inl rfl | exact Or.inr rfl))) (fun _ _ _ _ _ => ts_nil) (fun _ _ _ _ _ => (d_tup (da_cons (d_add rfl fin_f (dv 4 (pv 4)) (d_mul fin_f (dv 5 (pv 5)) (d_ix rfl (dv 6 (pv 6)) (d_call (D__law_take T) (hr.mono (by first | omega | (simp only [Nat.add_eq]; omega))) takes0 (by rfl) (da_cons (dv 0 (pv 0)) (da_cons (dv 3 (pv 3)) da_nil)))))) (da_cons (d_add rfl fin_f (dv 4 (pv 4)) (d_mul fin_f (dv 5 (pv 5)) (d_ix rfl (dv 6 (pv 6)) (d_call (D__law_take T) (hr.mono (by first | omega | (simp only [Nat.add_eq]; omega))) takes0 (by rfl) (da_cons (dv 0 (pv 0)) (da_cons (dv 3 (pv 3)) da_nil)))))) da_nil)))))))))))
theorem sc__law_same : FnScope N__law_same ["actual", "due"] (defScope s__law_same) := ⟨rfl, rfl, rfl, by decide +kernel, rfl, by decide +kernel, by decide +kernel⟩
theorem D__law_same_at (T : Txt P K mg) : ∀ m : Nat, DefD P w K mg base (miX K mg) (2 + m) "_law_same" 2 (F__law_same_at m)
  | 0 => FnX.no T.x__law_same rfl
  | m + 1 => FnX.at (n := 2) T.x__law_same hand_f sc__law_same rfl fun f cdv A outer s H E hr tk hp =>
    have sc := sc__law_same
    have IH := D__law_same_at T m
    (ss_cons (s_if (t_tru rfl (d_isi (T' := "tuple") rfl (by decide +kernel) (by rfl) T.b_isinstance (dv 1 (pv 1)) (pe_bltn (by rfl) T.b_tuple (by decide +kernel) rfl))) (ss_cons (s_if (t_w (w_or (t_not (t_tru rfl (d_isi (T' := "tuple") rfl (by decide +kernel) (by rfl) T.b_isinstance (dv 0 (pv 0)) (pe_bltn (by rfl) T.b_tuple (by decide +kernel) rfl)))) (w_or1 (t_c (c_ne rfl hr.u64) (d_len rfl (by rfl) T.b_len (dv 0 (pv 0))) (d_len rfl (by rfl) T.b_len (dv 1 (pv 1))))))) (ss_one (s_ret d_bl)) ss_nil)
  (ss_one (s_ret (d_all rfl rfl (by rfl) T.b_all (d_lc fin_f (own := ([("k", 2)] : List (Str × Nat))) (by decide) rfl sc.nd (i_rg1 (by rfl) T.b_range (d_len rfl (by rfl) T.b_len (dv 1 (pv 1)))) (blkOk_by (by kernel_rfl)) (fun _ _ _ _ _ => (g_nm (i := 2) sc.nd rfl (by first | exact Or.inl rfl | exact Or.inr rfl))) (fun _ _ _ _ _ => ts_nil) (fun _ _ _ _ _ => (d_call IH (hr.mono (by first | omega | (simp only [Nat.add_eq]; omega))) takes0 (by rfl) (da_cons (d_ix rfl (dv 0 (pv 0)) (dv 2 (pv 2))) (da_cons (d_ix rfl (dv 1 (pv 1)) (dv 2 (pv 2))) da_nil))))))))) ss_nil)
  (ss_cons (s_if (t_tru rfl (d_isi (T' := "list") rfl (by decide +kernel) (by rfl) T.b_isinstance (dv 1 (pv 1)) (pe_bltn (by rfl) T.b_list (by decide +kernel) rfl))) (ss_cons (s_if (t_w (w_or (t_not (t_tru rfl (d_isi (T' := "list") rfl (by decide +kernel) (by rfl) T.b_isinstance (dv 0 (pv 0)) (pe_bltn (by rfl) T.b_list (by decide +kernel) rfl)))) (w_or1 (t_c (c_ne rfl hr.u64) (d_len rfl (by rfl) T.b_len (dv 0 (pv 0))) (d_len rfl (by rfl) T.b_len (dv 1 (pv 1))))))) (ss_one (s_ret d_bl)) ss_nil)
  (ss_one (s_ret (d_all rfl rfl (by rfl) T.b_all (d_lc fin_f (own := ([("k", 2)] : List (Str × Nat))) (by decide) rfl sc.nd (i_rg1 (by rfl) T.b_range (d_len rfl (by rfl) T.b_len (dv 1 (pv 1)))) (blkOk_by (by kernel_rfl)) (fun _ _ _ _ _ => (g_nm (i := 2) sc.nd rfl (by first | exact Or.inl rfl | exact Or.inr rfl))) (fun _ _ _ _ _ => ts_nil) (fun _ _ _ _ _ => (d_call IH (hr.mono (by first | omega | (simp only [Nat.add_eq]; omega))) takes0 (by rfl) (da_cons (d_ix rfl (dv 0 (pv 0)) (dv 2 (pv 2))) (da_cons (d_ix rfl (dv 1 (pv 1)) (dv 2 (pv 2))) da_nil))))))))) ss_nil)
  (ss_cons (s_if (t_c c_is (dv 1 (pv 1)) d_non) (ss_one (s_ret (d_c c_is (dv 0 (pv 0)) d_non))) ss_nil)
  (ss_cons (s_if (t_tru rfl (d_isi (T' := "bool") rfl (by decide +kernel) (by rfl) T.b_isinstance (dv 1 (pv 1)) (pe_bltn (by rfl) T.b_bool (by decide +kernel) rfl))) (ss_one (s_ret (d_andv rfl (d_isi (T' := "bool") rfl (by decide +kernel) (by rfl) T.b_isinstance (dv 0 (pv 0)) (pe_bltn (by rfl) T.b_bool (by decide +kernel) rfl)) (d_one (d_c (c_eq rfl hr.u64) (dv 0 (pv 0)) (dv 1 (pv 1))))))) ss_nil)
  (ss_cons (s_if (t_tru rfl (d_isi (T' := "str") rfl (by decide +kernel) (by rfl) T.b_isinstance (dv 1 (pv 1)) (pe_bltn (by rfl) T.b_str (by decide +kernel) rfl))) (ss_one (s_ret (d_andv rfl (d_isi (T' := "str") rfl (by decide +kernel) (by rfl) T.b_isinstance (dv 0 (pv 0)) (pe_bltn (by rfl) T.b_str (by decide +kernel) rfl)) (d_one (d_c (c_eq rfl hr.u64) (dv 0 (pv 0)) (dv 1 (pv 1))))))) ss_nil)
  (ss_one (s_ret (d_andv rfl (d_call (D__law_is_integer T) (hr.mono (by first | omega | (simp only [Nat.add_eq]; omega))) tk (by rfl) (da_cons (dv 0 (pv 0)) da_nil)) (d_one (d_c (c_eq rfl hr.u64) (dv 0 (pv 0)) (dv 1 (pv 1))))))))))))
theorem D__law_same (T : Txt P K mg) : DefD P w K mg base (miX K mg) 8 "_law_same" 2 F__law_same := DefD.mono (j := 8) (D__law_same_at T 6) (by decide)
theorem sc__law_always : FnScope N__law_always [] (defScope s__law_always) := ⟨rfl, rfl, rfl, by decide +kernel, rfl, by decide +kernel, by decide +kernel⟩
theorem D__law_always (T : Txt P K mg) : DefD P w K mg base (miX K mg) 9 "_law_always" 0 F__law_always :=
  FnX.at (n := 0) T.x__law_always hand_f sc__law_always rfl fun f cdv A outer s H E hr tk hp =>
    have sc := sc__law_always
    (ss_cons (s_asg (d_tup (da_cons (d_tup (da_cons (d_tup (da_cons d_int (da_cons d_int da_nil))) (da_cons (d_tup (da_cons d_int (da_cons d_int da_nil))) (da_cons (d_tup (da_cons d_int (da_cons d_int da_nil))) (da_cons (d_tup (da_cons d_int (da_cons d_int da_nil))) da_nil))))) (da_cons (d_tup (da_cons (d_tup (da_cons d_int (da_cons d_int da_nil))) (da_cons (d_tup (da_cons d_int (da_cons d_int da_nil))) da_nil))) da_nil))) (g_tup rfl rfl (gs_cons (g_nm (i := 0) sc.nd rfl (by first | exact Or.inl rfl | exact Or.inr rfl)) (gs_cons (g_nm (i := 1) sc.nd rfl (by first | exact Or.inl rfl | exact Or.inr rfl)) gs_nil))))
  (ss_cons (s_set (i := 2) sc.nd rfl (by first | exact Or.inl rfl | exact Or.inr rfl) (d_tup (da_cons (d_call (D_turned T) (hr.mono (by first | omega | (simp only [Nat.add_eq]; omega))) tk (by rfl) (da_cons (dv 0 (pv 0)) (da_cons (d_tup (da_cons d_str (da_cons (d_tup (da_cons d_int (da_cons d_int da_nil))) (da_cons d_int (da_cons d_int da_nil))))) da_nil))) (da_cons (d_call (D_turned T) (hr.mono (by first | omega | (simp only [Nat.add_eq]; omega))) tk (by rfl) (da_cons (dv 1 (pv 1)) (da_cons (d_tup (da_cons d_str (da_cons (d_tup (da_cons d_int da_nil)) (da_cons d_int (da_cons d_int da_nil))))) da_nil))) (da_cons (d_call (D_turned T) (hr.mono (by first | omega | (simp only [Nat.add_eq]; omega))) tk (by rfl) (da_cons (dv 1 (pv 1)) (da_cons (d_lst fin_f (da_cons d_str (da_cons (d_lst fin_f (da_cons d_int (da_cons d_int da_nil))) (da_cons d_int (da_cons d_int da_nil))))) da_nil))) da_nil)))))
  (ss_cons (s_if (t_not (t_tru rfl (d_call (D__law_same T) (hr.mono (by first | omega | (simp only [Nat.add_eq]; omega))) tk (by rfl) (da_cons (dv 2 (pv 2)) (da_cons (d_tup (da_cons (d_tup (da_cons (d_tup (da_cons d_int (da_cons d_int da_nil))) (da_cons (d_tup (da_cons d_int (da_cons d_int da_nil))) (da_cons (d_tup (da_cons d_int (da_cons d_int da_nil))) (da_cons (d_tup (da_cons d_int (da_cons d_int da_nil))) da_nil))))) (da_cons (d_tup (da_cons (d_tup (da_cons d_int (da_cons d_int da_nil))) (da_cons (d_tup (da_cons d_int (da_cons d_int da_nil))) da_nil))) (da_cons (d_tup (da_cons (d_tup (da_cons d_int (da_cons d_int da_nil))) (da_cons (d_tup (da_cons d_int (da_cons d_int da_nil))) da_nil))) da_nil)))) da_nil))))) (ss_one (s_ret d_bl)) ss_nil)
  (ss_cons (s_set (i := 3) sc.nd rfl (by first | exact Or.inl rfl | exact Or.inr rfl) (d_lst fin_f (da_cons (d_tup (da_cons d_str (da_cons (d_tup (da_cons d_int da_nil)) (da_cons d_int (da_cons d_int da_nil))))) (da_cons (d_tup (da_cons d_str (da_cons (d_tup (da_cons d_int da_nil)) (da_cons d_int (da_cons d_int da_nil))))) (da_cons (d_tup (da_cons d_str (da_cons (d_tup (da_cons d_int da_nil)) (da_cons d_int (da_cons d_int da_nil))))) (da_cons (d_tup (da_cons d_str (da_cons (d_tup (da_cons d_int da_nil)) (da_cons d_int (da_cons d_int da_nil))))) (da_cons (d_tup (da_cons d_str (da_cons (d_tup (da_cons d_int da_nil)) (da_cons d_int (da_cons d_int da_nil))))) (da_cons (d_tup (da_cons d_str (da_cons (d_tup da_nil) (da_cons d_int (da_cons d_int da_nil))))) (da_cons (d_tup (da_cons d_str (da_cons (d_tup (da_cons d_int (da_cons d_int da_nil))) (da_cons d_int (da_cons d_int da_nil))))) (da_cons (d_tup (da_cons d_str (da_cons (d_tup (da_cons d_int da_nil)) (da_cons d_int (da_cons d_int da_nil))))) da_nil))))))))))
  (ss_one (s_ret (d_all rfl rfl (by rfl) T.b_all (d_lc fin_f (own := ([("turn", 4)] : List (Str × Nat))) (by decide) rfl sc.nd (i_src rfl (dv 3 (pv 3))) (blkOk_by (by kernel_rfl)) (fun _ _ _ _ _ => (g_nm (i := 4) sc.nd rfl (by first | exact Or.inl rfl | exact Or.inr rfl))) (fun _ _ _ _ _ => ts_nil) (fun _ _ _ _ _ => (d_call (D__law_same T) (hr.mono (by first | omega | (simp only [Nat.add_eq]; omega))) takes0 (by rfl) (da_cons (d_call (D__law_fault T) (hr.mono (by first | omega | (simp only [Nat.add_eq]; omega))) takes0 (by rfl) (da_cons (dv 1 (pv 1)) (da_cons (dv 4 (pv 4)) da_nil))) (da_cons (d_tup (da_cons d_str (da_cons d_bl (da_cons d_bl da_nil)))) da_nil))))))))))))
theorem sc_law : FnScope N_law ["script"] (defScope s_law) := ⟨rfl, rfl, rfl, by decide +kernel, rfl, by decide +kernel, by decide +kernel⟩
theorem D_law (T : Txt P K mg) {f : Addr} {fd : FuncData} (Fn : Fun K "law" "law" s_law f fd) : FnOk P w K mg base (L2.CX P w) 10 f fd ["script"] (spD (miX K mg) 1 F_law) :=
  def_c hand_f Fn sc_law rfl fun cdv A outer s H E hr tk hp =>
    have sc := sc_law
    (ss_cons (s_set (i := 1) sc.nd rfl (by first | exact Or.inl rfl | exact Or.inr rfl) (d_call (D__law_pool T) (hr.mono (by first | omega | (simp only [Nat.add_eq]; omega))) tk (by rfl) (da_cons (dv 0 (pv 0)) da_nil)))
  (ss_cons (s_if (t_not (t_tru rfl (d_call0 (D__law_always T) (hr.mono (by first | omega | (simp only [Nat.add_eq]; omega))) (by rfl)))) (ss_one (s_ret d_bl)) ss_nil)
  (ss_cons (s_for hp rfl (i_rg1 (by rfl) T.b_range d_int) (g_nm (i := 2) sc.nd rfl (by first | exact Or.inl rfl | exact Or.inr rfl)) (ss_cons (s_set (i := 3) sc.nd rfl (by first | exact Or.inl rfl | exact Or.inr rfl) (d_call (D__law_edges T) (hr.mono (by first | omega | (simp only [Nat.add_eq]; omega))) tk (by rfl) (da_cons (dv 1 (pv 1)) (da_cons d_int da_nil))))
  (ss_cons (s_par (i := 4) (j := 5) rfl sc.nd rfl rfl (by decide) rfl rfl (da_cons (d_len rfl (by rfl) T.b_len (dv 3 (pv 3))) (da_cons (d_call (D__law_spots T) (hr.mono (by first | omega | (simp only [Nat.add_eq]; omega))) tk (by rfl) (da_cons (dv 3 (pv 3)) (da_cons (d_lstRg fin_f rfl (by rfl) T.b_list (drg1 (by rfl) T.b_range (d_len rfl (by rfl) T.b_len (dv 3 (pv 3))))) da_nil))) da_nil)) (by rfl))
  (ss_cons (s_set (i := 5) sc.nd rfl (by first | exact Or.inl rfl | exact Or.inr rfl) (d_add rfl fin_f (d_sl rfl fin_f (dv 5 (pv 5)) do_none (do_some d_int)) (d_lst fin_f (da_cons (d_add rfl fin_f d_int (d_call (D__law_take T) (hr.mono (by first | omega | (simp only [Nat.add_eq]; omega))) tk (by rfl) (da_cons (dv 1 (pv 1)) (da_cons d_int da_nil)))) da_nil))))
  (ss_cons (s_set (i := 6) sc.nd rfl (by first | exact Or.inl rfl | exact Or.inr rfl) (d_call (D__law_all_turns T) (hr.mono (by first | omega | (simp only [Nat.add_eq]; omega))) tk (by rfl) (da_cons (dv 3 (pv 3)) (da_cons (dv 5 (pv 5)) da_nil))))
  (ss_cons (s_set (i := 7) sc.nd rfl (by first | exact Or.inl rfl | exact Or.inr rfl) (d_ix rfl (d_call (D__law_ranks T) (hr.mono (by first | omega | (simp only [Nat.add_eq]; omega))) tk (by rfl) (da_cons (d_tup (da_cons d_str (da_cons d_int (da_cons (dv 3 (pv 3)) da_nil)))) da_nil)) d_int))
  (ss_cons (s_for hp rfl (i_rg1 (by rfl) T.b_range d_int) (g_nm (i := 8) sc.nd rfl (by first | exact Or.inl rfl | exact Or.inr rfl)) (ss_one (s_if (t_tru rfl (dv 6 (pv 6))) (ss_cons (s_asg (d_call (D__law_pick T) (hr.mono (by first | omega | (simp only [Nat.add_eq]; omega))) tk (by rfl) (da_cons (dv 1 (pv 1)) (da_cons (dv 6 (pv 6)) da_nil))) (g_tup rfl rfl (gs_cons (g_nm (i := 9) sc.nd rfl (by first | exact Or.inl rfl | exact Or.inr rfl)) (gs_cons (g_nm (i := 10) sc.nd rfl (by first | exact Or.inl rfl | exact Or.inr rfl)) (gs_cons (g_nm (i := 11) sc.nd rfl (by first | exact Or.inl rfl | exact Or.inr rfl)) (gs_cons (g_nm (i := 12) sc.nd rfl (by first | exact Or.inl rfl | exact Or.inr rfl)) gs_nil))))))
  (ss_cons (s_set (i := 13) sc.nd rfl (by first | exact Or.inl rfl | exact Or.inr rfl) (d_call (D__law_turned T) (hr.mono (by first | omega | (simp only [Nat.add_eq]; omega))) tk (by rfl) (da_cons (dv 3 (pv 3)) (da_cons (dv 9 (pv 9)) (da_cons (dv 10 (pv 10)) (da_cons (dv 11 (pv 11)) (da_cons (dv 12 (pv 12)) da_nil)))))))
  (ss_cons (s_setLc fin_f (i := 14) (own := ([("k", 15)] : List (Str × Nat))) (by decide) rfl sc.nd rfl rfl (sw_true rfl rfl rfl (by kernel_rfl)) (i_src rfl (d_call (D__law_order T) (hr.mono (by first | omega | (simp only [Nat.add_eq]; omega))) tk (by rfl) (da_cons (dv 1 (pv 1)) (da_cons (d_len rfl (by rfl) T.b_len (dv 10 (pv 10))) da_nil)))) (blkOk_by (by kernel_rfl)) (fun _ _ _ _ _ => (g_nm (i := 15) sc.nd rfl (by first | exact Or.inl rfl | exact Or.inr rfl))) (fun _ _ _ _ _ => ts_nil) (fun _ _ _ _ _ => (d_ix rfl (dv 10 (pv 10)) (dv 15 (pv 15)))))
  (ss_cons (s_set (i := 16) sc.nd rfl (by first | exact Or.inl rfl | exact Or.inr rfl) (d_call (D_turned T) (hr.mono (by first | omega | (simp only [Nat.add_eq]; omega))) tk (by rfl) (da_cons (d_call (D__law_given T) (hr.mono (by first | omega | (simp only [Nat.add_eq]; omega))) tk (by rfl) (da_cons (dv 1 (pv 1)) (da_cons (d_lc fin_f (own := ([("pair", 17)] : List (Str × Nat))) (by decide) rfl sc.nd (i_src rfl (dv 3 (pv 3))) (blkOk_by (by kernel_rfl)) (fun _ _ _ _ _ => (g_nm (i := 17) sc.nd rfl (by first | exact Or.inl rfl | exact Or.inr rfl))) (fun _ _ _ _ _ => ts_nil) (fun _ _ _ _ _ => (d_call (D__law_given T) (hr.mono (by first | omega | (simp only [Nat.add_eq]; omega))) takes0 (by rfl) (da_cons (dv 1 (pv 1)) (da_cons (dv 17 (pv 17)) da_nil))))) da_nil))) (da_cons (d_call (D__law_given T) (hr.mono (by first | omega | (simp only [Nat.add_eq]; omega))) tk (by rfl) (da_cons (dv 1 (pv 1)) (da_cons (d_tup (da_cons (dv 9 (pv 9)) (da_cons (d_call (D__law_given T) (hr.mono (by first | omega | (simp only [Nat.add_eq]; omega))) tk (by rfl) (da_cons (dv 1 (pv 1)) (da_cons (dv 14 (pv 14)) da_nil))) (da_cons (dv 11 (pv 11)) (da_cons (dv 12 (pv 12)) da_nil))))) da_nil))) da_nil))))
  (ss_one (s_if (t_w (w_or (t_not (t_tru rfl (d_call (D__law_same T) (hr.mono (by first | omega | (simp only [Nat.add_eq]; omega))) tk (by rfl) (da_cons (dv 16 (pv 16)) (da_cons (dv 13 (pv 13)) da_nil))))) (w_or1 (t_c (c_ne rfl hr.u64) (d_ix rfl (d_call (D__law_ranks T) (hr.mono (by first | omega | (simp only [Nat.add_eq]; omega))) tk (by rfl) (da_cons (d_tup (da_cons d_str (da_cons d_int (da_cons (dv 13 (pv 13)) da_nil)))) da_nil)) d_int) (dv 7 (pv 7)))))) (ss_one (s_ret d_bl)) ss_nil)))))) ss_nil)))
  (ss_one (s_for hp rfl (i_rg1 (by rfl) T.b_range d_int) (g_nm (i := 8) sc.nd rfl (by first | exact Or.inl rfl | exact Or.inr rfl)) (ss_cons (s_asg (d_tup (da_cons (d_call (D__law_pick T) (hr.mono (by first | omega | (simp only [Nat.add_eq]; omega))) tk (by rfl) (da_cons (dv 1 (pv 1)) (da_cons (d_lst fin_f (da_cons d_str (da_cons d_str da_nil))) da_nil))) (da_cons (d_tuple rfl (by rfl) T.b_tuple (d_lc fin_f (own := ([("e", 18)] : List (Str × Nat))) (by decide) rfl sc.nd (i_rg1 (by rfl) T.b_range (dv 4 (pv 4))) (blkOk_by (by kernel_rfl)) (fun _ _ _ _ _ => (g_nm (i := 18) sc.nd rfl (by first | exact Or.inl rfl | exact Or.inr rfl))) (fun _ _ _ _ _ => (ts_one (t_c (c_eq rfl hr.u64) (d_call (D__law_take T) (hr.mono (by first | omega | (simp only [Nat.add_eq]; omega))) takes0 (by rfl) (da_cons (dv 1 (pv 1)) (da_cons d_int da_nil))) d_int))) (fun _ _ _ _ _ => (dv 18 (pv 18))))) da_nil))) (g_tup rfl rfl (gs_cons (g_nm (i := 9) sc.nd rfl (by first | exact Or.inl rfl | exact Or.inr rfl)) (gs_cons (g_nm (i := 10) sc.nd rfl (by first | exact Or.inl rfl | exact Or.inr rfl)) gs_nil))))
  (ss_cons (s_par (i := 11) (j := 12) rfl sc.nd rfl rfl (by decide) rfl rfl (da_cons (d_call (D__law_pick T) (hr.mono (by first | omega | (simp only [Nat.add_eq]; omega))) tk (by rfl) (da_cons (dv 1 (pv 1)) (da_cons (dv 5 (pv 5)) da_nil))) (da_cons (d_call (D__law_pick T) (hr.mono (by first | omega | (simp only [Nat.add_eq]; omega))) tk (by rfl) (da_cons (dv 1 (pv 1)) (da_cons (dv 5 (pv 5)) da_nil))) da_nil)) (by rfl))
  (ss_one (s_if (t_not (t_tru rfl (d_call (D__law_same T) (hr.mono (by first | omega | (simp only [Nat.add_eq]; omega))) tk (by rfl) (da_cons (d_call (D__law_fault T) (hr.mono (by first | omega | (simp only [Nat.add_eq]; omega))) tk (by rfl) (da_cons (dv 3 (pv 3)) (da_cons (d_tup (da_cons (dv 9 (pv 9)) (da_cons (dv 10 (pv 10)) (da_cons (dv 11 (pv 11)) (da_cons (dv 12 (pv 12)) da_nil))))) da_nil))) (da_cons (d_if (t_tru rfl (d_call (D__law_is_turn T) (hr.mono (by first | omega | (simp only [Nat.add_eq]; omega))) tk (by rfl) (da_cons (dv 3 (pv 3)) (da_cons (dv 9 (pv 9)) (da_cons (dv 10 (pv 10)) (da_cons (dv 11 (pv 11)) (da_cons (dv 12 (pv 12)) da_nil))))))) (d_tup (da_cons d_str da_nil)) (d_tup (da_cons d_str (da_cons d_bl (da_cons d_bl da_nil))))) da_nil))))) (ss_one (s_ret d_bl)) ss_nil)))))))))))))
  (ss_cons (s_set (i := 19) sc.nd rfl (by first | exact Or.inl rfl | exact Or.inr rfl) (d_call (D__law_pick T) (hr.mono (by first | omega | (simp only [Nat.add_eq]; omega))) tk (by rfl) (da_cons (dv 1 (pv 1)) (da_cons (d_lst fin_f (da_cons d_non (da_cons d_int (da_cons d_str (da_cons (d_tup da_nil) (da_cons (d_tup (da_cons d_str (da_cons (d_tup (da_cons d_int da_nil)) (da_cons d_int da_nil)))) (da_cons (d_tup (da_cons d_str (da_cons (d_tup (da_cons d_int da_nil)) (da_cons d_int (da_cons d_int (da_cons d_int da_nil)))))) (da_cons (d_tup (da_cons d_non (da_cons (d_tup (da_cons d_int da_nil)) (da_cons d_int (da_cons d_int da_nil))))) (da_cons (d_tup (da_cons d_str (da_cons d_non (da_cons d_int (da_cons d_int da_nil))))) (da_cons (d_tup (da_cons d_str (da_cons (d_tup (da_cons d_int da_nil)) (da_cons d_int (da_cons d_int da_nil))))) (da_cons (d_tup (da_cons d_str (da_cons (d_tup (da_cons d_int da_nil)) (da_cons d_bl (da_cons d_int da_nil))))) (da_cons (d_tup (da_cons d_str (da_cons (d_tup (da_cons d_int da_nil)) (da_cons d_int (da_cons d_int da_nil))))) (da_cons (d_tup (da_cons d_str (da_cons (d_tup (da_cons d_str da_nil)) (da_cons d_int (da_cons d_int da_nil))))) da_nil))))))))))))) da_nil))))
  (ss_cons (s_if (t_not (t_tru rfl (d_call (D__law_same T) (hr.mono (by first | omega | (simp only [Nat.add_eq]; omega))) tk (by rfl) (da_cons (d_call (D__law_fault T) (hr.mono (by first | omega | (simp only [Nat.add_eq]; omega))) tk (by rfl) (da_cons (d_tup (da_cons (d_tup (da_cons d_int (da_cons d_int da_nil))) (da_cons (d_tup (da_cons d_int (da_cons d_int da_nil))) da_nil))) (da_cons (dv 19 (pv 19)) da_nil))) (da_cons (d_tup (da_cons d_str (da_cons d_bl (da_cons d_bl da_nil)))) da_nil))))) (ss_one (s_ret d_bl)) ss_nil)
  (ss_one (s_ret (d_call (D__law_same T) (hr.mono (by first | omega | (simp only [Nat.add_eq]; omega))) tk (by rfl) (da_cons (d_call (D__law_fault T) (hr.mono (by first | omega | (simp only [Nat.add_eq]; omega))) tk (by rfl) (da_cons (d_tup (da_cons (d_tup (da_cons d_int (da_cons d_int da_nil))) (da_cons (d_tup (da_cons d_int da_nil)) da_nil))) (da_cons (dv 19 (pv 19)) da_nil))) (da_cons (d_tup (da_cons d_str (da_cons d_int (da_cons d_bl (da_cons d_bl da_nil))))) da_nil))))))))))
end
theorem walk (law : ∀ ns : List Int, ns.length ≤ 63 → F_law [.scr ns] [] = .ok (.d (.bool true)) []) {l : PySem.W.OpenLaw} {q : Program} {loose : List Str} {XP : (Str → Option Value) → Heap → Prop} {YP : World → Heap → Prop} {d : DefRec} {K : Params → PySem.W.Frag} (hn : l.most = some 63) (hdf : d.params.defaults = []) (hd : d.name = "law")
    (hY : ∀ (w : World) (h : Heap), YP w h → (K w.params).In h) (T : ∀ (w : World) (mg : Str → Option Value) (h : Heap), (K w.params).In h → h.Ns mainGlobals mg → Txt l.prog (K w.params) mg ∧ LawX (K w.params) mg s_law) :
    PySem.W.WalkO q loose XP YP l.row.toRowW d [] (fun f vs => PySem.call f vs) :=
  law_finP miX (fun _ _ => rfl) (k := 10) (st := s_law) (F := F_law) Txt ⟨rfl, by decide, by decide⟩ hn hdf hd hY (fun t F => D_law t F) law T
end G29
/-! R0: graphs: what a set of edges joins; a turn keeps how many edges join what the ones ahead do not. No program here. -/
namespace Gr
open Classical
abbrev Ed := Int × Int
def Inv (P : List Ed) (f : Int → Prop) : Prop := ∀ e ∈ P, (f e.1 ↔ f e.2)
/-- x and y are joined by P -/
def Conn (P : List Ed) (x y : Int) : Prop := ∀ f : Int → Prop, Inv P f → (f x ↔ f y)
theorem Conn.refl (P : List Ed) (x : Int) : Conn P x x := fun _ _ => Iff.rfl
theorem Conn.symm {P : List Ed} {x y : Int} (h : Conn P x y) : Conn P y x := fun f i => (h f i).symm
theorem Conn.trans {P : List Ed} {x y z : Int} (h : Conn P x y) (k : Conn P y z) : Conn P x z := fun f i => (h f i).trans (k f i)
theorem Conn.edge {P : List Ed} {e : Ed} (h : e ∈ P) : Conn P e.1 e.2 := fun _ i => i e h
theorem Conn.mono {P Q : List Ed} {x y : Int} (s : ∀ e ∈ P, e ∈ Q) (h : Conn P x y) : Conn Q x y := fun f i => h f fun e m => i e (s e m)
def End (P : List Ed) (x : Int) : Prop := ∃ e ∈ P, x = e.1 ∨ x = e.2
/-- joined by A, where u and v are joined too if c -/
def Conn1 (A : List Ed) (u v : Int) (c : Prop) (x y : Int) : Prop := ∀ f : Int → Prop, Inv A f → (c → (f u ↔ f v)) → (f x ↔ f y)
theorem split {A B : List Ed} {u v a b : Int} (h : ∀ x, End A x → End B x → x = u ∨ x = v) (ha : End B a → a = u ∨ a = v) (hb : End B b → b = u ∨ b = v) : (∀ f, Inv A f → Inv B f → (f a ↔ f b)) ↔ Conn1 A u v (Conn B u v) a b := by
  constructor
  · intro H f iA hc
    let hh : Int → Prop := fun x => (Conn B x u ∧ f u) ∨ (¬ Conn B x u ∧ Conn B x v ∧ f v)
    let ins : Int → Prop := fun x => End B x → x = u ∨ x = v
    let g : Int → Prop := fun x => (ins x ∧ f x) ∨ (¬ ins x ∧ hh x)
    have gin : ∀ x, ins x → (g x ↔ f x) := fun x i => ⟨fun z => z.elim (fun z => z.2) fun z => absurd i z.1, fun z => .inl ⟨i, z⟩⟩
    have hu : hh u ↔ f u := ⟨fun z => z.elim (fun z => z.2) fun z => absurd (Conn.refl B u) z.1, fun z => .inl ⟨Conn.refl B u, z⟩⟩
    have hv : hh v ↔ f v := by
      by_cases k : Conn B v u
      · have q := hc k.symm
        exact ⟨fun z => z.elim (fun z => q.mp z.2) fun z => absurd k z.1, fun z => .inl ⟨k, q.mpr z⟩⟩
      · exact ⟨fun z => z.elim (fun z => absurd z.1 k) fun z => z.2.2, fun z => .inr ⟨k, Conn.refl B v, z⟩⟩
    have gend : ∀ x, End B x → (g x ↔ hh x) := fun x e => by
      by_cases i : ins x
      · rw [gin x i]
        rcases i e with rfl | rfl
        · exact hu.symm
        · exact hv.symm
      · exact ⟨fun z => z.elim (fun z => absurd z.1 i) fun z => z.2, fun z => .inr ⟨i, z⟩⟩
    have := H g (fun e m => ?_) (fun e m => ?_)
    · rw [← gin a ha, ← gin b hb]
      exact this
    · rw [gin _ fun z => h _ ⟨e, m, .inl rfl⟩ z, gin _ fun z => h _ ⟨e, m, .inr rfl⟩ z]
      exact iA e m
    · rw [gend _ ⟨e, m, .inl rfl⟩, gend _ ⟨e, m, .inr rfl⟩]
      have k1 : ∀ z, Conn B e.1 z ↔ Conn B e.2 z := fun z => ⟨fun q => (Conn.edge m).symm.trans q, fun q => (Conn.edge m).trans q⟩
      show ((_ ∧ _) ∨ (_ ∧ _ ∧ _)) ↔ ((_ ∧ _) ∨ (_ ∧ _ ∧ _))
      rw [k1 u, k1 v]
  · exact fun H f iA iB => H f iA fun c => c f iB
def sw (u v x : Int) : Int := if x = u then v else if x = v then u else x
theorem sw_sw (u v x : Int) : sw u v (sw u v x) = x := by
  unfold sw
  split <;> rename_i h1
  · split <;> rename_i h2
    · omega
    · rw [if_pos rfl]; exact h1.symm
  · split <;> rename_i h2
    · rw [if_pos rfl]; exact h2.symm
    · rfl
theorem sw_u (u v : Int) : sw u v u = v := by unfold sw; rw [if_pos rfl]
theorem sw_v (u v : Int) : sw u v v = u := by
  unfold sw
  split <;> rename_i h
  · exact h
  · rw [if_pos rfl]
theorem sw_in {u v x : Int} (h : sw u v x = u ∨ sw u v x = v) : x = u ∨ x = v := by
  unfold sw at h
  split at h <;> rename_i h1
  · exact .inl h1
  · split at h <;> rename_i h2
    · exact .inr h2
    · exact h
theorem sw_out {u v x : Int} (h : ¬ (x = u ∨ x = v)) : sw u v x = x := by
  unfold sw
  rw [if_neg fun z => h (.inl z), if_neg fun z => h (.inr z)]
theorem sw_back {u v x : Int} (h : x = u ∨ x = v) : sw u v x = u ∨ sw u v x = v := by
  rcases h with rfl | rfl
  · exact .inr (sw_u _ _)
  · exact .inl (sw_v _ _)
def swE (u v : Int) (e : Ed) : Ed := (sw u v e.1, sw u v e.2)
theorem inv_sw {A : List Ed} {u v : Int} {f : Int → Prop} : Inv (A.map (swE u v)) f ↔ Inv A fun x => f (sw u v x) := by
  constructor
  · exact fun h e m => h (swE u v e) (List.mem_map.mpr ⟨e, m, rfl⟩)
  · intro h e m
    obtain ⟨e', m', rfl⟩ := List.mem_map.mp m
    exact h e' m'
theorem conn1_sw {A : List Ed} {u v a b : Int} {c : Prop} : Conn1 A u v c a b ↔ Conn1 (A.map (swE u v)) u v c (sw u v a) (sw u v b) := by
  constructor
  · intro h f i k
    exact h (fun x => f (sw u v x)) (inv_sw.mp i) fun z => by
      show f (sw u v u) ↔ f (sw u v v)
      rw [sw_u, sw_v]
      exact (k z).symm
  · intro h f i k
    have := h (fun x => f (sw u v x)) (inv_sw.mpr (by simpa [sw_sw] using i)) fun z => by
      show f (sw u v u) ↔ f (sw u v v)
      rw [sw_u, sw_v]
      exact (k z).symm
    simpa [sw_sw] using this
theorem conn_sw {A : List Ed} {u v a b : Int} : Conn A a b ↔ Conn (A.map (swE u v)) (sw u v a) (sw u v b) := by
  constructor
  · intro h f i
    exact h (fun x => f (sw u v x)) (inv_sw.mp i)
  · intro h f i
    have := h (fun x => f (sw u v x)) (inv_sw.mpr (by simpa [sw_sw] using i))
    simpa [sw_sw] using this
theorem end_sw {A : List Ed} {u v x : Int} (h : End (A.map (swE u v)) x) : End A (sw u v x) := by
  obtain ⟨e, m, z⟩ := h
  obtain ⟨e', m', rfl⟩ := List.mem_map.mp m
  refine ⟨e', m', ?_⟩
  rcases z with rfl | rfl
  · exact .inl (sw_sw _ _ _)
  · exact .inr (sw_sw _ _ _)
/-- edges with a mark: is it turned -/
abbrev Te := Bool × Ed
def turnT (u v : Int) (t : Te) : Ed := if t.1 then swE u v t.2 else t.2
def tA (L : List Te) : List Ed := (L.filter fun t => t.1).map (·.2)
def tB (L : List Te) : List Ed := (L.filter fun t => !t.1).map (·.2)
theorem inv_split {L : List Te} {f : Int → Prop} : Inv (L.map (·.2)) f ↔ Inv (tA L) f ∧ Inv (tB L) f := by
  unfold Inv tA tB
  simp only [List.mem_map, List.mem_filter]
  constructor
  · intro h
    exact ⟨fun e ⟨t, m, q⟩ => h e ⟨t, m.1, q⟩, fun e ⟨t, m, q⟩ => h e ⟨t, m.1, q⟩⟩
  · rintro ⟨h1, h2⟩ e ⟨t, m, q⟩
    cases ht : t.1 with
    | true => exact h1 e ⟨t, ⟨m, ht⟩, q⟩
    | false => exact h2 e ⟨t, ⟨m, by rw [ht]; rfl⟩, q⟩
theorem inv_turn {L : List Te} {u v : Int} {f : Int → Prop} : Inv (L.map (turnT u v)) f ↔ Inv ((tA L).map (swE u v)) f ∧ Inv (tB L) f := by
  unfold Inv tA tB
  simp only [List.mem_map, List.mem_filter]
  constructor
  · intro h
    refine ⟨?_, ?_⟩
    · rintro e ⟨e', ⟨t, m, rfl⟩, rfl⟩
      exact h _ ⟨t, m.1, by unfold turnT; rw [if_pos m.2]⟩
    · rintro e ⟨t, m, rfl⟩
      have m2 := m.2
      exact h _ ⟨t, m.1, by
        unfold turnT
        rw [if_neg (by intro z; rw [z] at m2; cases m2)]⟩
  · rintro ⟨h1, h2⟩ e ⟨t, m, rfl⟩
    unfold turnT
    cases ht : t.1 with
    | true => exact h1 _ ⟨t.2, ⟨t, ⟨m, ht⟩, rfl⟩, rfl⟩
    | false => exact h2 _ ⟨t, ⟨m, by rw [ht]; rfl⟩, rfl⟩
/-- the two parts share u and v at most -/
def Meet (u v : Int) (L : List Te) : Prop := ∀ x, End (tA L) x → End (tB L) x → x = u ∨ x = v
theorem end_mem {L : List Te} {t : Te} (m : t ∈ L) : (t.1 = true → End (tA L) t.2.1 ∧ End (tA L) t.2.2) ∧ (t.1 = false → End (tB L) t.2.1 ∧ End (tB L) t.2.2) := by
  refine ⟨fun h => ?_, fun h => ?_⟩
  · have q : t.2 ∈ tA L := List.mem_map.mpr ⟨t, List.mem_filter.mpr ⟨m, h⟩, rfl⟩
    exact ⟨⟨_, q, .inl rfl⟩, ⟨_, q, .inr rfl⟩⟩
  · have q : t.2 ∈ tB L := List.mem_map.mpr ⟨t, List.mem_filter.mpr ⟨m, by rw [h]; rfl⟩, rfl⟩
    exact ⟨⟨_, q, .inl rfl⟩, ⟨_, q, .inr rfl⟩⟩
theorem end_sub {P Q : List Ed} (s : ∀ e ∈ P, e ∈ Q) {x : Int} (h : End P x) : End Q x := let ⟨e, m, z⟩ := h; ⟨e, s e m, z⟩
theorem tA_sub {L M : List Te} (s : ∀ t ∈ L, t ∈ M) : ∀ e ∈ tA L, e ∈ tA M := fun e m => by
  obtain ⟨t, h, rfl⟩ := List.mem_map.mp m
  obtain ⟨h1, h2⟩ := List.mem_filter.mp h
  exact List.mem_map.mpr ⟨t, List.mem_filter.mpr ⟨s t h1, h2⟩, rfl⟩
theorem tB_sub {L M : List Te} (s : ∀ t ∈ L, t ∈ M) : ∀ e ∈ tB L, e ∈ tB M := fun e m => by
  obtain ⟨t, h, rfl⟩ := List.mem_map.mp m
  obtain ⟨h1, h2⟩ := List.mem_filter.mp h
  exact List.mem_map.mpr ⟨t, List.mem_filter.mpr ⟨s t h1, h2⟩, rfl⟩
/-- whether an edge is joined already, ahead of the turn and behind it -/
theorem joined {M : List Te} {u v : Int} (hM : Meet u v M) {L : List Te} (s : ∀ t ∈ L, t ∈ M) {t : Te} (ht : t ∈ M) : Conn (L.map (·.2)) t.2.1 t.2.2 ↔ Conn (L.map (turnT u v)) (turnT u v t).1 (turnT u v t).2 := by
  have sA := fun {x} => end_sub (x := x) (tA_sub s)
  have sB := fun {x} => end_sub (x := x) (tB_sub s)
  have hL : ∀ x, End (tA L) x → End (tB L) x → x = u ∨ x = v := fun x a b => hM x (sA a) (sB b)
  have hS : ∀ x, End ((tA L).map (swE u v)) x → End (tB L) x → x = u ∨ x = v := fun x a b => by
    by_cases k : x = u ∨ x = v
    · exact k
    · have := end_sw a
      rw [sw_out k] at this
      exact hL x this b
  have e1 : Conn (L.map (·.2)) t.2.1 t.2.2 ↔ ∀ f, Inv (tA L) f → Inv (tB L) f → (f t.2.1 ↔ f t.2.2) := ⟨fun h f a b => h f (inv_split.mpr ⟨a, b⟩), fun h f i => h f (inv_split.mp i).1 (inv_split.mp i).2⟩
  have e2 : ∀ x y, Conn (L.map (turnT u v)) x y ↔ ∀ f, Inv ((tA L).map (swE u v)) f → Inv (tB L) f → (f x ↔ f y) := fun x y => ⟨fun h f a b => h f (inv_turn.mpr ⟨a, b⟩), fun h f i => h f (inv_turn.mp i).1 (inv_turn.mp i).2⟩
  rw [e1, e2]
  obtain ⟨k1, k2⟩ := end_mem ht
  cases hb : t.1 with
  | true =>
    obtain ⟨a1, a2⟩ := k1 hb
    have et : turnT u v t = swE u v t.2 := by unfold turnT; rw [if_pos hb]
    rw [et]
    have out : ∀ y, End (tA M) y → End (tB L) (sw u v y) → sw u v y = u ∨ sw u v y = v := fun y a b => by
      by_cases k : y = u ∨ y = v
      · exact sw_back k
      · rw [sw_out k] at b ⊢
        exact hM y a (sB b)
    rw [split hL (fun b => hM _ a1 (sB b)) (fun b => hM _ a2 (sB b))]
    show _ ↔ ∀ f, Inv _ f → Inv _ f → (f (sw u v t.2.1) ↔ f (sw u v t.2.2))
    rw [split hS (out _ a1) (out _ a2)]
    exact conn1_sw
  | false =>
    obtain ⟨b1, b2⟩ := k2 hb
    have et : turnT u v t = t.2 := by unfold turnT; rw [if_neg (by rw [hb]; simp)]
    rw [et]
    have f1 : (∀ f, Inv (tA L) f → Inv (tB L) f → (f t.2.1 ↔ f t.2.2)) ↔ ∀ f, Inv (tB L) f → Inv (tA L) f → (f t.2.1 ↔ f t.2.2) := ⟨fun h f a b => h f b a, fun h f a b => h f b a⟩
    have f2 : (∀ f, Inv ((tA L).map (swE u v)) f → Inv (tB L) f → (f t.2.1 ↔ f t.2.2)) ↔ ∀ f, Inv (tB L) f → Inv ((tA L).map (swE u v)) f → (f t.2.1 ↔ f t.2.2) := ⟨fun h f a b => h f b a, fun h f a b => h f b a⟩
    have out : ∀ y, End (tB M) y → End ((tA L).map (swE u v)) y → y = u ∨ y = v := fun y b a => by
      by_cases k : y = u ∨ y = v
      · exact k
      · have := end_sw a
        rw [sw_out k] at this
        exact hM y (sA this) b
    rw [f1, f2, split (fun x a b => hL x b a) (fun a => hM _ (sA a) b1) (fun a => hM _ (sA a) b2), split (fun x a b => hS x b a) (out _ b1) (out _ b2)]
    have ec : Conn (tA L) u v ↔ Conn ((tA L).map (swE u v)) u v := by
      rw [conn_sw (u := u) (v := v), sw_u, sw_v]
      exact ⟨Conn.symm, Conn.symm⟩
    exact ⟨fun h f a c => h f a fun z => c (ec.mp z), fun h f a c => h f a fun z => c (ec.mpr z)⟩
/-- how many edges join what the ones ahead do not -/
noncomputable def rkF (pre : List Ed) : List Ed → Nat
  | [] => 0
  | e :: es => (if Conn pre e.1 e.2 then 0 else 1) + rkF (pre ++ [e]) es
theorem rk_turn {M : List Te} {u v : Int} (hM : Meet u v M) : ∀ (L pre : List Te), (∀ t ∈ L, t ∈ M) → (∀ t ∈ pre, t ∈ M) → rkF (pre.map (·.2)) (L.map (·.2)) = rkF (pre.map (turnT u v)) (L.map (turnT u v))
  | [], _, _, _ => rfl
  | t :: L, pre, h1, h2 => by
    show (if _ then 0 else 1) + _ = (if _ then 0 else 1) + _
    have ih := rk_turn hM L (pre ++ [t]) (fun x m => h1 x (List.mem_cons_of_mem _ m)) (fun x m => (List.mem_append.mp m).elim (h2 x) fun z => by rw [List.mem_singleton.mp z]; exact h1 t List.mem_cons_self)
    rw [List.map_append, List.map_append] at ih
    have ih' : rkF (pre.map (·.2) ++ [t.2]) (L.map (·.2)) = rkF (pre.map (turnT u v) ++ [turnT u v t]) (L.map (turnT u v)) := ih
    rw [ih']
    have j := joined hM h2 (h1 t List.mem_cons_self)
    by_cases c : Conn (pre.map (·.2)) t.2.1 t.2.2
    · rw [if_pos c, if_pos (j.mp c)]
    · rw [if_neg c, if_neg fun z => c (j.mpr z)]
end Gr
/-! R1: what the law draws, and how it compares; orders; calls. -/
namespace G29
open PySem L2 DL
/-! ### 2. the pool -/
theorem take_rest (cells : List Int) (at_ rest seed many : Int) (R : Store) (ha : 0 ≤ at_) (hr : 0 < rest) (hm : 0 < many) (hm2 : many < 1000000) (n : Nat) :
    (F__law_take_at (n + 1) [.cell 0, .d (.int many)] (.lst [.list (cells.map .int), .int at_, .int rest, .int seed] :: R)).Ret fun v S' => ∃ d P', v = .d (.int d) ∧ 0 ≤ d ∧ d < many ∧ S' = P' :: R ∧ PoolOk P' := by
  have d1 : ∀ i, divC i many = true := fun i => divC_of (by omega) (by omega)
  have m1 : ∀ i, modC i many = true := fun i => modC_of (by omega)
  simp -implicitDefEqProofs only [F__law_take_at, b__law_take, fSeq_eq, seqK_nx, seqK_rt, seqK_bk, seqK_ct, seqK_ite, eVar_0, eVar_s, bind_ok, sB_ok, eC_eq, eBin_eq, eUn_eq, iOp0_eq, iCmp_eq, tst_eq, addI, negI, fSet_eq, fRet_eq, fExpr_eq, fIf_eq, fAsg_eq, fPar_eq, fNil_eq, fBreak_eq, fCont_eq, gNm_eq, gsNil_eq, gsCons_eq, aNil_eq, aCons_eq, eCall_eq, eCallD_eq, intS_eq, absS_eq, mmS_eq, len_l, len_t, list_l, list_t, tup_l, tup_t, finF_eq, finC_eq, allD_nil, allD_cons, eTup_eq, eLst_eq, eIf_eq, runD_eq, hand_rt, handF_d, take_self, srcS_l, srcS_t, iSrc_eq, iZip_eq, zip_l, iEnm_eq, enum_l, pix0, pix1, pix2, pix3, pset1, pset2, pset3, gSub_eq, tYes_eq, eAdd_eq, eSub_eq, eMul_eq, eDiv_eq, eMod_eq, ePow_eq, eXor_eq, eNeg_eq, eIx_eq, eqI_t, eqI_f, tNot_eq, tAnd_eq, tOr_eq, tru_eq, tru_bool, tru_int, tru_list, eAnd_eq, eNot_eq, isi_eq, asD_d, List.length_cons, List.length_nil, List.map_cons, List.map_nil, List.cons_append, List.nil_append, List.append_nil, List.set_cons_succ, List.set_cons_zero, List.replicate_succ, List.replicate_zero, Option.map_some, if_true, if_false, reduceIte, Nat.reduceAdd, Nat.reduceSub, Nat.reduceLeDiff, List.length_map, Nat.reduceEqDiff, Bool.false_eq_true, Bool.not_false, Bool.not_true, ne_eq, not_true_eq_false, not_false_eq_true, decide_true, decide_false, eq_self, hand_rt, decide_eq_true_eq, sl_l, eSl_eq, oNone_eq, oSome_eq, iOp_eq _ _ _ _ _ (d1 _), iOp_eq _ _ _ _ _ (m1 _), hr, fmod_pos (Int.le_of_lt hm), Ret_ok]
  exact ⟨_, _, rfl, Int.emod_nonneg _ (by omega), Int.emod_lt_of_pos _ hm, tk1 _ _, cells, at_, _, seed, rfl, ha⟩
theorem take_ok (P : MO) (many : Int) (R : Store) (hP : PoolOk P) (hm : 0 < many) (hm2 : many < 1000000) : (F__law_take [.cell 0, .d (.int many)] (P :: R)).Ret fun v S' => ∃ d P', v = .d (.int d) ∧ 0 ≤ d ∧ d < many ∧ S' = P' :: R ∧ PoolOk P' := by
  obtain ⟨cells, at_, rest, seed, rfl, ha⟩ := hP
  by_cases hr : 0 < rest
  · exact take_rest cells at_ rest seed many R ha hr hm hm2 2
  · have d1 : ∀ i, divC i 2 = true := fun i => divC_of (by decide) (by decide)
    have d3 : ∀ i, divC i 3 = true := fun i => divC_of (by decide) (by decide)
    have m1 : ∀ i, modC i many = true := fun i => modC_of (by omega)
    have m2 : ∀ i, modC i 2147483647 = true := fun i => modC_of (by decide)
    have m3 : ∀ i, modC i 1000000007 = true := fun i => modC_of (by decide)
    have p1 : powC 10 18 = true := by decide
    have c1 : ∀ i, mulC i 48271 = true := fun i => mulC_r (by decide) (by decide)
    have c2 : ∀ i, mulC i 69621 = true := fun i => mulC_r (by decide) (by decide)
    have c3 : ∀ i, mulC i 613 = true := fun i => mulC_r (by decide) (by decide)
    have c4 : ∀ i, mulC i 7919 = true := fun i => mulC_r (by decide) (by decide)
    have c5 : ∀ i j, mulC (i % 2147483647) j = true := fun i j => mulC_l (by have := Int.emod_nonneg i (b := 2147483647) (by decide); omega) (by have := Int.emod_lt_of_pos i (b := 2147483647) (by decide); omega)
    have q0 : (0 : Int) ≤ 2147483647 := by decide
    have q1 : (0 : Int) ≤ 1000000007 := by decide
    have q2 : (0 : Int) ≤ 3 := by decide
    have q3 : (0 : Int) ≤ 2 := by decide
    show (runD handF 5 (b__law_take (F__law_take_at 2)) _ _).Ret _
    by_cases hl : at_ < cells.length
    · have hx : atI (cells.map PyData.int) at_ = some (.int (cells.getD at_.toNat 0)) := by
        have e1 : at_ = (at_.toNat : Int) := by omega
        have e2 : (cells.map PyData.int)[at_.toNat]? = some (.int (cells.getD at_.toNat 0)) := by
          rw [List.getElem?_map, List.getD, List.getElem?_eq_getElem (show at_.toNat < cells.length by omega)]
          rfl
        rw [e1]
        exact ix_nat e2
      by_cases hc : (10 : Int) ^ (18 : Int).toNat ≤ cells.getD at_.toNat 0
      · have hc2 : (0 : Int) < cells.getD at_.toNat 0 / 2 := by
          have : (10 : Int) ^ (18 : Int).toNat = 1000000000000000000 := by decide
          omega
        obtain ⟨v, S', e, d, P', rfl, h1, h2, rfl, h3⟩ := (take_rest cells (at_ + 1) (cells.getD at_.toNat 0 / 2) seed many R (by omega) hc2 hm hm2 1).ok
        simp -implicitDefEqProofs only [b__law_take, fSeq_eq, seqK_nx, seqK_rt, seqK_bk, seqK_ct, seqK_ite, eVar_0, eVar_s, bind_ok, sB_ok, eC_eq, eBin_eq, eUn_eq, iOp0_eq, iCmp_eq, tst_eq, addI, negI, fSet_eq, fRet_eq, fExpr_eq, fIf_eq, fAsg_eq, fPar_eq, fNil_eq, fBreak_eq, fCont_eq, gNm_eq, gsNil_eq, gsCons_eq, aNil_eq, aCons_eq, eCall_eq, eCallD_eq, intS_eq, absS_eq, mmS_eq, len_l, len_t, list_l, list_t, tup_l, tup_t, finF_eq, finC_eq, allD_nil, allD_cons, eTup_eq, eLst_eq, eIf_eq, runD_eq, hand_rt, handF_d, take_self, srcS_l, srcS_t, iSrc_eq, iZip_eq, zip_l, iEnm_eq, enum_l, pix0, pix1, pix2, pix3, pset1, pset2, pset3, gSub_eq, tYes_eq, eAdd_eq, eSub_eq, eMul_eq, eDiv_eq, eMod_eq, ePow_eq, eXor_eq, eNeg_eq, eIx_eq, eqI_t, eqI_f, tNot_eq, tAnd_eq, tOr_eq, tru_eq, tru_bool, tru_int, tru_list, eAnd_eq, eNot_eq, isi_eq, asD_d, List.length_cons, List.length_nil, List.map_cons, List.map_nil, List.cons_append, List.nil_append, List.append_nil, List.set_cons_succ, List.set_cons_zero, List.replicate_succ, List.replicate_zero, Option.map_some, if_true, if_false, reduceIte, Nat.reduceAdd, Nat.reduceSub, Nat.reduceLeDiff, List.length_map, Nat.reduceEqDiff, Bool.false_eq_true, Bool.not_false, Bool.not_true, ne_eq, not_true_eq_false, not_false_eq_true, decide_true, decide_false, eq_self, hand_rt, decide_eq_true_eq, sl_l, eSl_eq, oNone_eq, oSome_eq, hr, hl, ix_l _ hx, hc, iOp_eq _ _ _ _ _ p1, iOp_eq _ _ _ _ _ (d1 _), fdiv_pos q3, e, Ret_ok]
        exact ⟨_, _, rfl, h1, h2, tk1 _ _, h3⟩
      · simp -implicitDefEqProofs only [b__law_take, fSeq_eq, seqK_nx, seqK_rt, seqK_bk, seqK_ct, seqK_ite, eVar_0, eVar_s, bind_ok, sB_ok, eC_eq, eBin_eq, eUn_eq, iOp0_eq, iCmp_eq, tst_eq, addI, negI, fSet_eq, fRet_eq, fExpr_eq, fIf_eq, fAsg_eq, fPar_eq, fNil_eq, fBreak_eq, fCont_eq, gNm_eq, gsNil_eq, gsCons_eq, aNil_eq, aCons_eq, eCall_eq, eCallD_eq, intS_eq, absS_eq, mmS_eq, len_l, len_t, list_l, list_t, tup_l, tup_t, finF_eq, finC_eq, allD_nil, allD_cons, eTup_eq, eLst_eq, eIf_eq, runD_eq, hand_rt, handF_d, take_self, srcS_l, srcS_t, iSrc_eq, iZip_eq, zip_l, iEnm_eq, enum_l, pix0, pix1, pix2, pix3, pset1, pset2, pset3, gSub_eq, tYes_eq, eAdd_eq, eSub_eq, eMul_eq, eDiv_eq, eMod_eq, ePow_eq, eXor_eq, eNeg_eq, eIx_eq, eqI_t, eqI_f, tNot_eq, tAnd_eq, tOr_eq, tru_eq, tru_bool, tru_int, tru_list, eAnd_eq, eNot_eq, isi_eq, asD_d, List.length_cons, List.length_nil, List.map_cons, List.map_nil, List.cons_append, List.nil_append, List.append_nil, List.set_cons_succ, List.set_cons_zero, List.replicate_succ, List.replicate_zero, Option.map_some, if_true, if_false, reduceIte, Nat.reduceAdd, Nat.reduceSub, Nat.reduceLeDiff, List.length_map, Nat.reduceEqDiff, Bool.false_eq_true, Bool.not_false, Bool.not_true, ne_eq, not_true_eq_false, not_false_eq_true, decide_true, decide_false, eq_self, hand_rt, decide_eq_true_eq, sl_l, eSl_eq, oNone_eq, oSome_eq, hr, hl, ix_l _ hx, hc, iOp_eq _ _ _ _ _ p1, iOp_eq _ _ _ _ _ (d3 _), iOp_eq _ _ _ _ _ (m1 _), iOp_eq _ _ _ _ _ (m2 _), iOp_eq _ _ _ _ _ (m3 _), mulI _ _ (c1 _), mulI _ _ (c2 _), mulI _ _ (c3 _), fmod_pos q0, mulI _ _ (c4 _), mulI _ _ (c5 _ _), fmod_pos q1, fdiv_pos q2, fmod_pos (Int.le_of_lt hm), Ret_ok]
        exact ⟨_, _, rfl, Int.emod_nonneg _ (by omega), Int.emod_lt_of_pos _ hm, tk1 _ _, cells, _, _, _, rfl, by omega⟩
    · have hc : ¬ (10 : Int) ^ (18 : Int).toNat ≤ 0 := by decide
      simp -implicitDefEqProofs only [b__law_take, fSeq_eq, seqK_nx, seqK_rt, seqK_bk, seqK_ct, seqK_ite, eVar_0, eVar_s, bind_ok, sB_ok, eC_eq, eBin_eq, eUn_eq, iOp0_eq, iCmp_eq, tst_eq, addI, negI, fSet_eq, fRet_eq, fExpr_eq, fIf_eq, fAsg_eq, fPar_eq, fNil_eq, fBreak_eq, fCont_eq, gNm_eq, gsNil_eq, gsCons_eq, aNil_eq, aCons_eq, eCall_eq, eCallD_eq, intS_eq, absS_eq, mmS_eq, len_l, len_t, list_l, list_t, tup_l, tup_t, finF_eq, finC_eq, allD_nil, allD_cons, eTup_eq, eLst_eq, eIf_eq, runD_eq, hand_rt, handF_d, take_self, srcS_l, srcS_t, iSrc_eq, iZip_eq, zip_l, iEnm_eq, enum_l, pix0, pix1, pix2, pix3, pset1, pset2, pset3, gSub_eq, tYes_eq, eAdd_eq, eSub_eq, eMul_eq, eDiv_eq, eMod_eq, ePow_eq, eXor_eq, eNeg_eq, eIx_eq, eqI_t, eqI_f, tNot_eq, tAnd_eq, tOr_eq, tru_eq, tru_bool, tru_int, tru_list, eAnd_eq, eNot_eq, isi_eq, asD_d, List.length_cons, List.length_nil, List.map_cons, List.map_nil, List.cons_append, List.nil_append, List.append_nil, List.set_cons_succ, List.set_cons_zero, List.replicate_succ, List.replicate_zero, Option.map_some, if_true, if_false, reduceIte, Nat.reduceAdd, Nat.reduceSub, Nat.reduceLeDiff, List.length_map, Nat.reduceEqDiff, Bool.false_eq_true, Bool.not_false, Bool.not_true, ne_eq, not_true_eq_false, not_false_eq_true, decide_true, decide_false, eq_self, hand_rt, decide_eq_true_eq, sl_l, eSl_eq, oNone_eq, oSome_eq, hr, hl, hc, iOp_eq _ _ _ _ _ p1, iOp_eq _ _ _ _ _ (d3 _), iOp_eq _ _ _ _ _ (m1 _), iOp_eq _ _ _ _ _ (m2 _), iOp_eq _ _ _ _ _ (m3 _), mulI _ _ (c1 _), mulI _ _ (c2 _), mulI _ _ (c3 _), fmod_pos q0, mulI _ _ (c4 _), mulI _ _ (c5 _ _), fmod_pos q1, fdiv_pos q2, fmod_pos (Int.le_of_lt hm), Ret_ok]
      exact ⟨_, _, rfl, Int.emod_nonneg _ (by omega), Int.emod_lt_of_pos _ hm, tk1 _ _, cells, _, _, _, rfl, by omega⟩
theorem pick_ok (P : MO) (xs : List PyData) (R : Store) (hP : PoolOk P) (h1 : 0 < xs.length) (h2 : xs.length < 1000000) : (F__law_pick [.cell 0, .d (.list xs)] (P :: R)).Ret fun v S' => ∃ x P', v = .d x ∧ x ∈ xs ∧ S' = P' :: R ∧ PoolOk P' := by
  obtain ⟨v, S', e, d, P', rfl, u1, u2, rfl, u3⟩ := (take_ok P xs.length R hP (by omega) (by omega)).ok
  obtain ⟨k, rfl⟩ : ∃ k : Nat, d = k := ⟨d.toNat, by omega⟩
  have hx : atI xs (k : Int) = some (xs[k]'(by omega)) := ix_nat (List.getElem?_eq_getElem _)
  simp -implicitDefEqProofs only [F__law_pick, b__law_pick, fSeq_eq, seqK_nx, seqK_rt, seqK_bk, seqK_ct, seqK_ite, eVar_0, eVar_s, bind_ok, sB_ok, eC_eq, eBin_eq, eUn_eq, iOp0_eq, iCmp_eq, tst_eq, addI, negI, fSet_eq, fRet_eq, fExpr_eq, fIf_eq, fAsg_eq, fPar_eq, fNil_eq, fBreak_eq, fCont_eq, gNm_eq, gsNil_eq, gsCons_eq, aNil_eq, aCons_eq, eCall_eq, eCallD_eq, intS_eq, absS_eq, mmS_eq, len_l, len_t, list_l, list_t, tup_l, tup_t, finF_eq, finC_eq, allD_nil, allD_cons, eTup_eq, eLst_eq, eIf_eq, runD_eq, hand_rt, handF_d, take_self, srcS_l, srcS_t, iSrc_eq, iZip_eq, zip_l, iEnm_eq, enum_l, pix0, pix1, pix2, pix3, pset1, pset2, pset3, gSub_eq, tYes_eq, eAdd_eq, eSub_eq, eMul_eq, eDiv_eq, eMod_eq, ePow_eq, eXor_eq, eNeg_eq, eIx_eq, eqI_t, eqI_f, tNot_eq, tAnd_eq, tOr_eq, tru_eq, tru_bool, tru_int, tru_list, eAnd_eq, eNot_eq, isi_eq, asD_d, List.length_cons, List.length_nil, List.map_cons, List.map_nil, List.cons_append, List.nil_append, List.append_nil, List.set_cons_succ, List.set_cons_zero, List.replicate_succ, List.replicate_zero, Option.map_some, if_true, if_false, reduceIte, Nat.reduceAdd, Nat.reduceSub, Nat.reduceLeDiff, List.length_map, Nat.reduceEqDiff, Bool.false_eq_true, Bool.not_false, Bool.not_true, ne_eq, not_true_eq_false, not_false_eq_true, decide_true, decide_false, eq_self, hand_rt, decide_eq_true_eq, sl_l, eSl_eq, oNone_eq, oSome_eq, e, ix_l _ hx, Ret_ok]
  exact ⟨_, P', rfl, List.getElem_mem _, tk1 _ _, u3⟩
/-- a list or a tuple of these -/
def sq (b : Bool) (xs : List PyData) : PyData := if b then .list xs else .tuple xs
theorem given_ok (P : MO) (xs : List PyData) (R : Store) (hP : PoolOk P) : (F__law_given [.cell 0, .d (.list xs)] (P :: R)).Ret fun v S' => ∃ b P', v = .d (sq b xs) ∧ S' = P' :: R ∧ PoolOk P' := by
  obtain ⟨v, S', e, d, P', rfl, u1, u2, rfl, u3⟩ := (take_ok P 2 R hP (by omega) (by omega)).ok
  by_cases hd : d = 0
  · simp -implicitDefEqProofs only [F__law_given, b__law_given, fSeq_eq, seqK_nx, seqK_rt, seqK_bk, seqK_ct, seqK_ite, eVar_0, eVar_s, bind_ok, sB_ok, eC_eq, eBin_eq, eUn_eq, iOp0_eq, iCmp_eq, tst_eq, addI, negI, fSet_eq, fRet_eq, fExpr_eq, fIf_eq, fAsg_eq, fPar_eq, fNil_eq, fBreak_eq, fCont_eq, gNm_eq, gsNil_eq, gsCons_eq, aNil_eq, aCons_eq, eCall_eq, eCallD_eq, intS_eq, absS_eq, mmS_eq, len_l, len_t, list_l, list_t, tup_l, tup_t, finF_eq, finC_eq, allD_nil, allD_cons, eTup_eq, eLst_eq, eIf_eq, runD_eq, hand_rt, handF_d, take_self, srcS_l, srcS_t, iSrc_eq, iZip_eq, zip_l, iEnm_eq, enum_l, pix0, pix1, pix2, pix3, pset1, pset2, pset3, gSub_eq, tYes_eq, eAdd_eq, eSub_eq, eMul_eq, eDiv_eq, eMod_eq, ePow_eq, eXor_eq, eNeg_eq, eIx_eq, eqI_t, eqI_f, tNot_eq, tAnd_eq, tOr_eq, tru_eq, tru_bool, tru_int, tru_list, eAnd_eq, eNot_eq, isi_eq, asD_d, List.length_cons, List.length_nil, List.map_cons, List.map_nil, List.cons_append, List.nil_append, List.append_nil, List.set_cons_succ, List.set_cons_zero, List.replicate_succ, List.replicate_zero, Option.map_some, if_true, if_false, reduceIte, Nat.reduceAdd, Nat.reduceSub, Nat.reduceLeDiff, List.length_map, Nat.reduceEqDiff, Bool.false_eq_true, Bool.not_false, Bool.not_true, ne_eq, not_true_eq_false, not_false_eq_true, decide_true, decide_false, eq_self, hand_rt, decide_eq_true_eq, sl_l, eSl_eq, oNone_eq, oSome_eq, e, hd, Ret_ok]
    exact ⟨true, P', rfl, tk1 _ _, u3⟩
  · simp -implicitDefEqProofs only [F__law_given, b__law_given, fSeq_eq, seqK_nx, seqK_rt, seqK_bk, seqK_ct, seqK_ite, eVar_0, eVar_s, bind_ok, sB_ok, eC_eq, eBin_eq, eUn_eq, iOp0_eq, iCmp_eq, tst_eq, addI, negI, fSet_eq, fRet_eq, fExpr_eq, fIf_eq, fAsg_eq, fPar_eq, fNil_eq, fBreak_eq, fCont_eq, gNm_eq, gsNil_eq, gsCons_eq, aNil_eq, aCons_eq, eCall_eq, eCallD_eq, intS_eq, absS_eq, mmS_eq, len_l, len_t, list_l, list_t, tup_l, tup_t, finF_eq, finC_eq, allD_nil, allD_cons, eTup_eq, eLst_eq, eIf_eq, runD_eq, hand_rt, handF_d, take_self, srcS_l, srcS_t, iSrc_eq, iZip_eq, zip_l, iEnm_eq, enum_l, pix0, pix1, pix2, pix3, pset1, pset2, pset3, gSub_eq, tYes_eq, eAdd_eq, eSub_eq, eMul_eq, eDiv_eq, eMod_eq, ePow_eq, eXor_eq, eNeg_eq, eIx_eq, eqI_t, eqI_f, tNot_eq, tAnd_eq, tOr_eq, tru_eq, tru_bool, tru_int, tru_list, eAnd_eq, eNot_eq, isi_eq, asD_d, List.length_cons, List.length_nil, List.map_cons, List.map_nil, List.cons_append, List.nil_append, List.append_nil, List.set_cons_succ, List.set_cons_zero, List.replicate_succ, List.replicate_zero, Option.map_some, if_true, if_false, reduceIte, Nat.reduceAdd, Nat.reduceSub, Nat.reduceLeDiff, List.length_map, Nat.reduceEqDiff, Bool.false_eq_true, Bool.not_false, Bool.not_true, ne_eq, not_true_eq_false, not_false_eq_true, decide_true, decide_false, eq_self, hand_rt, decide_eq_true_eq, sl_l, eSl_eq, oNone_eq, oSome_eq, e, hd, Ret_ok]
    exact ⟨false, P', rfl, tk1 _ _, u3⟩
/-! ### 3. the same -/
def pl : Nat → PyData → Prop
  | 0, _ => False
  | _ + 1, .int _ => True
  | _ + 1, .bool _ => True
  | n + 1, .tuple xs => (∀ x ∈ xs, pl n x) ∧ xs.length ≤ 10000
  | n + 1, .list xs => (∀ x ∈ xs, pl n x) ∧ xs.length ≤ 10000
  | _, _ => False
theorem range_mem {n : Nat} {d : PyData} (h : d ∈ rgD 0 (n : Int)) : ∃ i : Nat, i < n ∧ d = .int i := by
  rw [rgD_nat] at h
  obtain ⟨i, h1, rfl⟩ := List.mem_map.mp h
  exact ⟨i, List.mem_range.mp h1, rfl⟩
theorem same_comp1 {F : FD} {xs : List PyData} {S : Store} (hz : xs.length ≤ 10000) (h : ∀ x ∈ xs, F [.d x, .d x] S = .ok (.d (.bool true)) S) :
    C__law_same_1 F [some (.d (.tuple xs)), some (.d (.tuple xs)), none] S = .ok (.d (.list ((rgD 0 (xs.length : Int)).map fun _ => .bool true))) S := by
  have e0 : iRg (rg1 (eCall lenS (aCons (eVar 1) aNil))) [some (.d (.tuple xs)), some (.d (.tuple xs)), none] S = .ok ⟨rgD 0 xs.length, fun _ => true⟩ S := iRg_ok (by simp -implicitDefEqProofs only [fSeq_eq, seqK_nx, seqK_rt, seqK_bk, seqK_ct, seqK_ite, eVar_0, eVar_s, bind_ok, sB_ok, eC_eq, eBin_eq, eUn_eq, iOp0_eq, iCmp_eq, tst_eq, addI, negI, fSet_eq, fRet_eq, fExpr_eq, fIf_eq, fAsg_eq, fPar_eq, fNil_eq, fBreak_eq, fCont_eq, gNm_eq, gsNil_eq, gsCons_eq, aNil_eq, aCons_eq, eCall_eq, eCallD_eq, intS_eq, absS_eq, mmS_eq, len_l, len_t, list_l, list_t, tup_l, tup_t, finF_eq, finC_eq, allD_nil, allD_cons, eTup_eq, eLst_eq, eIf_eq, runD_eq, hand_rt, handF_d, take_self, srcS_l, srcS_t, iSrc_eq, iZip_eq, zip_l, iEnm_eq, enum_l, pix0, pix1, pix2, pix3, pset1, pset2, pset3, gSub_eq, tYes_eq, eAdd_eq, eSub_eq, eMul_eq, eDiv_eq, eMod_eq, ePow_eq, eXor_eq, eNeg_eq, eIx_eq, eqI_t, eqI_f, tNot_eq, tAnd_eq, tOr_eq, tru_eq, tru_bool, tru_int, tru_list, eAnd_eq, eNot_eq, isi_eq, asD_d, List.length_cons, List.length_nil, List.map_cons, List.map_nil, List.cons_append, List.nil_append, List.append_nil, List.set_cons_succ, List.set_cons_zero, List.replicate_succ, List.replicate_zero, Option.map_some, if_true, if_false, reduceIte, Nat.reduceAdd, Nat.reduceSub, Nat.reduceLeDiff, List.length_map, Nat.reduceEqDiff, Bool.false_eq_true, Bool.not_false, Bool.not_true, ne_eq, not_true_eq_false, not_false_eq_true, decide_true, decide_false, eq_self, hand_rt, decide_eq_true_eq, sl_l, eSl_eq, oNone_eq, oSome_eq]) (by omega)
  unfold C__law_same_1
  rw [eLc_eq e0, lcL_map (fun _ => .bool true) rfl]
  · simp only [bind_ok, finF_eq]
  · intro d m
    obtain ⟨i, hi, rfl⟩ := range_mem m
    refine ⟨_, gNm_eq _ _ _ _, ?_⟩
    have hx := ix_t S (ix_nat (List.getElem?_eq_getElem hi))
    simp -implicitDefEqProofs only [E__law_same_1, wipeE, fSeq_eq, seqK_nx, seqK_rt, seqK_bk, seqK_ct, seqK_ite, eVar_0, eVar_s, bind_ok, sB_ok, eC_eq, eBin_eq, eUn_eq, iOp0_eq, iCmp_eq, tst_eq, addI, negI, fSet_eq, fRet_eq, fExpr_eq, fIf_eq, fAsg_eq, fPar_eq, fNil_eq, fBreak_eq, fCont_eq, gNm_eq, gsNil_eq, gsCons_eq, aNil_eq, aCons_eq, eCall_eq, eCallD_eq, intS_eq, absS_eq, mmS_eq, len_l, len_t, list_l, list_t, tup_l, tup_t, finF_eq, finC_eq, allD_nil, allD_cons, eTup_eq, eLst_eq, eIf_eq, runD_eq, hand_rt, handF_d, take_self, srcS_l, srcS_t, iSrc_eq, iZip_eq, zip_l, iEnm_eq, enum_l, pix0, pix1, pix2, pix3, pset1, pset2, pset3, gSub_eq, tYes_eq, eAdd_eq, eSub_eq, eMul_eq, eDiv_eq, eMod_eq, ePow_eq, eXor_eq, eNeg_eq, eIx_eq, eqI_t, eqI_f, tNot_eq, tAnd_eq, tOr_eq, tru_eq, tru_bool, tru_int, tru_list, eAnd_eq, eNot_eq, isi_eq, asD_d, List.length_cons, List.length_nil, List.map_cons, List.map_nil, List.cons_append, List.nil_append, List.append_nil, List.set_cons_succ, List.set_cons_zero, List.replicate_succ, List.replicate_zero, Option.map_some, if_true, if_false, reduceIte, Nat.reduceAdd, Nat.reduceSub, Nat.reduceLeDiff, List.length_map, Nat.reduceEqDiff, Bool.false_eq_true, Bool.not_false, Bool.not_true, ne_eq, not_true_eq_false, not_false_eq_true, decide_true, decide_false, eq_self, hand_rt, decide_eq_true_eq, sl_l, eSl_eq, oNone_eq, oSome_eq, hx]
    exact h _ (List.getElem_mem _)
theorem same_comp2 {F : FD} {xs : List PyData} {S : Store} (hz : xs.length ≤ 10000) (h : ∀ x ∈ xs, F [.d x, .d x] S = .ok (.d (.bool true)) S) :
    C__law_same_2 F [some (.d (.list xs)), some (.d (.list xs)), none] S = .ok (.d (.list ((rgD 0 (xs.length : Int)).map fun _ => .bool true))) S := by
  have e0 : iRg (rg1 (eCall lenS (aCons (eVar 1) aNil))) [some (.d (.list xs)), some (.d (.list xs)), none] S = .ok ⟨rgD 0 xs.length, fun _ => true⟩ S := iRg_ok (by simp -implicitDefEqProofs only [fSeq_eq, seqK_nx, seqK_rt, seqK_bk, seqK_ct, seqK_ite, eVar_0, eVar_s, bind_ok, sB_ok, eC_eq, eBin_eq, eUn_eq, iOp0_eq, iCmp_eq, tst_eq, addI, negI, fSet_eq, fRet_eq, fExpr_eq, fIf_eq, fAsg_eq, fPar_eq, fNil_eq, fBreak_eq, fCont_eq, gNm_eq, gsNil_eq, gsCons_eq, aNil_eq, aCons_eq, eCall_eq, eCallD_eq, intS_eq, absS_eq, mmS_eq, len_l, len_t, list_l, list_t, tup_l, tup_t, finF_eq, finC_eq, allD_nil, allD_cons, eTup_eq, eLst_eq, eIf_eq, runD_eq, hand_rt, handF_d, take_self, srcS_l, srcS_t, iSrc_eq, iZip_eq, zip_l, iEnm_eq, enum_l, pix0, pix1, pix2, pix3, pset1, pset2, pset3, gSub_eq, tYes_eq, eAdd_eq, eSub_eq, eMul_eq, eDiv_eq, eMod_eq, ePow_eq, eXor_eq, eNeg_eq, eIx_eq, eqI_t, eqI_f, tNot_eq, tAnd_eq, tOr_eq, tru_eq, tru_bool, tru_int, tru_list, eAnd_eq, eNot_eq, isi_eq, asD_d, List.length_cons, List.length_nil, List.map_cons, List.map_nil, List.cons_append, List.nil_append, List.append_nil, List.set_cons_succ, List.set_cons_zero, List.replicate_succ, List.replicate_zero, Option.map_some, if_true, if_false, reduceIte, Nat.reduceAdd, Nat.reduceSub, Nat.reduceLeDiff, List.length_map, Nat.reduceEqDiff, Bool.false_eq_true, Bool.not_false, Bool.not_true, ne_eq, not_true_eq_false, not_false_eq_true, decide_true, decide_false, eq_self, hand_rt, decide_eq_true_eq, sl_l, eSl_eq, oNone_eq, oSome_eq]) (by omega)
  unfold C__law_same_2
  rw [eLc_eq e0, lcL_map (fun _ => .bool true) rfl]
  · simp only [bind_ok, finF_eq]
  · intro d m
    obtain ⟨i, hi, rfl⟩ := range_mem m
    refine ⟨_, gNm_eq _ _ _ _, ?_⟩
    have hx := ix_l S (ix_nat (List.getElem?_eq_getElem hi))
    simp -implicitDefEqProofs only [E__law_same_2, wipeE, fSeq_eq, seqK_nx, seqK_rt, seqK_bk, seqK_ct, seqK_ite, eVar_0, eVar_s, bind_ok, sB_ok, eC_eq, eBin_eq, eUn_eq, iOp0_eq, iCmp_eq, tst_eq, addI, negI, fSet_eq, fRet_eq, fExpr_eq, fIf_eq, fAsg_eq, fPar_eq, fNil_eq, fBreak_eq, fCont_eq, gNm_eq, gsNil_eq, gsCons_eq, aNil_eq, aCons_eq, eCall_eq, eCallD_eq, intS_eq, absS_eq, mmS_eq, len_l, len_t, list_l, list_t, tup_l, tup_t, finF_eq, finC_eq, allD_nil, allD_cons, eTup_eq, eLst_eq, eIf_eq, runD_eq, hand_rt, handF_d, take_self, srcS_l, srcS_t, iSrc_eq, iZip_eq, zip_l, iEnm_eq, enum_l, pix0, pix1, pix2, pix3, pset1, pset2, pset3, gSub_eq, tYes_eq, eAdd_eq, eSub_eq, eMul_eq, eDiv_eq, eMod_eq, ePow_eq, eXor_eq, eNeg_eq, eIx_eq, eqI_t, eqI_f, tNot_eq, tAnd_eq, tOr_eq, tru_eq, tru_bool, tru_int, tru_list, eAnd_eq, eNot_eq, isi_eq, asD_d, List.length_cons, List.length_nil, List.map_cons, List.map_nil, List.cons_append, List.nil_append, List.append_nil, List.set_cons_succ, List.set_cons_zero, List.replicate_succ, List.replicate_zero, Option.map_some, if_true, if_false, reduceIte, Nat.reduceAdd, Nat.reduceSub, Nat.reduceLeDiff, List.length_map, Nat.reduceEqDiff, Bool.false_eq_true, Bool.not_false, Bool.not_true, ne_eq, not_true_eq_false, not_false_eq_true, decide_true, decide_false, eq_self, hand_rt, decide_eq_true_eq, sl_l, eSl_eq, oNone_eq, oSome_eq, hx]
    exact h _ (List.getElem_mem _)
theorem trues {α : Type} (xs : List α) : (xs.map fun _ => PyData.bool true).all scaD = true ∧ (xs.map fun _ => PyData.bool true).all trB = true := by
  constructor <;> rw [List.all_eq_true] <;> intro x h <;> obtain ⟨_, _, rfl⟩ := List.mem_map.mp h <;> rfl
theorem same_int (F : FD) (i j : Int) (S : Store) : runD handF 3 (b__law_same F) [.d (.int i), .d (.int j)] S = .ok (.d (.bool (decide (i = j)))) S := by
  have t1 : isiB "int" "tuple" = false := by decide
  have t2 : isiB "int" "list" = false := by decide
  have t3 : isiB "int" "bool" = false := by decide
  have t4 : isiB "int" "str" = false := by decide
  have t5 : isiB "int" "int" = true := by decide
  simp -implicitDefEqProofs only [b__law_same, F__law_is_integer, b__law_is_integer, isNS, tyN, fSeq_eq, seqK_nx, seqK_rt, seqK_bk, seqK_ct, seqK_ite, eVar_0, eVar_s, bind_ok, sB_ok, eC_eq, eBin_eq, eUn_eq, iOp0_eq, iCmp_eq, tst_eq, addI, negI, fSet_eq, fRet_eq, fExpr_eq, fIf_eq, fAsg_eq, fPar_eq, fNil_eq, fBreak_eq, fCont_eq, gNm_eq, gsNil_eq, gsCons_eq, aNil_eq, aCons_eq, eCall_eq, eCallD_eq, intS_eq, absS_eq, mmS_eq, len_l, len_t, list_l, list_t, tup_l, tup_t, finF_eq, finC_eq, allD_nil, allD_cons, eTup_eq, eLst_eq, eIf_eq, runD_eq, hand_rt, handF_d, take_self, srcS_l, srcS_t, iSrc_eq, iZip_eq, zip_l, iEnm_eq, enum_l, pix0, pix1, pix2, pix3, pset1, pset2, pset3, gSub_eq, tYes_eq, eAdd_eq, eSub_eq, eMul_eq, eDiv_eq, eMod_eq, ePow_eq, eXor_eq, eNeg_eq, eIx_eq, eqI_t, eqI_f, tNot_eq, tAnd_eq, tOr_eq, tru_eq, tru_bool, tru_int, tru_list, eAnd_eq, eNot_eq, isi_eq, asD_d, List.length_cons, List.length_nil, List.map_cons, List.map_nil, List.cons_append, List.nil_append, List.append_nil, List.set_cons_succ, List.set_cons_zero, List.replicate_succ, List.replicate_zero, Option.map_some, if_true, if_false, reduceIte, Nat.reduceAdd, Nat.reduceSub, Nat.reduceLeDiff, List.length_map, Nat.reduceEqDiff, Bool.false_eq_true, Bool.not_false, Bool.not_true, ne_eq, not_true_eq_false, not_false_eq_true, decide_true, decide_false, eq_self, hand_rt, decide_eq_true_eq, sl_l, eSl_eq, oNone_eq, oSome_eq, t1, t2, t3, t4, t5]
theorem same_bool (F : FD) (i j : Bool) (S : Store) : runD handF 3 (b__law_same F) [.d (.bool i), .d (.bool j)] S = .ok (.d (.bool (i == j))) S := by
  have t1 : isiB "bool" "tuple" = false := by decide
  have t2 : isiB "bool" "list" = false := by decide
  have t3 : isiB "bool" "bool" = true := by decide
  have e : eqS false (.d (.bool i)) (.d (.bool j)) S = .ok (.d (.bool (i == j))) S := by cases i <;> cases j <;> rfl
  simp -implicitDefEqProofs only [b__law_same, isNS, tyN, fSeq_eq, seqK_nx, seqK_rt, seqK_bk, seqK_ct, seqK_ite, eVar_0, eVar_s, bind_ok, sB_ok, eC_eq, eBin_eq, eUn_eq, iOp0_eq, iCmp_eq, tst_eq, addI, negI, fSet_eq, fRet_eq, fExpr_eq, fIf_eq, fAsg_eq, fPar_eq, fNil_eq, fBreak_eq, fCont_eq, gNm_eq, gsNil_eq, gsCons_eq, aNil_eq, aCons_eq, eCall_eq, eCallD_eq, intS_eq, absS_eq, mmS_eq, len_l, len_t, list_l, list_t, tup_l, tup_t, finF_eq, finC_eq, allD_nil, allD_cons, eTup_eq, eLst_eq, eIf_eq, runD_eq, hand_rt, handF_d, take_self, srcS_l, srcS_t, iSrc_eq, iZip_eq, zip_l, iEnm_eq, enum_l, pix0, pix1, pix2, pix3, pset1, pset2, pset3, gSub_eq, tYes_eq, eAdd_eq, eSub_eq, eMul_eq, eDiv_eq, eMod_eq, ePow_eq, eXor_eq, eNeg_eq, eIx_eq, eqI_t, eqI_f, tNot_eq, tAnd_eq, tOr_eq, tru_eq, tru_bool, tru_int, tru_list, eAnd_eq, eNot_eq, isi_eq, asD_d, List.length_cons, List.length_nil, List.map_cons, List.map_nil, List.cons_append, List.nil_append, List.append_nil, List.set_cons_succ, List.set_cons_zero, List.replicate_succ, List.replicate_zero, Option.map_some, if_true, if_false, reduceIte, Nat.reduceAdd, Nat.reduceSub, Nat.reduceLeDiff, List.length_map, Nat.reduceEqDiff, Bool.false_eq_true, Bool.not_false, Bool.not_true, ne_eq, not_true_eq_false, not_false_eq_true, decide_true, decide_false, eq_self, hand_rt, decide_eq_true_eq, sl_l, eSl_eq, oNone_eq, oSome_eq, t1, t2, t3, e]
theorem same_tup (F : FD) {xs : List PyData} {S : Store} (hz : xs.length ≤ 10000) (h : ∀ x ∈ xs, F [.d x, .d x] S = .ok (.d (.bool true)) S) : runD handF 3 (b__law_same F) [.d (.tuple xs), .d (.tuple xs)] S = .ok (.d (.bool true)) S := by
  have t1 : isiB "tuple" "tuple" = true := by decide
  have hc := same_comp1 hz h
  obtain ⟨z1, z2⟩ := trues (rgD 0 (xs.length : Int))
  simp -implicitDefEqProofs only [b__law_same, tyN, fSeq_eq, seqK_nx, seqK_rt, seqK_bk, seqK_ct, seqK_ite, eVar_0, eVar_s, bind_ok, sB_ok, eC_eq, eBin_eq, eUn_eq, iOp0_eq, iCmp_eq, tst_eq, addI, negI, fSet_eq, fRet_eq, fExpr_eq, fIf_eq, fAsg_eq, fPar_eq, fNil_eq, fBreak_eq, fCont_eq, gNm_eq, gsNil_eq, gsCons_eq, aNil_eq, aCons_eq, eCall_eq, eCallD_eq, intS_eq, absS_eq, mmS_eq, len_l, len_t, list_l, list_t, tup_l, tup_t, finF_eq, finC_eq, allD_nil, allD_cons, eTup_eq, eLst_eq, eIf_eq, runD_eq, hand_rt, handF_d, take_self, srcS_l, srcS_t, iSrc_eq, iZip_eq, zip_l, iEnm_eq, enum_l, pix0, pix1, pix2, pix3, pset1, pset2, pset3, gSub_eq, tYes_eq, eAdd_eq, eSub_eq, eMul_eq, eDiv_eq, eMod_eq, ePow_eq, eXor_eq, eNeg_eq, eIx_eq, eqI_t, eqI_f, tNot_eq, tAnd_eq, tOr_eq, tru_eq, tru_bool, tru_int, tru_list, eAnd_eq, eNot_eq, isi_eq, asD_d, List.length_cons, List.length_nil, List.map_cons, List.map_nil, List.cons_append, List.nil_append, List.append_nil, List.set_cons_succ, List.set_cons_zero, List.replicate_succ, List.replicate_zero, Option.map_some, if_true, if_false, reduceIte, Nat.reduceAdd, Nat.reduceSub, Nat.reduceLeDiff, List.length_map, Nat.reduceEqDiff, Bool.false_eq_true, Bool.not_false, Bool.not_true, ne_eq, not_true_eq_false, not_false_eq_true, decide_true, decide_false, eq_self, hand_rt, decide_eq_true_eq, sl_l, eSl_eq, oNone_eq, oSome_eq, t1, hc, all_l _ z1, z2]
theorem same_lst (F : FD) {xs : List PyData} {S : Store} (hz : xs.length ≤ 10000) (h : ∀ x ∈ xs, F [.d x, .d x] S = .ok (.d (.bool true)) S) : runD handF 3 (b__law_same F) [.d (.list xs), .d (.list xs)] S = .ok (.d (.bool true)) S := by
  have t1 : isiB "list" "tuple" = false := by decide
  have t2 : isiB "list" "list" = true := by decide
  have hc := same_comp2 hz h
  obtain ⟨z1, z2⟩ := trues (rgD 0 (xs.length : Int))
  simp -implicitDefEqProofs only [b__law_same, tyN, fSeq_eq, seqK_nx, seqK_rt, seqK_bk, seqK_ct, seqK_ite, eVar_0, eVar_s, bind_ok, sB_ok, eC_eq, eBin_eq, eUn_eq, iOp0_eq, iCmp_eq, tst_eq, addI, negI, fSet_eq, fRet_eq, fExpr_eq, fIf_eq, fAsg_eq, fPar_eq, fNil_eq, fBreak_eq, fCont_eq, gNm_eq, gsNil_eq, gsCons_eq, aNil_eq, aCons_eq, eCall_eq, eCallD_eq, intS_eq, absS_eq, mmS_eq, len_l, len_t, list_l, list_t, tup_l, tup_t, finF_eq, finC_eq, allD_nil, allD_cons, eTup_eq, eLst_eq, eIf_eq, runD_eq, hand_rt, handF_d, take_self, srcS_l, srcS_t, iSrc_eq, iZip_eq, zip_l, iEnm_eq, enum_l, pix0, pix1, pix2, pix3, pset1, pset2, pset3, gSub_eq, tYes_eq, eAdd_eq, eSub_eq, eMul_eq, eDiv_eq, eMod_eq, ePow_eq, eXor_eq, eNeg_eq, eIx_eq, eqI_t, eqI_f, tNot_eq, tAnd_eq, tOr_eq, tru_eq, tru_bool, tru_int, tru_list, eAnd_eq, eNot_eq, isi_eq, asD_d, List.length_cons, List.length_nil, List.map_cons, List.map_nil, List.cons_append, List.nil_append, List.append_nil, List.set_cons_succ, List.set_cons_zero, List.replicate_succ, List.replicate_zero, Option.map_some, if_true, if_false, reduceIte, Nat.reduceAdd, Nat.reduceSub, Nat.reduceLeDiff, List.length_map, Nat.reduceEqDiff, Bool.false_eq_true, Bool.not_false, Bool.not_true, ne_eq, not_true_eq_false, not_false_eq_true, decide_true, decide_false, eq_self, hand_rt, decide_eq_true_eq, sl_l, eSl_eq, oNone_eq, oSome_eq, t1, t2, hc, all_l _ z1, z2]
theorem same_at : ∀ (n : Nat) (x : PyData) (S : Store), pl n x → F__law_same_at n [.d x, .d x] S = .ok (.d (.bool true)) S := by
  intro n
  induction n with
  | zero => exact fun x S h => h.elim
  | succ n ih =>
    intro x S h
    cases x with
    | int i =>
      have := same_int (F__law_same_at n) i i S
      rw [decide_eq_true rfl] at this
      exact this
    | tuple xs =>
      obtain ⟨h1, h2⟩ : (∀ x ∈ xs, pl n x) ∧ xs.length ≤ 10000 := h
      exact same_tup _ h2 fun x m => ih x S (h1 x m)
    | list xs =>
      obtain ⟨h1, h2⟩ : (∀ x ∈ xs, pl n x) ∧ xs.length ≤ 10000 := h
      exact same_lst _ h2 fun x m => ih x S (h1 x m)
    | none => exact h.elim
    | bool b => exact same_bool (F__law_same_at n) b b S |>.trans (by rw [show (b == b) = true by cases b <;> rfl])
    | str x => exact h.elim
    | dict d => exact h.elim
/-! ### orders -/
def row (xs : List Int) : PyData := .tuple (xs.map .int)
def rngI (a b : Int) : List Int := (List.range (b - a).toNat).map fun (i : Nat) => a + (i : Int)
theorem add_tt (xs ys : List PyData) (S : Store) (h : xs.length + ys.length ≤ 16777216) : addS finF (.d (.tuple xs)) (.d (.tuple ys)) S = .ok (.d (.tuple (xs ++ ys))) S := by
  show (if _ then _ else _) = _
  rw [if_pos h]
theorem erase_perm : ∀ (xs : List Int) (i : Nat) (h : i < xs.length), (xs[i] :: xs.eraseIdx i).Perm xs
  | x :: xs, 0, _ => List.Perm.refl _
  | x :: xs, i + 1, h => by
    have := erase_perm xs i (by simpa using h)
    simp only [List.getElem_cons_succ, List.eraseIdx_cons_succ]
    exact (List.Perm.swap _ _ _).trans (this.cons x)
theorem map_erase : ∀ (xs : List Int) (i : Nat), (xs.map PyData.int).eraseIdx i = (xs.eraseIdx i).map .int
  | [], _ => rfl
  | x :: xs, 0 => rfl
  | x :: xs, i + 1 => by
    simp only [List.map_cons, List.eraseIdx_cons_succ, map_erase xs i]
theorem ixN_nat {n i : Nat} (h : i < n) : ixN n (i : Int) = some i := by
  unfold ixN
  rw [if_pos (by omega), if_pos (by omega), Int.toNat_natCast]
abbrev oΓ (n : Nat) (found : List Int) (o : Option SV) : Ev := [some (.cell 0), some (.d (.int n)), some (.cell 1), some (.d (row found)), o]
theorem order_turn (P : MO) (hP : PoolOk P) (n : Nat) (found left : List Int) (o : Option SV) (h0 : 0 < left.length) (hl : left.length < 1000) (hf : found.length ≤ 1000) :
    (B__law_order_1 (oΓ n found o) [P, .lst (left.map .int)]).Ret fun fl S' => ∃ x left' P', fl = .nx (oΓ n (found ++ [x]) o) ∧ S' = [P', .lst (left'.map .int)] ∧ PoolOk P' ∧ (x :: left').Perm left := by
  obtain ⟨v, S', e, d, P', rfl, u1, u2, rfl, u3⟩ := (take_ok P (left.length : Nat) [.lst (left.map .int)] hP (by omega) (by omega)).ok
  obtain ⟨i, rfl⟩ : ∃ i : Nat, d = i := ⟨d.toNat, by omega⟩
  have hi : i < left.length := by omega
  have e1 : eCallD 2 F__law_take (aCons (eVar 0) (aCons (eCall lenS (aCons (eVar 2) aNil)) aNil)) (oΓ n found o) [P, .lst (left.map .int)] = .ok (.d (.int i)) (P' :: [.lst (left.map .int)]) := by
    have e0 : aCons (eVar 0) (aCons (eCall lenS (aCons (eVar 2) aNil)) aNil) (oΓ n found o) [P, .lst (left.map .int)] = .ok [.cell 0, .d (.int (left.length : Nat))] [P, .lst (left.map .int)] := by
      have : eCall lenS (aCons (eVar 2) aNil) (oΓ n found o) [P, .lst (left.map .int)] = .ok (.d (.int (left.length : Nat))) [P, .lst (left.map .int)] := by
        have e : aCons (eVar 2) aNil (oΓ n found o) [P, .lst (left.map .int)] = .ok [.cell 1] [P, .lst (left.map .int)] := rfl
        rw [eCall_eq, e, bind_ok, len_c (xs := left.map .int) rfl, List.length_map]
      rw [aCons_eq, eVar_0, bind_ok, aCons_eq, this, bind_ok, aNil_eq, bind_ok, bind_ok]
    rw [eCallD_eq, e0, bind_ok]
    exact (if_pos rfl).trans e
  have e2 : eMeth popAtS (eVar 2) (aCons (eCallD 2 F__law_take (aCons (eVar 0) (aCons (eCall lenS (aCons (eVar 2) aNil)) aNil))) aNil) (oΓ n found o) [P, .lst (left.map .int)] = .ok (.d (.int left[i])) [P', .lst ((left.eraseIdx i).map .int)] := by
    unfold eMeth
    have hi1 : isL (.cell 1) [P, .lst (left.map .int)] = true := rfl
    rw [eVar_at (x := .cell 1) rfl, bind_ok, hi1, if_pos rfl, aCons_eq, e1, bind_ok, aNil_eq, bind_ok, bind_ok]
    have hix : ixN (left.map PyData.int).length (i : Int) = some i := ixN_nat (by simpa using hi)
    have hg : (left.map PyData.int)[i]? = some (.int left[i]) := by rw [List.getElem?_map, List.getElem?_eq_getElem hi]; rfl
    have hc : cellL (.cell 1) (P' :: [.lst (left.map .int)]) = some (1, left.map .int) := rfl
    unfold popAtS
    simp only [hc, hix, hg]
    have : (left.map PyData.int).eraseIdx i = (left.eraseIdx i).map .int := map_erase left i
    rw [this]
    rfl
  have e3 : eAddF finF (eVar 3) (eTup (aCons (eMeth popAtS (eVar 2) (aCons (eCallD 2 F__law_take (aCons (eVar 0) (aCons (eCall lenS (aCons (eVar 2) aNil)) aNil))) aNil)) aNil)) (oΓ n found o) [P, .lst (left.map .int)] = .ok (.d (row (found ++ [left[i]]))) [P', .lst ((left.eraseIdx i).map .int)] := by
    have e4 : eTup (aCons (eMeth popAtS (eVar 2) (aCons (eCallD 2 F__law_take (aCons (eVar 0) (aCons (eCall lenS (aCons (eVar 2) aNil)) aNil))) aNil)) aNil) (oΓ n found o) [P, .lst (left.map .int)] = .ok (.d (.tuple [.int left[i]])) [P', .lst ((left.eraseIdx i).map .int)] := by
      rw [eTup_eq, aCons_eq, e2, bind_ok, aNil_eq, bind_ok, bind_ok]
      rfl
    rw [eAdd_eq, eVar_at (x := .d (row found)) rfl, bind_ok, e4, bind_ok]
    unfold row
    rw [add_tt _ _ _ (by simp only [List.length_map, List.length_cons, List.length_nil]; omega), List.map_append]
    rfl
  unfold B__law_order_1
  rw [fSet_eq, e3, sB_ok, Ret_ok]
  exact ⟨left[i], left.eraseIdx i, P', rfl, rfl, u3, erase_perm left i hi⟩
theorem order_ok (P : MO) (hP : PoolOk P) (n : Nat) (hn : n ≤ 100) : (F__law_order [.cell 0, .d (.int n)] [P]).Ret fun v S' => ∃ xs P', v = .d (row xs) ∧ S' = [P'] ∧ PoolOk P' ∧ xs.Perm (rngI 0 n) := by
  have hl : (rngI 0 n).length = n := by simp [rngI]
  have e0 : eLstRg finC (rg1 (eVar 1)) [some (.cell 0), some (.d (.int n)), none, none, none] [P] = .ok (.cell 1) [P, .lst ((rngI 0 n).map .int)] := by
    have e : rg1 (eVar 1) [some (.cell 0), some (.d (.int n)), none, none, none] [P] = .ok (0, (n : Int)) [P] := rfl
    unfold eLstRg
    rw [e, bind_ok]
    show (if rgC 0 (n : Int) = true then finC (rgD 0 (n : Int)) [P] else .no) = _
    rw [if_pos (rgC_nat n (by omega)), finC_eq]
    have : rgD 0 (n : Int) = (rngI 0 n).map .int := by
      unfold rgD rngI
      rw [List.map_map]; rfl
    rw [this]
    rfl
  let Q : Fl → Store → Prop := fun fl S' => ∃ xs o P', fl = .nx (oΓ n xs o) ∧ S' = [P', .lst []] ∧ PoolOk P' ∧ xs.Perm (rngI 0 n)
  let I : List PyData → Ev → Store → Prop := fun ds Γ S' => ∃ found left o P', Γ = oΓ n found o ∧ S' = [P', .lst (left.map .int)] ∧ PoolOk P' ∧ (found ++ left).Perm (rngI 0 n) ∧ left.length = ds.length
  have hL : (L__law_order_1 (oΓ n [] none) [P, .lst ((rngI 0 n).map .int)]).Ret Q := by
    unfold L__law_order_1
    have e := iRg_ok (f := eVar 1) (Γ := oΓ n [] none) (S := [P, .lst ((rngI 0 n).map .int)]) (n := n) rfl (by omega)
    rw [fFor_eq e]
    refine forL_ret I Q (fun _ _ _ _ => rfl) (fun Γ S' h => ?_) (fun d ds Γ S' h => ?_) _ _ _ ⟨[], rngI 0 n, none, P, rfl, rfl, hP, List.Perm.refl _, ?_⟩
    · obtain ⟨found, left, o, P', rfl, rfl, h1, h2, h3⟩ := h
      have : left = [] := List.eq_nil_of_length_eq_zero h3
      subst this
      rw [List.append_nil] at h2
      exact ⟨found, o, P', rfl, rfl, h1, h2⟩
    · obtain ⟨found, left, o, P', rfl, rfl, h1, h2, h3⟩ := h
      have hlen := h2.length_eq
      rw [List.length_append, hl] at hlen
      simp only [List.length_cons] at h3
      rw [gNm_eq]
      refine Out.Ret.of rfl ?_
      refine (order_turn P' h1 n found left (some (.d d)) (by omega) (by omega) (by omega)).imp ?_
      rintro fl S2 ⟨x, left', P2, rfl, rfl, u1, u2⟩
      refine ⟨found ++ [x], left', some (.d d), P2, rfl, rfl, u1, ?_, ?_⟩
      · rw [List.append_assoc]
        exact (u2.append_left found).trans h2
      · have := u2.length_eq
        simp only [List.length_cons] at this
        omega
    · rw [hl, rgD_nat]; simp
  obtain ⟨fl, S', e, xs, o, P', rfl, rfl, h1, h2⟩ := hL.ok
  have hb : b__law_order [some (.cell 0), some (.d (.int n)), none, none, none] [P] = .ok (.rt (.d (row xs))) [P', .lst []] := by
    unfold b__law_order
    rw [fSeq_eq, fSet_eq, e0, sB_ok, seqK_nx]
    show (fSeq _ _) [some (.cell 0), some (.d (.int n)), some (.cell 1), none, none] [P, .lst ((rngI 0 n).map .int)] = _
    have e5 : fSet 3 (eTup aNil) [some (.cell 0), some (.d (.int n)), some (.cell 1), none, none] [P, .lst ((rngI 0 n).map .int)] = .ok (.nx (oΓ n [] none)) [P, .lst ((rngI 0 n).map .int)] := by
      simp -implicitDefEqProofs only [fSeq_eq, seqK_nx, seqK_rt, seqK_bk, seqK_ct, seqK_ite, eVar_0, eVar_s, bind_ok, sB_ok, eC_eq, eBin_eq, eUn_eq, iOp0_eq, iCmp_eq, tst_eq, addI, negI, fSet_eq, fRet_eq, fExpr_eq, fIf_eq, fAsg_eq, fPar_eq, fNil_eq, fBreak_eq, fCont_eq, gNm_eq, gsNil_eq, gsCons_eq, aNil_eq, aCons_eq, eCall_eq, eCallD_eq, intS_eq, absS_eq, mmS_eq, len_l, len_t, list_l, list_t, tup_l, tup_t, finF_eq, finC_eq, allD_nil, allD_cons, eTup_eq, eLst_eq, eIf_eq, runD_eq, hand_rt, handF_d, take_self, srcS_l, srcS_t, iSrc_eq, iZip_eq, zip_l, iEnm_eq, enum_l, pix0, pix1, pix2, pix3, pset1, pset2, pset3, gSub_eq, tYes_eq, eAdd_eq, eSub_eq, eMul_eq, eDiv_eq, eMod_eq, ePow_eq, eXor_eq, eNeg_eq, eIx_eq, eqI_t, eqI_f, tNot_eq, tAnd_eq, tOr_eq, tru_eq, tru_bool, tru_int, tru_list, eAnd_eq, eNot_eq, isi_eq, asD_d, List.length_cons, List.length_nil, List.map_cons, List.map_nil, List.cons_append, List.nil_append, List.append_nil, List.set_cons_succ, List.set_cons_zero, List.replicate_succ, List.replicate_zero, Option.map_some, if_true, if_false, reduceIte, Nat.reduceAdd, Nat.reduceSub, Nat.reduceLeDiff, List.length_map, Nat.reduceEqDiff, Bool.false_eq_true, Bool.not_false, Bool.not_true, ne_eq, not_true_eq_false, not_false_eq_true, decide_true, decide_false, eq_self, hand_rt, decide_eq_true_eq, sl_l, eSl_eq, oNone_eq, oSome_eq, Nat.zero_le]
      rfl
    rw [fSeq_eq, e5, seqK_nx, fSeq_eq, e, seqK_nx]
    rfl
  unfold F__law_order
  rw [runD_eq]
  show (hand handF 1 (b__law_order [some (.cell 0), some (.d (.int n)), none, none, none] [P])).Ret _
  rw [hb, hand_rt, handF_d, Ret_ok]
  exact ⟨xs, P', rfl, rfl, h1, h2⟩
theorem seq_set {i : Nat} {f : EF} {rest : SF} {Γ : Ev} {S : Store} {Q1 : SV → Store → Prop} {Q : Fl → Store → Prop} (h : (f Γ S).Ret Q1) (k : ∀ v S', Q1 v S' → (rest (Γ.set i (some v)) S').Ret Q) : (fSeq (fSet i f) rest Γ S).Ret Q := by
  obtain ⟨v, S', e, h1⟩ := h.ok
  rw [fSeq_eq, fSet_eq, e, sB_ok, seqK_nx]
  exact k v S' h1
theorem seq_if {t : TF} {a rest : SF} {Γ : Ev} {S S' : Store} {Q : Fl → Store → Prop} (h : t Γ S = .ok false S') (k : (rest Γ S').Ret Q) : (fSeq (fIf t a fNil) rest Γ S).Ret Q := by
  rw [fSeq_eq, fIf_eq, h, sB_ok]
  exact k
theorem call2 {F : FD} {fa fb : EF} {Γ : Ev} {S S1 S2 : Store} {a b : SV} (h1 : fa Γ S = .ok a S1) (h2 : fb Γ S1 = .ok b S2) : eCallD 2 F (aCons fa (aCons fb aNil)) Γ S = F [a, b] S2 := by
  rw [eCallD_eq, aCons_eq, h1, bind_ok, aCons_eq, h2, bind_ok, aNil_eq, bind_ok, bind_ok, bind_ok]
  exact if_pos rfl
theorem call1 {F : FD} {fa : EF} {Γ : Ev} {S S1 : Store} {a : SV} (h1 : fa Γ S = .ok a S1) : eCallD 1 F (aCons fa aNil) Γ S = F [a] S1 := by
  rw [eCallD_eq, aCons_eq, h1, bind_ok, aNil_eq, bind_ok, bind_ok]
  exact if_pos rfl
theorem call3 {F : FD} {fa fb fc : EF} {Γ : Ev} {S S1 S2 S3 : Store} {a b c : SV} (h1 : fa Γ S = .ok a S1) (h2 : fb Γ S1 = .ok b S2) (h3 : fc Γ S2 = .ok c S3) : eCallD 3 F (aCons fa (aCons fb (aCons fc aNil))) Γ S = F [a, b, c] S3 := by
  rw [eCallD_eq, aCons_eq, h1, bind_ok, aCons_eq, h2, bind_ok, aCons_eq, h3, bind_ok, aNil_eq, bind_ok, bind_ok, bind_ok, bind_ok]
  exact if_pos rfl
theorem given_t (P : MO) (xs : List PyData) (R : Store) (hP : PoolOk P) : (F__law_given [.cell 0, .d (.tuple xs)] (P :: R)).Ret fun v S' => ∃ b P', v = .d (sq b xs) ∧ S' = P' :: R ∧ PoolOk P' := by
  obtain ⟨v, S', e, d, P', rfl, u1, u2, rfl, u3⟩ := (take_ok P 2 R hP (by omega) (by omega)).ok
  by_cases hd : d = 0
  · simp -implicitDefEqProofs only [F__law_given, b__law_given, fSeq_eq, seqK_nx, seqK_rt, seqK_bk, seqK_ct, seqK_ite, eVar_0, eVar_s, bind_ok, sB_ok, eC_eq, eBin_eq, eUn_eq, iOp0_eq, iCmp_eq, tst_eq, addI, negI, fSet_eq, fRet_eq, fExpr_eq, fIf_eq, fAsg_eq, fPar_eq, fNil_eq, fBreak_eq, fCont_eq, gNm_eq, gsNil_eq, gsCons_eq, aNil_eq, aCons_eq, eCall_eq, eCallD_eq, intS_eq, absS_eq, mmS_eq, len_l, len_t, list_l, list_t, tup_l, tup_t, finF_eq, finC_eq, allD_nil, allD_cons, eTup_eq, eLst_eq, eIf_eq, runD_eq, hand_rt, handF_d, take_self, srcS_l, srcS_t, iSrc_eq, iZip_eq, zip_l, iEnm_eq, enum_l, pix0, pix1, pix2, pix3, pset1, pset2, pset3, gSub_eq, tYes_eq, eAdd_eq, eSub_eq, eMul_eq, eDiv_eq, eMod_eq, ePow_eq, eXor_eq, eNeg_eq, eIx_eq, eqI_t, eqI_f, tNot_eq, tAnd_eq, tOr_eq, tru_eq, tru_bool, tru_int, tru_list, eAnd_eq, eNot_eq, isi_eq, asD_d, List.length_cons, List.length_nil, List.map_cons, List.map_nil, List.cons_append, List.nil_append, List.append_nil, List.set_cons_succ, List.set_cons_zero, List.replicate_succ, List.replicate_zero, Option.map_some, if_true, if_false, reduceIte, Nat.reduceAdd, Nat.reduceSub, Nat.reduceLeDiff, List.length_map, Nat.reduceEqDiff, Bool.false_eq_true, Bool.not_false, Bool.not_true, ne_eq, not_true_eq_false, not_false_eq_true, decide_true, decide_false, eq_self, hand_rt, decide_eq_true_eq, sl_l, eSl_eq, oNone_eq, oSome_eq, e, hd, Ret_ok]
    exact ⟨true, P', rfl, tk1 _ _, u3⟩
  · simp -implicitDefEqProofs only [F__law_given, b__law_given, fSeq_eq, seqK_nx, seqK_rt, seqK_bk, seqK_ct, seqK_ite, eVar_0, eVar_s, bind_ok, sB_ok, eC_eq, eBin_eq, eUn_eq, iOp0_eq, iCmp_eq, tst_eq, addI, negI, fSet_eq, fRet_eq, fExpr_eq, fIf_eq, fAsg_eq, fPar_eq, fNil_eq, fBreak_eq, fCont_eq, gNm_eq, gsNil_eq, gsCons_eq, aNil_eq, aCons_eq, eCall_eq, eCallD_eq, intS_eq, absS_eq, mmS_eq, len_l, len_t, list_l, list_t, tup_l, tup_t, finF_eq, finC_eq, allD_nil, allD_cons, eTup_eq, eLst_eq, eIf_eq, runD_eq, hand_rt, handF_d, take_self, srcS_l, srcS_t, iSrc_eq, iZip_eq, zip_l, iEnm_eq, enum_l, pix0, pix1, pix2, pix3, pset1, pset2, pset3, gSub_eq, tYes_eq, eAdd_eq, eSub_eq, eMul_eq, eDiv_eq, eMod_eq, ePow_eq, eXor_eq, eNeg_eq, eIx_eq, eqI_t, eqI_f, tNot_eq, tAnd_eq, tOr_eq, tru_eq, tru_bool, tru_int, tru_list, eAnd_eq, eNot_eq, isi_eq, asD_d, List.length_cons, List.length_nil, List.map_cons, List.map_nil, List.cons_append, List.nil_append, List.append_nil, List.set_cons_succ, List.set_cons_zero, List.replicate_succ, List.replicate_zero, Option.map_some, if_true, if_false, reduceIte, Nat.reduceAdd, Nat.reduceSub, Nat.reduceLeDiff, List.length_map, Nat.reduceEqDiff, Bool.false_eq_true, Bool.not_false, Bool.not_true, ne_eq, not_true_eq_false, not_false_eq_true, decide_true, decide_false, eq_self, hand_rt, decide_eq_true_eq, sl_l, eSl_eq, oNone_eq, oSome_eq, e, hd, Ret_ok]
    exact ⟨false, P', rfl, tk1 _ _, u3⟩
theorem same_eq {x : PyData} (h : pl 6 x) (S : Store) : F__law_same [.d x, .d x] S = .ok (.d (.bool true)) S := same_at 6 x S h
theorem pool_ok (ns : List Int) (hn : ns.length ≤ 63) : ∃ P, PoolOk P ∧ F__law_pool [.scr ns] [] = .ok (.cell 0) [P] := by
  let f : Int → Int := fun c => if 0 ≤ c then 2 * c else -2 * c - 1
  refine ⟨.lst [.list ((ns.map f).map .int), .int 0, .int 0, .int 17], ⟨ns.map f, 0, 0, 17, rfl, by decide⟩, ?_⟩
  have hz : ns.length ≤ 16777216 := Nat.le_trans hn (by decide)
  have e0 : iSrc (eVar 0) [some (.scr ns), none] [] = .ok ⟨ns.map .int, fun _ => true⟩ [] := by
    have : srcS (.scr ns) [] = .ok ⟨ns.map .int, fun _ => true⟩ [] := by
      simp only [srcS]
      rw [if_pos hz]
    simp -implicitDefEqProofs only [iSrc_eq, fSeq_eq, seqK_nx, seqK_rt, seqK_bk, seqK_ct, seqK_ite, eVar_0, eVar_s, bind_ok, sB_ok, eC_eq, eBin_eq, eUn_eq, iOp0_eq, iCmp_eq, tst_eq, addI, negI, fSet_eq, fRet_eq, fExpr_eq, fIf_eq, fAsg_eq, fPar_eq, fNil_eq, fBreak_eq, fCont_eq, gNm_eq, gsNil_eq, gsCons_eq, aNil_eq, aCons_eq, eCall_eq, eCallD_eq, intS_eq, absS_eq, mmS_eq, len_l, len_t, list_l, list_t, tup_l, tup_t, finF_eq, finC_eq, allD_nil, allD_cons, eTup_eq, eLst_eq, eIf_eq, runD_eq, hand_rt, handF_d, take_self, srcS_l, srcS_t, iSrc_eq, iZip_eq, zip_l, iEnm_eq, enum_l, pix0, pix1, pix2, pix3, pset1, pset2, pset3, gSub_eq, tYes_eq, eAdd_eq, eSub_eq, eMul_eq, eDiv_eq, eMod_eq, ePow_eq, eXor_eq, eNeg_eq, eIx_eq, eqI_t, eqI_f, tNot_eq, tAnd_eq, tOr_eq, tru_eq, tru_bool, tru_int, tru_list, eAnd_eq, eNot_eq, isi_eq, asD_d, List.length_cons, List.length_nil, List.map_cons, List.map_nil, List.cons_append, List.nil_append, List.append_nil, List.set_cons_succ, List.set_cons_zero, List.replicate_succ, List.replicate_zero, Option.map_some, if_true, if_false, reduceIte, Nat.reduceAdd, Nat.reduceSub, Nat.reduceLeDiff, List.length_map, Nat.reduceEqDiff, Bool.false_eq_true, Bool.not_false, Bool.not_true, ne_eq, not_true_eq_false, not_false_eq_true, decide_true, decide_false, eq_self, hand_rt, decide_eq_true_eq, sl_l, eSl_eq, oNone_eq, oSome_eq, this]
  have e1 : C__law_pool_1 [some (.scr ns), none] [] = .ok (.d (.list ((ns.map f).map .int))) [] := by
    unfold C__law_pool_1
    let hh : PyData → PyData := fun d => match d with
      | .int c => .int (f c)
      | _ => .none
    rw [eLc_eq e0, lcL_map hh rfl]
    · rw [bind_ok, finF_eq, List.map_map, List.map_map]
      rfl
    · intro d m
      obtain ⟨c, _, rfl⟩ := List.mem_map.mp m
      refine ⟨_, rfl, ?_⟩
      have m1 : mulC 2 c = true := mulC_l (by decide) (by decide)
      have m2 : mulC (-2) c = true := mulC_l (by decide) (by decide)
      by_cases h0 : 0 ≤ c
      · simp -implicitDefEqProofs only [E__law_pool_1, wipeE, fSeq_eq, seqK_nx, seqK_rt, seqK_bk, seqK_ct, seqK_ite, eVar_0, eVar_s, bind_ok, sB_ok, eC_eq, eBin_eq, eUn_eq, iOp0_eq, iCmp_eq, tst_eq, addI, negI, fSet_eq, fRet_eq, fExpr_eq, fIf_eq, fAsg_eq, fPar_eq, fNil_eq, fBreak_eq, fCont_eq, gNm_eq, gsNil_eq, gsCons_eq, aNil_eq, aCons_eq, eCall_eq, eCallD_eq, intS_eq, absS_eq, mmS_eq, len_l, len_t, list_l, list_t, tup_l, tup_t, finF_eq, finC_eq, allD_nil, allD_cons, eTup_eq, eLst_eq, eIf_eq, runD_eq, hand_rt, handF_d, take_self, srcS_l, srcS_t, iSrc_eq, iZip_eq, zip_l, iEnm_eq, enum_l, pix0, pix1, pix2, pix3, pset1, pset2, pset3, gSub_eq, tYes_eq, eAdd_eq, eSub_eq, eMul_eq, eDiv_eq, eMod_eq, ePow_eq, eXor_eq, eNeg_eq, eIx_eq, eqI_t, eqI_f, tNot_eq, tAnd_eq, tOr_eq, tru_eq, tru_bool, tru_int, tru_list, eAnd_eq, eNot_eq, isi_eq, asD_d, List.length_cons, List.length_nil, List.map_cons, List.map_nil, List.cons_append, List.nil_append, List.append_nil, List.set_cons_succ, List.set_cons_zero, List.replicate_succ, List.replicate_zero, Option.map_some, if_true, if_false, reduceIte, Nat.reduceAdd, Nat.reduceSub, Nat.reduceLeDiff, List.length_map, Nat.reduceEqDiff, Bool.false_eq_true, Bool.not_false, Bool.not_true, ne_eq, not_true_eq_false, not_false_eq_true, decide_true, decide_false, eq_self, hand_rt, decide_eq_true_eq, sl_l, eSl_eq, oNone_eq, oSome_eq, h0, mulI _ _ m1]
        show Out.ok (SV.d (.int (2 * c))) [] = Out.ok (SV.d (.int (if 0 ≤ c then 2 * c else -2 * c - 1))) []
        rw [if_pos h0]
      · simp -implicitDefEqProofs only [E__law_pool_1, wipeE, fSeq_eq, seqK_nx, seqK_rt, seqK_bk, seqK_ct, seqK_ite, eVar_0, eVar_s, bind_ok, sB_ok, eC_eq, eBin_eq, eUn_eq, iOp0_eq, iCmp_eq, tst_eq, addI, negI, fSet_eq, fRet_eq, fExpr_eq, fIf_eq, fAsg_eq, fPar_eq, fNil_eq, fBreak_eq, fCont_eq, gNm_eq, gsNil_eq, gsCons_eq, aNil_eq, aCons_eq, eCall_eq, eCallD_eq, intS_eq, absS_eq, mmS_eq, len_l, len_t, list_l, list_t, tup_l, tup_t, finF_eq, finC_eq, allD_nil, allD_cons, eTup_eq, eLst_eq, eIf_eq, runD_eq, hand_rt, handF_d, take_self, srcS_l, srcS_t, iSrc_eq, iZip_eq, zip_l, iEnm_eq, enum_l, pix0, pix1, pix2, pix3, pset1, pset2, pset3, gSub_eq, tYes_eq, eAdd_eq, eSub_eq, eMul_eq, eDiv_eq, eMod_eq, ePow_eq, eXor_eq, eNeg_eq, eIx_eq, eqI_t, eqI_f, tNot_eq, tAnd_eq, tOr_eq, tru_eq, tru_bool, tru_int, tru_list, eAnd_eq, eNot_eq, isi_eq, asD_d, List.length_cons, List.length_nil, List.map_cons, List.map_nil, List.cons_append, List.nil_append, List.append_nil, List.set_cons_succ, List.set_cons_zero, List.replicate_succ, List.replicate_zero, Option.map_some, if_true, if_false, reduceIte, Nat.reduceAdd, Nat.reduceSub, Nat.reduceLeDiff, List.length_map, Nat.reduceEqDiff, Bool.false_eq_true, Bool.not_false, Bool.not_true, ne_eq, not_true_eq_false, not_false_eq_true, decide_true, decide_false, eq_self, hand_rt, decide_eq_true_eq, sl_l, eSl_eq, oNone_eq, oSome_eq, h0, mulI _ _ m2]
        show Out.ok (SV.d (.int (-2 * c - 1))) [] = Out.ok (SV.d (.int (if 0 ≤ c then 2 * c else -2 * c - 1))) []
        rw [if_neg h0]
  have hev : b__law_pool [some (.scr ns), none] [] = .ok (.rt (.cell 0)) [.lst [.list ((ns.map f).map .int), .int 0, .int 0, .int 17]] := by
    simp -implicitDefEqProofs only [b__law_pool, fSeq_eq, seqK_nx, seqK_rt, seqK_bk, seqK_ct, seqK_ite, eVar_0, eVar_s, bind_ok, sB_ok, eC_eq, eBin_eq, eUn_eq, iOp0_eq, iCmp_eq, tst_eq, addI, negI, fSet_eq, fRet_eq, fExpr_eq, fIf_eq, fAsg_eq, fPar_eq, fNil_eq, fBreak_eq, fCont_eq, gNm_eq, gsNil_eq, gsCons_eq, aNil_eq, aCons_eq, eCall_eq, eCallD_eq, intS_eq, absS_eq, mmS_eq, len_l, len_t, list_l, list_t, tup_l, tup_t, finF_eq, finC_eq, allD_nil, allD_cons, eTup_eq, eLst_eq, eIf_eq, runD_eq, hand_rt, handF_d, take_self, srcS_l, srcS_t, iSrc_eq, iZip_eq, zip_l, iEnm_eq, enum_l, pix0, pix1, pix2, pix3, pset1, pset2, pset3, gSub_eq, tYes_eq, eAdd_eq, eSub_eq, eMul_eq, eDiv_eq, eMod_eq, ePow_eq, eXor_eq, eNeg_eq, eIx_eq, eqI_t, eqI_f, tNot_eq, tAnd_eq, tOr_eq, tru_eq, tru_bool, tru_int, tru_list, eAnd_eq, eNot_eq, isi_eq, asD_d, List.length_cons, List.length_nil, List.map_cons, List.map_nil, List.cons_append, List.nil_append, List.append_nil, List.set_cons_succ, List.set_cons_zero, List.replicate_succ, List.replicate_zero, Option.map_some, if_true, if_false, reduceIte, Nat.reduceAdd, Nat.reduceSub, Nat.reduceLeDiff, List.length_map, Nat.reduceEqDiff, Bool.false_eq_true, Bool.not_false, Bool.not_true, ne_eq, not_true_eq_false, not_false_eq_true, decide_true, decide_false, eq_self, hand_rt, decide_eq_true_eq, sl_l, eSl_eq, oNone_eq, oSome_eq, e1]
  have : F__law_pool [.scr ns] [] = hand handC 0 (b__law_pool [some (.scr ns), none] []) := rfl
  rw [this, hev]
  rfl
theorem seq_loop {L rest : SF} {Γ : Ev} {S : Store} {Q1 Q : Fl → Store → Prop} (h : (L Γ S).Ret Q1) (k : ∀ fl S', Q1 fl S' → ∃ Γ', fl = .nx Γ' ∧ (rest Γ' S').Ret Q) : (fSeq L rest Γ S).Ret Q := by
  obtain ⟨fl, S', e, h1⟩ := h.ok
  obtain ⟨Γ', rfl, h2⟩ := k fl S' h1
  rw [fSeq_eq, e]
  exact h2
end G29
/-! R2: the forest: what _law_forest counts. -/
namespace G29
open PySem L2 DL Gr
theorem at_end (S : Store) (m : MO) : (S ++ [m])[S.length]? = some m := by
  rw [List.getElem?_append_right (Nat.le_refl _), Nat.sub_self]; rfl
theorem set_end (S : Store) (m m' : MO) : (S ++ [m]).set S.length m' = S ++ [m'] := by
  rw [List.set_append_right _ _ (Nat.le_refl _), Nat.sub_self]; rfl
theorem cellD_end (S : Store) (ds : List (Key × PyData)) : cellD (.cell S.length) (S ++ [.dct ds]) = some (S.length, ds) := by
  unfold cellD
  simp only [at_end]
theorem get_eq {k : Nat} {Γ : Ev} {S : Store} {ds : List (Key × PyData)} {x y : Int} {i : Nat} (h1 : Γ[i]? = some (some (.cell S.length))) (hk : Γ[k]? = some (some (.d (.int x)))) (hy : (valD ds (.inl x)).getD (.int x) = .int y) :
    eGet2 (eVar i) (eVar k) (eVar k) Γ (S ++ [.dct ds]) = .ok (.d (.int y)) (S ++ [.dct ds]) := by
  unfold eGet2
  rw [eVar_at h1, bind_ok, cellD_end, Option.isSome_some, if_pos rfl, eVar_at hk, bind_ok, eVar_at hk, bind_ok]
  unfold dgetS
  simp only [cellD_end, keyP]
  cases hv : valD ds (.inl x) with
  | none => rw [hv] at hy; simp only [Option.getD_none] at hy; rw [hy]
  | some z => rw [hv] at hy; simp only [Option.getD_some] at hy; rw [hy]
theorem dput_eq {k j : Nat} {Γ : Ev} {S : Store} {ds : List (Key × PyData)} {x y : Int} {i : Nat} (h1 : Γ[i]? = some (some (.cell S.length))) (hk : Γ[k]? = some (some (.d (.int x)))) (hj : Γ[j]? = some (some (.d (.int y)))) (hz : ds.length < 16777216) :
    fDput (eVar i) (eVar k) (eVar j) Γ (S ++ [.dct ds]) = .ok (.nx Γ) (S ++ [.dct (putD ds (.inl x) (.int y))]) := by
  unfold fDput
  rw [eVar_at hj, sB_ok, eVar_at h1, sB_ok, eVar_at hk, sB_ok]
  unfold dputK
  simp only [cellD_end, keyP]
  rw [if_pos hz, set_end]
/-! ### dicts of numbers -/
def keysD (ds : List (Key × PyData)) : List Key := ds.map (·.1)
theorem val_none {ds : List (Key × PyData)} {k : Key} : valD ds k = none ↔ k ∉ keysD ds := by
  unfold valD keysD
  rw [Option.map_eq_none_iff, List.find?_eq_none]
  simp only [decide_eq_true_eq, List.mem_map]
  exact ⟨fun h ⟨kv, m, e⟩ => h kv m e, fun h kv m e => h ⟨kv, m, e⟩⟩
theorem any_key {ds : List (Key × PyData)} {k : Key} : (ds.any fun kv => decide (kv.1 = k)) = true ↔ k ∈ keysD ds := by
  unfold keysD
  rw [List.any_eq_true]
  simp only [decide_eq_true_eq, List.mem_map]
theorem put_keys {ds : List (Key × PyData)} {k : Key} {x : PyData} : ∀ q, q ∈ keysD (putD ds k x) ↔ q ∈ keysD ds ∨ q = k := by
  intro q
  unfold putD
  split
  · rename_i h
    have h := any_key.mp h
    have e : keysD (ds.map fun kv => if kv.1 = k then (kv.1, x) else kv) = keysD ds := by
      unfold keysD
      rw [List.map_map]
      refine List.map_congr_left fun kv _ => ?_
      show (if kv.1 = k then (kv.1, x) else kv).1 = kv.1
      split <;> rfl
    rw [e]
    exact ⟨.inl, fun z => z.elim id fun z => z ▸ h⟩
  · unfold keysD
    simp
theorem put_val {ds : List (Key × PyData)} {k : Key} {x : PyData} (q : Key) : valD (putD ds k x) q = if q = k then some x else valD ds q := by
  unfold putD
  split
  · rename_i h0
    have h := any_key.mp h0
    clear h0
    induction ds with
    | nil => cases h
    | cons a ds ih =>
      unfold valD at ih ⊢
      rw [List.map_cons, List.find?_cons, List.find?_cons]
      by_cases ha : a.1 = k
      · rw [if_pos ha]
        by_cases hq : q = k
        · subst hq
          simp [ha]
        · rw [if_neg hq]
          have h1 : ¬ (a.1, x).1 = q := fun z => hq (z.symm.trans ha)
          have h2 : ¬ a.1 = q := h1
          rw [decide_eq_false h1]
          simp only
          by_cases hk : k ∈ keysD ds
          · have := ih hk
            rw [if_neg hq] at this
            exact this
          · have e : (ds.map fun kv => if kv.1 = k then (kv.1, x) else kv) = ds := by
              refine (List.map_congr_left fun kv m => ?_).trans (List.map_id ds)
              rw [if_neg fun z => hk (List.mem_map.mpr ⟨kv, m, z⟩)]; rfl
            rw [e]
      · rw [if_neg ha]
        have hk : k ∈ keysD ds := by
          unfold keysD at h
          rw [List.map_cons] at h
          exact (List.mem_cons.mp h).elim (fun z => absurd z.symm ha) id
        by_cases hq : a.1 = q
        · rw [decide_eq_true hq]
          rw [if_neg fun z => ha (hq.trans z)]
        · rw [decide_eq_false hq]
          exact ih hk
  · rename_i h
    have h : k ∉ keysD ds := fun z => h (any_key.mpr z)
    unfold valD
    rw [List.find?_append]
    by_cases hq : q = k
    · subst hq
      have := val_none.mpr h
      unfold valD at this
      rw [Option.map_eq_none_iff] at this
      rw [this, if_pos rfl]
      simp
    · rw [if_neg hq]
      have : List.find? (fun kv : Key × PyData => decide (kv.1 = q)) [(k, x)] = none := by
        rw [List.find?_cons, decide_eq_false (fun z : k = q => hq z.symm)]; rfl
      rw [this, Option.or_none]
/-- ds tells G: the numbers that it gives; all its keys are numbers -/
structure Tells (ds : List (Key × PyData)) (G : Int → Int) : Prop where
  all : ∀ k ∈ keysD ds, ∃ i, k = .inl i
  val : ∀ x, (valD ds (.inl x)).getD (.int x) = .int (G x)
theorem Tells.put {ds : List (Key × PyData)} {G : Int → Int} (h : Tells ds G) (k v : Int) : Tells (putD ds (.inl k) (.int v)) fun x => if x = k then v else G x := by
  refine ⟨fun q m => ?_, fun x => ?_⟩
  · rcases (put_keys q).mp m with z | z
    · exact h.all q z
    · exact ⟨k, z⟩
  · rw [put_val]
    by_cases hx : x = k
    · subst hx
      rw [if_pos rfl, if_pos rfl]; rfl
    · rw [if_neg (fun z => hx (by injection z)), if_neg hx]
      exact h.val x
theorem Tells.out {ds : List (Key × PyData)} {G : Int → Int} (h : Tells ds G) {x : Int} (hx : (.inl x : Key) ∉ keysD ds) : G x = x := by
  have := h.val x
  rw [val_none.mpr hx] at this
  injection this with e
  exact e.symm
def kI (ds : List (Key × PyData)) : List Int := ds.map fun kv => match kv.1 with
  | .inl i => i
  | .inr _ => 0
theorem keys_ints : ∀ {ds : List (Key × PyData)}, (∀ k ∈ keysD ds, ∃ i, k = .inl i) → (ds.map fun kv => pKey kv.1) = (kI ds).map .int ∧ ∀ x, x ∈ kI ds ↔ (.inl x : Key) ∈ keysD ds
  | [], _ => ⟨rfl, fun x => by simp [kI, keysD]⟩
  | a :: ds, h => by
    obtain ⟨e1, e2⟩ := keys_ints (ds := ds) fun k m => h k (by unfold keysD; rw [List.map_cons]; exact List.mem_cons_of_mem _ m)
    obtain ⟨i, hi⟩ := h a.1 (by unfold keysD; rw [List.map_cons]; exact List.mem_cons_self)
    unfold kI keysD at *
    refine ⟨?_, fun x => ?_⟩
    · rw [List.map_cons, List.map_cons, List.map_cons, e1, hi]; rfl
    · rw [List.map_cons, List.map_cons, List.mem_cons, List.mem_cons, e2, hi]
      simp
/-! ### the loops -/
abbrev fΓ (L : PyData) (S : Store) (n : Nat) (a b : Option SV) (p q r : Option SV) : Ev := [some (.d L), some (.cell S.length), some (.d (.int n)), a, b, p, q, r]
theorem place_loop (L : PyData) (S : Store) (n : Nat) (a b first second : Int) (hne : first ≠ second) : ∀ (Ls : List Int) (ds : List (Key × PyData)) (G : Int → Int) (r : Option SV), Tells ds G → ds.length + Ls.length < 16777216 →
    ∃ ds' r', forL (fun _ => true) (gNm 7) B__law_forest_1 (Ls.map .int) (fΓ L S n (some (.d (.int a))) (some (.d (.int b))) (some (.d (.int first))) (some (.d (.int second))) r) (S ++ [.dct ds]) =
      .ok (.nx (fΓ L S n (some (.d (.int a))) (some (.d (.int b))) (some (.d (.int first))) (some (.d (.int second))) r')) (S ++ [.dct ds']) ∧ Tells ds' (fun x => if x ∈ Ls ∧ G x = second then first else G x) ∧ ds'.length ≤ ds.length + Ls.length ∧ (∀ k ∈ keysD ds, k ∈ keysD ds') ∧
      ∀ k ∈ keysD ds', k ∈ keysD ds ∨ ∃ x ∈ Ls, k = .inl x
  | [], ds, G, r, h, hz => ⟨ds, r, rfl, by simpa using h, by simp, fun k m => m, fun k m => .inl m⟩
  | x :: Ls, ds, G, r, h, hz => by
    rw [List.length_cons] at hz
    have hg := get_eq (k := 7) (Γ := fΓ L S n (some (.d (.int a))) (some (.d (.int b))) (some (.d (.int first))) (some (.d (.int second))) (some (.d (.int x)))) (S := S) (ds := ds) (x := x) (i := 1) rfl rfl (h.val x)
    have ht : tst (eBin (eqS false) (eGet2 (eVar 1) (eVar 7) (eVar 7)) (eVar 6)) (fΓ L S n (some (.d (.int a))) (some (.d (.int b))) (some (.d (.int first))) (some (.d (.int second))) (some (.d (.int x)))) (S ++ [.dct ds]) = .ok (decide (G x = second)) (S ++ [.dct ds]) := by
      rw [tst_eq, eBin_eq, hg, bind_ok, eVar_at (x := .d (.int second)) rfl, bind_ok, eqI_t, bind_ok]
    rw [List.map_cons]
    unfold forL
    rw [if_pos rfl]
    simp only [gNm_eq, List.set_cons_succ, List.set_cons_zero]
    unfold B__law_forest_1
    rw [fIf_eq, ht, sB_ok]
    by_cases hx : G x = second
    · rw [decide_eq_true hx, if_pos rfl, dput_eq (i := 1) (k := 7) (j := 5) (x := x) (y := first) rfl rfl rfl (by omega)]
      obtain ⟨ds', r', e, t, l, k1, k2⟩ := place_loop L S n a b first second hne Ls (putD ds (.inl x) (.int first)) _ (some (.d (.int x))) (h.put x first) (by have := putD_len ds (.inl x) (.int first); omega)
      refine ⟨ds', r', e, ?_, by have := putD_len ds (.inl x) (.int first); rw [List.length_cons]; omega, fun k m => k1 k ((put_keys k).mpr (.inl m)), fun k m => ?_⟩
      · have ef : (fun y => if y ∈ Ls ∧ (if y = x then first else G y) = second then first else if y = x then first else G y) = fun y => if y ∈ x :: Ls ∧ G y = second then first else G y := by
          funext y
          by_cases hy : y = x
          · subst hy
            rw [if_pos rfl, if_neg fun z => hne z.2, if_pos ⟨List.mem_cons_self, hx⟩]
          · simp [hy]
        rw [← ef]
        exact t
      · rcases k2 k m with z | ⟨y, my, z⟩
        · rcases (put_keys k).mp z with z | z
          · exact .inl z
          · exact .inr ⟨x, List.mem_cons_self, z⟩
        · exact .inr ⟨y, List.mem_cons_of_mem _ my, z⟩
    · rw [decide_eq_false hx, if_neg (by simp), fNil_eq]
      obtain ⟨ds', r', e, t, l, k1, k2⟩ := place_loop L S n a b first second hne Ls ds G (some (.d (.int x))) h (by omega)
      refine ⟨ds', r', e, ?_, by rw [List.length_cons]; omega, k1, fun k m => (k2 k m).imp id fun ⟨y, my, z⟩ => ⟨y, List.mem_cons_of_mem _ my, z⟩⟩
      have ef : (fun y => if y ∈ Ls ∧ G y = second then first else G y) = fun y => if y ∈ x :: Ls ∧ G y = second then first else G y := by
        funext y
        by_cases hy : y = x
        · subst hy
          simp [hx]
        · simp [hy]
      rw [← ef]
      exact t
end G29
/-! R3: _law_forest counts the edges that join what the ones ahead do not. -/
namespace G29
open PySem L2 DL Gr
structure DOk (ds : List (Key × PyData)) (G : Int → Int) (pre : List Ed) : Prop where
  t : Tells ds G
  cl : ∀ x, (.inl x : Key) ∈ keysD ds → (.inl (G x) : Key) ∈ keysD ds
  idem : ∀ x, G (G x) = G x
  conn : ∀ x y, G x = G y ↔ Conn pre x y
  len : ds.length + 3 ≤ 3 * 2 ^ pre.length
theorem conn_nil {x y : Int} (h : Conn [] x y) : x = y := by
  have := h (fun z => z = x) fun e m => by cases m
  exact (this.mp rfl).symm
theorem dok_nil : DOk [] id [] where
  t := ⟨fun k m => (nomatch m), fun x => rfl⟩
  cl x m := (nomatch m)
  idem x := rfl
  conn x y := ⟨fun h => by rw [show x = y from h]; exact Conn.refl _ _, fun h => conn_nil h⟩
  len := by decide
theorem conn_same {pre : List Ed} {a b : Int} (h : Conn pre a b) (x y : Int) : Conn (pre ++ [(a, b)]) x y ↔ Conn pre x y := by
  constructor
  · intro k f i
    refine k f fun e m => ?_
    rcases List.mem_append.mp m with m | m
    · exact i e m
    · rw [List.mem_singleton.mp m]
      exact h f i
  · exact Conn.mono fun e m => List.mem_append_left _ m
/-- G behind the step -/
theorem conn_step {G : Int → Int} {pre : List Ed} {a b : Int} (hc : ∀ x y, G x = G y ↔ Conn pre x y) (hne : G a ≠ G b) (x y : Int) :
    ((if G x = G b then G a else G x) = (if G y = G b then G a else G y)) ↔ Conn (pre ++ [(a, b)]) x y := by
  have up : ∀ {p q : Int}, Conn pre p q → Conn (pre ++ [(a, b)]) p q := fun h => Conn.mono (fun e m => List.mem_append_left _ m) h
  have ab : Conn (pre ++ [(a, b)]) a b := Conn.edge (e := (a, b)) (List.mem_append_right _ (List.mem_singleton.mpr rfl))
  constructor
  · intro h
    by_cases hx : G x = G b
    · rw [if_pos hx] at h
      by_cases hy : G y = G b
      · exact up ((hc x y).mp (hx.trans hy.symm))
      · rw [if_neg hy] at h
        exact (up ((hc x b).mp hx)).trans (ab.symm.trans (up ((hc a y).mp h)))
    · rw [if_neg hx] at h
      by_cases hy : G y = G b
      · rw [if_pos hy] at h
        exact (up ((hc x a).mp h)).trans (ab.trans (up ((hc b y).mp hy.symm)))
      · rw [if_neg hy] at h
        exact up ((hc x y).mp h)
  · intro h
    have := h (fun z => (if G z = G b then G a else G z) = (if G x = G b then G a else G x)) fun e m => by
      rcases List.mem_append.mp m with m | m
      · have : G e.1 = G e.2 := (hc _ _).mpr (Conn.edge m)
        simp only [this]
      · rw [List.mem_singleton.mp m]
        show ((if G a = G b then G a else G a) = _) ↔ ((if G b = G b then G a else G b) = _)
        rw [if_neg hne, if_pos rfl]
    exact (this.mp rfl).symm
open Classical in
theorem edge_step (L : PyData) (S : Store) (n : Nat) (a b : Int) (p q r : Option SV) {ds : List (Key × PyData)} {G : Int → Int} {pre : List Ed} (h : DOk ds G pre) (hp : pre.length ≤ 15) :
    ∃ ds' G' p' q' r', B__law_forest_2 (fΓ L S n (some (.d (.int a))) (some (.d (.int b))) p q r) (S ++ [.dct ds]) =
      .ok (.nx (fΓ L S (n + if Conn pre a b then 0 else 1) (some (.d (.int a))) (some (.d (.int b))) p' q' r')) (S ++ [.dct ds']) ∧ DOk ds' G' (pre ++ [(a, b)]) := by
  have hp2 : 2 ^ pre.length ≤ 2 ^ 15 := Nat.pow_le_pow_right (by decide) hp
  have hlen := h.len
  have hz : ds.length ≤ 100000 := by
    have : (2 : Nat) ^ 15 = 32768 := by decide
    omega
  have g1 := get_eq (k := 3) (Γ := fΓ L S n (some (.d (.int a))) (some (.d (.int b))) p q r) (S := S) (ds := ds) (x := a) (i := 1) rfl rfl (h.t.val a)
  have g2 := get_eq (k := 4) (Γ := fΓ L S n (some (.d (.int a))) (some (.d (.int b))) p q r) (S := S) (ds := ds) (x := b) (i := 1) rfl rfl (h.t.val b)
  have e1 : fPar 5 6 (aCons (eGet2 (eVar 1) (eVar 3) (eVar 3)) (aCons (eGet2 (eVar 1) (eVar 4) (eVar 4)) aNil)) (fΓ L S n (some (.d (.int a))) (some (.d (.int b))) p q r) (S ++ [.dct ds]) =
      .ok (.nx (fΓ L S n (some (.d (.int a))) (some (.d (.int b))) (some (.d (.int (G a)))) (some (.d (.int (G b)))) r)) (S ++ [.dct ds]) := by
    rw [fPar_eq, aCons_eq, g1, bind_ok, aCons_eq, g2, bind_ok, aNil_eq, bind_ok, bind_ok, sB_ok]
    rfl
  have e2 : tst (eBin (eqS true) (eVar 5) (eVar 6)) (fΓ L S n (some (.d (.int a))) (some (.d (.int b))) (some (.d (.int (G a)))) (some (.d (.int (G b)))) r) (S ++ [.dct ds]) = .ok (!decide (G a = G b)) (S ++ [.dct ds]) := by
    rw [tst_eq, eBin_eq, eVar_at (x := .d (.int (G a))) rfl, bind_ok, eVar_at (x := .d (.int (G b))) rfl, bind_ok, eqI_f, bind_ok]
    by_cases k : G a = G b <;> simp [k]
  unfold B__law_forest_2
  rw [fSeq_eq, e1, seqK_nx, fIf_eq, e2, sB_ok]
  by_cases hab : G a = G b
  · have hcn := (h.conn a b).mp hab
    rw [decide_eq_true hab, if_neg (by simp), fNil_eq]
    refine ⟨ds, G, _, _, _, by rw [if_pos hcn]; rfl, h.t, h.cl, h.idem, fun x y => (h.conn x y).trans (conn_same hcn x y).symm, ?_⟩
    rw [List.length_append, List.length_singleton, Nat.pow_succ]
    omega
  · have hcn : ¬ Conn pre a b := fun z => hab ((h.conn a b).mpr z)
    rw [decide_eq_false hab, if_pos (by rfl), if_neg hcn]
    obtain ⟨k1, k2⟩ := keys_ints h.t.all
    have hk : (kI ds).length = ds.length := by unfold kI; rw [List.length_map]
    obtain ⟨ds', r', e, t, l, s1, s2⟩ := place_loop L S (n + 1) a b (G a) (G b) hab (kI ds ++ [a, b]) ds G r h.t (by rw [List.length_append, hk]; simp; omega)
    have e3 : fSet 2 (eAddF finF (eVar 2) (eC (.int 1))) (fΓ L S n (some (.d (.int a))) (some (.d (.int b))) (some (.d (.int (G a)))) (some (.d (.int (G b)))) r) (S ++ [.dct ds]) =
        .ok (.nx (fΓ L S (n + 1) (some (.d (.int a))) (some (.d (.int b))) (some (.d (.int (G a)))) (some (.d (.int (G b)))) r)) (S ++ [.dct ds]) := by
      rw [fSet_eq, eAdd_eq, eVar_at (x := .d (.int n)) rfl, bind_ok, eC_eq, bind_ok, addI, sB_ok]
      rfl
    have e4 : iSrc (eAddF finF (eCall (dkeysS finF) (aCons (eVar 1) aNil)) (eLst finF (aCons (eVar 3) (aCons (eVar 4) aNil)))) (fΓ L S (n + 1) (some (.d (.int a))) (some (.d (.int b))) (some (.d (.int (G a)))) (some (.d (.int (G b)))) r) (S ++ [.dct ds]) =
        .ok ⟨(kI ds ++ [a, b]).map .int, fun _ => true⟩ (S ++ [.dct ds]) := by
      have f1 : eCall (dkeysS finF) (aCons (eVar 1) aNil) (fΓ L S (n + 1) (some (.d (.int a))) (some (.d (.int b))) (some (.d (.int (G a)))) (some (.d (.int (G b)))) r) (S ++ [.dct ds]) = .ok (.d (.list ((kI ds).map .int))) (S ++ [.dct ds]) := by
        rw [eCall_eq, aCons_eq, eVar_at (x := .cell S.length) rfl, bind_ok, aNil_eq, bind_ok, bind_ok]
        unfold dkeysS
        simp only [cellD_end]
        rw [k1, finF_eq]
      have f2 : eLst finF (aCons (eVar 3) (aCons (eVar 4) aNil)) (fΓ L S (n + 1) (some (.d (.int a))) (some (.d (.int b))) (some (.d (.int (G a)))) (some (.d (.int (G b)))) r) (S ++ [.dct ds]) = .ok (.d (.list [.int a, .int b])) (S ++ [.dct ds]) := rfl
      have f3 : addS finF (.d (.list ((kI ds).map .int))) (.d (.list [.int a, .int b])) (S ++ [.dct ds]) = .ok (.d (.list ((kI ds).map .int ++ [.int a, .int b]))) (S ++ [.dct ds]) := by
        show (if _ then _ else _) = _
        rw [if_pos (by simp [hk]; omega)]
        rfl
      rw [iSrc_eq, eAdd_eq, f1, bind_ok, f2, bind_ok, f3, bind_ok, srcS_l, List.map_append]
      rfl
    rw [fSeq_eq, e3, seqK_nx, fSeq_eq]
    unfold L__law_forest_1
    rw [fFor_eq e4, e, seqK_nx, dput_eq (i := 1) (k := 5) (j := 5) (x := G a) (y := G a) rfl rfl rfl (by rw [List.length_append, hk] at l; simp at l; omega)]
    -- the map behind it
    have full : ∀ x, (x ∈ kI ds ++ [a, b] ∧ G x = G b) ↔ G x = G b := fun x => ⟨fun z => z.2, fun z => ⟨?_, z⟩⟩
    · have ef : (fun x => if x = G a then G a else if x ∈ kI ds ++ [a, b] ∧ G x = G b then G a else G x) = fun x => if G x = G b then G a else G x := by
        funext x
        by_cases hx : x = G a
        · subst hx
          rw [if_pos rfl, h.idem, if_neg hab]
        · rw [if_neg hx]
          by_cases hb : G x = G b
          · rw [if_pos ((full x).mpr hb), if_pos hb]
          · rw [if_neg (fun z => hb z.2), if_neg hb]
      have t' := t.put (G a) (G a)
      rw [ef] at t'
      refine ⟨_, _, _, _, _, rfl, t', fun x hx => ?_, fun x => ?_, conn_step h.conn hab, ?_⟩
      · rw [put_keys]
        show (.inl (if G x = G b then G a else G x) : Key) ∈ keysD ds' ∨ _
        by_cases hb : G x = G b
        · rw [if_pos hb]; exact .inr rfl
        · rw [if_neg hb]
          by_cases hxa : G x = G a
          · exact .inr (by rw [hxa])
          · rcases (put_keys _).mp hx with z | z
            · rcases s2 _ z with z | ⟨y, my, z⟩
              · exact .inl (s1 _ (h.cl x z))
              · injection z with z
                subst z
                rcases List.mem_append.mp my with my | my
                · exact .inl (s1 _ (h.cl x ((k2 x).mp my)))
                · rcases List.mem_cons.mp my with z | my
                  · exact absurd (by rw [z]) hxa
                  · exact absurd (by rw [List.mem_singleton.mp my]) hb
            · injection z with z
              exact absurd (by rw [z, h.idem]) hxa
      · show (if G (if G x = G b then G a else G x) = G b then G a else G (if G x = G b then G a else G x)) = _
        by_cases hb : G x = G b
        · rw [if_pos hb, h.idem, if_neg hab]
        · rw [if_neg hb, h.idem, if_neg hb]
      · have := putD_len ds' (.inl (G a)) (.int (G a))
        rw [List.length_append, hk] at l
        simp only [List.length_cons, List.length_nil] at l
        rw [List.length_append, List.length_singleton, Nat.pow_succ]
        omega
    · refine List.mem_append.mpr ?_
      by_cases hk2 : (.inl x : Key) ∈ keysD ds
      · exact .inl ((k2 x).mpr hk2)
      · have e5 := h.t.out hk2
        by_cases hb : (.inl b : Key) ∈ keysD ds
        · exact absurd (by rw [← e5, z]; exact h.cl b hb) hk2
        · refine .inr ?_
          have : x = b := by rw [← e5, z, h.t.out hb]
          rw [this]
          simp
abbrev pr (e : Ed) : PyData := .tuple [.int e.1, .int e.2]
open Classical in
theorem edges_loop (L : PyData) (S : Store) : ∀ (es : List Ed) (pre : List Ed) (n : Nat) (a b p q r : Option SV) (ds : List (Key × PyData)) (G : Int → Int), DOk ds G pre → pre.length + es.length ≤ 15 →
    ∃ ds' a' b' p' q' r', forL (fun _ => true) (gTupF 2 (gsCons (gNm 3) (gsCons (gNm 4) gsNil))) B__law_forest_2 (es.map pr) (fΓ L S n a b p q r) (S ++ [.dct ds]) = .ok (.nx (fΓ L S (n + rkF pre es) a' b' p' q' r')) (S ++ [.dct ds'])
  | [], pre, n, a, b, p, q, r, ds, G, h, hl => ⟨ds, a, b, p, q, r, rfl⟩
  | e :: es, pre, n, a, b, p, q, r, ds, G, h, hl => by
    rw [List.length_cons] at hl
    obtain ⟨ds', G', p', q', r', e1, h'⟩ := edge_step L S n e.1 e.2 p q r h (by omega)
    obtain ⟨ds2, a2, b2, p2, q2, r2, e2⟩ := edges_loop L S es (pre ++ [(e.1, e.2)]) (n + if Conn pre e.1 e.2 then 0 else 1) (some (.d (.int e.1))) (some (.d (.int e.2))) p' q' r' ds' G' h' (by rw [List.length_append]; simp; omega)
    refine ⟨ds2, a2, b2, p2, q2, r2, ?_⟩
    rw [List.map_cons]
    unfold forL
    have e0 : gTupF 2 (gsCons (gNm 3) (gsCons (gNm 4) gsNil)) (.d (pr e)) (fΓ L S n a b p q r) (S ++ [.dct ds]) = .ok (fΓ L S n (some (.d (.int e.1))) (some (.d (.int e.2))) p q r) (S ++ [.dct ds]) := rfl
    rw [if_pos rfl, e0]
    simp only
    rw [e1]
    simp only
    rw [e2]
    show _ = Out.ok (Fl.nx (fΓ L S (n + ((if Conn pre e.1 e.2 then 0 else 1) + rkF (pre ++ [e]) es)) a2 b2 p2 q2 r2)) _
    rw [← Nat.add_assoc]
theorem forest_eq (es : List Ed) (h : es.length ≤ 15) (S : Store) : F__law_forest [.d (.list (es.map pr))] S = .ok (.d (.int (rkF [] es))) S := by
  unfold F__law_forest
  rw [runD_eq]
  show hand handF S.length (b__law_forest [some (.d (.list (es.map pr))), none, none, none, none, none, none, none] S) = _
  have e1 : fPar 1 2 (aCons eDctC (aCons (eC (.int 0)) aNil)) [some (.d (.list (es.map pr))), none, none, none, none, none, none, none] S = .ok (.nx (fΓ (.list (es.map pr)) S 0 none none none none none)) (S ++ [.dct []]) := rfl
  obtain ⟨ds', a', b', p', q', r', e2⟩ := edges_loop (.list (es.map pr)) S es [] 0 none none none none none [] id dok_nil (by simpa using h)
  have e3 : iSrc (eVar 0) (fΓ (.list (es.map pr)) S 0 none none none none none) (S ++ [.dct []]) = .ok ⟨es.map pr, fun _ => true⟩ (S ++ [.dct []]) := rfl
  unfold b__law_forest
  rw [fSeq_eq, e1, seqK_nx, fSeq_eq]
  unfold L__law_forest_2
  rw [fFor_eq e3, e2, seqK_nx, Nat.zero_add]
  show hand handF S.length (.ok (.rt (.d (.int (rkF [] es)))) (S ++ [.dct ds'])) = _
  rw [hand_rt, handF_d, List.take_left]
end G29
/-! R4: in, comprehensions; all sets; the ranks of a graph. -/
namespace G29
open PySem L2 DL Gr
/-- a list or tuple of numbers -/
abbrev sqI (b : Bool) (xs : List Int) : PyData := sq b (xs.map .int)
theorem sqI_t (xs : List Int) : sqI false xs = row xs := rfl
theorem src_sq (b : Bool) (xs : List PyData) (S : Store) : srcS (.d (sq b xs)) S = .ok ⟨xs, fun _ => true⟩ S := by cases b <;> rfl
theorem len_sq (b : Bool) (xs : List PyData) (S : Store) : lenS [.d (sq b xs)] S = .ok (.d (.int xs.length)) S := by cases b <;> rfl
theorem lay_ints : ∀ xs : List Int, PyData.canLayAll0 (xs.map .int) = true
  | [] => by simp [PyData.canLayAll0]
  | x :: xs => by
    rw [List.map_cons, PyData.canLayAll0, lay_ints xs, Bool.and_true]
    simp [PyData.canLay0]
theorem dep_ints : ∀ xs : List Int, PyData.depthAll (xs.map .int) ≤ 1
  | [] => by simp [PyData.depthAll]
  | x :: xs => by
    have := dep_ints xs
    simp only [List.map_cons, PyData.depthAll, PyData.depth]
    omega
theorem shaped_sqI (b : Bool) (xs : List Int) : SeqAt.shaped (sqI b xs) = true := by
  have h1 := lay_ints xs
  have h2 := dep_ints xs
  cases b <;> simp [SeqAt.shaped, sqI, sq, PyData.canLay0, PyData.depth, h1] <;> omega
theorem has_int (ys : List Int) (e : Int) : hasD (ys.map .int) (.int e) = decide (e ∈ ys) := by
  unfold hasD
  rw [List.any_map, Bool.eq_iff_iff, List.any_eq_true, decide_eq_true_iff]
  constructor
  · rintro ⟨y, hy, h⟩
    have h' : decide (y = e) = true := h
    rw [← of_decide_eq_true h']; exact hy
  · exact fun h => ⟨e, h, (decide_eq_true rfl : decide (e = e) = true)⟩
theorem in_sqI (b : Bool) (ys : List Int) (e : Int) (neg : Bool) (S : Store) : inS neg (.d (.int e)) (.d (sqI b ys)) S = .ok (.d (.bool (if neg then !decide (e ∈ ys) else decide (e ∈ ys)))) S := by
  have h := shaped_sqI b ys
  have h2 : SeqAt.shaped (.int e) = true := rfl
  cases b with
  | false =>
    have h' : SeqAt.shaped (.tuple (ys.map .int)) = true := h
    show (if SeqAt.shaped (.int e) && SeqAt.shaped (.tuple (ys.map .int)) then _ else _) = _
    rw [h2, h', has_int]; rfl
  | true =>
    have h' : SeqAt.shaped (.list (ys.map .int)) = true := h
    show (if SeqAt.shaped (.int e) && SeqAt.shaped (.list (ys.map .int)) then _ else _) = _
    rw [h2, h', has_int]; rfl
theorem lcL_g {α : Type} {ok : Store → Bool} {gf : GF} {ef : EF} {vs : List Nat} {Γ : Ev} {S : Store} (g f : α → PyData) (hok : ok S = true) : ∀ (xs : List α),
    (∀ x ∈ xs, ∃ Γ1, gf (.d (g x)) (wipeE Γ vs) S = .ok Γ1 S ∧ ef Γ1 S = .ok (.d (f x)) S) → lcL ok gf tYesF ef vs Γ (xs.map g) S = .ok (xs.map f) S
  | [], _ => by
    show lcL ok gf tYesF ef vs Γ [] S = _
    unfold lcL
    rw [if_pos hok]; rfl
  | x :: xs, k => by
    obtain ⟨Γ1, h1, h2⟩ := k x List.mem_cons_self
    have e := lcL_g (ef := ef) g f hok xs fun y m => k y (List.mem_cons_of_mem _ m)
    show lcL ok gf tYesF ef vs Γ (g x :: xs.map g) S = _
    unfold lcL
    rw [if_pos hok]
    simp only [h1, h2, tYes_eq, e, bind_ok]
    rfl
theorem lcL_gf {α : Type} {ok : Store → Bool} {gf : GF} {tf : TF} {ef : EF} {vs : List Nat} {Γ : Ev} {S : Store} (g f : α → PyData) (c : α → Bool) (hok : ok S = true) : ∀ (xs : List α),
    (∀ x ∈ xs, ∃ Γ1, gf (.d (g x)) (wipeE Γ vs) S = .ok Γ1 S ∧ tf Γ1 S = .ok (c x) S ∧ (c x = true → ef Γ1 S = .ok (.d (f x)) S)) → lcL ok gf tf ef vs Γ (xs.map g) S = .ok ((xs.filter c).map f) S
  | [], _ => by
    show lcL ok gf tf ef vs Γ [] S = _
    unfold lcL
    rw [if_pos hok]; rfl
  | x :: xs, k => by
    obtain ⟨Γ1, h1, h2, h3⟩ := k x List.mem_cons_self
    have e := lcL_gf (tf := tf) (ef := ef) g f c hok xs fun y m => k y (List.mem_cons_of_mem _ m)
    show lcL ok gf tf ef vs Γ (g x :: xs.map g) S = _
    unfold lcL
    rw [if_pos hok]
    cases hc : c x with
    | false =>
      simp only [h1, h2, hc, e]
      rw [List.filter_cons, hc]; rfl
    | true =>
      simp only [h1, h2, hc, h3 hc, e, bind_ok]
      rw [List.filter_cons, hc]; rfl
theorem comp_s {α : Type} {it : IF} {gf : GF} {ef : EF} {vs : List Nat} {Γ : Ev} {S : Store} (g f : α → PyData) (xs : List α) (e0 : it Γ S = .ok ⟨xs.map g, fun _ => true⟩ S)
    (k : ∀ x ∈ xs, ∃ Γ1, gf (.d (g x)) (wipeE Γ vs) S = .ok Γ1 S ∧ ef Γ1 S = .ok (.d (f x)) S) : eLc finF it gf tYesF ef vs Γ S = .ok (.d (.list (xs.map f))) S := by
  rw [eLc_eq e0, lcL_g g f rfl xs k, bind_ok, finF_eq]
theorem init_rows (Γ : Ev) (S : Store) : eLst finF (aCons (eTup aNil) aNil) Γ S = .ok (.d (.list [row []])) S := by
  simp -implicitDefEqProofs only [fSeq_eq, seqK_nx, seqK_rt, seqK_bk, seqK_ct, seqK_ite, eVar_0, eVar_s, bind_ok, sB_ok, eC_eq, eBin_eq, eUn_eq, iOp0_eq, iCmp_eq, tst_eq, addI, negI, fSet_eq, fRet_eq, fExpr_eq, fIf_eq, fAsg_eq, fPar_eq, fNil_eq, fBreak_eq, fCont_eq, gNm_eq, gsNil_eq, gsCons_eq, aNil_eq, aCons_eq, eCall_eq, eCallD_eq, intS_eq, absS_eq, mmS_eq, len_l, len_t, list_l, list_t, tup_l, tup_t, finF_eq, finC_eq, allD_nil, allD_cons, eTup_eq, eLst_eq, eIf_eq, runD_eq, hand_rt, handF_d, take_self, srcS_l, srcS_t, iSrc_eq, iZip_eq, zip_l, iEnm_eq, enum_l, pix0, pix1, pix2, pix3, pset1, pset2, pset3, gSub_eq, tYes_eq, eAdd_eq, eSub_eq, eMul_eq, eDiv_eq, eMod_eq, ePow_eq, eXor_eq, eNeg_eq, eIx_eq, eqI_t, eqI_f, tNot_eq, tAnd_eq, tOr_eq, tru_eq, tru_bool, tru_int, tru_list, eAnd_eq, eNot_eq, isi_eq, asD_d, List.length_cons, List.length_nil, List.map_cons, List.map_nil, List.cons_append, List.nil_append, List.append_nil, List.set_cons_succ, List.set_cons_zero, List.replicate_succ, List.replicate_zero, Option.map_some, if_true, if_false, reduceIte, Nat.reduceAdd, Nat.reduceSub, Nat.reduceLeDiff, List.length_map, Nat.reduceEqDiff, Bool.false_eq_true, Bool.not_false, Bool.not_true, ne_eq, not_true_eq_false, not_false_eq_true, decide_true, decide_false, eq_self, hand_rt, decide_eq_true_eq, sl_l, eSl_eq, oNone_eq, oSome_eq]
  rfl

/-! ### all sets -/
def setsN : Nat → List (List Int)
  | 0 => [[]]
  | n + 1 => setsN n ++ (setsN n).map (· ++ [(n : Int)])
theorem setsN_in : ∀ (n : Nat), ∀ xs ∈ setsN n, (∀ x ∈ xs, 0 ≤ x ∧ x < (n : Int)) ∧ xs.length ≤ n ∧ xs.Pairwise (· < ·)
  | 0, xs, h => by
    rw [show setsN 0 = [[]] from rfl, List.mem_singleton] at h
    subst h
    exact ⟨fun x m => (nomatch m), Nat.le_refl _, List.Pairwise.nil⟩
  | n + 1, xs, h => by
    rcases List.mem_append.mp h with h | h
    · obtain ⟨h1, h2, h3⟩ := setsN_in n xs h
      exact ⟨fun x m => ⟨(h1 x m).1, by have := (h1 x m).2; omega⟩, by omega, h3⟩
    · obtain ⟨ys, hy, rfl⟩ := List.mem_map.mp h
      obtain ⟨h1, h2, h3⟩ := setsN_in n ys hy
      refine ⟨fun x m => ?_, by rw [List.length_append]; simp; omega, ?_⟩
      · rcases List.mem_append.mp m with m | m
        · exact ⟨(h1 x m).1, by have := (h1 x m).2; omega⟩
        · rw [List.mem_singleton.mp m]; omega
      · rw [List.pairwise_append]
        exact ⟨h3, List.pairwise_singleton _ _, fun a ha b hb => by rw [List.mem_singleton.mp hb]; exact (h1 a ha).2⟩
theorem setsN_len : ∀ n : Nat, (setsN n).length = 2 ^ n
  | 0 => rfl
  | n + 1 => by
    show (setsN n ++ _).length = _
    rw [List.length_append, List.length_map, setsN_len n, Nat.pow_succ]; omega
abbrev aΓ (m : Nat) (F : List (List Int)) (o p : Option SV) : Ev := [some (.d (.int m)), some (.d (.list (F.map row))), o, p]
theorem all_step (m n : Nat) (p : Option SV) (S : Store) (hn : n ≤ 12) : ∃ p', B__law_all_sets_1 (aΓ m (setsN n) (some (.d (.int n))) p) S = .ok (.nx (aΓ m (setsN (n + 1)) (some (.d (.int n))) p')) S := by
  have hl := setsN_len n
  have hp : 2 ^ n ≤ 2 ^ 12 := Nat.pow_le_pow_right (by decide) hn
  have hc : C__law_all_sets_1 (aΓ m (setsN n) (some (.d (.int n))) p) S = .ok (.d (.list ((setsN n).map fun xs => row (xs ++ [(n : Int)])))) S := by
    unfold C__law_all_sets_1
    refine comp_s row (fun xs => row (xs ++ [(n : Int)])) (setsN n) rfl fun xs hx => ⟨_, gNm_eq _ _ _ _, ?_⟩
    have h2 := (setsN_in n xs hx).2.1
    have ht : eTup (aCons (eVar 2) aNil) ((wipeE (aΓ m (setsN n) (some (.d (.int n))) p) [3]).set 3 (some (.d (row xs)))) S = .ok (.d (row [(n : Int)])) S := rfl
    unfold E__law_all_sets_1
    rw [eAdd_eq, eVar_at (x := .d (row xs)) rfl, bind_ok, ht, bind_ok]
    unfold row
    rw [add_tt _ _ _ (by rw [List.length_map, List.length_map]; simp; omega), ← List.map_append]
  refine ⟨p, ?_⟩
  unfold B__law_all_sets_1
  rw [fSet_eq, eAdd_eq, eVar_at (x := .d (.list ((setsN n).map row))) rfl, bind_ok, hc, bind_ok]
  have ha : addS finF (.d (.list ((setsN n).map row))) (.d (.list ((setsN n).map fun xs => row (xs ++ [(n : Int)])))) S = .ok (.d (.list ((setsN (n + 1)).map row))) S := by
    have : (setsN (n + 1)).map row = (setsN n).map row ++ (setsN n).map fun xs => row (xs ++ [(n : Int)]) := by
      show (setsN n ++ _).map row = _
      rw [List.map_append, List.map_map]; rfl
    rw [this]
    show (if _ then _ else _) = _
    rw [if_pos (by rw [List.length_map, List.length_map, hl]; have : (2 : Nat) ^ 12 = 4096 := by decide
                   omega)]
    rfl
  rw [ha, sB_ok]
  rfl
theorem all_loop (m : Nat) (S : Store) : ∀ (k n : Nat) (o p : Option SV), n + k ≤ 12 → ∃ o' p', forL (fun _ => true) (gNm 2) B__law_all_sets_1 ((List.range' n k).map fun (i : Nat) => PyData.int i) (aΓ m (setsN n) o p) S = .ok (.nx (aΓ m (setsN (n + k)) o' p')) S
  | 0, n, o, p, _ => ⟨o, p, rfl⟩
  | k + 1, n, o, p, h => by
    obtain ⟨p1, e1⟩ := all_step m n p S (by omega)
    obtain ⟨o2, p2, e2⟩ := all_loop m S k (n + 1) (some (.d (.int n))) p1 (by omega)
    refine ⟨o2, p2, ?_⟩
    rw [List.range'_succ, List.map_cons]
    unfold forL
    rw [if_pos rfl]
    simp only [gNm_eq, List.set_cons_succ, List.set_cons_zero]
    rw [e1]
    simp only
    rw [e2, show n + 1 + k = n + (k + 1) by omega]
theorem all_sets_eq (n : Nat) (hn : n ≤ 12) (S : Store) : F__law_all_sets [.d (.int n)] S = .ok (.d (.list ((setsN n).map row))) S := by
  obtain ⟨o, p, e⟩ := all_loop n S n 0 none none (by omega)
  rw [Nat.zero_add] at e
  unfold F__law_all_sets
  rw [runD_eq]
  show hand handF S.length (b__law_all_sets [some (.d (.int n)), none, none, none] S) = _
  have e1 : fSet 1 (eLst finF (aCons (eTup aNil) aNil)) [some (.d (.int n)), none, none, none] S = .ok (.nx (aΓ n (setsN 0) none none)) S := rfl
  have e2 := iRg_ok (f := eVar 0) (Γ := aΓ n (setsN 0) none none) (S := S) (n := n) rfl (by omega)
  unfold b__law_all_sets
  rw [fSeq_eq, e1, seqK_nx, fSeq_eq]
  unfold L__law_all_sets_1
  rw [fFor_eq e2, rgD_nat, List.range_eq_range', e, seqK_nx]
  show hand handF S.length (.ok (.rt (.d (.list ((setsN n).map row)))) S) = _
  rw [hand_rt, handF_d, take_self]
theorem eq_str {neg : Bool} {a b : Str} (h1 : SeqAt.shaped (.str a) = true) (h2 : SeqAt.shaped (.str b) = true) (S : Store) : eqS neg (.d (.str a)) (.d (.str b)) S = .ok (.d (.bool (if neg then !decide (a = b) else decide (a = b)))) S := by
  have h3 : PyData.eqv (.str a) (.str b) = decide (a = b) := by
    have h4 : PyData.eqv (.str a) (.str b) = (a == b) := by simp [PyData.eqv]
    rw [h4]
    by_cases h : a = b
    · subst h; simp
    · rw [decide_eq_false h]; exact beq_eq_false_iff_ne.mpr h
  show (if SeqAt.shaped (.str a) && SeqAt.shaped (.str b) then _ else _) = _
  rw [h1, h2, h3]; rfl
/-! ### ranks -/
def sel (es : List Ed) (xs : List Int) : List Ed := xs.map fun x => es.getD x.toNat (0, 0)
theorem at_edge {es : List Ed} {x : Int} (h0 : 0 ≤ x) (h1 : x < (es.length : Int)) : atI (es.map pr) x = some (pr (es.getD x.toNat (0, 0))) := by
  have e1 : x = (x.toNat : Int) := by omega
  rw [e1]
  refine ix_nat ?_
  rw [List.getElem?_map, List.getD_eq_getElem?_getD, Int.toNat_natCast, List.getElem?_eq_getElem (show x.toNat < es.length by omega)]
  rfl
abbrev gr (es : List Ed) : PyData := .tuple [.str "graph", .int 0, .tuple (es.map pr)]
theorem ranks_eq (es : List Ed) (hn : es.length ≤ 8) (S : Store) : F__law_ranks [.d (gr es)] S = .ok (.d (.tuple [.int es.length, .list ((setsN es.length).map fun xs => .int (rkF [] (sel es xs)))])) S := by
  have hc : C__law_ranks_2 [some (.d (gr es)), none, none, none, none, some (.d (.int es.length)), none, none, none, none, none] S = .ok (.d (.list ((setsN es.length).map fun xs => .int (rkF [] (sel es xs))))) S := by
    unfold C__law_ranks_2
    refine comp_s row (fun xs => .int (rkF [] (sel es xs))) (setsN es.length) ?_ fun xs hx => ⟨_, gNm_eq _ _ _ _, ?_⟩
    · rw [iSrc_eq, call1 (a := .d (.int es.length)) (S1 := S) rfl, all_sets_eq _ (by omega), bind_ok, srcS_l]
    · obtain ⟨h1, h2, _⟩ := setsN_in _ xs hx
      have hi : C__law_ranks_1 ((wipeE [some (.d (gr es)), none, none, none, none, some (.d (.int es.length)), none, none, none, none, none] [1]).set 1 (some (.d (row xs)))) S = .ok (.d (.list ((sel es xs).map pr))) S := by
        unfold C__law_ranks_1
        have := comp_s (it := iSrc (eVar 1)) (gf := gNm 3) (ef := E__law_ranks_1) (vs := [3]) (Γ := (wipeE [some (.d (gr es)), none, none, none, none, some (.d (.int es.length)), none, none, none, none, none] [1]).set 1 (some (.d (row xs)))) (S := S) PyData.int (fun x => pr (es.getD x.toNat (0, 0))) xs rfl fun x hx => ⟨_, gNm_eq _ _ _ _, by
          unfold E__law_ranks_1
          have e2 : eIx (eVar 0) (eC (.int 2)) ((wipeE ((wipeE [some (.d (gr es)), none, none, none, none, some (.d (.int es.length)), none, none, none, none, none] [1]).set 1 (some (.d (row xs)))) [3]).set 3 (some (.d (.int x)))) S = .ok (.d (.tuple (es.map pr))) S := rfl
          rw [eIx_eq, e2, bind_ok, eVar_at (x := .d (.int x)) rfl, bind_ok, ix_t S (at_edge (h1 x hx).1 (h1 x hx).2)]⟩
        rw [this]
        unfold sel
        rw [List.map_map]
        rfl
      unfold E__law_ranks_2
      rw [call1 hi, forest_eq _ (by unfold sel; rw [List.length_map]; omega)]
  unfold F__law_ranks
  rw [runD_eq]
  show hand handF S.length (b__law_ranks [some (.d (gr es)), none, none, none, none, none, none, none, none, none, none] S) = _
  let Γ0 : Ev := [some (.d (gr es)), none, none, none, none, none, none, none, none, none, none]
  let Γ1 : Ev := [some (.d (gr es)), none, none, none, none, some (.d (.int es.length)), none, none, none, none, none]
  have e0 : eIx (eVar 0) (eC (.int 0)) Γ0 S = .ok (.d (.str "graph")) S := rfl
  have t1 : tst (eBin (eqS false) (eIx (eVar 0) (eC (.int 0))) (eC (.str "uniform"))) Γ0 S = .ok false S := by
    rw [tst_eq, eBin_eq, e0, bind_ok, eC_eq, bind_ok, eq_str (by decide +kernel) (by decide +kernel), bind_ok]
    rfl
  have t2 : tst (eBin (eqS false) (eIx (eVar 0) (eC (.int 0))) (eC (.str "bases"))) Γ0 S = .ok false S := by
    rw [tst_eq, eBin_eq, e0, bind_ok, eC_eq, bind_ok, eq_str (by decide +kernel) (by decide +kernel), bind_ok]
    rfl
  have t3 : tst (eBin (eqS false) (eIx (eVar 0) (eC (.int 0))) (eC (.str "vectors"))) Γ0 S = .ok false S := by
    rw [tst_eq, eBin_eq, e0, bind_ok, eC_eq, bind_ok, eq_str (by decide +kernel) (by decide +kernel), bind_ok]
    rfl
  have t4 : tst (eBin (eqS false) (eIx (eVar 0) (eC (.int 0))) (eC (.str "graph"))) Γ0 S = .ok true S := by
    rw [tst_eq, eBin_eq, e0, bind_ok, eC_eq, bind_ok, eq_str (by decide +kernel) (by decide +kernel), bind_ok]
    rfl
  have e5 : fSet 5 (eCall lenS (aCons (eIx (eVar 0) (eC (.int 2))) aNil)) Γ0 S = .ok (.nx Γ1) S := by
    have : eCall lenS (aCons (eIx (eVar 0) (eC (.int 2))) aNil) Γ0 S = .ok (.d (.int es.length)) S := by
      have e : aCons (eIx (eVar 0) (eC (.int 2))) aNil Γ0 S = .ok [.d (.tuple (es.map pr))] S := rfl
      rw [eCall_eq, e, bind_ok, len_t, List.length_map]
    rw [fSet_eq, this, sB_ok]
    rfl
  have e6 : eTup (aCons (eVar 5) (aCons C__law_ranks_2 aNil)) Γ1 S = .ok (.d (.tuple [.int es.length, .list ((setsN es.length).map fun xs => .int (rkF [] (sel es xs)))])) S := by
    rw [eTup_eq, aCons_eq, eVar_at (x := .d (.int es.length)) rfl, bind_ok, aCons_eq, hc, bind_ok, aNil_eq, bind_ok, bind_ok, bind_ok]
    rfl
  unfold b__law_ranks
  rw [fSeq_eq, fIf_eq, t1, sB_ok, if_neg (by simp), fNil_eq, seqK_nx, fSeq_eq, fIf_eq, t2, sB_ok, if_neg (by simp), fNil_eq, seqK_nx, fSeq_eq, fIf_eq, t3, sB_ok, if_neg (by simp), fNil_eq, seqK_nx, fSeq_eq, fIf_eq, t4, sB_ok, if_pos rfl, fSeq_eq, e5, seqK_nx, fRet_eq, e6, sB_ok, seqK_rt, hand_rt, handF_d, take_self]
end G29
/-! R5: the places of some edges; the other edges. -/
namespace G29
open PySem L2 DL Gr
def ends (es : List Ed) (xs : List Int) : List Int := (sel es xs).map (·.1) ++ (sel es xs).map (·.2)
def spots (es : List Ed) (xs : List Int) : List Int := sdN (ends es xs)
theorem ends_mem {es : List Ed} {xs : List Int} {x : Int} : x ∈ ends es xs ↔ Gr.End (sel es xs) x := by
  unfold ends Gr.End
  rw [List.mem_append, List.mem_map, List.mem_map]
  constructor
  · rintro (⟨e, m, rfl⟩ | ⟨e, m, rfl⟩)
    · exact ⟨e, m, .inl rfl⟩
    · exact ⟨e, m, .inr rfl⟩
  · rintro ⟨e, m, rfl | rfl⟩
    · exact .inl ⟨e, m, rfl⟩
    · exact .inr ⟨e, m, rfl⟩
theorem spots_mem {es : List Ed} {xs : List Int} {x : Int} : x ∈ spots es xs ↔ Gr.End (sel es xs) x := (sdN_mem _ _).trans ends_mem
theorem ints_all (ns : List Int) : (ns.map PyData.int).all isInt = true := List.all_eq_true.mpr fun d m => by
  obtain ⟨i, _, rfl⟩ := List.mem_map.mp m
  rfl
theorem ints_back (ns : List Int) : (ns.map PyData.int).map intOf = ns := by
  rw [List.map_map]
  exact (List.map_congr_left fun _ _ => rfl).trans (List.map_id ns)
theorem dist_le (ns : List Int) : distN ns ≤ ns.length := by
  rw [← ddN_len]
  exact len_le_of (ddN_nodup ns) fun x hx => (ddN_mem x ns).mp hx
/-- the numbers of a sequence are places of the edges -/
def Ix (n : Nat) (xs : List Int) : Prop := (∀ x ∈ xs, 0 ≤ x ∧ x < (n : Int)) ∧ xs.length ≤ 8
theorem spots_eq (es : List Ed) (b : Bool) {xs : List Int} (h : Ix es.length xs) (S : Store) : F__law_spots [.d (.tuple (es.map pr)), .d (sqI b xs)] S = .ok (.d (.list ((spots es xs).map .int))) S := by
  obtain ⟨h1, h2⟩ := h
  have c1 : C__law_spots_1 [some (.d (.tuple (es.map pr))), some (.d (sqI b xs)), none] S = .ok (.d (.list ((sel es xs).map fun e => .int e.1))) S := by
    unfold C__law_spots_1 sel
    rw [List.map_map]
    refine comp_s PyData.int _ xs (by rw [iSrc_eq, eVar_at (x := .d (sqI b xs)) rfl, bind_ok, src_sq]) fun x hx => ⟨_, gNm_eq _ _ _ _, ?_⟩
    unfold E__law_spots_1
    rw [eIx_eq, eIx_eq, eVar_at (x := .d (.tuple (es.map pr))) rfl, bind_ok, eVar_at (x := .d (.int x)) rfl, bind_ok, ix_t S (at_edge (h1 x hx).1 (h1 x hx).2), bind_ok, eC_eq, bind_ok]
    rfl
  have c2 : C__law_spots_2 [some (.d (.tuple (es.map pr))), some (.d (sqI b xs)), none] S = .ok (.d (.list ((sel es xs).map fun e => .int e.2))) S := by
    unfold C__law_spots_2 sel
    rw [List.map_map]
    refine comp_s PyData.int _ xs (by rw [iSrc_eq, eVar_at (x := .d (sqI b xs)) rfl, bind_ok, src_sq]) fun x hx => ⟨_, gNm_eq _ _ _ _, ?_⟩
    unfold E__law_spots_2
    rw [eIx_eq, eIx_eq, eVar_at (x := .d (.tuple (es.map pr))) rfl, bind_ok, eVar_at (x := .d (.int x)) rfl, bind_ok, ix_t S (at_edge (h1 x hx).1 (h1 x hx).2), bind_ok, eC_eq, bind_ok]
    rfl
  have ee : (sel es xs).map (fun e => PyData.int e.1) ++ (sel es xs).map (fun e => PyData.int e.2) = (ends es xs).map .int := by
    unfold ends
    rw [List.map_append, List.map_map, List.map_map]; rfl
  have hl : (ends es xs).length ≤ 16 := by unfold ends sel; simp; omega
  unfold F__law_spots
  rw [runD_eq]
  show hand handF S.length (b__law_spots [some (.d (.tuple (es.map pr))), some (.d (sqI b xs)), none] S) = _
  unfold b__law_spots eSrtSet
  rw [fRet_eq, eAdd_eq, c1, bind_ok, c2, bind_ok]
  have ha : addS finF (.d (.list ((sel es xs).map fun e => .int e.1))) (.d (.list ((sel es xs).map fun e => .int e.2))) S = .ok (.d (.list ((ends es xs).map .int))) S := by
    show (if _ then _ else _) = _
    rw [if_pos (by unfold sel; simp; omega), ← ee]; rfl
  rw [ha, bind_ok]
  unfold srtSetS
  rw [asD_d]
  simp only
  rw [ints_back, ints_all, if_pos (by have := dist_le (ends es xs); simp [List.length_map]; omega), finF_eq, sB_ok, hand_rt, handF_d, take_self]
  rfl
theorem lc2L_g {α : Type} {ok : Store → Bool} {gf gf1 : GF} {f1 : IF} {tf1 : TF} {ef : EF} {vs vs1 : List Nat} {Γ : Ev} {S : Store} (g : α → PyData) (hs : α → List PyData) (hok : ok S = true) : ∀ (xs : List α),
    (∀ x ∈ xs, ∃ Γ1 s1, gf (.d (g x)) (wipeE Γ vs) S = .ok Γ1 S ∧ f1 Γ1 S = .ok s1 S ∧ lcL s1.ok gf1 tf1 ef vs1 Γ1 s1.items S = .ok (hs x) S) → lc2L ok gf tYesF f1 gf1 tf1 ef vs vs1 Γ (xs.map g) S = .ok (xs.flatMap hs) S
  | [], _ => by
    show lc2L ok gf tYesF f1 gf1 tf1 ef vs vs1 Γ [] S = _
    unfold lc2L
    rw [if_pos hok]; rfl
  | x :: xs, k => by
    obtain ⟨Γ1, s1, h1, h2, h3⟩ := k x List.mem_cons_self
    have e := lc2L_g (f1 := f1) (gf1 := gf1) (tf1 := tf1) (ef := ef) (vs1 := vs1) g hs hok xs fun y m => k y (List.mem_cons_of_mem _ m)
    show lc2L ok gf tYesF f1 gf1 tf1 ef vs vs1 Γ (g x :: xs.map g) S = _
    unfold lc2L
    rw [if_pos hok]
    simp only [h1, tYes_eq, h2, h3, e, bind_ok]
    rfl
theorem places_eq (es : List Ed) (b : Bool) {xs : List Int} (h : Ix es.length xs) (S : Store) : F_places_of [.d (.tuple (es.map pr)), .d (sqI b xs)] S = .ok (.d (.list ((spots es xs).map .int))) S := by
  obtain ⟨h1, h2⟩ := h
  let Γ : Ev := [some (.d (.tuple (es.map pr))), some (.d (sqI b xs)), none, none]
  have hl : lc2L (fun _ => true) (gNm 2) tYesF I_places_of_1 (gNm 3) tYesF E_places_of_1 [2, 3] [3] Γ (xs.map .int) S = .ok (xs.flatMap fun x => [.int (es.getD x.toNat (0, 0)).1, .int (es.getD x.toNat (0, 0)).2]) S := by
    refine lc2L_g PyData.int _ rfl xs fun x hx => ⟨_, ⟨[.int (es.getD x.toNat (0, 0)).1, .int (es.getD x.toNat (0, 0)).2], fun _ => true⟩, gNm_eq _ _ _ _, ?_, rfl⟩
    unfold I_places_of_1
    rw [iSrc_eq, eIx_eq, eVar_at (x := .d (.tuple (es.map pr))) rfl, bind_ok, eVar_at (x := .d (.int x)) rfl, bind_ok, ix_t S (at_edge (h1 x hx).1 (h1 x hx).2), bind_ok]
    rfl
  let fl : List Int := xs.flatMap fun x => [(es.getD x.toNat (0, 0)).1, (es.getD x.toNat (0, 0)).2]
  have ef : (xs.flatMap fun x => [PyData.int (es.getD x.toNat (0, 0)).1, PyData.int (es.getD x.toNat (0, 0)).2]) = fl.map .int := by
    show _ = (xs.flatMap _).map PyData.int
    rw [List.map_flatMap]
    rfl
  have hm : ∀ k, k ∈ fl ↔ k ∈ ends es xs := fun k => by
    rw [ends_mem]
    show k ∈ xs.flatMap _ ↔ _
    rw [List.mem_flatMap]
    unfold Gr.End sel
    simp only [List.mem_cons, List.not_mem_nil, or_false, List.mem_map]
    constructor
    · rintro ⟨x, hx, h⟩
      exact ⟨_, ⟨x, hx, rfl⟩, h⟩
    · rintro ⟨_, ⟨x, hx, rfl⟩, h⟩
      exact ⟨x, hx, h⟩
  have hs : sdN fl = spots es xs := sdN_eq (sdN_pw fl) fun k => (sdN_mem k fl).trans (hm k)
  have hfl : fl.length ≤ 16 := by
    have : ∀ ys : List Int, (ys.flatMap fun x => [(es.getD x.toNat (0, 0)).1, (es.getD x.toNat (0, 0)).2]).length = 2 * ys.length := fun ys => by
      induction ys with
      | nil => rfl
      | cons y ys ih => rw [List.flatMap_cons, List.length_append, ih]; simp; omega
    have := this xs
    show (xs.flatMap _).length ≤ _
    omega
  have hc : C_places_of_1 Γ S = .ok (.d (.list ((spots es xs).map .int))) S := by
    unfold C_places_of_1 eSrtSc2
    have e0 : iSrc (eVar 1) Γ S = .ok ⟨xs.map .int, fun _ => true⟩ S := by rw [iSrc_eq, eVar_at (x := .d (sqI b xs)) rfl, bind_ok, src_sq]
    rw [e0, bind_ok]
    simp only
    rw [hl, ef]
    simp only
    unfold srtIntsS
    rw [ints_back, ints_all, if_pos (by have := dist_le fl; simp [List.length_map]; omega), hs, finF_eq]
  unfold F_places_of
  rw [runD_eq]
  show hand handF S.length (b_places_of Γ S) = _
  unfold b_places_of
  rw [fRet_eq, hc, sB_ok, hand_rt, handF_d, take_self]
def others (n : Nat) (xs : List Int) : List Int := ((List.range n).map fun (i : Nat) => (i : Int)).filter fun x => !decide (x ∈ xs)
theorem others_ix {n : Nat} (hn : n ≤ 8) (xs : List Int) : Ix n (others n xs) := by
  refine ⟨fun x m => ?_, ?_⟩
  · obtain ⟨h1, _⟩ := List.mem_filter.mp m
    obtain ⟨i, hi, rfl⟩ := List.mem_map.mp h1
    have := List.mem_range.mp hi
    omega
  · refine Nat.le_trans (List.length_filter_le _ _) ?_
    rw [List.length_map, List.length_range]; exact hn
theorem others_eq (n : Nat) (hn : n ≤ 8) (b : Bool) (xs : List Int) (S : Store) : F__law_others [.d (.int n), .d (sqI b xs)] S = .ok (.d (row (others n xs))) S := by
  have hc : C__law_others_1 [some (.d (.int n)), some (.d (sqI b xs)), none] S = .ok (.d (.list ((others n xs).map .int))) S := by
    have e0 := iRg_ok (f := eVar 0) (Γ := [some (.d (.int n)), some (.d (sqI b xs)), none]) (S := S) (n := n) rfl (by omega)
    unfold C__law_others_1
    rw [eLc_eq e0, rgD_nat, show (List.range n).map (fun (i : Nat) => PyData.int i) = ((List.range n).map fun (i : Nat) => (i : Int)).map PyData.int by rw [List.map_map]; rfl]
    rw [lcL_gf PyData.int PyData.int (fun x => !decide (x ∈ xs)) rfl, bind_ok, finF_eq]
    · rfl
    · intro x hx
      refine ⟨_, gNm_eq _ _ _ _, ?_, fun _ => rfl⟩
      unfold T__law_others_1
      rw [tst_eq, eBin_eq, eVar_at (x := .d (.int x)) rfl, bind_ok, eVar_at (x := .d (sqI b xs)) rfl, bind_ok, in_sqI, bind_ok]
      rfl
  unfold F__law_others
  rw [runD_eq]
  show hand handF S.length (b__law_others [some (.d (.int n)), some (.d (sqI b xs)), none] S) = _
  unfold b__law_others
  rw [fRet_eq, eCall_eq, aCons_eq, hc, bind_ok, aNil_eq, bind_ok, bind_ok, tup_l, sB_ok, hand_rt, handF_d, take_self]
  rfl
end G29
/-! R6: is it a turn, as the law says. -/
namespace G29
open PySem L2 DL Gr
def bothP (es : List Ed) (xs : List Int) : List Int := (spots es xs).filter fun x => decide (x ∈ spots es (others es.length xs))
/-- hung (true) or twisted (false) -/
def wd (k : Bool) : PyData := .str (if k then "hang" else "twist")
def shareOk (es : List Ed) (k : Bool) (xs : List Int) (u v : Int) : Bool :=
  if k then decide (u ∈ spots es xs) && !decide (v ∈ spots es xs) && (bothP es xs).all fun p => decide (p = u) else (bothP es xs).all fun p => decide (p ∈ [u, v])
def isTurn (es : List Ed) (k : Bool) (xs : List Int) (u v : Int) : Bool := !xs.isEmpty && !decide (u = v) && shareOk es k xs u v
theorem bools_all {α : Type} (xs : List α) (c : α → Bool) : (xs.map fun x => PyData.bool (c x)).all scaD = true ∧ (xs.map fun x => PyData.bool (c x)).all trB = xs.all c := by
  constructor
  · rw [List.all_eq_true]
    intro d m
    obtain ⟨_, _, rfl⟩ := List.mem_map.mp m
    rfl
  · rw [List.all_map]
    congr 1
theorem wd_tw (k : Bool) (S : Store) : eqS false (.d (wd k)) (.d (.str "twist")) S = .ok (.d (.bool (!k))) S := by
  cases k <;> exact eq_str (by decide +kernel) (by decide +kernel) S
theorem wd_hg (k : Bool) (S : Store) : eqS false (.d (wd k)) (.d (.str "hang")) S = .ok (.d (.bool k)) S := by
  cases k <;> exact eq_str (by decide +kernel) (by decide +kernel) S
abbrev tΓ (es : List Ed) (k : Bool) (b : Bool) (xs : List Int) (u v : Int) (o5 o6 o7 : Option SV) : Ev := [some (.d (.tuple (es.map pr))), some (.d (wd k)), some (.d (sqI b xs)), some (.d (.int u)), some (.d (.int v)), o5, o6, o7, none]
theorem law_turn_eq (es : List Ed) (hn : es.length ≤ 8) (k : Bool) (b : Bool) {xs : List Int} (h : Ix es.length xs) (u v : Int) (S : Store) : F__law_is_turn [.d (.tuple (es.map pr)), .d (wd k), .d (sqI b xs), .d (.int u), .d (.int v)] S = .ok (.d (.bool (isTurn es k xs u v))) S := by
  let o5 : Option SV := some (.d (.list ((spots es xs).map .int)))
  let o6 : Option SV := some (.d (.list ((spots es (others es.length xs)).map .int)))
  let o7 : Option SV := some (.d (.list ((bothP es xs).map .int)))
  have p1 : eCallD 2 F__law_spots (aCons (eVar 0) (aCons (eVar 2) aNil)) (tΓ es k b xs u v none none none) S = .ok (.d (.list ((spots es xs).map .int))) S := (call2 rfl rfl).trans (spots_eq es b h S)
  have p0 : eCall lenS (aCons (eVar 0) aNil) (tΓ es k b xs u v none none none) S = .ok (.d (.int es.length)) S := by
    rw [eCall_eq, aCons_eq, eVar_at (x := .d (.tuple (es.map pr))) rfl, bind_ok, aNil_eq, bind_ok, bind_ok, len_t, List.length_map]
  have p2 : eCallD 2 F__law_others (aCons (eCall lenS (aCons (eVar 0) aNil)) (aCons (eVar 2) aNil)) (tΓ es k b xs u v none none none) S = .ok (.d (row (others es.length xs))) S := (call2 p0 rfl).trans (others_eq _ hn b xs S)
  have p3 : eCallD 2 F__law_spots (aCons (eVar 0) (aCons (eCallD 2 F__law_others (aCons (eCall lenS (aCons (eVar 0) aNil)) (aCons (eVar 2) aNil))) aNil)) (tΓ es k b xs u v none none none) S = .ok (.d (.list ((spots es (others es.length xs)).map .int))) S := (call2 rfl p2).trans (spots_eq es false (others_ix hn xs) S)
  have s1 : fAsg (eTup (aCons (eCallD 2 F__law_spots (aCons (eVar 0) (aCons (eVar 2) aNil))) (aCons (eCallD 2 F__law_spots (aCons (eVar 0) (aCons (eCallD 2 F__law_others (aCons (eCall lenS (aCons (eVar 0) aNil)) (aCons (eVar 2) aNil))) aNil))) aNil))) (gTupF 2 (gsCons (gNm 5) (gsCons (gNm 6) gsNil))) (tΓ es k b xs u v none none none) S = .ok (.nx (tΓ es k b xs u v o5 o6 none)) S := by
    rw [fAsg_eq, eTup_eq, aCons_eq, p1, bind_ok, aCons_eq, p3, bind_ok, aNil_eq, bind_ok, bind_ok, bind_ok]
    rfl
  have s2 : fSet 7 C__law_is_turn_1 (tΓ es k b xs u v o5 o6 none) S = .ok (.nx (tΓ es k b xs u v o5 o6 o7)) S := by
    have hc : C__law_is_turn_1 (tΓ es k b xs u v o5 o6 none) S = .ok (.d (.list ((bothP es xs).map .int))) S := by
      unfold C__law_is_turn_1
      have e0 : iSrc (eVar 5) (tΓ es k b xs u v o5 o6 none) S = .ok ⟨(spots es xs).map .int, fun _ => true⟩ S := rfl
      rw [eLc_eq e0, lcL_gf PyData.int PyData.int (fun x => decide (x ∈ spots es (others es.length xs))) rfl, bind_ok, finF_eq]
      · rfl
      · intro x hx
        refine ⟨_, gNm_eq _ _ _ _, ?_, fun _ => rfl⟩
        unfold T__law_is_turn_1
        rw [tst_eq, eBin_eq, eVar_at (x := .d (.int x)) rfl, bind_ok, eVar_at (x := .d (sqI true (spots es (others es.length xs)))) rfl, bind_ok, in_sqI, bind_ok]
        rfl
    rw [fSet_eq, hc, sB_ok]
    rfl
  have s3 : tOrF (tNotF (tru (eVar 2))) (tst (eBin (eqS false) (eVar 3) (eVar 4))) (tΓ es k b xs u v o5 o6 o7) S = .ok (xs.isEmpty || decide (u = v)) S := by
    have e2 : truS (.d (sqI b xs)) S = some (!xs.isEmpty) := by
      cases b <;> cases xs <;> rfl
    rw [tOr_eq, tNot_eq, tru_eq, eVar_at (x := .d (sqI b xs)) rfl, bind_ok, e2]
    simp only [bind_ok]
    cases hx : xs.isEmpty with
    | true => rfl
    | false =>
      simp only [Bool.not_false, Bool.not_true, Bool.false_eq_true, if_false, Bool.false_or]
      rw [tst_eq, eBin_eq, eVar_at (x := .d (.int u)) rfl, bind_ok, eVar_at (x := .d (.int v)) rfl, bind_ok, eqI_t, bind_ok]
  have c2 : eCall (allS false) (aCons C__law_is_turn_2 aNil) (tΓ es k b xs u v o5 o6 o7) S = .ok (.d (.bool ((bothP es xs).all fun p => decide (p ∈ [u, v])))) S := by
    have hc : C__law_is_turn_2 (tΓ es k b xs u v o5 o6 o7) S = .ok (.d (.list ((bothP es xs).map fun p => .bool (decide (p ∈ [u, v]))))) S := by
      unfold C__law_is_turn_2
      refine comp_s PyData.int _ (bothP es xs) rfl fun x hx => ⟨_, gNm_eq _ _ _ _, ?_⟩
      unfold E__law_is_turn_2
      have e3 : eTup (aCons (eVar 3) (aCons (eVar 4) aNil)) ((wipeE (tΓ es k b xs u v o5 o6 o7) [8]).set 8 (some (.d (.int x)))) S = .ok (.d (sqI false [u, v])) S := rfl
      rw [eBin_eq, eVar_at (x := .d (.int x)) rfl, bind_ok, e3, bind_ok, in_sqI]
      rfl
    obtain ⟨z1, z2⟩ := bools_all (bothP es xs) fun p => decide (p ∈ [u, v])
    rw [eCall_eq, aCons_eq, hc, bind_ok, aNil_eq, bind_ok, bind_ok, all_l S z1, z2]
    rfl
  have c3 : eCall (allS false) (aCons C__law_is_turn_3 aNil) (tΓ es k b xs u v o5 o6 o7) S = .ok (.d (.bool ((bothP es xs).all fun p => decide (p = u)))) S := by
    have hc : C__law_is_turn_3 (tΓ es k b xs u v o5 o6 o7) S = .ok (.d (.list ((bothP es xs).map fun p => .bool (decide (p = u))))) S := by
      unfold C__law_is_turn_3
      refine comp_s PyData.int _ (bothP es xs) rfl fun x hx => ⟨_, gNm_eq _ _ _ _, ?_⟩
      unfold E__law_is_turn_3
      rw [eBin_eq, eVar_at (x := .d (.int x)) rfl, bind_ok, eVar_at (x := .d (.int u)) rfl, bind_ok, eqI_t]
    obtain ⟨z1, z2⟩ := bools_all (bothP es xs) fun p => decide (p = u)
    rw [eCall_eq, aCons_eq, hc, bind_ok, aNil_eq, bind_ok, bind_ok, all_l S z1, z2]
    rfl
  have i1 : eBin (inS false) (eVar 3) (eVar 5) (tΓ es k b xs u v o5 o6 o7) S = .ok (.d (.bool (decide (u ∈ spots es xs)))) S := by
    rw [eBin_eq, eVar_at (x := .d (.int u)) rfl, bind_ok, eVar_at (x := .d (sqI true (spots es xs))) rfl, bind_ok, in_sqI]; rfl
  have i2 : eBin (inS true) (eVar 4) (eVar 5) (tΓ es k b xs u v o5 o6 o7) S = .ok (.d (.bool (!decide (v ∈ spots es xs)))) S := by
    rw [eBin_eq, eVar_at (x := .d (.int v)) rfl, bind_ok, eVar_at (x := .d (sqI true (spots es xs))) rfl, bind_ok, in_sqI]; rfl
  have s4 : tst (eBin (eqS false) (eVar 1) (eC (.str "twist"))) (tΓ es k b xs u v o5 o6 o7) S = .ok (!k) S := by
    rw [tst_eq, eBin_eq, eVar_at (x := .d (wd k)) rfl, bind_ok, eC_eq, bind_ok, wd_tw, bind_ok]
  have s5 : eAndF (eBin (inS false) (eVar 3) (eVar 5)) (eAndF (eBin (inS true) (eVar 4) (eVar 5)) (eCall (allS false) (aCons C__law_is_turn_3 aNil))) (tΓ es k b xs u v o5 o6 o7) S = .ok (.d (.bool (decide (u ∈ spots es xs) && !decide (v ∈ spots es xs) && (bothP es xs).all fun p => decide (p = u)))) S := by
    rw [eAnd_eq, i1, bind_ok, tru_bool]
    cases h1 : decide (u ∈ spots es xs) with
    | false => rfl
    | true =>
      simp only [Bool.true_and]
      rw [eAnd_eq, i2, bind_ok, tru_bool]
      cases h2 : decide (v ∈ spots es xs) with
      | true => rfl
      | false =>
        simp only [Bool.not_false, Bool.true_and]
        rw [c3]
        rfl
  unfold F__law_is_turn
  rw [runD_eq]
  show hand handF S.length (b__law_is_turn (tΓ es k b xs u v none none none) S) = _
  unfold b__law_is_turn
  rw [fSeq_eq, s1, seqK_nx, fSeq_eq, s2, seqK_nx, fSeq_eq, fIf_eq, s3, sB_ok]
  unfold isTurn
  cases h0 : (xs.isEmpty || decide (u = v)) with
  | true =>
    rw [if_pos rfl, fRet_eq, eC_eq, sB_ok, seqK_rt, hand_rt, handF_d, take_self]
    rw [Bool.or_eq_true] at h0
    rcases h0 with h0 | h0 <;> simp [h0]
  | false =>
    rw [Bool.or_eq_false_iff] at h0
    rw [if_neg (by simp), fNil_eq, seqK_nx, fSeq_eq, fIf_eq, s4, sB_ok, h0.1, h0.2]
    unfold shareOk
    cases k with
    | false =>
      rw [if_pos (by rfl), fRet_eq, c2, sB_ok, seqK_rt, hand_rt, handF_d, take_self]
      rfl
    | true =>
      rw [if_neg (by simp), fNil_eq, seqK_nx, fRet_eq, s5, sB_ok, hand_rt, handF_d, take_self]
      rfl
end G29
/-! R7: what the program checks: told_graph, is_set, is_turn. -/
namespace G29
open PySem L2 DL Gr
theorem number_int (i : Int) (S : Store) : F_is_number [.d (.int i)] S = .ok (.d (.bool true)) S := by
  have t1 : isiB "int" "int" = true := by decide
  have t2 : isiB "int" "bool" = false := by decide
  simp -implicitDefEqProofs only [F_is_number, b_is_number, tyN, fSeq_eq, seqK_nx, seqK_rt, seqK_bk, seqK_ct, seqK_ite, eVar_0, eVar_s, bind_ok, sB_ok, eC_eq, eBin_eq, eUn_eq, iOp0_eq, iCmp_eq, tst_eq, addI, negI, fSet_eq, fRet_eq, fExpr_eq, fIf_eq, fAsg_eq, fPar_eq, fNil_eq, fBreak_eq, fCont_eq, gNm_eq, gsNil_eq, gsCons_eq, aNil_eq, aCons_eq, eCall_eq, eCallD_eq, intS_eq, absS_eq, mmS_eq, len_l, len_t, list_l, list_t, tup_l, tup_t, finF_eq, finC_eq, allD_nil, allD_cons, eTup_eq, eLst_eq, eIf_eq, runD_eq, hand_rt, handF_d, take_self, srcS_l, srcS_t, iSrc_eq, iZip_eq, zip_l, iEnm_eq, enum_l, pix0, pix1, pix2, pix3, pset1, pset2, pset3, gSub_eq, tYes_eq, eAdd_eq, eSub_eq, eMul_eq, eDiv_eq, eMod_eq, ePow_eq, eXor_eq, eNeg_eq, eIx_eq, eqI_t, eqI_f, tNot_eq, tAnd_eq, tOr_eq, tru_eq, tru_bool, tru_int, tru_list, eAnd_eq, eNot_eq, isi_eq, asD_d, List.length_cons, List.length_nil, List.map_cons, List.map_nil, List.cons_append, List.nil_append, List.append_nil, List.set_cons_succ, List.set_cons_zero, List.replicate_succ, List.replicate_zero, Option.map_some, if_true, if_false, reduceIte, Nat.reduceAdd, Nat.reduceSub, Nat.reduceLeDiff, List.length_map, Nat.reduceEqDiff, Bool.false_eq_true, Bool.not_false, Bool.not_true, ne_eq, not_true_eq_false, not_false_eq_true, decide_true, decide_false, eq_self, hand_rt, decide_eq_true_eq, sl_l, eSl_eq, oNone_eq, oSome_eq, t1, t2]
theorem isRow_sq (b : Bool) (xs : List PyData) (S : Store) : F_is_row [.d (sq b xs)] S = .ok (.d (.bool true)) S := by
  cases b
  · have t1 : isiB "tuple" "tuple" = true := by decide
    simp -implicitDefEqProofs only [F_is_row, b_is_row, eIsi2, sq, tyN, fSeq_eq, seqK_nx, seqK_rt, seqK_bk, seqK_ct, seqK_ite, eVar_0, eVar_s, bind_ok, sB_ok, eC_eq, eBin_eq, eUn_eq, iOp0_eq, iCmp_eq, tst_eq, addI, negI, fSet_eq, fRet_eq, fExpr_eq, fIf_eq, fAsg_eq, fPar_eq, fNil_eq, fBreak_eq, fCont_eq, gNm_eq, gsNil_eq, gsCons_eq, aNil_eq, aCons_eq, eCall_eq, eCallD_eq, intS_eq, absS_eq, mmS_eq, len_l, len_t, list_l, list_t, tup_l, tup_t, finF_eq, finC_eq, allD_nil, allD_cons, eTup_eq, eLst_eq, eIf_eq, runD_eq, hand_rt, handF_d, take_self, srcS_l, srcS_t, iSrc_eq, iZip_eq, zip_l, iEnm_eq, enum_l, pix0, pix1, pix2, pix3, pset1, pset2, pset3, gSub_eq, tYes_eq, eAdd_eq, eSub_eq, eMul_eq, eDiv_eq, eMod_eq, ePow_eq, eXor_eq, eNeg_eq, eIx_eq, eqI_t, eqI_f, tNot_eq, tAnd_eq, tOr_eq, tru_eq, tru_bool, tru_int, tru_list, eAnd_eq, eNot_eq, isi_eq, asD_d, List.length_cons, List.length_nil, List.map_cons, List.map_nil, List.cons_append, List.nil_append, List.append_nil, List.set_cons_succ, List.set_cons_zero, List.replicate_succ, List.replicate_zero, Option.map_some, if_true, if_false, reduceIte, Nat.reduceAdd, Nat.reduceSub, Nat.reduceLeDiff, List.length_map, Nat.reduceEqDiff, Bool.false_eq_true, Bool.not_false, Bool.not_true, ne_eq, not_true_eq_false, not_false_eq_true, decide_true, decide_false, eq_self, hand_rt, decide_eq_true_eq, sl_l, eSl_eq, oNone_eq, oSome_eq, t1, Bool.true_or]
  · have t1 : isiB "list" "tuple" = false := by decide
    have t2 : isiB "list" "list" = true := by decide
    simp -implicitDefEqProofs only [F_is_row, b_is_row, eIsi2, sq, tyN, fSeq_eq, seqK_nx, seqK_rt, seqK_bk, seqK_ct, seqK_ite, eVar_0, eVar_s, bind_ok, sB_ok, eC_eq, eBin_eq, eUn_eq, iOp0_eq, iCmp_eq, tst_eq, addI, negI, fSet_eq, fRet_eq, fExpr_eq, fIf_eq, fAsg_eq, fPar_eq, fNil_eq, fBreak_eq, fCont_eq, gNm_eq, gsNil_eq, gsCons_eq, aNil_eq, aCons_eq, eCall_eq, eCallD_eq, intS_eq, absS_eq, mmS_eq, len_l, len_t, list_l, list_t, tup_l, tup_t, finF_eq, finC_eq, allD_nil, allD_cons, eTup_eq, eLst_eq, eIf_eq, runD_eq, hand_rt, handF_d, take_self, srcS_l, srcS_t, iSrc_eq, iZip_eq, zip_l, iEnm_eq, enum_l, pix0, pix1, pix2, pix3, pset1, pset2, pset3, gSub_eq, tYes_eq, eAdd_eq, eSub_eq, eMul_eq, eDiv_eq, eMod_eq, ePow_eq, eXor_eq, eNeg_eq, eIx_eq, eqI_t, eqI_f, tNot_eq, tAnd_eq, tOr_eq, tru_eq, tru_bool, tru_int, tru_list, eAnd_eq, eNot_eq, isi_eq, asD_d, List.length_cons, List.length_nil, List.map_cons, List.map_nil, List.cons_append, List.nil_append, List.append_nil, List.set_cons_succ, List.set_cons_zero, List.replicate_succ, List.replicate_zero, Option.map_some, if_true, if_false, reduceIte, Nat.reduceAdd, Nat.reduceSub, Nat.reduceLeDiff, List.length_map, Nat.reduceEqDiff, Bool.false_eq_true, Bool.not_false, Bool.not_true, ne_eq, not_true_eq_false, not_false_eq_true, decide_true, decide_false, eq_self, hand_rt, decide_eq_true_eq, sl_l, eSl_eq, oNone_eq, oSome_eq, t1, t2, Bool.or_true]
theorem dist_nd {xs : List Int} (h : xs.Nodup) : distN xs = xs.length := (dist_of h fun _ => Iff.rfl).symm
theorem dst_sqI (b : Bool) {xs : List Int} (hl : xs.length ≤ 4000) (S : Store) : dstS (.d (sqI b xs)) S = .ok (.d (.int (distN xs : Nat))) S := by
  have h : ((xs.map PyData.int).all isInt && decide ((xs.map PyData.int).length ≤ 4000)) = true := by
    rw [ints_all, List.length_map, decide_eq_true hl]; rfl
  cases b
  · show (if _ then _ else _) = _
    rw [h, if_pos rfl, ints_back]
  · show (if _ then _ else _) = _
    rw [h, if_pos rfl, ints_back]
theorem chain_pp {i m : Int} (h0 : 0 ≤ i) (h1 : i < m) (f g h : EF) (Γ : Ev) (S : Store) (ef : f Γ S = .ok (.d (.int 0)) S) (eg : g Γ S = .ok (.d (.int i)) S) (eh : h Γ S = .ok (.d (.int m)) S) :
    eChain (iCmp fun i j => decide (i ≤ j)) (iCmp fun i j => decide (i < j)) f g h Γ S = .ok (.d (.bool true)) S := by
  have e1 : decide (0 ≤ i) = true := decide_eq_true h0
  have e2 : decide (i < m) = true := decide_eq_true h1
  simp only [eChain, ef, eg, eh, bind_ok, iCmp_eq, e1, e2]
def Pl (x : Int) : Prop := 0 ≤ x ∧ x < 200
theorem place_int {x : Int} (h : Pl x) (S : Store) : F_is_place [.d (.int x)] S = .ok (.d (.bool true)) S := by
  have e1 : eCallD 1 F_is_number (aCons (eVar 0) aNil) [some (.d (.int x))] S = .ok (.d (.bool true)) S := (call1 rfl).trans (number_int x S)
  have e2 := chain_pp h.1 h.2 (eC (.int 0)) (eVar 0) (eC k_MOST_PLACES) [some (.d (.int x))] S rfl rfl rfl
  unfold F_is_place
  rw [runD_eq]
  show hand handF S.length (b_is_place [some (.d (.int x))] S) = _
  unfold b_is_place
  rw [fRet_eq, eAnd_eq, e1, bind_ok, tru_bool]
  simp only [if_true]
  rw [e2, sB_ok, hand_rt, handF_d, take_self]
/-- a pair, as it is handed -/
abbrev hp (p : Bool × Ed) : PyData := sq p.1 [.int p.2.1, .int p.2.2]
def PlE (e : Ed) : Prop := Pl e.1 ∧ Pl e.2
theorem pair_row (p : Bool × Ed) : hp p = sqI p.1 [p.2.1, p.2.2] := rfl
theorem pair_body (E : PyData) (o : Option SV) (p : Bool × Ed) (hpl : PlE p.2) (S : Store) : B_told_graph_1 [some (.d E), o, some (.d (hp p)), none] S = .ok (.nx [some (.d E), o, some (.d (hp p)), none]) S := by
  let Γ : Ev := [some (.d E), o, some (.d (hp p)), none]
  have e1 : eCallD 1 F_is_row (aCons (eVar 2) aNil) Γ S = .ok (.d (.bool true)) S := (call1 rfl).trans (isRow_sq p.1 _ S)
  have e2 : tst (eBin (eqS true) (eCall lenS (aCons (eVar 2) aNil)) (eC (.int 2))) Γ S = .ok false S := by
    have : eCall lenS (aCons (eVar 2) aNil) Γ S = .ok (.d (.int 2)) S := by
      rw [eCall_eq, aCons_eq, eVar_at (x := .d (hp p)) rfl, bind_ok, aNil_eq, bind_ok, bind_ok, len_sq]; rfl
    rw [tst_eq, eBin_eq, this, bind_ok, eC_eq, bind_ok, eqI_f, bind_ok]
    rfl
  have hc : C_told_graph_1 Γ S = .ok (.d (.list ([p.2.1, p.2.2].map fun _ => .bool true))) S := by
    unfold C_told_graph_1
    refine comp_s PyData.int _ [p.2.1, p.2.2] (by rw [iSrc_eq, eVar_at (x := .d (hp p)) rfl, bind_ok, src_sq]; rfl) fun x hx => ⟨_, gNm_eq _ _ _ _, ?_⟩
    unfold E_told_graph_1
    rw [call1 (a := .d (.int x)) (S1 := S) rfl]
    refine place_int ?_ S
    simp only [List.mem_cons, List.not_mem_nil, or_false] at hx
    rcases hx with rfl | rfl
    · exact hpl.1
    · exact hpl.2
  have e3 : eCall (allS false) (aCons C_told_graph_1 aNil) Γ S = .ok (.d (.bool true)) S := by
    rw [eCall_eq, aCons_eq, hc, bind_ok, aNil_eq, bind_ok, bind_ok]
    rfl
  show B_told_graph_1 Γ S = .ok (.nx Γ) S
  unfold B_told_graph_1
  rw [fIf_eq, tOr_eq, tNot_eq, tru_eq, e1, bind_ok, tru_bool]
  simp only [bind_ok, Bool.not_true, Bool.false_eq_true, if_false]
  rw [tOr_eq, e2, bind_ok]
  simp only [Bool.false_eq_true, if_false]
  rw [tNot_eq, tru_eq, e3, bind_ok, tru_bool]
  simp only [bind_ok, Bool.not_true, sB_ok, Bool.false_eq_true, if_false]
  rfl
theorem told_loop (E : PyData) (S : Store) : ∀ (items : List PyData) (o1 o2 : Option SV), (∀ d ∈ items, ∃ (i : Int) (p : Bool × Ed), d = .tuple [.int i, hp p] ∧ PlE p.2) →
    ∃ o1' o2', forL (fun _ => true) (gTupF 2 (gsCons (gNm 1) (gsCons (gNm 2) gsNil))) B_told_graph_1 items [some (.d E), o1, o2, none] S = .ok (.nx [some (.d E), o1', o2', none]) S
  | [], o1, o2, _ => ⟨o1, o2, rfl⟩
  | d :: ds, o1, o2, h => by
    obtain ⟨i, p, rfl, hpl⟩ := h d List.mem_cons_self
    obtain ⟨o1', o2', e⟩ := told_loop E S ds (some (.d (.int i))) (some (.d (hp p))) fun d m => h d (List.mem_cons_of_mem _ m)
    refine ⟨o1', o2', ?_⟩
    have e0 : gTupF 2 (gsCons (gNm 1) (gsCons (gNm 2) gsNil)) (.d (.tuple [.int i, hp p])) [some (.d E), o1, o2, none] S = .ok [some (.d E), some (.d (.int i)), some (.d (hp p)), none] S := rfl
    unfold forL
    rw [if_pos rfl, e0]
    simp only
    rw [pair_body E _ p hpl S]
    exact e
theorem told_eq (b : Bool) (ps : List (Bool × Ed)) (hl : ps.length ≤ 60) (hpl : ∀ p ∈ ps, PlE p.2) (S : Store) : F_told_graph [.d (sq b (ps.map hp))] S = .ok (.d (.tuple ((ps.map (·.2)).map pr))) S := by
  let E := sq b (ps.map hp)
  let Γ : Ev := [some (.d E), none, none, none]
  have e1 : eCallD 1 F_is_row (aCons (eVar 0) aNil) Γ S = .ok (.d (.bool true)) S := (call1 rfl).trans (isRow_sq b _ S)
  have e2 : tst (eBin (iCmp fun i j => decide (j < i)) (eCall lenS (aCons (eVar 0) aNil)) (eC k_MOST_EDGES)) Γ S = .ok false S := by
    have : eCall lenS (aCons (eVar 0) aNil) Γ S = .ok (.d (.int ps.length)) S := by
      rw [eCall_eq, aCons_eq, eVar_at (x := .d E) rfl, bind_ok, aNil_eq, bind_ok, bind_ok, len_sq, List.length_map]
    have k : decide ((60 : Int) < ps.length) = false := decide_eq_false (by omega)
    rw [tst_eq, eBin_eq, this, bind_ok, eC_eq, bind_ok]
    show (iCmp _ (.d (.int ps.length)) (.d (.int 60)) S).bind _ = _
    rw [iCmp_eq, bind_ok, k]
  have e3 : iEnmT (eVar 0) Γ S = .ok ⟨enumD (ps.map hp), fun _ => true⟩ S := by
    show (enumTS (.d (sq b (ps.map hp))) S) = _
    cases b <;> rfl
  obtain ⟨o1, o2, e4⟩ := told_loop E S (enumD (ps.map hp)) none none fun d m => by
    unfold enumD at m
    obtain ⟨i, hi, e⟩ := List.mem_mapIdx.mp m
    rw [List.getElem_map] at e
    exact ⟨i, _, e.symm, hpl _ (List.getElem_mem _)⟩
  have e5 : C_told_graph_2 [some (.d E), o1, o2, none] S = .ok (.d (.list (ps.map fun p => pr p.2))) S := by
    unfold C_told_graph_2
    refine comp_s hp _ ps (by rw [iSrc_eq, eVar_at (x := .d E) rfl, bind_ok, src_sq]) fun p hp' => ⟨_, gNm_eq _ _ _ _, ?_⟩
    unfold E_told_graph_2
    rw [eCall_eq, aCons_eq, eVar_at (x := .d (hp p)) rfl, bind_ok, aNil_eq, bind_ok, bind_ok]
    obtain ⟨c, e⟩ := p
    cases c <;> rfl
  unfold F_told_graph
  rw [runD_eq]
  show hand handF S.length (b_told_graph Γ S) = _
  unfold b_told_graph
  rw [fSeq_eq, fIf_eq, tOr_eq, tNot_eq, tru_eq, e1, bind_ok, tru_bool]
  simp only [bind_ok, Bool.not_true, Bool.false_eq_true, if_false]
  rw [e2, sB_ok, if_neg (by simp), fNil_eq, seqK_nx, fSeq_eq]
  unfold L_told_graph_1
  rw [fFor_eq e3, e4, seqK_nx, fRet_eq, eCall_eq, aCons_eq, e5, bind_ok, aNil_eq, bind_ok, bind_ok, tup_l, sB_ok, hand_rt, handF_d, take_self, List.map_map]
  rfl
theorem set_eq {n : Nat} {b : Bool} {ys : List Int} (E : PyData) (hE : ∀ S, lenS [.d E] S = .ok (.d (.int n)) S) (h : Ix n ys) (hd : ys.Nodup) (S : Store) : F_is_set [.d E, .d (sqI b ys)] S = .ok (.d (.bool (!ys.isEmpty))) S := by
  let Γ : Ev := [some (.d E), some (.d (sqI b ys)), none]
  have e1 : eCallD 1 F_is_row (aCons (eVar 1) aNil) Γ S = .ok (.d (.bool true)) S := (call1 rfl).trans (isRow_sq b _ S)
  have e2 : truS (.d (sqI b ys)) S = some (!ys.isEmpty) := by cases b <;> cases ys <;> rfl
  have hc : C_is_set_1 Γ S = .ok (.d (.list (ys.map fun _ => .bool true))) S := by
    unfold C_is_set_1
    refine comp_s PyData.int _ ys (by rw [iSrc_eq, eVar_at (x := .d (sqI b ys)) rfl, bind_ok, src_sq]) fun x hx => ⟨_, gNm_eq _ _ _ _, ?_⟩
    let Γ2 : Ev := (wipeE Γ [2]).set 2 (some (.d (.int x)))
    have f1 : eCallD 1 F_is_number (aCons (eVar 2) aNil) Γ2 S = .ok (.d (.bool true)) S := (call1 rfl).trans (number_int x S)
    have f2 : eCall lenS (aCons (eVar 0) aNil) Γ2 S = .ok (.d (.int n)) S := by
      rw [eCall_eq, aCons_eq, eVar_at (x := .d E) rfl, bind_ok, aNil_eq, bind_ok, bind_ok, hE]
    have f3 := chain_pp (h.1 x hx).1 (h.1 x hx).2 (eC (.int 0)) (eVar 2) (eCall lenS (aCons (eVar 0) aNil)) Γ2 S rfl rfl f2
    show E_is_set_1 Γ2 S = _
    unfold E_is_set_1
    rw [eAnd_eq, f1, bind_ok, tru_bool]
    simp only [if_true]
    exact f3
  have e3 : eCall (allS false) (aCons C_is_set_1 aNil) Γ S = .ok (.d (.bool true)) S := by
    obtain ⟨z1, z2⟩ := bools_all ys fun _ => true
    rw [eCall_eq, aCons_eq, hc, bind_ok, aNil_eq, bind_ok, bind_ok, all_l S z1, z2]
    simp
  have e4 : eBin (eqS false) (eLenSet (eVar 1)) (eCall lenS (aCons (eVar 1) aNil)) Γ S = .ok (.d (.bool true)) S := by
    have g1 : eLenSet (eVar 1) Γ S = .ok (.d (.int (distN ys : Nat))) S := by
      show dstS (.d (sqI b ys)) S = _
      exact dst_sqI b (by have := h.2; omega) S
    have g2 : eCall lenS (aCons (eVar 1) aNil) Γ S = .ok (.d (.int ys.length)) S := by
      rw [eCall_eq, aCons_eq, eVar_at (x := .d (sqI b ys)) rfl, bind_ok, aNil_eq, bind_ok, bind_ok, len_sq, List.length_map]
    rw [eBin_eq, g1, bind_ok, g2, bind_ok, eqI_t, dist_nd hd, decide_eq_true rfl]
  unfold F_is_set
  rw [runD_eq]
  show hand handF S.length (b_is_set Γ S) = _
  unfold b_is_set
  rw [fSeq_eq, fIf_eq, tOr_eq, tNot_eq, tru_eq, e1, bind_ok, tru_bool]
  simp only [bind_ok, Bool.not_true, Bool.false_eq_true, if_false]
  rw [tOr_eq, tNot_eq, tru_eq, eVar_at (x := .d (sqI b ys)) rfl, bind_ok, e2]
  simp only [bind_ok]
  cases hy : ys.isEmpty with
  | true =>
    simp only [Bool.not_true, Bool.not_false, if_true, sB_ok]
    rw [fRet_eq, eC_eq, sB_ok, seqK_rt, hand_rt, handF_d, take_self]
  | false =>
    simp only [Bool.not_false, Bool.not_true, Bool.false_eq_true, if_false]
    rw [tNot_eq, tru_eq, e3, bind_ok, tru_bool]
    simp only [bind_ok, Bool.not_true, sB_ok, Bool.false_eq_true, if_false]
    rw [fNil_eq, seqK_nx, fRet_eq, e4, sB_ok, hand_rt, handF_d, take_self]
end G29
/-! R8: is it a turn, as the program says. -/
namespace G29
open PySem L2 DL Gr
abbrev turnD (c : Bool) (k : Bool) (b : Bool) (ys : List Int) (u v : Int) : PyData := sq c [wd k, sqI b ys, .int u, .int v]
abbrev qΓ (es : List Ed) (t : PyData) (o2 o3 o4 o5 o6 o7 o9 : Option SV) : Ev := [some (.d (.tuple (es.map pr))), some (.d t), o2, o3, o4, o5, o6, o7, none, o9, none]
theorem first_if (es : List Ed) (c k b : Bool) (ys : List Int) (u v : Int) (S : Store) : (tOrF (tNotF (tru (eCallD 1 F_is_row (aCons (eVar 1) aNil)))) (tOrF (tst (eBin (eqS true) (eCall lenS (aCons (eVar 1) aNil)) (eC (.int 4)))) (tOrF (tNotF (tru (eIsi "str" (eIx (eVar 1) (eC (.int 0)))))) (tst (eBin (inS true) (eIx (eVar 1) (eC (.int 0))) (eTup (aCons (eC (.str "hang")) (aCons (eC (.str "twist")) aNil)))))))) (qΓ es (turnD c k b ys u v) none none none none none none none) S = .ok false S := by
  let Γ := qΓ es (turnD c k b ys u v) none none none none none none none
  have e1 : eCallD 1 F_is_row (aCons (eVar 1) aNil) Γ S = .ok (.d (.bool true)) S := (call1 rfl).trans (isRow_sq c _ S)
  have e2 : tst (eBin (eqS true) (eCall lenS (aCons (eVar 1) aNil)) (eC (.int 4))) Γ S = .ok false S := by
    have : eCall lenS (aCons (eVar 1) aNil) Γ S = .ok (.d (.int 4)) S := by
      rw [eCall_eq, aCons_eq, eVar_at (x := .d (turnD c k b ys u v)) rfl, bind_ok, aNil_eq, bind_ok, bind_ok, len_sq]; rfl
    rw [tst_eq, eBin_eq, this, bind_ok, eC_eq, bind_ok, eqI_f, bind_ok]
    rfl
  have e3 : eIx (eVar 1) (eC (.int 0)) Γ S = .ok (.d (wd k)) S := by
    show ixS (.d (sq c _)) (.d (.int 0)) S = _
    cases c <;> rfl
  have t1 : isiB "str" "str" = true := by decide
  have e4 : eIsi "str" (eIx (eVar 1) (eC (.int 0))) Γ S = .ok (.d (.bool true)) S := by
    rw [isi_eq, e3, bind_ok, asD_d]
    show Out.ok (SV.d (.bool (isiB "str" "str"))) S = _
    rw [t1]
  have e5 : tst (eBin (inS true) (eIx (eVar 1) (eC (.int 0))) (eTup (aCons (eC (.str "hang")) (aCons (eC (.str "twist")) aNil)))) Γ S = .ok false S := by
    have h : inS true (.d (wd k)) (.d (.tuple [.str "hang", .str "twist"])) S = .ok (.d (.bool false)) S := by
      cases k <;> kernel_rfl
    have h2 : eTup (aCons (eC (.str "hang")) (aCons (eC (.str "twist")) aNil)) Γ S = .ok (.d (.tuple [.str "hang", .str "twist"])) S := rfl
    rw [tst_eq, eBin_eq, e3, bind_ok, h2, bind_ok, h, bind_ok]
  show tOrF _ _ Γ S = _
  rw [tOr_eq, tNot_eq, tru_eq, e1, bind_ok, tru_bool]
  simp only [bind_ok, Bool.not_true, Bool.false_eq_true, if_false]
  rw [tOr_eq, e2, bind_ok]
  simp only [Bool.false_eq_true, if_false]
  rw [tOr_eq, tNot_eq, tru_eq, e4, bind_ok, tru_bool]
  simp only [bind_ok, Bool.not_true, Bool.false_eq_true, if_false]
  exact e5
theorem prog_turn_eq (es : List Ed) (hn : es.length ≤ 8) (c k b : Bool) {ys : List Int} (h : Ix es.length ys) (hd : ys.Nodup) {u v : Int} (hu : Pl u) (hv : Pl v) (S : Store) :
    F_is_turn [.d (.tuple (es.map pr)), .d (turnD c k b ys u v)] S = .ok (.d (.bool (isTurn es k ys u v))) S := by
  let t := turnD c k b ys u v
  let o2 : Option SV := some (.d (wd k))
  let o3 : Option SV := some (.d (sqI b ys))
  let o4 : Option SV := some (.d (.int u))
  let o5 : Option SV := some (.d (.int v))
  let o6 : Option SV := some (.d (.list ((spots es ys).map .int)))
  let o7 : Option SV := some (.d (.list ((spots es (others es.length ys)).map .int)))
  let o9 : Option SV := some (.d (.list ((bothP es ys).map .int)))
  have s1 : fAsg (eVar 1) (gSeqF 4 (gsCons (gNm 2) (gsCons (gNm 3) (gsCons (gNm 4) (gsCons (gNm 5) gsNil))))) (qΓ es t none none none none none none none) S = .ok (.nx (qΓ es t o2 o3 o4 o5 none none none)) S := by
    rw [fAsg_eq, eVar_at (x := .d t) rfl, sB_ok]
    show (match gSeqF 4 _ (.d (sq c _)) _ _ with | .ok Γ S => _ | _ => _) = _
    cases c <;> rfl
  have hE : ∀ S, lenS [.d (.tuple (es.map pr))] S = .ok (.d (.int es.length)) S := fun S => by rw [len_t, List.length_map]
  have a1 : eCallD 2 F_is_set (aCons (eVar 0) (aCons (eVar 3) aNil)) (qΓ es t o2 o3 o4 o5 none none none) S = .ok (.d (.bool (!ys.isEmpty))) S := (call2 rfl rfl).trans (set_eq _ hE h hd S)
  have a2 : eCallD 1 F_is_place (aCons (eVar 4) aNil) (qΓ es t o2 o3 o4 o5 none none none) S = .ok (.d (.bool true)) S := (call1 rfl).trans (place_int hu S)
  have a3 : eCallD 1 F_is_place (aCons (eVar 5) aNil) (qΓ es t o2 o3 o4 o5 none none none) S = .ok (.d (.bool true)) S := (call1 rfl).trans (place_int hv S)
  have s2 : tOrF (tNotF (tru (eCallD 2 F_is_set (aCons (eVar 0) (aCons (eVar 3) aNil))))) (tOrF (tNotF (tru (eCallD 1 F_is_place (aCons (eVar 4) aNil)))) (tOrF (tNotF (tru (eCallD 1 F_is_place (aCons (eVar 5) aNil)))) (tst (eBin (eqS false) (eVar 4) (eVar 5))))) (qΓ es t o2 o3 o4 o5 none none none) S = .ok (ys.isEmpty || decide (u = v)) S := by
    rw [tOr_eq, tNot_eq, tru_eq, a1, bind_ok, tru_bool]
    simp only [bind_ok]
    cases hy : ys.isEmpty with
    | true => rfl
    | false =>
      simp only [Bool.not_false, Bool.not_true, Bool.false_eq_true, if_false, Bool.false_or]
      rw [tOr_eq, tNot_eq, tru_eq, a2, bind_ok, tru_bool]
      simp only [bind_ok, Bool.not_true, Bool.false_eq_true, if_false]
      rw [tOr_eq, tNot_eq, tru_eq, a3, bind_ok, tru_bool]
      simp only [bind_ok, Bool.not_true, Bool.false_eq_true, if_false]
      rw [tst_eq, eBin_eq, eVar_at (x := .d (.int u)) rfl, bind_ok, eVar_at (x := .d (.int v)) rfl, bind_ok, eqI_t, bind_ok]
  have s3 : fSet 6 (eCallD 2 F_places_of (aCons (eVar 0) (aCons (eVar 3) aNil))) (qΓ es t o2 o3 o4 o5 none none none) S = .ok (.nx (qΓ es t o2 o3 o4 o5 o6 none none)) S := by
    have : eCallD 2 F_places_of (aCons (eVar 0) (aCons (eVar 3) aNil)) (qΓ es t o2 o3 o4 o5 none none none) S = .ok (.d (.list ((spots es ys).map .int))) S := (call2 rfl rfl).trans (places_eq es b h S)
    rw [fSet_eq, this, sB_ok]; rfl
  have hc1 : C_is_turn_1 (qΓ es t o2 o3 o4 o5 o6 none none) S = .ok (.d (.list ((others es.length ys).map .int))) S := by
    have p0 : eCall lenS (aCons (eVar 0) aNil) (qΓ es t o2 o3 o4 o5 o6 none none) S = .ok (.d (.int es.length)) S := by
      rw [eCall_eq, aCons_eq, eVar_at (x := .d (.tuple (es.map pr))) rfl, bind_ok, aNil_eq, bind_ok, bind_ok, hE]
    have e0 := iRg_ok (n := es.length) p0 (by omega)
    unfold C_is_turn_1
    rw [eLc_eq e0, rgD_nat, show (List.range es.length).map (fun (i : Nat) => PyData.int i) = ((List.range es.length).map fun (i : Nat) => (i : Int)).map PyData.int by rw [List.map_map]; rfl]
    rw [lcL_gf PyData.int PyData.int (fun x => !decide (x ∈ ys)) rfl, bind_ok, finF_eq]
    · rfl
    · intro x hx
      refine ⟨_, gNm_eq _ _ _ _, ?_, fun _ => rfl⟩
      unfold T_is_turn_1
      rw [tst_eq, eBin_eq, eVar_at (x := .d (.int x)) rfl, bind_ok, eVar_at (x := .d (sqI b ys)) rfl, bind_ok, in_sqI, bind_ok]
      rfl
  have s4 : fSet 7 (eCallD 2 F_places_of (aCons (eVar 0) (aCons C_is_turn_1 aNil))) (qΓ es t o2 o3 o4 o5 o6 none none) S = .ok (.nx (qΓ es t o2 o3 o4 o5 o6 o7 none)) S := by
    have : eCallD 2 F_places_of (aCons (eVar 0) (aCons C_is_turn_1 aNil)) (qΓ es t o2 o3 o4 o5 o6 none none) S = .ok (.d (.list ((spots es (others es.length ys)).map .int))) S := (call2 rfl hc1).trans (places_eq es true (others_ix hn ys) S)
    rw [fSet_eq, this, sB_ok]; rfl
  have s5 : fSet 9 C_is_turn_2 (qΓ es t o2 o3 o4 o5 o6 o7 none) S = .ok (.nx (qΓ es t o2 o3 o4 o5 o6 o7 o9)) S := by
    have hc : C_is_turn_2 (qΓ es t o2 o3 o4 o5 o6 o7 none) S = .ok (.d (.list ((bothP es ys).map .int))) S := by
      unfold C_is_turn_2
      have e0 : iSrc (eVar 6) (qΓ es t o2 o3 o4 o5 o6 o7 none) S = .ok ⟨(spots es ys).map .int, fun _ => true⟩ S := rfl
      rw [eLc_eq e0, lcL_gf PyData.int PyData.int (fun x => decide (x ∈ spots es (others es.length ys))) rfl, bind_ok, finF_eq]
      · rfl
      · intro x hx
        refine ⟨_, gNm_eq _ _ _ _, ?_, fun _ => rfl⟩
        unfold T_is_turn_2
        rw [tst_eq, eBin_eq, eVar_at (x := .d (.int x)) rfl, bind_ok, eVar_at (x := .d (sqI true (spots es (others es.length ys)))) rfl, bind_ok, in_sqI, bind_ok]
        rfl
    rw [fSet_eq, hc, sB_ok]; rfl
  let Γ := qΓ es t o2 o3 o4 o5 o6 o7 o9
  have c2 : eCall (allS false) (aCons C_is_turn_3 aNil) Γ S = .ok (.d (.bool ((bothP es ys).all fun p => decide (p ∈ [u, v])))) S := by
    have hc : C_is_turn_3 Γ S = .ok (.d (.list ((bothP es ys).map fun p => .bool (decide (p ∈ [u, v]))))) S := by
      unfold C_is_turn_3
      refine comp_s PyData.int _ (bothP es ys) rfl fun x hx => ⟨_, gNm_eq _ _ _ _, ?_⟩
      unfold E_is_turn_3
      have e3 : eTup (aCons (eVar 4) (aCons (eVar 5) aNil)) ((wipeE Γ [10]).set 10 (some (.d (.int x)))) S = .ok (.d (sqI false [u, v])) S := rfl
      rw [eBin_eq, eVar_at (x := .d (.int x)) rfl, bind_ok, e3, bind_ok, in_sqI]
      rfl
    obtain ⟨z1, z2⟩ := bools_all (bothP es ys) fun p => decide (p ∈ [u, v])
    rw [eCall_eq, aCons_eq, hc, bind_ok, aNil_eq, bind_ok, bind_ok, all_l S z1, z2]
    rfl
  have c3 : eCall (allS false) (aCons C_is_turn_4 aNil) Γ S = .ok (.d (.bool ((bothP es ys).all fun p => decide (p = u)))) S := by
    have hc : C_is_turn_4 Γ S = .ok (.d (.list ((bothP es ys).map fun p => .bool (decide (p = u))))) S := by
      unfold C_is_turn_4
      refine comp_s PyData.int _ (bothP es ys) rfl fun x hx => ⟨_, gNm_eq _ _ _ _, ?_⟩
      unfold E_is_turn_4
      rw [eBin_eq, eVar_at (x := .d (.int x)) rfl, bind_ok, eVar_at (x := .d (.int u)) rfl, bind_ok, eqI_t]
    obtain ⟨z1, z2⟩ := bools_all (bothP es ys) fun p => decide (p = u)
    rw [eCall_eq, aCons_eq, hc, bind_ok, aNil_eq, bind_ok, bind_ok, all_l S z1, z2]
    rfl
  have i1 : eBin (inS false) (eVar 4) (eVar 6) Γ S = .ok (.d (.bool (decide (u ∈ spots es ys)))) S := by
    rw [eBin_eq, eVar_at (x := .d (.int u)) rfl, bind_ok, eVar_at (x := .d (sqI true (spots es ys))) rfl, bind_ok, in_sqI]; rfl
  have i2 : eBin (inS true) (eVar 5) (eVar 6) Γ S = .ok (.d (.bool (!decide (v ∈ spots es ys)))) S := by
    rw [eBin_eq, eVar_at (x := .d (.int v)) rfl, bind_ok, eVar_at (x := .d (sqI true (spots es ys))) rfl, bind_ok, in_sqI]; rfl
  have s6 : tst (eBin (eqS false) (eVar 2) (eC (.str "twist"))) Γ S = .ok (!k) S := by
    rw [tst_eq, eBin_eq, eVar_at (x := .d (wd k)) rfl, bind_ok, eC_eq, bind_ok, wd_tw, bind_ok]
  have s7 : eAndF (eBin (inS false) (eVar 4) (eVar 6)) (eAndF (eBin (inS true) (eVar 5) (eVar 6)) (eCall (allS false) (aCons C_is_turn_4 aNil))) Γ S = .ok (.d (.bool (decide (u ∈ spots es ys) && !decide (v ∈ spots es ys) && (bothP es ys).all fun p => decide (p = u)))) S := by
    rw [eAnd_eq, i1, bind_ok, tru_bool]
    cases h1 : decide (u ∈ spots es ys) with
    | false => rfl
    | true =>
      simp only [Bool.true_and]
      rw [eAnd_eq, i2, bind_ok, tru_bool]
      cases h2 : decide (v ∈ spots es ys) with
      | true => rfl
      | false =>
        simp only [Bool.not_false, Bool.true_and]
        rw [c3]
        rfl
  unfold F_is_turn
  rw [runD_eq]
  show hand handF S.length (b_is_turn (qΓ es t none none none none none none none) S) = _
  unfold b_is_turn
  rw [fSeq_eq, fIf_eq, first_if, sB_ok, if_neg (by simp), fNil_eq, seqK_nx, fSeq_eq, s1, seqK_nx, fSeq_eq, fIf_eq, s2, sB_ok]
  unfold isTurn
  cases h0 : (ys.isEmpty || decide (u = v)) with
  | true =>
    rw [if_pos rfl, fRet_eq, eC_eq, sB_ok, seqK_rt, hand_rt, handF_d, take_self]
    rw [Bool.or_eq_true] at h0
    rcases h0 with h0 | h0 <;> simp [h0]
  | false =>
    rw [Bool.or_eq_false_iff] at h0
    rw [if_neg (by simp), fNil_eq, seqK_nx, fSeq_eq, s3, seqK_nx, fSeq_eq, s4, seqK_nx, fSeq_eq, s5, seqK_nx, fSeq_eq, fIf_eq, s6, sB_ok, h0.1, h0.2]
    unfold shareOk
    cases k with
    | false =>
      rw [if_pos (by rfl), fRet_eq, c2, sB_ok, seqK_rt, hand_rt, handF_d, take_self]
      rfl
    | true =>
      rw [if_neg (by simp), fNil_eq, seqK_nx, fRet_eq, s7, sB_ok, hand_rt, handF_d, take_self]
      rfl
/-- only who is in counts -/
theorem isTurn_perm (es : List Ed) (k : Bool) {xs ys : List Int} (hp : ys.Perm xs) (u v : Int) : isTurn es k ys u v = isTurn es k xs u v := by
  have m : ∀ x, x ∈ ys ↔ x ∈ xs := fun x => hp.mem_iff
  have e1 : spots es ys = spots es xs := by
    refine sdN_eq (sdN_pw _) fun x => (sdN_mem x _).trans ?_
    rw [ends_mem, ends_mem]
    unfold Gr.End sel
    simp only [List.mem_map]
    constructor
    · rintro ⟨e, ⟨y, hy, rfl⟩, z⟩; exact ⟨_, ⟨y, (m y).mp hy, rfl⟩, z⟩
    · rintro ⟨e, ⟨y, hy, rfl⟩, z⟩; exact ⟨_, ⟨y, (m y).mpr hy, rfl⟩, z⟩
  have e2 : others es.length ys = others es.length xs := by
    unfold others
    refine List.filter_congr fun x _ => ?_
    rw [decide_eq_decide.mpr (m x)]
  have e3 : ys.isEmpty = xs.isEmpty := by
    have := hp.length_eq
    cases ys <;> cases xs <;> simp_all
  unfold isTurn shareOk bothP
  rw [e1, e2, e3]
end G29
/-! R9: the graph behind a turn, as the law and as the program make it. -/
namespace G29
open PySem L2 DL Gr
/-- how a turn renames -/
def nmF (k : Bool) (u v x : Int) : Int := if k then (if x = u then v else x) else sw u v x
def nmD (k : Bool) (u v : Int) : List (Key × PyData) := if k then putD [] (.inl u) (.int v) else putD (putD [] (.inl u) (.int v)) (.inl v) (.int u)
theorem tells_nil : Tells [] id := ⟨fun k m => (nomatch m), fun x => rfl⟩
theorem nm_tells (k : Bool) (u v : Int) : Tells (nmD k u v) (nmF k u v) := by
  cases k with
  | true =>
    exact tells_nil.put u v
  | false =>
    have h := (tells_nil.put u v).put v u
    have e : (fun x => if x = v then u else if x = u then v else id x) = nmF false u v := by
      funext x
      show _ = sw u v x
      unfold sw
      by_cases h1 : x = u
      · subst h1
        by_cases h2 : x = v
        · subst h2; simp
        · simp [h2]
      · simp [h1]
    rw [e] at h
    exact h
theorem nm_len (k : Bool) (u v : Int) : (nmD k u v).length ≤ 2 := by
  have h1 := putD_len [] (.inl u) (.int v)
  have h2 := putD_len (putD [] (.inl u) (.int v)) (.inl v) (.int u)
  simp only [List.length_nil] at h1
  cases k
  · show (putD (putD [] (.inl u) (.int v)) (.inl v) (.int u)).length ≤ 2
    omega
  · show (putD [] (.inl u) (.int v)).length ≤ 2
    omega
theorem get_at {k : Nat} {Γ : Ev} {S : Store} {ds : List (Key × PyData)} {G : Int → Int} (t : Tells ds G) {x : Int} {i c : Nat} (h1 : Γ[i]? = some (some (.cell c))) (hS : S[c]? = some (.dct ds)) (hk : Γ[k]? = some (some (.d (.int x)))) :
    eGet2 (eVar i) (eVar k) (eVar k) Γ S = .ok (.d (.int (G x))) S := by
  have hc : cellD (.cell c) S = some (c, ds) := by unfold cellD; simp only [hS]
  have hy := t.val x
  unfold eGet2
  rw [eVar_at h1, bind_ok, hc, Option.isSome_some, if_pos rfl, eVar_at hk, bind_ok, eVar_at hk, bind_ok]
  unfold dgetS
  simp only [hc, keyP]
  cases hv : valD ds (.inl x) with
  | none => rw [hv] at hy; simp only [Option.getD_none] at hy; rw [hy]
  | some z => rw [hv] at hy; simp only [Option.getD_some] at hy; rw [hy]
def turnF (G : Int → Int) (xs : List Int) (es : List Ed) (i : Nat) : Ed := if (i : Int) ∈ xs then (G (es.getD i (0, 0)).1, G (es.getD i (0, 0)).2) else es.getD i (0, 0)
def turnL (G : Int → Int) (xs : List Int) (es : List Ed) : List Ed := (List.range es.length).map (turnF G xs es)
theorem turnL_perm (G : Int → Int) (es : List Ed) {xs ys : List Int} (h : ∀ x, x ∈ ys ↔ x ∈ xs) : turnL G ys es = turnL G xs es := by
  unfold turnL
  refine List.map_congr_left fun i _ => ?_
  unfold turnF
  by_cases k : (i : Int) ∈ xs
  · rw [if_pos k, if_pos ((h _).mpr k)]
  · rw [if_neg k, if_neg fun z => k ((h _).mp z)]
abbrev two (S : Store) (ds : List (Key × PyData)) (F : List PyData) : Store := S ++ [.dct ds, .lst F]
theorem two_0 (S : Store) (ds : List (Key × PyData)) (F : List PyData) : (two S ds F)[S.length]? = some (.dct ds) := by
  rw [List.getElem?_append_right (Nat.le_refl _), Nat.sub_self]; rfl
theorem two_1 (S : Store) (ds : List (Key × PyData)) (F : List PyData) : (two S ds F)[S.length + 1]? = some (.lst F) := by
  rw [List.getElem?_append_right (by omega), show S.length + 1 - S.length = 1 by omega]; rfl
theorem two_app (S : Store) (ds : List (Key × PyData)) (F : List PyData) (x : PyData) (hF : F.length ≤ 1000) {fo : EF} {af : AF} {Γ : Ev} (ho : fo Γ (two S ds F) = .ok (.cell (S.length + 1)) (two S ds F)) (ha : af Γ (two S ds F) = .ok [.d x] (two S ds F)) :
    fExpr (eMeth appendS fo af) Γ (two S ds F) = .ok (.nx Γ) (two S ds (F ++ [x])) := by
  have hc : cellL (.cell (S.length + 1)) (two S ds F) = some (S.length + 1, F) := by
    unfold cellL
    simp only [two_1]
  have hi : isL (.cell (S.length + 1)) (two S ds F) = true := by
    unfold isL
    simp only [two_1]
  rw [fExpr_eq]
  unfold eMeth
  rw [ho, bind_ok, hi, if_pos rfl, ha, bind_ok]
  unfold appendS
  simp only [hc]
  rw [if_pos (by omega), sB_ok]
  have : (two S ds F).set (S.length + 1) (.lst (F ++ [x])) = two S ds (F ++ [x]) := by
    unfold two
    rw [List.set_append_right _ _ (by omega), show S.length + 1 - S.length = 1 by omega]
    rfl
  rw [this]
/-! ### the law's -/
abbrev lΓ (es : List Ed) (k b : Bool) (xs : List Int) (u v : Int) (S : Store) (o7 o8 o9 : Option SV) : Ev := [some (.d (.tuple (es.map pr))), some (.d (wd k)), some (.d (sqI b xs)), some (.d (.int u)), some (.d (.int v)), some (.cell S.length), some (.cell (S.length + 1)), o7, o8, o9]
theorem law_step (es : List Ed) (k b : Bool) (xs : List Int) (u v : Int) (S : Store) (o8 o9 : Option SV) (F : List PyData) (hF : F.length ≤ 1000) (i : Nat) (hi : i < es.length) :
    ∃ o8' o9', B__law_turned_1 (lΓ es k b xs u v S (some (.d (.int i))) o8 o9) (two S (nmD k u v) F) = .ok (.nx (lΓ es k b xs u v S (some (.d (.int i))) o8' o9')) (two S (nmD k u v) (F ++ [pr (turnF (nmF k u v) xs es i)])) := by
  let e := es.getD i (0, 0)
  let T := two S (nmD k u v) F
  refine ⟨some (.d (.int e.1)), some (.d (.int e.2)), ?_⟩
  have e1 : fAsg (eIx (eVar 0) (eVar 7)) (gTupF 2 (gsCons (gNm 8) (gsCons (gNm 9) gsNil))) (lΓ es k b xs u v S (some (.d (.int i))) o8 o9) T = .ok (.nx (lΓ es k b xs u v S (some (.d (.int i))) (some (.d (.int e.1))) (some (.d (.int e.2))))) T := by
    have hx := at_edge (es := es) (x := (i : Int)) (by omega) (by omega)
    rw [Int.toNat_natCast] at hx
    rw [fAsg_eq, eIx_eq, eVar_at (x := .d (.tuple (es.map pr))) rfl, bind_ok, eVar_at (x := .d (.int i)) rfl, bind_ok, ix_t T hx, sB_ok]
    rfl
  let Γ := lΓ es k b xs u v S (some (.d (.int i))) (some (.d (.int e.1))) (some (.d (.int e.2)))
  have g1 : eGet2 (eVar 5) (eVar 8) (eVar 8) Γ T = .ok (.d (.int (nmF k u v e.1))) T := get_at (nm_tells k u v) (c := S.length) rfl (two_0 _ _ _) rfl
  have g2 : eGet2 (eVar 5) (eVar 9) (eVar 9) Γ T = .ok (.d (.int (nmF k u v e.2))) T := get_at (nm_tells k u v) (c := S.length) rfl (two_0 _ _ _) rfl
  have t1 : tst (eBin (inS false) (eVar 7) (eVar 2)) Γ T = .ok (decide ((i : Int) ∈ xs)) T := by
    rw [tst_eq, eBin_eq, eVar_at (x := .d (.int i)) rfl, bind_ok, eVar_at (x := .d (sqI b xs)) rfl, bind_ok, in_sqI, bind_ok]
    rfl
  have e2 : aCons (eIf (tst (eBin (inS false) (eVar 7) (eVar 2))) (eTup (aCons (eGet2 (eVar 5) (eVar 8) (eVar 8)) (aCons (eGet2 (eVar 5) (eVar 9) (eVar 9)) aNil))) (eTup (aCons (eVar 8) (aCons (eVar 9) aNil)))) aNil Γ T = .ok [.d (pr (turnF (nmF k u v) xs es i))] T := by
    have : eIf (tst (eBin (inS false) (eVar 7) (eVar 2))) (eTup (aCons (eGet2 (eVar 5) (eVar 8) (eVar 8)) (aCons (eGet2 (eVar 5) (eVar 9) (eVar 9)) aNil))) (eTup (aCons (eVar 8) (aCons (eVar 9) aNil))) Γ T = .ok (.d (pr (turnF (nmF k u v) xs es i))) T := by
      rw [eIf_eq, t1, bind_ok]
      unfold turnF
      by_cases hx : (i : Int) ∈ xs
      · rw [decide_eq_true hx, if_pos rfl, if_pos hx, eTup_eq, aCons_eq, g1, bind_ok, aCons_eq, g2, bind_ok, aNil_eq, bind_ok, bind_ok, bind_ok]
        rfl
      · rw [decide_eq_false hx, if_neg (by simp), if_neg hx]
        rfl
    rw [aCons_eq, this, bind_ok, aNil_eq, bind_ok]
  unfold B__law_turned_1
  rw [fSeq_eq, e1, seqK_nx]
  exact two_app S _ F _ hF (Γ := Γ) rfl e2
theorem law_loop (es : List Ed) (k b : Bool) (xs : List Int) (u v : Int) (S : Store) : ∀ (m i : Nat) (o7 o8 o9 : Option SV), i + m = es.length → es.length ≤ 1000 → ∃ o7' o8' o9', forL (fun _ => true) (gNm 7) B__law_turned_1 ((List.range' i m).map fun (i : Nat) => PyData.int i) (lΓ es k b xs u v S o7 o8 o9)
    (two S (nmD k u v) ((List.range i).map fun i => pr (turnF (nmF k u v) xs es i))) = .ok (.nx (lΓ es k b xs u v S o7' o8' o9')) (two S (nmD k u v) ((List.range es.length).map fun i => pr (turnF (nmF k u v) xs es i)))
  | 0, i, o7, o8, o9, h, hz => by
    rw [Nat.add_zero] at h
    subst h
    exact ⟨o7, o8, o9, rfl⟩
  | m + 1, i, o7, o8, o9, h, hz => by
    obtain ⟨o8', o9', e1⟩ := law_step es k b xs u v S o8 o9 ((List.range i).map fun i => pr (turnF (nmF k u v) xs es i)) (by rw [List.length_map, List.length_range]; omega) i (by omega)
    obtain ⟨o7'', o8'', o9'', e2⟩ := law_loop es k b xs u v S m (i + 1) (some (.d (.int i))) o8' o9' (by omega) hz
    refine ⟨o7'', o8'', o9'', ?_⟩
    rw [List.range'_succ, List.map_cons]
    unfold forL
    rw [if_pos rfl]
    simp only [gNm_eq, List.set_cons_succ, List.set_cons_zero]
    rw [e1]
    simp only
    rw [List.range_succ, List.map_append] at e2
    exact e2
theorem law_turned_eq (es : List Ed) (hn : es.length ≤ 8) (k b : Bool) (xs : List Int) (u v : Int) (S : Store) : F__law_turned [.d (.tuple (es.map pr)), .d (wd k), .d (sqI b xs), .d (.int u), .d (.int v)] S = .ok (.d (.tuple ((turnL (nmF k u v) xs es).map pr))) S := by
  let Γ0 : Ev := [some (.d (.tuple (es.map pr))), some (.d (wd k)), some (.d (sqI b xs)), some (.d (.int u)), some (.d (.int v)), none, none, none, none, none]
  let Γ1 : Ev := [some (.d (.tuple (es.map pr))), some (.d (wd k)), some (.d (sqI b xs)), some (.d (.int u)), some (.d (.int v)), some (.cell S.length), none, none, none, none]
  have e1 : fSet 5 (eIf (tst (eBin (eqS false) (eVar 1) (eC (.str "twist")))) (eDisp [((eVar 3), (eVar 4)), ((eVar 4), (eVar 3))]) (eDisp [((eVar 3), (eVar 4))])) Γ0 S = .ok (.nx Γ1) (S ++ [MO.dct (nmD k u v)]) := by
    have t : tst (eBin (eqS false) (eVar 1) (eC (.str "twist"))) Γ0 S = .ok (!k) S := by
      rw [tst_eq, eBin_eq, eVar_at (x := .d (wd k)) rfl, bind_ok, eC_eq, bind_ok, wd_tw, bind_ok]
    rw [fSet_eq, eIf_eq, t, bind_ok]
    cases k <;> rfl
  have e2 : fSet 6 (eLst finC aNil) Γ1 (S ++ [MO.dct (nmD k u v)]) = .ok (.nx (lΓ es k b xs u v S none none none)) (two S (nmD k u v) []) := by
    have : eLst finC aNil Γ1 (S ++ [MO.dct (nmD k u v)]) = .ok (.cell (S ++ [MO.dct (nmD k u v)]).length) ((S ++ [MO.dct (nmD k u v)]) ++ [MO.lst []]) := rfl
    rw [fSet_eq, this, sB_ok, List.length_append, List.append_assoc]
    rfl
  have e3 : iRg (rg1 (eCall lenS (aCons (eVar 0) aNil))) (lΓ es k b xs u v S none none none) (two S (nmD k u v) []) = .ok ⟨rgD 0 es.length, fun _ => true⟩ (two S (nmD k u v) []) := iRg_ok (by
    rw [eCall_eq, aCons_eq, eVar_at (x := .d (.tuple (es.map pr))) rfl, bind_ok, aNil_eq, bind_ok, bind_ok, len_t, List.length_map]) (by omega)
  obtain ⟨o7, o8, o9, e4⟩ := law_loop es k b xs u v S es.length 0 none none none (by omega) (by omega)
  let T := two S (nmD k u v) ((List.range es.length).map fun i => pr (turnF (nmF k u v) xs es i))
  have e5 : eCall tupS (aCons (eVar 6) aNil) (lΓ es k b xs u v S o7 o8 o9) T = .ok (.d (.tuple ((turnL (nmF k u v) xs es).map pr))) T := by
    have ha : asD (.cell (S.length + 1)) T = some (.list ((List.range es.length).map fun i => pr (turnF (nmF k u v) xs es i))) := by
      unfold asD
      simp only [T, two_1]
    rw [eCall_eq, aCons_eq, eVar_at (x := .cell (S.length + 1)) rfl, bind_ok, aNil_eq, bind_ok, bind_ok]
    unfold tupS turnL
    simp only [ha]
    rw [List.map_map]
    rfl
  unfold F__law_turned
  rw [runD_eq]
  show hand handF S.length (b__law_turned Γ0 S) = _
  unfold b__law_turned
  rw [fSeq_eq, e1, seqK_nx, fSeq_eq, e2, seqK_nx, fSeq_eq]
  unfold L__law_turned_1
  rw [fFor_eq e3, rgD_nat, List.range_eq_range']
  rw [show two S (nmD k u v) [] = two S (nmD k u v) ((List.range 0).map fun i => pr (turnF (nmF k u v) xs es i)) from rfl, e4, seqK_nx, fRet_eq, e5, sB_ok, hand_rt, handF_d, List.take_left]
end G29
/-! R10: renamed, made, turned. -/
namespace G29
open PySem L2 DL Gr
theorem enum_edges (es : List Ed) : enumD (es.map pr) = (List.range es.length).map fun (i : Nat) => PyData.tuple [.int i, pr (es.getD i (0, 0))] := by
  unfold enumD
  apply List.ext_getElem
  · simp
  · intro i h1 h2
    simp only [List.length_mapIdx, List.length_map] at h1
    simp only [List.getElem_mapIdx, List.getElem_map, List.getElem_range]
    rw [List.getD_eq_getElem?_getD, List.getElem?_eq_getElem h1]
    rfl
abbrev rΓ (es : List Ed) (b : Bool) (xs : List Int) (S : Store) (o4 o5 o6 : Option SV) : Ev := [some (.d (.tuple (es.map pr))), some (.d (sqI b xs)), some (.cell S.length), some (.cell (S.length + 1)), o4, o5, o6]
theorem ren_step (es : List Ed) (k b : Bool) (xs : List Int) (u v : Int) (S : Store) (F : List PyData) (hF : F.length ≤ 1000) (i : Nat) :
    B_renamed_1 (rΓ es b xs S (some (.d (.int i))) (some (.d (.int (es.getD i (0, 0)).1))) (some (.d (.int (es.getD i (0, 0)).2)))) (two S (nmD k u v) F) = .ok (.nx (rΓ es b xs S (some (.d (.int i))) (some (.d (.int (es.getD i (0, 0)).1))) (some (.d (.int (es.getD i (0, 0)).2))))) (two S (nmD k u v) (F ++ [pr (turnF (nmF k u v) xs es i)])) := by
  let e := es.getD i (0, 0)
  let T := two S (nmD k u v) F
  let Γ := rΓ es b xs S (some (.d (.int i))) (some (.d (.int e.1))) (some (.d (.int e.2)))
  have g1 : eGet2 (eVar 2) (eVar 5) (eVar 5) Γ T = .ok (.d (.int (nmF k u v e.1))) T := get_at (nm_tells k u v) (c := S.length) rfl (two_0 _ _ _) rfl
  have g2 : eGet2 (eVar 2) (eVar 6) (eVar 6) Γ T = .ok (.d (.int (nmF k u v e.2))) T := get_at (nm_tells k u v) (c := S.length) rfl (two_0 _ _ _) rfl
  have t1 : tst (eBin (inS false) (eVar 4) (eVar 1)) Γ T = .ok (decide ((i : Int) ∈ xs)) T := by
    rw [tst_eq, eBin_eq, eVar_at (x := .d (.int i)) rfl, bind_ok, eVar_at (x := .d (sqI b xs)) rfl, bind_ok, in_sqI, bind_ok]
    rfl
  have e2 : aCons (eIf (tst (eBin (inS false) (eVar 4) (eVar 1))) (eTup (aCons (eGet2 (eVar 2) (eVar 5) (eVar 5)) (aCons (eGet2 (eVar 2) (eVar 6) (eVar 6)) aNil))) (eTup (aCons (eVar 5) (aCons (eVar 6) aNil)))) aNil Γ T = .ok [.d (pr (turnF (nmF k u v) xs es i))] T := by
    have : eIf (tst (eBin (inS false) (eVar 4) (eVar 1))) (eTup (aCons (eGet2 (eVar 2) (eVar 5) (eVar 5)) (aCons (eGet2 (eVar 2) (eVar 6) (eVar 6)) aNil))) (eTup (aCons (eVar 5) (aCons (eVar 6) aNil))) Γ T = .ok (.d (pr (turnF (nmF k u v) xs es i))) T := by
      rw [eIf_eq, t1, bind_ok]
      unfold turnF
      by_cases hx : (i : Int) ∈ xs
      · rw [decide_eq_true hx, if_pos rfl, if_pos hx, eTup_eq, aCons_eq, g1, bind_ok, aCons_eq, g2, bind_ok, aNil_eq, bind_ok, bind_ok, bind_ok]
        rfl
      · rw [decide_eq_false hx, if_neg (by simp), if_neg hx]
        rfl
    rw [aCons_eq, this, bind_ok, aNil_eq, bind_ok]
  unfold B_renamed_1
  exact two_app S _ F _ hF (Γ := Γ) rfl e2
theorem ren_loop (es : List Ed) (k b : Bool) (xs : List Int) (u v : Int) (S : Store) : ∀ (m i : Nat) (o4 o5 o6 : Option SV), i + m = es.length → es.length ≤ 1000 → ∃ o4' o5' o6', forL (fun _ => true) (gTupF 2 (gsCons (gNm 4) (gsCons (gTupF 2 (gsCons (gNm 5) (gsCons (gNm 6) gsNil))) gsNil))) B_renamed_1 ((List.range' i m).map fun (i : Nat) => PyData.tuple [.int i, pr (es.getD i (0, 0))]) (rΓ es b xs S o4 o5 o6)
    (two S (nmD k u v) ((List.range i).map fun i => pr (turnF (nmF k u v) xs es i))) = .ok (.nx (rΓ es b xs S o4' o5' o6')) (two S (nmD k u v) ((List.range es.length).map fun i => pr (turnF (nmF k u v) xs es i)))
  | 0, i, o4, o5, o6, h, hz => by
    rw [Nat.add_zero] at h
    subst h
    exact ⟨o4, o5, o6, rfl⟩
  | m + 1, i, o4, o5, o6, h, hz => by
    have e1 := ren_step es k b xs u v S ((List.range i).map fun i => pr (turnF (nmF k u v) xs es i)) (by rw [List.length_map, List.length_range]; omega) i
    obtain ⟨o4'', o5'', o6'', e2⟩ := ren_loop es k b xs u v S m (i + 1) (some (.d (.int i))) (some (.d (.int (es.getD i (0, 0)).1))) (some (.d (.int (es.getD i (0, 0)).2))) (by omega) hz
    refine ⟨o4'', o5'', o6'', ?_⟩
    have e0 : ∀ T, gTupF 2 (gsCons (gNm 4) (gsCons (gTupF 2 (gsCons (gNm 5) (gsCons (gNm 6) gsNil))) gsNil)) (.d (.tuple [.int i, pr (es.getD i (0, 0))])) (rΓ es b xs S o4 o5 o6) T = .ok (rΓ es b xs S (some (.d (.int i))) (some (.d (.int (es.getD i (0, 0)).1))) (some (.d (.int (es.getD i (0, 0)).2)))) T := fun T => rfl
    rw [List.range'_succ, List.map_cons]
    unfold forL
    rw [if_pos rfl, e0]
    simp only
    rw [e1]
    simp only
    rw [List.range_succ, List.map_append] at e2
    exact e2
theorem renamed_eq (es : List Ed) (hn : es.length ≤ 8) (k b : Bool) (xs : List Int) (u v : Int) (S : Store) : F_renamed [.d (.tuple (es.map pr)), .d (sqI b xs), .cell S.length] (S ++ [MO.dct (nmD k u v)]) = .ok (.d (.tuple ((turnL (nmF k u v) xs es).map pr))) (S ++ [MO.dct (nmD k u v)]) := by
  let Γ0 : Ev := [some (.d (.tuple (es.map pr))), some (.d (sqI b xs)), some (.cell S.length), none, none, none, none]
  have e2 : fSet 3 (eLst finC aNil) Γ0 (S ++ [MO.dct (nmD k u v)]) = .ok (.nx (rΓ es b xs S none none none)) (two S (nmD k u v) []) := by
    have : eLst finC aNil Γ0 (S ++ [MO.dct (nmD k u v)]) = .ok (.cell (S ++ [MO.dct (nmD k u v)]).length) ((S ++ [MO.dct (nmD k u v)]) ++ [MO.lst []]) := rfl
    rw [fSet_eq, this, sB_ok, List.length_append, List.append_assoc]
    rfl
  have e3 : iEnmT (eVar 0) (rΓ es b xs S none none none) (two S (nmD k u v) []) = .ok ⟨enumD (es.map pr), fun _ => true⟩ (two S (nmD k u v) []) := rfl
  obtain ⟨o4, o5, o6, e4⟩ := ren_loop es k b xs u v S es.length 0 none none none (by omega) (by omega)
  let T := two S (nmD k u v) ((List.range es.length).map fun i => pr (turnF (nmF k u v) xs es i))
  have e5 : eCall tupS (aCons (eVar 3) aNil) (rΓ es b xs S o4 o5 o6) T = .ok (.d (.tuple ((turnL (nmF k u v) xs es).map pr))) T := by
    have ha : asD (.cell (S.length + 1)) T = some (.list ((List.range es.length).map fun i => pr (turnF (nmF k u v) xs es i))) := by
      unfold asD
      simp only [T, two_1]
    rw [eCall_eq, aCons_eq, eVar_at (x := .cell (S.length + 1)) rfl, bind_ok, aNil_eq, bind_ok, bind_ok]
    unfold tupS turnL
    simp only [ha]
    rw [List.map_map]
    rfl
  unfold F_renamed
  rw [runD_eq]
  show hand handF (S ++ [MO.dct (nmD k u v)]).length (b_renamed Γ0 (S ++ [MO.dct (nmD k u v)])) = _
  unfold b_renamed
  rw [fSeq_eq, e2, seqK_nx, fSeq_eq]
  unfold L_renamed_1
  rw [fFor_eq e3, enum_edges, List.range_eq_range']
  rw [show two S (nmD k u v) [] = two S (nmD k u v) ((List.range 0).map fun i => pr (turnF (nmF k u v) xs es i)) from rfl, e4, seqK_nx, fRet_eq, e5, sB_ok, hand_rt, handF_d]
  have : T.take (S ++ [MO.dct (nmD k u v)]).length = S ++ [MO.dct (nmD k u v)] := by
    show (S ++ [MO.dct (nmD k u v), MO.lst _]).take _ = _
    rw [show S ++ [MO.dct (nmD k u v), MO.lst ((List.range es.length).map fun i => pr (turnF (nmF k u v) xs es i))] = (S ++ [MO.dct (nmD k u v)]) ++ [MO.lst ((List.range es.length).map fun i => pr (turnF (nmF k u v) xs es i))] by rw [List.append_assoc]; rfl, List.take_left]
  rw [this]
theorem made_eq (es : List Ed) (hn : es.length ≤ 8) (c k b : Bool) (ys : List Int) (u v : Int) (S : Store) : F_made [.d (.tuple (es.map pr)), .d (turnD c k b ys u v)] S = .ok (.d (.tuple ((turnL (nmF k u v) ys es).map pr))) S := by
  let Γ0 : Ev := [some (.d (.tuple (es.map pr))), some (.d (turnD c k b ys u v)), none, none, none, none]
  let Γ1 : Ev := [some (.d (.tuple (es.map pr))), some (.d (turnD c k b ys u v)), some (.d (wd k)), some (.d (sqI b ys)), some (.d (.int u)), some (.d (.int v))]
  have s1 : fAsg (eVar 1) (gSeqF 4 (gsCons (gNm 2) (gsCons (gNm 3) (gsCons (gNm 4) (gsCons (gNm 5) gsNil))))) Γ0 S = .ok (.nx Γ1) S := by
    rw [fAsg_eq, eVar_at (x := .d (turnD c k b ys u v)) rfl, sB_ok]
    show (match gSeqF 4 _ (.d (sq c _)) _ _ with | .ok Γ S => _ | _ => _) = _
    cases c <;> rfl
  have e1 : eIf (tst (eBin (eqS false) (eVar 2) (eC (.str "hang")))) (eDisp [((eVar 4), (eVar 5))]) (eDisp [((eVar 4), (eVar 5)), ((eVar 5), (eVar 4))]) Γ1 S = .ok (.cell S.length) (S ++ [MO.dct (nmD k u v)]) := by
    have t : tst (eBin (eqS false) (eVar 2) (eC (.str "hang"))) Γ1 S = .ok k S := by
      rw [tst_eq, eBin_eq, eVar_at (x := .d (wd k)) rfl, bind_ok, eC_eq, bind_ok, wd_hg, bind_ok]
    rw [eIf_eq, t, bind_ok]
    cases k <;> rfl
  have e2 := (call3 (F := F_renamed) (fa := eVar 0) (fb := eVar 3) (Γ := Γ1) (S := S) rfl rfl e1).trans (renamed_eq es hn k b ys u v S)
  unfold F_made
  rw [runD_eq]
  show hand handF S.length (b_made Γ0 S) = _
  unfold b_made
  rw [fSeq_eq, s1, seqK_nx, fRet_eq, e2, sB_ok, hand_rt, handF_d, List.take_left]
/-- turned: a turn -/
theorem turned_eq (ps : List (Bool × Ed)) (hn : ps.length ≤ 8) (hpl : ∀ p ∈ ps, PlE p.2) (b1 c k b : Bool) {ys : List Int} (h : Ix ps.length ys) (hd : ys.Nodup) {u v : Int} (hu : Pl u) (hv : Pl v) (S : Store) :
    (isTurn (ps.map (·.2)) k ys u v = true → F_turned [.d (sq b1 (ps.map hp)), .d (turnD c k b ys u v)] S = .ok (.d (.tuple ((turnL (nmF k u v) ys (ps.map (·.2))).map pr))) S) := by
  intro ht
  let es := ps.map (·.2)
  have hl : es.length = ps.length := List.length_map ..
  let t := turnD c k b ys u v
  let Γ0 : Ev := [some (.d (sq b1 (ps.map hp))), some (.d t), none]
  let Γ1 : Ev := [some (.d (sq b1 (ps.map hp))), some (.d t), some (.d (.tuple (es.map pr)))]
  have e1 : eCallD 1 F_told_graph (aCons (eVar 0) aNil) Γ0 S = .ok (.d (.tuple (es.map pr))) S := (call1 rfl).trans (told_eq b1 ps (by omega) hpl S)
  have e2 : eCallD 2 F_is_turn (aCons (eVar 2) (aCons (eVar 1) aNil)) Γ1 S = .ok (.d (.bool true)) S := by
    rw [← ht]
    exact (call2 rfl rfl).trans (prog_turn_eq es (by omega) c k b (by rw [hl]; exact h) hd hu hv S)
  have e3 : eCallD 2 F_made (aCons (eVar 2) (aCons (eVar 1) aNil)) Γ1 S = .ok (.d (.tuple ((turnL (nmF k u v) ys es).map pr))) S := (call2 rfl rfl).trans (made_eq es (by omega) c k b ys u v S)
  have s1 : fSet 2 (eCallD 1 F_told_graph (aCons (eVar 0) aNil)) Γ0 S = .ok (.nx Γ1) S := by
    rw [fSet_eq, e1, sB_ok]; rfl
  unfold F_turned
  rw [runD_eq]
  show hand handF S.length (b_turned Γ0 S) = _
  unfold b_turned
  rw [fSeq_eq, s1, seqK_nx, fSeq_eq, fIf_eq, tNot_eq, tru_eq, e2, bind_ok, tru_bool]
  simp only [bind_ok, Bool.not_true, sB_ok, Bool.false_eq_true, if_false]
  rw [fNil_eq, seqK_nx, fRet_eq, e3, sB_ok, hand_rt, handF_d, take_self]
/-- turned: no turn -/
theorem turned_bad (ps : List (Bool × Ed)) (hn : ps.length ≤ 8) (hpl : ∀ p ∈ ps, PlE p.2) (b1 c k b : Bool) {ys : List Int} (h : Ix ps.length ys) (hd : ys.Nodup) {u v : Int} (hu : Pl u) (hv : Pl v) (S : Store)
    (ht : isTurn (ps.map (·.2)) k ys u v = false) : F_turned [.d (sq b1 (ps.map hp)), .d (turnD c k b ys u v)] S = .ex ⟨"BadTurn", []⟩ S := by
  let es := ps.map (·.2)
  have hl : es.length = ps.length := List.length_map ..
  let t := turnD c k b ys u v
  let Γ0 : Ev := [some (.d (sq b1 (ps.map hp))), some (.d t), none]
  let Γ1 : Ev := [some (.d (sq b1 (ps.map hp))), some (.d t), some (.d (.tuple (es.map pr)))]
  have e1 : eCallD 1 F_told_graph (aCons (eVar 0) aNil) Γ0 S = .ok (.d (.tuple (es.map pr))) S := (call1 rfl).trans (told_eq b1 ps (by omega) hpl S)
  have e2 : eCallD 2 F_is_turn (aCons (eVar 2) (aCons (eVar 1) aNil)) Γ1 S = .ok (.d (.bool false)) S := by
    rw [← ht]
    exact (call2 rfl rfl).trans (prog_turn_eq es (by omega) c k b (by rw [hl]; exact h) hd hu hv S)
  have s1 : fSet 2 (eCallD 1 F_told_graph (aCons (eVar 0) aNil)) Γ0 S = .ok (.nx Γ1) S := by
    rw [fSet_eq, e1, sB_ok]; rfl
  unfold F_turned
  rw [runD_eq]
  show hand handF S.length (b_turned Γ0 S) = _
  unfold b_turned
  rw [fSeq_eq, s1, seqK_nx, fSeq_eq, fIf_eq, tNot_eq, tru_eq, e2, bind_ok, tru_bool]
  simp only [bind_ok, Bool.not_false, sB_ok, if_true]
  show Out.ex ⟨"BadTurn", []⟩ (S.take S.length) = _
  rw [take_self]
end G29
/-! R11: the fault of a turn; behind a turn all sets have the same rank. -/
namespace G29
open PySem L2 DL Gr
def okV (t : Bool) : PyData := if t then .tuple [.str "none"] else .tuple [.str "turn", .bool true, .bool false]
theorem plain_pairs (es : List Ed) : (es.map fun e => ((false, e) : Bool × Ed)).map hp = es.map pr ∧ (es.map fun e => ((false, e) : Bool × Ed)).map (·.2) = es := by
  refine ⟨by rw [List.map_map]; rfl, ?_⟩
  rw [List.map_map]
  exact (List.map_congr_left fun _ _ => rfl).trans (List.map_id es)
theorem fault_eq (es : List Ed) (hn : es.length ≤ 8) (hpl : ∀ e ∈ es, PlE e) (k : Bool) {xs : List Int} (h : Ix es.length xs) (hd : xs.Nodup) {u v : Int} (hu : Pl u) (hv : Pl v) (S : Store) :
    F__law_fault [.d (.tuple (es.map pr)), .d (turnD false k false xs u v)] S = .ok (.d (okV (isTurn es k xs u v))) S := by
  obtain ⟨q1, q2⟩ := plain_pairs es
  have hl : (es.map fun e => ((false, e) : Bool × Ed)).length = es.length := List.length_map ..
  have hpl' : ∀ p ∈ es.map (fun e => ((false, e) : Bool × Ed)), PlE p.2 := fun p m => by
    obtain ⟨e, me, rfl⟩ := List.mem_map.mp m
    exact hpl e me
  let Γ0 : Ev := [some (.d (.tuple (es.map pr))), some (.d (turnD false k false xs u v)), none]
  have c0 : eCallD 2 F_turned (aCons (eVar 0) (aCons (eVar 1) aNil)) Γ0 S = F_turned [.d (sq false ((es.map fun e => ((false, e) : Bool × Ed)).map hp)), .d (turnD false k false xs u v)] S := by
    rw [q1]
    exact call2 rfl rfl
  unfold F__law_fault
  rw [runD_eq]
  show hand handF S.length (b__law_fault Γ0 S) = _
  unfold b__law_fault
  rw [fSeq_eq]
  cases ht : isTurn es k xs u v with
  | true =>
    have e := turned_eq (es.map fun e => (false, e)) (by omega) hpl' false false k false (by rw [hl]; exact h) hd hu hv S (by rw [q2]; exact ht)
    unfold fTryRets
    rw [fExpr_eq, c0, e, sB_ok]
    simp only
    rw [seqK_nx]
    show hand handF S.length (.ok (.rt (.d (.tuple [.str "none"]))) S) = _
    rw [hand_rt, handF_d, take_self]
    rfl
  | false =>
    have e := turned_bad (es.map fun e => (false, e)) (by omega) hpl' false false k false (by rw [hl]; exact h) hd hu hv S (by rw [q2]; exact ht)
    unfold fTryRets
    rw [fExpr_eq, c0, e]
    have e2 : pickX [(ok_BadGraph, 2, fun x => (eTup (aCons (eC (.str "graph")) (aCons (eXg okf_number x "number") (aCons (eIsF x ok_MatroidError) (aCons (eIsF x ok_BadTurn) aNil)))))), (ok_BadTurn, 2, fun x => (eTup (aCons (eC (.str "turn")) (aCons (eIsF x ok_MatroidError) (aCons (eIsF x ok_BadGraph) aNil)))))] ⟨"BadTurn", []⟩ Γ0 S = .ok (.rt (.d (.tuple [.str "turn", .bool true, .bool false]))) S := by
      kernel_rfl
    show hand handF S.length (seqK _ (pickX _ ⟨"BadTurn", []⟩ Γ0 S)) = _
    rw [e2, seqK_rt, hand_rt, handF_d, take_self]
    rfl
/-- the edges, marked -/
def marks (xs : List Int) (es : List Ed) : List Te := (List.range es.length).map fun (i : Nat) => (decide ((i : Int) ∈ xs), es.getD i (0, 0))
theorem marks_at {xs : List Int} {es : List Ed} {i : Nat} (hi : i < es.length) : (marks xs es)[i]? = some (decide ((i : Int) ∈ xs), es.getD i (0, 0)) := by
  unfold marks
  rw [List.getElem?_map, List.getElem?_range hi]; rfl
theorem marks_len (xs : List Int) (es : List Ed) : (marks xs es).length = es.length := by
  unfold marks
  rw [List.length_map, List.length_range]
theorem marks_mem {xs : List Int} {es : List Ed} {t : Te} (h : t ∈ marks xs es) : ∃ i : Nat, i < es.length ∧ t = (decide ((i : Int) ∈ xs), es.getD i (0, 0)) := by
  obtain ⟨i, hi, rfl⟩ := List.mem_map.mp h
  exact ⟨i, List.mem_range.mp hi, rfl⟩
theorem share_meet {es : List Ed} {k : Bool} {xs : List Int} {u v : Int} (h : shareOk es k xs u v = true) : Meet u v (marks xs es) := by
  intro x a b
  have ha : x ∈ spots es xs := by
    obtain ⟨e, m, z⟩ := a
    obtain ⟨t, mt, rfl⟩ := List.mem_map.mp m
    obtain ⟨m1, m2⟩ := List.mem_filter.mp mt
    obtain ⟨i, hi, rfl⟩ := marks_mem m1
    have hx : (i : Int) ∈ xs := of_decide_eq_true m2
    exact spots_mem.mpr ⟨_, List.mem_map.mpr ⟨(i : Int), hx, by rw [Int.toNat_natCast]⟩, z⟩
  have hb : x ∈ spots es (others es.length xs) := by
    obtain ⟨e, m, z⟩ := b
    obtain ⟨t, mt, rfl⟩ := List.mem_map.mp m
    obtain ⟨m1, m2⟩ := List.mem_filter.mp mt
    obtain ⟨i, hi, rfl⟩ := marks_mem m1
    have hx : (!decide ((i : Int) ∈ xs)) = true := m2
    exact spots_mem.mpr ⟨_, List.mem_map.mpr ⟨(i : Int), List.mem_filter.mpr ⟨List.mem_map.mpr ⟨i, List.mem_range.mpr hi, rfl⟩, hx⟩, by rw [Int.toNat_natCast]⟩, z⟩
  have hm : x ∈ bothP es xs := List.mem_filter.mpr ⟨ha, decide_eq_true hb⟩
  unfold shareOk at h
  cases k with
  | true =>
    rw [if_pos rfl, Bool.and_eq_true] at h
    exact .inl (of_decide_eq_true (List.all_eq_true.mp h.2 x hm))
  | false =>
    rw [if_neg (by simp)] at h
    have := of_decide_eq_true (List.all_eq_true.mp h x hm)
    simpa using this
theorem turn_marks {es : List Ed} {k : Bool} {xs : List Int} {u v : Int} (h : shareOk es k xs u v = true) {i : Nat} (hi : i < es.length) : turnF (nmF k u v) xs es i = turnT u v (decide ((i : Int) ∈ xs), es.getD i (0, 0)) := by
  unfold turnF turnT
  by_cases hx : (i : Int) ∈ xs
  · rw [if_pos hx, decide_eq_true hx]
    simp only [if_true]
    unfold swE
    cases k with
    | false => rfl
    | true =>
      unfold shareOk at h
      rw [if_pos rfl, Bool.and_eq_true, Bool.and_eq_true] at h
      have hv : v ∉ spots es xs := of_decide_eq_false (by simpa using h.1.2)
      have n1 : (es.getD i (0, 0)).1 ≠ v := fun z => hv (spots_mem.mpr ⟨_, List.mem_map.mpr ⟨(i : Int), hx, by rw [Int.toNat_natCast]⟩, .inl z.symm⟩)
      have n2 : (es.getD i (0, 0)).2 ≠ v := fun z => hv (spots_mem.mpr ⟨_, List.mem_map.mpr ⟨(i : Int), hx, by rw [Int.toNat_natCast]⟩, .inr z.symm⟩)
      have f : ∀ x, x ≠ v → nmF true u v x = sw u v x := fun x hx => by
        show (if x = u then v else x) = _
        unfold sw
        by_cases h1 : x = u
        · rw [if_pos h1, if_pos h1]
        · rw [if_neg h1, if_neg h1, if_neg hx]
      rw [f _ n1, f _ n2]
  · rw [if_neg hx, decide_eq_false hx]
    rfl
theorem rank_keep {es : List Ed} {k : Bool} {xs : List Int} {u v : Int} (h : shareOk es k xs u v = true) {ys : List Int} (hy : ∀ y ∈ ys, 0 ≤ y ∧ y < (es.length : Int)) : rkF [] (sel (turnL (nmF k u v) xs es) ys) = rkF [] (sel es ys) := by
  let L : List Te := ys.map fun y => (marks xs es).getD y.toNat (false, (0, 0))
  have hL : ∀ t ∈ L, t ∈ marks xs es := fun t m => by
    obtain ⟨y, my, rfl⟩ := List.mem_map.mp m
    have hi : y.toNat < es.length := by have := hy y my; omega
    rw [List.getD_eq_getElem?_getD, List.getElem?_eq_getElem (by rw [marks_len]; exact hi)]
    exact List.getElem_mem _
  have e1 : L.map (·.2) = sel es ys := by
    unfold sel
    rw [List.map_map]
    refine List.map_congr_left fun y my => ?_
    have hi : y.toNat < es.length := by have := hy y my; omega
    show ((marks xs es).getD y.toNat (false, (0, 0))).2 = _
    rw [List.getD_eq_getElem?_getD, marks_at hi]
    rfl
  have e2 : L.map (turnT u v) = sel (turnL (nmF k u v) xs es) ys := by
    unfold sel
    rw [List.map_map]
    refine List.map_congr_left fun y my => ?_
    have hi : y.toNat < es.length := by have := hy y my; omega
    show turnT u v ((marks xs es).getD y.toNat (false, (0, 0))) = (turnL (nmF k u v) xs es).getD y.toNat (0, 0)
    have e3 : (turnL (nmF k u v) xs es).getD y.toNat (0, 0) = turnF (nmF k u v) xs es y.toNat := by
      rw [List.getD_eq_getElem?_getD]
      unfold turnL
      rw [List.getElem?_map, List.getElem?_range hi]; rfl
    have e4 : (marks xs es).getD y.toNat (false, (0, 0)) = (decide ((y.toNat : Int) ∈ xs), es.getD y.toNat (0, 0)) := by
      rw [List.getD_eq_getElem?_getD, marks_at hi]; rfl
    rw [e3, e4]
    exact (turn_marks h hi).symm
  have := rk_turn (share_meet h) L [] hL (fun t m => (nomatch m))
  rw [e1, e2] at this
  exact this.symm
theorem turnL_len (G : Int → Int) (xs : List Int) (es : List Ed) : (turnL G xs es).length = es.length := by
  unfold turnL
  rw [List.length_map, List.length_range]
noncomputable def rankV (es : List Ed) : PyData := .list ((setsN es.length).map fun xs => .int (rkF [] (sel es xs)))
theorem rankV_keep {es : List Ed} {k : Bool} {xs : List Int} {u v : Int} (h : shareOk es k xs u v = true) : rankV (turnL (nmF k u v) xs es) = rankV es := by
  unfold rankV
  rw [turnL_len]
  congr 1
  refine List.map_congr_left fun ys hy => ?_
  rw [rank_keep h (setsN_in _ ys hy).1]
end G29
/-! R12: the edges that are drawn. -/
namespace G29
open PySem L2 DL Gr
/-- a draw, wherever the pool stands -/
theorem take_at {Γ : Ev} {fm : EF} {P : MO} {R : Store} {i : Nat} (hP : PoolOk P) {m : Int} (h0 : Γ[i]? = some (some (.cell 0))) (hm : ∀ S, fm Γ S = .ok (.d (.int m)) S) (m0 : 0 < m) (m1 : m < 1000000) :
    (eCallD 2 F__law_take (aCons (eVar i) (aCons fm aNil)) Γ (P :: R)).Ret fun v S' => ∃ d P', v = .d (.int d) ∧ 0 ≤ d ∧ d < m ∧ S' = P' :: R ∧ PoolOk P' := by
  rw [call2 (eVar_at h0) (hm _)]
  exact take_ok P m R hP m0 m1
/-- the edges of the law: few, between places below 150 -/
structure Drawn (es : List Ed) : Prop where
  len : es.length ≤ 6
  pl : ∀ e ∈ es, (0 ≤ e.1 ∧ e.1 < 150) ∧ 0 ≤ e.2 ∧ e.2 < 150
theorem Drawn.plE {es : List Ed} (h : Drawn es) : ∀ e ∈ es, PlE e := fun e m => by
  obtain ⟨⟨a, b⟩, c, d⟩ := h.pl e m
  exact ⟨⟨a, by omega⟩, c, by omega⟩
theorem all_edges {ys : List PyData} (h : ∀ y ∈ ys, ∃ e : Ed, y = pr e ∧ (0 ≤ e.1 ∧ e.1 < 150) ∧ 0 ≤ e.2 ∧ e.2 < 150) : ∃ es : List Ed, ys = es.map pr ∧ ∀ e ∈ es, (0 ≤ e.1 ∧ e.1 < 150) ∧ 0 ≤ e.2 ∧ e.2 < 150 := by
  induction ys with
  | nil => exact ⟨[], rfl, fun e m => (nomatch m)⟩
  | cons y ys ih =>
    obtain ⟨e, rfl, he⟩ := h y List.mem_cons_self
    obtain ⟨es, rfl, hs⟩ := ih fun y m => h y (List.mem_cons_of_mem _ m)
    exact ⟨e :: es, rfl, fun e' m => (List.mem_cons.mp m).elim (fun z => z ▸ he) (hs e')⟩
abbrev eΓ (n m base step : Int) (order : List Int) (o : Option SV) : Ev := [some (.cell 0), some (.d (.int 6)), some (.d (.int n)), some (.d (.int m)), some (.d (.int base)), some (.d (.int step)), some (.d (row order)), o]
theorem end_ok {n m base step : Int} {order : List Int} (o : Option SV) (hb : 0 ≤ base ∧ base < 100) (hs : 1 ≤ step ∧ step < 10) (hm : 1 ≤ m ∧ m < 7) (ho : order.length = m.toNat) (hr : ∀ x ∈ order, 0 ≤ x ∧ x < m) (P : MO) (hP : PoolOk P) :
    (eAddF finF (eVar 4) (eMulF finF (eVar 5) (eIx (eVar 6) (eCallD 2 F__law_take (aCons (eVar 0) (aCons (eVar 3) aNil))))) (eΓ n m base step order o) [P]).Ret fun v S' => ∃ d P', v = .d (.int d) ∧ 0 ≤ d ∧ d < 150 ∧ S' = [P'] ∧ PoolOk P' := by
  obtain ⟨v, S', e, d, P', rfl, d0, d1, rfl, p'⟩ := (take_at (Γ := eΓ n m base step order o) (fm := eVar 3) (P := P) (R := []) (i := 0) hP (m := m) rfl (fun S => rfl) (by omega) (by omega)).ok
  obtain ⟨i, rfl⟩ : ∃ i : Nat, d = i := ⟨d.toNat, by omega⟩
  have hi : i < order.length := by omega
  have hx : atI (order.map PyData.int) (i : Int) = some (.int order[i]) := ix_nat (by rw [List.getElem?_map, List.getElem?_eq_getElem hi]; rfl)
  have hr' := hr _ (List.getElem_mem hi)
  have hmu : mulC step order[i] = true := mulC_l (by omega) (by omega)
  have hp1 : 0 ≤ step * order[i] := Int.mul_nonneg (by omega) hr'.1
  have hp2 : step * order[i] ≤ 9 * 5 := Int.mul_le_mul (by omega) (by omega) hr'.1 (by omega)
  rw [eAdd_eq, eVar_at (x := .d (.int base)) rfl, bind_ok, eMul_eq, eVar_at (x := .d (.int step)) rfl, bind_ok, eIx_eq, eVar_at (x := .d (row order)) rfl, bind_ok, e, bind_ok]
  unfold row
  rw [ix_t _ hx, bind_ok, mulI _ _ hmu, bind_ok, addI, Ret_ok]
  exact ⟨_, P', rfl, by omega, by omega, rfl, p'⟩
theorem edge_ok {n m base step : Int} {order : List Int} (o : Option SV) (hb : 0 ≤ base ∧ base < 100) (hs : 1 ≤ step ∧ step < 10) (hm : 1 ≤ m ∧ m < 7) (ho : order.length = m.toNat) (hr : ∀ x ∈ order, 0 ≤ x ∧ x < m) (P : MO) (hP : PoolOk P) :
    (E__law_edges_1 (eΓ n m base step order o) [P]).Ret fun v S' => (∃ x, v = .d x ∧ ∃ e : Ed, x = pr e ∧ (0 ≤ e.1 ∧ e.1 < 150) ∧ 0 ≤ e.2 ∧ e.2 < 150) ∧ ∃ P', S' = [P'] ∧ PoolOk P' := by
  obtain ⟨v, S', e1, a, P1, rfl, a0, a1, rfl, p1⟩ := (end_ok (n := n) o hb hs hm ho hr P hP).ok
  obtain ⟨v, S', e2, b, P2, rfl, b0, b1, rfl, p2⟩ := (end_ok (n := n) o hb hs hm ho hr P1 p1).ok
  unfold E__law_edges_1
  rw [eTup_eq, aCons_eq, e1, bind_ok, aCons_eq, e2, bind_ok, aNil_eq, bind_ok, bind_ok, bind_ok]
  refine Out.Ret.of (a := .d (pr (a, b))) (S := [P2]) rfl ⟨⟨_, rfl, (a, b), rfl, ⟨a0, a1⟩, b0, b1⟩, P2, rfl, p2⟩
theorem edges_ok (P : MO) (hP : PoolOk P) : (F__law_edges [.cell 0, .d (.int 6)] [P]).Ret fun v S' => ∃ es P', v = .d (.tuple (es.map pr)) ∧ Drawn es ∧ S' = [P'] ∧ PoolOk P' := by
  let Γ0 : Ev := [some (.cell 0), some (.d (.int 6)), none, none, none, none, none, none]
  obtain ⟨v, S', e1, n, P1, rfl, n0, n1, rfl, p1⟩ := (take_at (Γ := Γ0) (fm := eAddF finF (eVar 1) (eC (.int 1))) (P := P) (R := []) (i := 0) hP (m := 7) rfl (fun S => rfl) (by omega) (by omega)).ok
  obtain ⟨v, S', e2, m', P2, rfl, m0, m1, rfl, p2⟩ := (take_at (Γ := Γ0) (fm := eC (.int 6)) (P := P1) (R := []) (i := 0) p1 (m := 6) rfl (fun S => rfl) (by omega) (by omega)).ok
  let m := 1 + m'
  let Γ1 : Ev := [some (.cell 0), some (.d (.int 6)), some (.d (.int n)), some (.d (.int m)), none, none, none, none]
  have s1 : fAsg (eTup (aCons (eCallD 2 F__law_take (aCons (eVar 0) (aCons (eAddF finF (eVar 1) (eC (.int 1))) aNil))) (aCons (eAddF finF (eC (.int 1)) (eCallD 2 F__law_take (aCons (eVar 0) (aCons (eC (.int 6)) aNil)))) aNil))) (gTupF 2 (gsCons (gNm 2) (gsCons (gNm 3) gsNil))) Γ0 [P] = .ok (.nx Γ1) [P2] := by
    rw [fAsg_eq, eTup_eq, aCons_eq, e1, bind_ok, aCons_eq, eAdd_eq, eC_eq, bind_ok, e2, bind_ok, addI, bind_ok, aNil_eq, bind_ok, bind_ok, bind_ok]
    rfl
  obtain ⟨v, S', e3, base, P3, rfl, b0, b1, rfl, p3⟩ := (take_at (Γ := Γ1) (fm := eC (.int 100)) (P := P2) (R := []) (i := 0) p2 (m := 100) rfl (fun S => rfl) (by omega) (by omega)).ok
  obtain ⟨v, S', e4, st, P4, rfl, t0, t1, rfl, p4⟩ := (take_at (Γ := Γ1) (fm := eC (.int 9)) (P := P3) (R := []) (i := 0) p3 (m := 9) rfl (fun S => rfl) (by omega) (by omega)).ok
  let step := 1 + st
  let Γ2 : Ev := [some (.cell 0), some (.d (.int 6)), some (.d (.int n)), some (.d (.int m)), some (.d (.int base)), some (.d (.int step)), none, none]
  have s2 : fAsg (eTup (aCons (eCallD 2 F__law_take (aCons (eVar 0) (aCons (eC (.int 100)) aNil))) (aCons (eAddF finF (eC (.int 1)) (eCallD 2 F__law_take (aCons (eVar 0) (aCons (eC (.int 9)) aNil)))) aNil))) (gTupF 2 (gsCons (gNm 4) (gsCons (gNm 5) gsNil))) Γ1 [P2] = .ok (.nx Γ2) [P4] := by
    rw [fAsg_eq, eTup_eq, aCons_eq, e3, bind_ok, aCons_eq, eAdd_eq, eC_eq, bind_ok, e4, bind_ok, addI, bind_ok, aNil_eq, bind_ok, bind_ok, bind_ok]
    rfl
  obtain ⟨v, S', e5, order, P5, rfl, rfl, p5, hord⟩ := (order_ok P4 p4 m.toNat (by omega)).ok
  have hm : ((m.toNat : Nat) : Int) = m := by omega
  have s3 : fSet 6 (eCallD 2 F__law_order (aCons (eVar 0) (aCons (eVar 3) aNil))) Γ2 [P4] = .ok (.nx (eΓ n m base step order none)) [P5] := by
    have : eCallD 2 F__law_order (aCons (eVar 0) (aCons (eVar 3) aNil)) Γ2 [P4] = .ok (.d (row order)) [P5] := (call2 (a := .cell 0) (b := .d (.int m)) rfl rfl).trans (by rw [← hm]; exact e5)
    rw [fSet_eq, this, sB_ok]; rfl
  have ho : order.length = m.toNat := by
    have := hord.length_eq
    rw [this]; simp [rngI]; omega
  have hr : ∀ x ∈ order, 0 ≤ x ∧ x < m := fun x hx => by
    have := hord.mem_iff.mp hx
    unfold rngI at this
    obtain ⟨i, hi, rfl⟩ := List.mem_map.mp this
    have := List.mem_range.mp hi
    omega
  obtain ⟨k, rfl⟩ : ∃ k : Nat, n = k := ⟨n.toNat, by omega⟩
  have e6 := iRg_ok (f := eVar 2) (Γ := eΓ k m base step order none) (S := [P5]) (n := k) rfl (by omega)
  have hc : (C__law_edges_1 (eΓ k m base step order none) [P5]).Ret fun v S' => ∃ es P', v = .d (.list (es.map pr)) ∧ Drawn es ∧ S' = [P'] ∧ PoolOk P' := by
    unfold C__law_edges_1
    rw [eLc_eq e6]
    refine (lcL_ret (fun S => ∃ P', S = [P'] ∧ PoolOk P') (fun y => ∃ e : Ed, y = pr e ∧ (0 ≤ e.1 ∧ e.1 < 150) ∧ 0 ≤ e.2 ∧ e.2 < 150) (fun _ _ => rfl) _ _ ⟨P5, rfl, p5⟩ fun d hd S ⟨P', hS, hP'⟩ => ?_).bind fun ys S' ⟨h1, h2, P', hS, hP'⟩ => ?_
    · subst hS
      rw [gNm_eq]
      refine Out.Ret.of rfl ?_
      exact edge_ok (n := k) (some (.d d)) ⟨b0, b1⟩ ⟨by omega, by omega⟩ ⟨by omega, by omega⟩ ho hr P' hP'
    · subst hS
      obtain ⟨es, rfl, hes⟩ := all_edges h2
      rw [finF_eq, Ret_ok]
      refine ⟨es, P', rfl, ⟨?_, hes⟩, rfl, hP'⟩
      rw [List.length_map, rgD_nat, List.length_map, List.length_range] at h1
      omega
  obtain ⟨v, S', e7, es, P6, rfl, hD, rfl, p6⟩ := hc.ok
  unfold F__law_edges
  rw [runD_eq]
  show (hand handF 1 (b__law_edges Γ0 [P])).Ret _
  unfold b__law_edges
  rw [fSeq_eq, s1, seqK_nx, fSeq_eq, s2, seqK_nx, fSeq_eq, s3, seqK_nx, fRet_eq, eCall_eq, aCons_eq, e7, bind_ok, aNil_eq, bind_ok, bind_ok, tup_l, sB_ok, hand_rt, handF_d, Ret_ok]
  exact ⟨es, P6, rfl, hD, rfl, p6⟩
end G29
/-! R13: all turns. -/
namespace G29
open PySem L2 DL Gr
/-- rows of turns -/
def TS (es : List Ed) (sp : List Int) (F : List PyData) : Prop := ∀ d ∈ F, ∃ (k : Bool) (xs : List Int) (u v : Int), d = turnD false k false xs u v ∧ xs ∈ setsN es.length ∧ u ∈ sp ∧ v ∈ sp ∧ isTurn es k xs u v = true
theorem acc_loop {es : List Ed} {sp : List Int} {P : MO} {gi : Nat} {b : SF} (Q : PyData → Prop) (GΓ : Ev → Prop) (c B : Nat)
    (h : ∀ d, Q d → ∀ Γ F, GΓ Γ → TS es sp F → F.length + c ≤ B → ∃ Γ' F', b (Γ.set gi (some (.d d))) [P, MO.lst F] = .ok (.nx Γ') [P, MO.lst F'] ∧ GΓ Γ' ∧ TS es sp F' ∧ F'.length ≤ F.length + c) :
    ∀ (ds : List PyData), (∀ d ∈ ds, Q d) → ∀ Γ F, GΓ Γ → TS es sp F → F.length + c * ds.length ≤ B → ∃ Γ' F', forL (fun _ => true) (gNm gi) b ds Γ [P, MO.lst F] = .ok (.nx Γ') [P, MO.lst F'] ∧ GΓ Γ' ∧ TS es sp F' ∧ F'.length ≤ F.length + c * ds.length
  | [], _, Γ, F, hΓ, hF, hB => ⟨Γ, F, rfl, hΓ, hF, by simp⟩
  | d :: ds, hq, Γ, F, hΓ, hF, hB => by
    have hc : c * (d :: ds).length = c + c * ds.length := by rw [List.length_cons, Nat.mul_succ]; omega
    rw [hc] at hB ⊢
    obtain ⟨Γ1, F1, e1, g1, t1, l1⟩ := h d (hq d List.mem_cons_self) Γ F hΓ hF (by omega)
    obtain ⟨Γ2, F2, e2, g2, t2, l2⟩ := acc_loop Q GΓ c B h ds (fun d m => hq d (List.mem_cons_of_mem _ m)) Γ1 F1 g1 t1 (by omega)
    refine ⟨Γ2, F2, ?_, g2, t2, by omega⟩
    unfold forL
    rw [if_pos rfl, gNm_eq]
    simp only
    rw [e1]
    exact e2
theorem app1 {P : MO} {F : List PyData} {Γ : Ev} {af : AF} {x : PyData} (h0 : Γ[2]? = some (some (.cell 1))) (ha : af Γ [P, MO.lst F] = .ok [.d x] [P, MO.lst F]) (hF : F.length ≤ 10000) : fExpr (eMeth appendS (eVar 2) af) Γ [P, MO.lst F] = .ok (.nx Γ) [P, MO.lst (F ++ [x])] := by
  have hi : isL (.cell 1) [P, MO.lst F] = true := rfl
  have hc : cellL (.cell 1) [P, MO.lst F] = some (1, F) := rfl
  rw [fExpr_eq]
  unfold eMeth
  rw [eVar_at h0, bind_ok, hi, if_pos rfl, ha, bind_ok]
  unfold appendS
  simp only [hc]
  rw [if_pos (by omega), sB_ok]
  rfl
abbrev aT (es : List Ed) (sp : List Int) (o3 o4 o5 o6 : Option SV) : Ev := [some (.d (.tuple (es.map pr))), some (.d (.list (sp.map .int))), some (.cell 1), o3, o4, o5, o6]
theorem word_step {es : List Ed} (hn : es.length ≤ 8) {sp : List Int} {P : MO} {xs : List Int} (hx : xs ∈ setsN es.length) {u v : Int} (hu : u ∈ sp) (hv : v ∈ sp) (k : Bool) {F : List PyData} (hF : TS es sp F) (hl : F.length ≤ 10000) :
    ∃ F', B__law_all_turns_1 (aT es sp (some (.d (row xs))) (some (.d (.int u))) (some (.d (.int v))) (some (.d (wd k)))) [P, MO.lst F] = .ok (.nx (aT es sp (some (.d (row xs))) (some (.d (.int u))) (some (.d (.int v))) (some (.d (wd k))))) [P, MO.lst F'] ∧ TS es sp F' ∧ F'.length ≤ F.length + 1 := by
  let Γ := aT es sp (some (.d (row xs))) (some (.d (.int u))) (some (.d (.int v))) (some (.d (wd k)))
  obtain ⟨x1, x2, _⟩ := setsN_in _ xs hx
  have e1 : eCallD 5 F__law_is_turn (aCons (eVar 0) (aCons (eVar 6) (aCons (eVar 3) (aCons (eVar 4) (aCons (eVar 5) aNil))))) Γ [P, MO.lst F] = .ok (.d (.bool (isTurn es k xs u v))) [P, MO.lst F] :=
    law_turn_eq es hn k false ⟨x1, by omega⟩ u v [P, MO.lst F]
  unfold B__law_all_turns_1
  rw [fIf_eq, tru_eq, e1, bind_ok, tru_bool]
  simp only [sB_ok]
  cases ht : isTurn es k xs u v with
  | false =>
    rw [if_neg (by simp), fNil_eq]
    exact ⟨F, rfl, hF, by omega⟩
  | true =>
    rw [if_pos rfl]
    have e2 := app1 (P := P) (F := F) (Γ := Γ) (af := aCons (eTup (aCons (eVar 6) (aCons (eVar 3) (aCons (eVar 4) (aCons (eVar 5) aNil))))) aNil) (x := turnD false k false xs u v) rfl rfl hl
    refine ⟨F ++ [turnD false k false xs u v], e2, fun d m => ?_, by simp⟩
    rcases List.mem_append.mp m with m | m
    · exact hF d m
    · rw [List.mem_singleton.mp m]
      exact ⟨k, xs, u, v, rfl, hx, hu, hv, ht⟩
theorem all_turns_eq {es : List Ed} (hn : es.length ≤ 6) {sp : List Int} (hs : sp.length ≤ 5) (P : MO) : ∃ F, F__law_all_turns [.d (.tuple (es.map pr)), .d (.list (sp.map .int))] [P] = .ok (.d (.list F)) [P] ∧ TS es sp F ∧ F.length ≤ 4000 := by
  -- the words
  have l1 : ∀ {xs : List Int} {u v : Int}, xs ∈ setsN es.length → u ∈ sp → v ∈ sp → ∀ (o6 : Option SV) F, TS es sp F → F.length + 2 ≤ 4000 → ∃ o6' F', L__law_all_turns_1 (aT es sp (some (.d (row xs))) (some (.d (.int u))) (some (.d (.int v))) o6) [P, MO.lst F] = .ok (.nx (aT es sp (some (.d (row xs))) (some (.d (.int u))) (some (.d (.int v))) o6')) [P, MO.lst F'] ∧ TS es sp F' ∧ F'.length ≤ F.length + 2 := by
    intro xs u v hx hu hv o6 F hF hl
    obtain ⟨Γ', F', e, ⟨o, rfl⟩, t, l⟩ := acc_loop (es := es) (sp := sp) (P := P) (gi := 6) (b := B__law_all_turns_1) (fun d => ∃ k, d = wd k) (fun Γ => ∃ o6, Γ = aT es sp (some (.d (row xs))) (some (.d (.int u))) (some (.d (.int v))) o6) 1 4000 (by
      rintro d ⟨k, rfl⟩ Γ F ⟨o6, rfl⟩ hF hl
      obtain ⟨F', e, t, l⟩ := word_step (P := P) (by omega) hx hu hv k hF (by omega)
      exact ⟨_, F', e, ⟨_, rfl⟩, t, l⟩) [wd true, wd false] (fun d m => by
        rcases List.mem_cons.mp m with rfl | m
        · exact ⟨true, rfl⟩
        · exact ⟨false, List.mem_singleton.mp m⟩) _ F ⟨o6, rfl⟩ hF (by simpa using hl)
    refine ⟨o, F', ?_, t, by simpa using l⟩
    have e0 : iSrc (eTup (aCons (eC (.str "hang")) (aCons (eC (.str "twist")) aNil))) (aT es sp (some (.d (row xs))) (some (.d (.int u))) (some (.d (.int v))) o6) [P, MO.lst F] = .ok ⟨[wd true, wd false], fun _ => true⟩ [P, MO.lst F] := rfl
    unfold L__law_all_turns_1
    rw [fFor_eq e0]
    exact e
  have l2 : ∀ {xs : List Int} {u : Int}, xs ∈ setsN es.length → u ∈ sp → ∀ (o5 o6 : Option SV) F, TS es sp F → F.length + 10 ≤ 4000 → ∃ o5' o6' F', L__law_all_turns_2 (aT es sp (some (.d (row xs))) (some (.d (.int u))) o5 o6) [P, MO.lst F] = .ok (.nx (aT es sp (some (.d (row xs))) (some (.d (.int u))) o5' o6')) [P, MO.lst F'] ∧ TS es sp F' ∧ F'.length ≤ F.length + 10 := by
    intro xs u hx hu o5 o6 F hF hl
    obtain ⟨Γ', F', e, ⟨o, o', rfl⟩, t, l⟩ := acc_loop (es := es) (sp := sp) (P := P) (gi := 5) (b := B__law_all_turns_2) (fun d => ∃ v ∈ sp, d = .int v) (fun Γ => ∃ o5 o6, Γ = aT es sp (some (.d (row xs))) (some (.d (.int u))) o5 o6) 2 4000 (by
      rintro d ⟨v, hv, rfl⟩ Γ F ⟨o5, o6, rfl⟩ hF hl
      obtain ⟨o6', F', e, t, l⟩ := l1 hx hu hv o6 F hF hl
      exact ⟨_, F', e, ⟨_, _, rfl⟩, t, l⟩) (sp.map .int) (fun d m => by
        obtain ⟨v, hv, rfl⟩ := List.mem_map.mp m
        exact ⟨v, hv, rfl⟩) _ F ⟨o5, o6, rfl⟩ hF (by rw [List.length_map]; omega)
    rw [List.length_map] at l
    refine ⟨o, o', F', ?_, t, by omega⟩
    have e0 : iSrc (eVar 1) (aT es sp (some (.d (row xs))) (some (.d (.int u))) o5 o6) [P, MO.lst F] = .ok ⟨sp.map .int, fun _ => true⟩ [P, MO.lst F] := rfl
    unfold L__law_all_turns_2
    rw [fFor_eq e0]
    exact e
  have l3 : ∀ {xs : List Int}, xs ∈ setsN es.length → ∀ (o4 o5 o6 : Option SV) F, TS es sp F → F.length + 50 ≤ 4000 → ∃ o4' o5' o6' F', L__law_all_turns_3 (aT es sp (some (.d (row xs))) o4 o5 o6) [P, MO.lst F] = .ok (.nx (aT es sp (some (.d (row xs))) o4' o5' o6')) [P, MO.lst F'] ∧ TS es sp F' ∧ F'.length ≤ F.length + 50 := by
    intro xs hx o4 o5 o6 F hF hl
    obtain ⟨Γ', F', e, ⟨o, o', o'', rfl⟩, t, l⟩ := acc_loop (es := es) (sp := sp) (P := P) (gi := 4) (b := B__law_all_turns_3) (fun d => ∃ v ∈ sp, d = .int v) (fun Γ => ∃ o4 o5 o6, Γ = aT es sp (some (.d (row xs))) o4 o5 o6) 10 4000 (by
      rintro d ⟨u, hu, rfl⟩ Γ F ⟨o4, o5, o6, rfl⟩ hF hl
      obtain ⟨o5', o6', F', e, t, l⟩ := l2 hx hu o5 o6 F hF hl
      exact ⟨_, F', e, ⟨_, _, _, rfl⟩, t, l⟩) (sp.map .int) (fun d m => by
        obtain ⟨v, hv, rfl⟩ := List.mem_map.mp m
        exact ⟨v, hv, rfl⟩) _ F ⟨o4, o5, o6, rfl⟩ hF (by rw [List.length_map]; omega)
    rw [List.length_map] at l
    refine ⟨o, o', o'', F', ?_, t, by omega⟩
    have e0 : iSrc (eVar 1) (aT es sp (some (.d (row xs))) o4 o5 o6) [P, MO.lst F] = .ok ⟨sp.map .int, fun _ => true⟩ [P, MO.lst F] := rfl
    unfold L__law_all_turns_3
    rw [fFor_eq e0]
    exact e
  have hsl : (setsN es.length).length ≤ 64 := by
    rw [setsN_len]
    exact Nat.le_trans (Nat.pow_le_pow_right (by decide) hn) (by decide)
  obtain ⟨Γ', F', e, ⟨o, o', o'', o3, rfl⟩, t, l⟩ := acc_loop (es := es) (sp := sp) (P := P) (gi := 3) (b := B__law_all_turns_4) (fun d => ∃ xs ∈ setsN es.length, d = row xs) (fun Γ => ∃ o3 o4 o5 o6, Γ = aT es sp o3 o4 o5 o6) 50 4000 (by
    rintro d ⟨xs, hx, rfl⟩ Γ F ⟨o3, o4, o5, o6, rfl⟩ hF hl
    obtain ⟨o4', o5', o6', F', e, t, l⟩ := l3 hx o4 o5 o6 F hF hl
    exact ⟨_, F', e, ⟨_, _, _, _, rfl⟩, t, l⟩) ((setsN es.length).map row) (fun d m => by
      obtain ⟨xs, hx, rfl⟩ := List.mem_map.mp m
      exact ⟨xs, hx, rfl⟩) (aT es sp none none none none) [] ⟨none, none, none, none, rfl⟩ (fun d m => (nomatch m)) (by rw [List.length_map]; simp; omega)
  rw [List.length_map] at l
  simp only [List.length_nil, Nat.zero_add] at l
  have e0 : iSrc (eCallD 1 F__law_all_sets (aCons (eCall lenS (aCons (eVar 0) aNil)) aNil)) (aT es sp none none none none) [P, MO.lst []] = .ok ⟨(setsN es.length).map row, fun _ => true⟩ [P, MO.lst []] := by
    have : eCall lenS (aCons (eVar 0) aNil) (aT es sp none none none none) [P, MO.lst []] = .ok (.d (.int es.length)) [P, MO.lst []] := by
      rw [eCall_eq, aCons_eq, eVar_at (x := .d (.tuple (es.map pr))) rfl, bind_ok, aNil_eq, bind_ok, bind_ok, len_t, List.length_map]
    rw [iSrc_eq, call1 this, all_sets_eq _ (by omega), bind_ok, srcS_l]
  refine ⟨F', ?_, t, by omega⟩
  have s1 : fSet 2 (eLst finC aNil) [some (.d (.tuple (es.map pr))), some (.d (.list (sp.map .int))), none, none, none, none, none] [P] = .ok (.nx (aT es sp none none none none)) [P, MO.lst []] := rfl
  unfold F__law_all_turns
  rw [runD_eq]
  show hand handF 1 (b__law_all_turns [some (.d (.tuple (es.map pr))), some (.d (.list (sp.map .int))), none, none, none, none, none] [P]) = _
  unfold b__law_all_turns
  rw [fSeq_eq, s1, seqK_nx, fSeq_eq]
  unfold L__law_all_turns_4
  rw [fFor_eq e0]
  have e' : forL (fun _ => true) (gNm 3) B__law_all_turns_4 ((setsN es.length).map row) (aT es sp none none none none) [P, MO.lst []] = _ := e
  rw [e', seqK_nx, fRet_eq, eVar_at (x := .cell 1) rfl, sB_ok, hand_rt, handF_new (xs := F') (Nat.le_refl _) rfl]
  rfl
end G29
/-! R14: the told cases. -/
namespace G29
open PySem L2 DL Gr
/-- sorting by insertion: the kernel reckons it -/
def putI (x : Int) : List Int → List Int
  | [] => [x]
  | y :: ys => if x < y then x :: y :: ys else if x = y then y :: ys else y :: putI x ys
def srtI : List Int → List Int
  | [] => []
  | x :: xs => putI x (srtI xs)
theorem putI_mem (x k : Int) : ∀ ys, k ∈ putI x ys ↔ k = x ∨ k ∈ ys
  | [] => by simp [putI]
  | y :: ys => by
    unfold putI
    split
    · simp
    · split
      · rename_i h1 h2
        subst h2
        simp
      · rw [List.mem_cons, putI_mem x k ys, List.mem_cons]
        constructor
        · rintro (h | h | h) <;> simp [h]
        · rintro (h | h | h) <;> simp [h]
theorem putI_pw (x : Int) : ∀ ys, ys.Pairwise (· < ·) → (putI x ys).Pairwise (· < ·)
  | [], _ => List.pairwise_singleton _ _
  | y :: ys, h => by
    rw [List.pairwise_cons] at h
    unfold putI
    split
    · rename_i h1
      rw [List.pairwise_cons, List.pairwise_cons]
      refine ⟨fun z hz => ?_, h⟩
      rcases List.mem_cons.mp hz with rfl | hz
      · exact h1
      · have := h.1 z hz; omega
    · split
      · exact List.pairwise_cons.mpr h
      · rw [List.pairwise_cons]
        refine ⟨fun z hz => ?_, putI_pw x ys h.2⟩
        rcases (putI_mem x z ys).mp hz with rfl | hz
        · omega
        · exact h.1 z hz
theorem srtI_mem (k : Int) : ∀ ns, k ∈ srtI ns ↔ k ∈ ns
  | [] => Iff.rfl
  | n :: ns => by
    show k ∈ putI n (srtI ns) ↔ _
    rw [putI_mem, srtI_mem k ns, List.mem_cons]
theorem srtI_pw : ∀ ns, (srtI ns).Pairwise (· < ·)
  | [] => List.Pairwise.nil
  | n :: ns => putI_pw n _ (srtI_pw ns)
theorem srtI_eq (ns : List Int) : sdN ns = srtI ns := (sdN_eq (srtI_pw ns) fun k => srtI_mem k ns).symm
def srtIntsS' (fin : List PyData → Store → Out SV) (xs : List PyData) (S : Store) : Out SV := if xs.all isInt && decide (xs.length ≤ 4000) && decide (distN (xs.map intOf) < 64) then fin ((srtI (xs.map intOf)).map .int) S else .no
theorem srtIntsS_eq : srtIntsS = srtIntsS' := by
  funext fin xs S
  unfold srtIntsS srtIntsS'
  rw [srtI_eq]
def eSrtSc2' (fin : List PyData → Store → Out SV) (f : IF) (gf : GF) (tf : TF) (f1 : IF) (gf1 : GF) (tf1 : TF) (ef : EF) (vs vs1 : List Nat) : EF := fun Γ S => (f Γ S).bind fun s S => match lc2L s.ok gf tf f1 gf1 tf1 ef vs vs1 Γ s.items S with
  | .ok xs S => srtIntsS' fin xs S
  | _ => .no
theorem eSrtSc2_eq : eSrtSc2 = eSrtSc2' := by
  funext fin f gf tf f1 gf1 tf1 ef vs vs1 Γ S
  unfold eSrtSc2 eSrtSc2'
  rw [srtIntsS_eq]
  all_goals rfl
theorem always_eq (P : MO) : F__law_always [] [P] = .ok (.d (.bool true)) [P] := by
  simp only [F__law_always, b__law_always, C__law_always_1, E__law_always_1, F__law_fault, b__law_fault, F_turned, b_turned, F_is_turn, b_is_turn, F_places_of, b_places_of, C_places_of_1, eSrtSc2_eq]
  kernel_rfl
theorem last_ok (P : MO) (w : PyData) (hw : w ∈ [PyData.none, .int 3, .str "twist", .tuple [], .tuple [.str "twist", .tuple [.int 0], .int 0], .tuple [.str "twist", .tuple [.int 0], .int 0, .int 1, .int 2], .tuple [.none, .tuple [.int 0], .int 0, .int 1], .tuple [.str "twist", .none, .int 0, .int 1], .tuple [.str "twist", .tuple [.int 0], .int 0, .int 200], .tuple [.str "twist", .tuple [.int 0], .bool true, .int 0], .tuple [.str "twist", .tuple [.int 2], .int 0, .int 1], .tuple [.str "hang", .tuple [.str "0"], .int 0, .int 5]]) :
    F__law_fault [.d (.tuple [.tuple [.int 0, .int 1], .tuple [.int 1, .int 0]]), .d w] [P] = .ok (.d (.tuple [.str "turn", .bool true, .bool false])) [P] ∧ F__law_fault [.d (.tuple [.tuple [.int 0, .int 1], .tuple [.int 1]]), .d w] [P] = .ok (.d (.tuple [.str "graph", .int 1, .bool true, .bool false])) [P] := by
  simp only [List.mem_cons, List.not_mem_nil, or_false] at hw
  simp only [F__law_fault, b__law_fault, F_turned, b_turned, F_is_turn, b_is_turn, F_places_of, b_places_of, C_places_of_1, eSrtSc2_eq]
  rcases hw with rfl | rfl | rfl | rfl | rfl | rfl | rfl | rfl | rfl | rfl | rfl | rfl <;> exact ⟨by kernel_rfl, by kernel_rfl⟩
end G29
/-! R15: a step of the law. -/
namespace G29
open PySem L2 DL Gr
theorem same_okV (t : Bool) (P : MO) : F__law_same [.d (okV t), .d (okV t)] [P] = .ok (.d (.bool true)) [P] := by
  cases t <;> kernel_rfl
theorem eqv_ints : ∀ xs : List Int, PyData.eqvAll (xs.map .int) (xs.map .int) = true
  | [] => by simp [PyData.eqvAll]
  | x :: xs => by
    rw [List.map_cons, PyData.eqvAll, eqv_ints xs]
    simp [PyData.eqv]
theorem ne_ints (xs : List Int) (S : Store) : eqS true (.d (.list (xs.map .int))) (.d (.list (xs.map .int))) S = .ok (.d (.bool false)) S := by
  have h : SeqAt.shaped (.list (xs.map .int)) = true := shaped_sqI true xs
  have e : PyData.eqv (.list (xs.map .int)) (.list (xs.map .int)) = true := by
    rw [PyData.eqv]; exact eqv_ints xs
  show (if SeqAt.shaped (.list (xs.map .int)) && SeqAt.shaped (.list (xs.map .int)) then _ else _) = _
  rw [h, e]; rfl
theorem pl_edges (es : List Ed) (h : es.length ≤ 10000) : pl 6 (.tuple (es.map pr)) := by
  refine ⟨fun x hx => ?_, by rw [List.length_map]; exact h⟩
  obtain ⟨e, _, rfl⟩ := List.mem_map.mp hx
  exact ⟨fun y hy => by
    simp only [List.mem_cons, List.not_mem_nil, or_false] at hy
    rcases hy with rfl | rfl <;> exact trivial, by simp⟩
noncomputable def rkL (es : List Ed) : List Int := (setsN es.length).map fun xs => (rkF [] (sel es xs) : Int)
theorem rkL_eq (es : List Ed) : rankV es = .list ((rkL es).map .int) := by
  unfold rankV rkL
  rw [List.map_map]; rfl
abbrev LΓ (s : SV) (o2 : Option SV) (es : List Ed) (sp : List Int) (F : List PyData) (rk : PyData) (o8 o9 o10 o11 o12 o13 o14 o16 : Option SV) : Ev :=
  [some s, some (.cell 0), o2, some (.d (.tuple (es.map pr))), some (.d (.int es.length)), some (.d (.list (sp.map .int))), some (.d (.list F)), some (.d rk), o8, o9, o10, o11, o12, o13, o14, none, o16, none, none, none]
theorem pairs_loop {Γ : Ev} (h1 : Γ[1]? = some (some (.cell 0))) (h17 : 17 < Γ.length) : ∀ (es : List Ed) (P : MO), PoolOk P → (lcL (fun _ => true) (gNm 17) tYesF E_law_2 [17] Γ (es.map pr) [P]).Ret fun ys S' => ∃ (ps : List (Bool × Ed)) (P' : MO), ys = ps.map hp ∧ ps.map (·.2) = es ∧ S' = [P'] ∧ PoolOk P'
  | [], P, hP => Out.Ret.of rfl ⟨[], P, rfl, rfl, rfl, hP⟩
  | e :: es, P, hP => by
    have g1 : ((wipeE Γ [17]).set 17 (some (.d (pr e))))[1]? = some (some (.cell 0)) := by
      unfold wipeE
      rw [List.getElem?_set_ne (by omega)]
      unfold wipeE
      rw [List.getElem?_set_ne (by omega)]
      exact h1
    have g2 : ((wipeE Γ [17]).set 17 (some (.d (pr e))))[17]? = some (some (.d (pr e))) := by
      rw [List.getElem?_set_self]
      unfold wipeE wipeE
      rw [List.length_set]; exact h17
    obtain ⟨v, S', e1, b, P1, rfl, rfl, p1⟩ := (given_t P [.int e.1, .int e.2] [] hP).ok
    have e2 : E_law_2 ((wipeE Γ [17]).set 17 (some (.d (pr e)))) [P] = .ok (.d (hp (b, e))) [P1] := by
      unfold E_law_2
      rw [call2 (eVar_at g1) (eVar_at g2)]
      exact e1
    obtain ⟨ys, S', e3, ps, P2, rfl, hps, rfl, p2⟩ := (pairs_loop h1 h17 es P1 p1).ok
    rw [List.map_cons]
    unfold lcL
    rw [if_pos rfl, gNm_eq]
    simp only [tYes_eq, e2, e3, bind_ok]
    exact Out.Ret.of rfl ⟨(b, e) :: ps, P2, rfl, by rw [List.map_cons, hps], rfl, p2⟩
theorem order_list (xs ord : List Int) (h : ord.Perm (rngI 0 xs.length)) : (ord.map fun i => xs.getD i.toNat 0).Perm xs := by
  have e : (rngI 0 xs.length).map (fun i => xs.getD i.toNat 0) = xs := by
    unfold rngI
    rw [List.map_map]
    apply List.ext_getElem
    · simp
    · intro i h1 h2
      simp only [List.getElem_map, List.getElem_range, Function.comp]
      rw [show ((0 : Int) + (i : Int)).toNat = i by omega, List.getD_eq_getElem?_getD, List.getElem?_eq_getElem h2]
      rfl
  have := h.map fun i => xs.getD i.toNat 0
  rwa [e] at this
theorem cmp_ok {Γ : Ev} {due : List Ed} {rk : PyData} {P : MO} (h16 : Γ[16]? = some (some (.d (.tuple (due.map pr))))) (h13 : Γ[13]? = some (some (.d (.tuple (due.map pr))))) (h7 : Γ[7]? = some (some (.d rk))) (hl : due.length ≤ 8) (hrk : rk = rankV due) :
    tOrF (tNotF (tru (eCallD 2 F__law_same (aCons (eVar 16) (aCons (eVar 13) aNil))))) (tst (eBin (eqS true) (eIx (eCallD 1 F__law_ranks (aCons (eTup (aCons (eC (.str "graph")) (aCons (eC (.int 0)) (aCons (eVar 13) aNil)))) aNil)) (eC (.int 1))) (eVar 7))) Γ [P] = .ok false [P] := by
  have g1 : eCallD 2 F__law_same (aCons (eVar 16) (aCons (eVar 13) aNil)) Γ [P] = .ok (.d (.bool true)) [P] := by
    rw [call2 (eVar_at h16) (eVar_at h13)]
    exact same_eq (pl_edges due (by omega)) [P]
  have a1 : eTup (aCons (eC (.str "graph")) (aCons (eC (.int 0)) (aCons (eVar 13) aNil))) Γ [P] = .ok (.d (gr due)) [P] := by
    rw [eTup_eq, aCons_eq, eC_eq, bind_ok, aCons_eq, eC_eq, bind_ok, aCons_eq, eVar_at h13, bind_ok, aNil_eq, bind_ok, bind_ok, bind_ok, bind_ok]
    rfl
  have g2 : eCallD 1 F__law_ranks (aCons (eTup (aCons (eC (.str "graph")) (aCons (eC (.int 0)) (aCons (eVar 13) aNil)))) aNil) Γ [P] = .ok (.d (.tuple [.int due.length, .list ((rkL due).map .int)])) [P] := by
    rw [call1 a1, ranks_eq due hl [P]]
    unfold rkL
    rw [List.map_map]
    rfl
  have hx : ∀ a b : PyData, ixS (.d (.tuple [a, b])) (.d (.int 1)) [P] = .ok (.d b) [P] := fun a b => rfl
  rw [tOr_eq, tNot_eq, tru_eq, g1, bind_ok, tru_bool]
  simp only [bind_ok, Bool.not_true, Bool.false_eq_true, if_false]
  rw [tst_eq, eBin_eq, eIx_eq, g2, bind_ok, eC_eq, bind_ok, hx, bind_ok, eVar_at h7, bind_ok, hrk, rkL_eq, ne_ints, bind_ok]
theorem step_ok (s : SV) (o2 : Option SV) {es : List Ed} (hD : Drawn es) {sp : List Int} (hsp : ∀ x ∈ sp, Pl x) {F : List PyData} (hF : TS es sp F) (hFl : F.length ≤ 4000) {rk : PyData} (hrk : rk = rankV es) (o8 o9 o10 o11 o12 o13 o14 o16 : Option SV) (P : MO) (hP : PoolOk P) :
    (B_law_1 (LΓ s o2 es sp F rk o8 o9 o10 o11 o12 o13 o14 o16) [P]).Ret fun fl S' => ∃ o9 o10 o11 o12 o13 o14 o16 P', fl = .nx (LΓ s o2 es sp F rk o8 o9 o10 o11 o12 o13 o14 o16) ∧ S' = [P'] ∧ PoolOk P' := by
  have hn := hD.len
  have t0 : tru (eVar 6) (LΓ s o2 es sp F rk o8 o9 o10 o11 o12 o13 o14 o16) [P] = .ok (!F.isEmpty) [P] := by
    rw [tru_eq, eVar_at (x := .d (.list F)) rfl, bind_ok, tru_list]
  unfold B_law_1
  rw [fIf_eq, t0, sB_ok]
  cases hFe : F.isEmpty with
  | true =>
    rw [if_neg (by simp), fNil_eq, Ret_ok]
    exact ⟨o9, o10, o11, o12, o13, o14, o16, P, rfl, rfl, hP⟩
  | false =>
    rw [if_pos (by rfl)]
    have hpos : 0 < F.length := by
      cases F with
      | nil => cases hFe
      | cons _ _ => simp
    obtain ⟨v, S', e1, x, P1, rfl, hx, rfl, p1⟩ := (pick_ok P F [] hP hpos (by omega)).ok
    obtain ⟨k, xs, u, v, rfl, hxs, hu, hv, ht⟩ := hF x hx
    obtain ⟨x1, x2, x3⟩ := setsN_in _ xs hxs
    have hix : Ix es.length xs := ⟨x1, by omega⟩
    have hsh : shareOk es k xs u v = true := by
      unfold isTurn at ht
      rw [Bool.and_eq_true] at ht
      exact ht.2
    let G1 := LΓ s o2 es sp F rk o8 (some (.d (wd k))) (some (.d (row xs))) (some (.d (.int u))) (some (.d (.int v))) o13 o14 o16
    have s1 : fAsg (eCallD 2 F__law_pick (aCons (eVar 1) (aCons (eVar 6) aNil))) (gTupF 4 (gsCons (gNm 9) (gsCons (gNm 10) (gsCons (gNm 11) (gsCons (gNm 12) gsNil))))) (LΓ s o2 es sp F rk o8 o9 o10 o11 o12 o13 o14 o16) [P] = .ok (.nx G1) [P1] := by
      rw [fAsg_eq, (call2 (a := .cell 0) (b := .d (.list F)) rfl rfl).trans e1, sB_ok]
      rfl
    obtain ⟨due, hdue⟩ : ∃ d, d = turnL (nmF k u v) xs es := ⟨_, rfl⟩
    have hrd : rankV due = rankV es := by rw [hdue]; exact rankV_keep hsh
    let G2 := LΓ s o2 es sp F rk o8 (some (.d (wd k))) (some (.d (row xs))) (some (.d (.int u))) (some (.d (.int v))) (some (.d (.tuple (due.map pr)))) o14 o16
    have s2 : fSet 13 (eCallD 5 F__law_turned (aCons (eVar 3) (aCons (eVar 9) (aCons (eVar 10) (aCons (eVar 11) (aCons (eVar 12) aNil)))))) G1 [P1] = .ok (.nx G2) [P1] := by
      have : eCallD 5 F__law_turned (aCons (eVar 3) (aCons (eVar 9) (aCons (eVar 10) (aCons (eVar 11) (aCons (eVar 12) aNil))))) G1 [P1] = .ok (.d (.tuple (due.map pr))) [P1] := by
        rw [hdue]
        exact law_turned_eq es (by omega) k false xs u v [P1]
      rw [fSet_eq, this, sB_ok]; rfl
    obtain ⟨w, S', e3, ord, P2, rfl, rfl, p2, hord⟩ := (order_ok P1 p1 xs.length (by omega)).ok
    obtain ⟨ys, hyd⟩ : ∃ ys, ys = ord.map fun i => xs.getD i.toNat 0 := ⟨_, rfl⟩
    have hys : ys.Perm xs := by rw [hyd]; exact order_list xs ord hord
    let G3 := LΓ s o2 es sp F rk o8 (some (.d (wd k))) (some (.d (row xs))) (some (.d (.int u))) (some (.d (.int v))) (some (.d (.tuple (due.map pr)))) (some (.d (.list (ys.map .int)))) o16
    have s3 : fSet 14 C_law_1 G2 [P1] = .ok (.nx G3) [P2] := by
      have hc : C_law_1 G2 [P1] = .ok (.d (.list (ys.map .int))) [P2] := by
        have e0 : iSrc (eCallD 2 F__law_order (aCons (eVar 1) (aCons (eCall lenS (aCons (eVar 10) aNil)) aNil))) G2 [P1] = .ok ⟨ord.map .int, fun _ => true⟩ [P2] := by
          have : eCall lenS (aCons (eVar 10) aNil) G2 [P1] = .ok (.d (.int xs.length)) [P1] := by
            rw [eCall_eq, aCons_eq, eVar_at (x := .d (row xs)) rfl, bind_ok, aNil_eq, bind_ok, bind_ok]
            unfold row
            rw [len_t, List.length_map]
          rw [iSrc_eq, (call2 (a := .cell 0) rfl this).trans e3, bind_ok]
          rfl
        unfold C_law_1
        rw [eLc_eq e0, lcL_g PyData.int (fun i => .int (xs.getD i.toNat 0)) rfl, bind_ok, finF_eq]
        · rw [hyd, List.map_map]; rfl
        · intro i hi
          refine ⟨_, gNm_eq _ _ _ _, ?_⟩
          have hm := hord.mem_iff.mp hi
          unfold rngI at hm
          obtain ⟨j, hj, rfl⟩ := List.mem_map.mp hm
          have hj := List.mem_range.mp hj
          have hx : atI (xs.map PyData.int) ((0 : Int) + (j : Int)) = some (.int (xs.getD ((0 : Int) + (j : Int)).toNat 0)) := by
            rw [Int.zero_add, Int.toNat_natCast]
            refine ix_nat ?_
            rw [List.getElem?_map, List.getD_eq_getElem?_getD, List.getElem?_eq_getElem (by omega)]
            rfl
          unfold E_law_1
          rw [eIx_eq, eVar_at (x := .d (.tuple (xs.map .int))) rfl, bind_ok, eVar_at (x := .d (.int ((0 : Int) + (j : Int)))) rfl, bind_ok, ix_t _ hx]
      rw [fSet_eq, hc, sB_ok]; rfl
    -- the pairs, the graph, the order, the turn
    obtain ⟨w, S', e4, ps, P3, rfl, hps, rfl, p3⟩ := (pairs_loop (Γ := G3) rfl (by show 17 < 20; decide) es P2 p2).ok
    have c2 : C_law_2 G3 [P2] = .ok (.d (.list (ps.map hp))) [P3] := by
      have e0 : iSrc (eVar 3) G3 [P2] = .ok ⟨es.map pr, fun _ => true⟩ [P2] := rfl
      unfold C_law_2
      rw [eLc_eq e0]
      simp only
      rw [e4, bind_ok, finF_eq]
    obtain ⟨w, S', e5, b1, P4, rfl, rfl, p4⟩ := (given_ok P3 (ps.map hp) [] p3).ok
    have f1 : eCallD 2 F__law_given (aCons (eVar 1) (aCons C_law_2 aNil)) G3 [P2] = .ok (.d (sq b1 (ps.map hp))) [P4] := (call2 rfl c2).trans e5
    obtain ⟨w, S', e6, b, P5, rfl, rfl, p5⟩ := (given_ok P4 (ys.map .int) [] p4).ok
    have f2 : eCallD 2 F__law_given (aCons (eVar 1) (aCons (eVar 14) aNil)) G3 [P4] = .ok (.d (sqI b ys)) [P5] := (call2 rfl rfl).trans e6
    have f3 : eTup (aCons (eVar 9) (aCons (eCallD 2 F__law_given (aCons (eVar 1) (aCons (eVar 14) aNil))) (aCons (eVar 11) (aCons (eVar 12) aNil)))) G3 [P4] = .ok (.d (.tuple [wd k, sqI b ys, .int u, .int v])) [P5] := by
      rw [eTup_eq, aCons_eq, eVar_at (x := .d (wd k)) rfl, bind_ok, aCons_eq, f2, bind_ok]
      rfl
    obtain ⟨w, S', e7, c, P6, rfl, rfl, p6⟩ := (given_t P5 [wd k, sqI b ys, .int u, .int v] [] p5).ok
    have f4 : eCallD 2 F__law_given (aCons (eVar 1) (aCons (eTup (aCons (eVar 9) (aCons (eCallD 2 F__law_given (aCons (eVar 1) (aCons (eVar 14) aNil))) (aCons (eVar 11) (aCons (eVar 12) aNil))))) aNil)) G3 [P4] = .ok (.d (turnD c k b ys u v)) [P6] := (call2 rfl f3).trans e7
    have hpl : ∀ p ∈ ps, PlE p.2 := fun p m => hD.plE _ (by rw [← hps]; exact List.mem_map.mpr ⟨p, m, rfl⟩)
    have hl : ps.length = es.length := by rw [← hps, List.length_map]
    have htr := turned_eq ps (by omega) hpl b1 c k b (ys := ys) ⟨fun y hy => by rw [hl]; exact x1 y (hys.mem_iff.mp hy), by rw [hys.length_eq]; omega⟩ (hys.nodup_iff.mpr (x3.imp fun h => Int.ne_of_lt h)) (hsp u hu) (hsp v hv) [P6] (by rw [hps, isTurn_perm es k hys]; exact ht)
    rw [hps, turnL_perm _ es fun x => hys.mem_iff, ← hdue] at htr
    let G4 := LΓ s o2 es sp F rk o8 (some (.d (wd k))) (some (.d (row xs))) (some (.d (.int u))) (some (.d (.int v))) (some (.d (.tuple (due.map pr)))) (some (.d (.list (ys.map .int)))) (some (.d (.tuple (due.map pr))))
    have s4 : fSet 16 (eCallD 2 F_turned (aCons (eCallD 2 F__law_given (aCons (eVar 1) (aCons C_law_2 aNil))) (aCons (eCallD 2 F__law_given (aCons (eVar 1) (aCons (eTup (aCons (eVar 9) (aCons (eCallD 2 F__law_given (aCons (eVar 1) (aCons (eVar 14) aNil))) (aCons (eVar 11) (aCons (eVar 12) aNil))))) aNil))) aNil))) G3 [P2] = .ok (.nx G4) [P6] := by
      rw [fSet_eq, (call2 f1 f4).trans htr, sB_ok]; rfl
    have hdl : due.length = es.length := by rw [hdue]; exact turnL_len _ _ _
    have c5 : tOrF (tNotF (tru (eCallD 2 F__law_same (aCons (eVar 16) (aCons (eVar 13) aNil))))) (tst (eBin (eqS true) (eIx (eCallD 1 F__law_ranks (aCons (eTup (aCons (eC (.str "graph")) (aCons (eC (.int 0)) (aCons (eVar 13) aNil)))) aNil)) (eC (.int 1))) (eVar 7))) G4 [P6] = .ok false [P6] := by
      exact cmp_ok rfl rfl rfl (by omega) (hrk.trans hrd.symm)
    rw [fSeq_eq, s1, seqK_nx, fSeq_eq, s2, seqK_nx, fSeq_eq, s3, seqK_nx, fSeq_eq, s4, seqK_nx, fIf_eq, c5, sB_ok, if_neg (by simp), fNil_eq, Ret_ok]
    exact ⟨_, _, _, _, _, _, _, P6, rfl, rfl, p6⟩
end G29
/-! R16: a drawn turn, right or not. -/
namespace G29
open PySem L2 DL Gr
theorem sub_loop {Γ : Ev} (h1 : Γ[1]? = some (some (.cell 0))) (h18 : 18 < Γ.length) : ∀ (ns : List Int) (P : MO), PoolOk P → (lcL (fun _ => true) (gNm 18) T_law_1 E_law_3 [18] Γ (ns.map .int) [P]).Ret fun ys S' => ∃ (xs : List Int) (P' : MO), ys = xs.map .int ∧ xs.Sublist ns ∧ S' = [P'] ∧ PoolOk P'
  | [], P, hP => Out.Ret.of rfl ⟨[], P, rfl, List.Sublist.refl _, rfl, hP⟩
  | n :: ns, P, hP => by
    have g1 : ((wipeE Γ [18]).set 18 (some (.d (.int n))))[1]? = some (some (.cell 0)) := by
      unfold wipeE
      rw [List.getElem?_set_ne (by omega)]
      unfold wipeE
      rw [List.getElem?_set_ne (by omega)]
      exact h1
    have g2 : ((wipeE Γ [18]).set 18 (some (.d (.int n))))[18]? = some (some (.d (.int n))) := by
      rw [List.getElem?_set_self]
      unfold wipeE wipeE
      rw [List.length_set]; exact h18
    obtain ⟨v, S', e1, d, P1, rfl, d0, d1, rfl, p1⟩ := (take_at (Γ := (wipeE Γ [18]).set 18 (some (.d (.int n)))) (fm := eC (.int 2)) (P := P) (R := []) (i := 1) hP (m := 2) g1 (fun S => rfl) (by omega) (by omega)).ok
    have e2 : T_law_1 ((wipeE Γ [18]).set 18 (some (.d (.int n)))) [P] = .ok (decide (d = 0)) [P1] := by
      unfold T_law_1
      rw [tst_eq, eBin_eq, e1, bind_ok, eC_eq, bind_ok, eqI_t, bind_ok]
    obtain ⟨ys, S', e3, xs, P2, rfl, hs, rfl, p2⟩ := (sub_loop h1 h18 ns P1 p1).ok
    rw [List.map_cons]
    unfold lcL
    rw [if_pos rfl, gNm_eq]
    simp only [e2]
    by_cases hd : d = 0
    · rw [decide_eq_true hd]
      have e4 : E_law_3 ((wipeE Γ [18]).set 18 (some (.d (.int n)))) [P1] = .ok (.d (.int n)) [P1] := eVar_at g2
      simp only [e4, e3, bind_ok]
      exact Out.Ret.of rfl ⟨n :: xs, P2, rfl, hs.cons₂ n, rfl, p2⟩
    · rw [decide_eq_false hd]
      simp only [e3]
      exact Out.Ret.of rfl ⟨xs, P2, rfl, hs.cons n, rfl, p2⟩
theorem range_ix {n : Nat} (hn : n ≤ 6) {xs : List Int} (h : xs.Sublist ((List.range n).map fun (i : Nat) => (i : Int))) : Ix n xs ∧ xs.Nodup := by
  refine ⟨⟨fun x hx => ?_, ?_⟩, h.nodup ?_⟩
  · obtain ⟨i, hi, rfl⟩ := List.mem_map.mp (h.subset hx)
    have := List.mem_range.mp hi
    omega
  · have := h.length_le
    rw [List.length_map, List.length_range] at this
    omega
  · exact List.pairwise_map.mpr ((List.nodup_range (n := n)).imp fun h z => h (Int.ofNat_inj.mp z))
theorem fault_step (s : SV) (o2 : Option SV) {es : List Ed} (hD : Drawn es) {sp : List Int} (hsp : ∀ x ∈ sp, Pl x) (hs0 : 0 < sp.length) (hs1 : sp.length ≤ 5) (F : List PyData) (rk : PyData) (o8 o9 o10 o11 o12 o13 o14 o16 : Option SV) (P : MO) (hP : PoolOk P) :
    (B_law_2 (LΓ s o2 es sp F rk o8 o9 o10 o11 o12 o13 o14 o16) [P]).Ret fun fl S' => ∃ o9 o10 o11 o12 P', fl = .nx (LΓ s o2 es sp F rk o8 o9 o10 o11 o12 o13 o14 o16) ∧ S' = [P'] ∧ PoolOk P' := by
  have hn := hD.len
  let G0 := LΓ s o2 es sp F rk o8 o9 o10 o11 o12 o13 o14 o16
  obtain ⟨v, S', e1, x, P1, rfl, hx, rfl, p1⟩ := (pick_ok P [wd true, wd false] [] hP (by simp) (by simp)).ok
  obtain ⟨k, rfl⟩ : ∃ k, x = wd k := by
    simp only [List.mem_cons, List.not_mem_nil, or_false] at hx
    rcases hx with rfl | rfl
    · exact ⟨true, rfl⟩
    · exact ⟨false, rfl⟩
  have a1 : eCallD 2 F__law_pick (aCons (eVar 1) (aCons (eLst finF (aCons (eC (.str "hang")) (aCons (eC (.str "twist")) aNil))) aNil)) G0 [P] = .ok (.d (wd k)) [P1] := (call2 (a := .cell 0) (b := .d (.list [wd true, wd false])) rfl rfl).trans e1
  obtain ⟨v, S', e2, xs, P2, rfl, hsub, rfl, p2⟩ := (sub_loop (Γ := G0) rfl (by show 18 < 20; decide) ((List.range es.length).map fun (i : Nat) => (i : Int)) P1 p1).ok
  obtain ⟨hix, hnd⟩ := range_ix hn hsub
  have a2 : eCall tupS (aCons C_law_3 aNil) G0 [P1] = .ok (.d (row xs)) [P2] := by
    have e0 := iRg_ok (f := eVar 4) (Γ := G0) (S := [P1]) (n := es.length) rfl (by omega)
    have hc : C_law_3 G0 [P1] = .ok (.d (.list (xs.map .int))) [P2] := by
      unfold C_law_3
      rw [eLc_eq e0, rgD_nat, show (List.range es.length).map (fun (i : Nat) => PyData.int i) = ((List.range es.length).map fun (i : Nat) => (i : Int)).map PyData.int by rw [List.map_map]; rfl]
      simp only
      rw [e2, bind_ok, finF_eq]
    rw [eCall_eq, aCons_eq, hc, bind_ok, aNil_eq, bind_ok, bind_ok, tup_l]
    rfl
  let G1 := LΓ s o2 es sp F rk o8 (some (.d (wd k))) (some (.d (row xs))) o11 o12 o13 o14 o16
  have s1 : fAsg (eTup (aCons (eCallD 2 F__law_pick (aCons (eVar 1) (aCons (eLst finF (aCons (eC (.str "hang")) (aCons (eC (.str "twist")) aNil))) aNil))) (aCons (eCall tupS (aCons C_law_3 aNil)) aNil))) (gTupF 2 (gsCons (gNm 9) (gsCons (gNm 10) gsNil))) G0 [P] = .ok (.nx G1) [P2] := by
    rw [fAsg_eq, eTup_eq, aCons_eq, a1, bind_ok, aCons_eq, a2, bind_ok, aNil_eq, bind_ok, bind_ok, bind_ok]
    rfl
  obtain ⟨w, S', e3, y, P3, rfl, hy, rfl, p3⟩ := (pick_ok P2 (sp.map .int) [] p2 (by rw [List.length_map]; exact hs0) (by rw [List.length_map]; omega)).ok
  obtain ⟨u, hu, rfl⟩ := List.mem_map.mp hy
  obtain ⟨w, S', e4, y, P4, rfl, hy, rfl, p4⟩ := (pick_ok P3 (sp.map .int) [] p3 (by rw [List.length_map]; exact hs0) (by rw [List.length_map]; omega)).ok
  obtain ⟨v, hv, rfl⟩ := List.mem_map.mp hy
  let G2 := LΓ s o2 es sp F rk o8 (some (.d (wd k))) (some (.d (row xs))) (some (.d (.int u))) (some (.d (.int v))) o13 o14 o16
  have s2 : fPar 11 12 (aCons (eCallD 2 F__law_pick (aCons (eVar 1) (aCons (eVar 5) aNil))) (aCons (eCallD 2 F__law_pick (aCons (eVar 1) (aCons (eVar 5) aNil))) aNil)) G1 [P2] = .ok (.nx G2) [P4] := by
    rw [fPar_eq, aCons_eq, (call2 (a := .cell 0) (b := .d (.list (sp.map .int))) rfl rfl).trans e3, bind_ok, aCons_eq, (call2 (a := .cell 0) (b := .d (.list (sp.map .int))) rfl rfl).trans e4, bind_ok, aNil_eq, bind_ok, bind_ok, sB_ok]
    rfl
  have f1 := fault_eq es (by omega) hD.plE k hix hnd (hsp u hu) (hsp v hv) [P4]
  have f2 : eCallD 5 F__law_is_turn (aCons (eVar 3) (aCons (eVar 9) (aCons (eVar 10) (aCons (eVar 11) (aCons (eVar 12) aNil))))) G2 [P4] = .ok (.d (.bool (isTurn es k xs u v))) [P4] := law_turn_eq es (by omega) k false hix u v [P4]
  generalize isTurn es k xs u v = t at f1 f2
  have f3 : eIf (tru (eCallD 5 F__law_is_turn (aCons (eVar 3) (aCons (eVar 9) (aCons (eVar 10) (aCons (eVar 11) (aCons (eVar 12) aNil))))))) (eTup (aCons (eC (.str "none")) aNil)) (eTup (aCons (eC (.str "turn")) (aCons (eC (.bool true)) (aCons (eC (.bool false)) aNil)))) G2 [P4] = .ok (.d (okV t)) [P4] := by
    rw [eIf_eq, tru_eq, f2, bind_ok, tru_bool]
    cases t <;> rfl
  have f4 : eCallD 2 F__law_fault (aCons (eVar 3) (aCons (eTup (aCons (eVar 9) (aCons (eVar 10) (aCons (eVar 11) (aCons (eVar 12) aNil))))) aNil)) G2 [P4] = .ok (.d (okV t)) [P4] := (call2 (a := .d (.tuple (es.map pr))) (b := .d (turnD false k false xs u v)) rfl rfl).trans f1
  have f5 := (call2 (F := F__law_same) f4 f3).trans (same_okV t P4)
  unfold B_law_2
  rw [fSeq_eq, s1, seqK_nx, fSeq_eq, s2, seqK_nx, fIf_eq, tNot_eq, tru_eq, f5, bind_ok, tru_bool]
  simp only [bind_ok, Bool.not_true, sB_ok, Bool.false_eq_true, if_false]
  rw [fNil_eq, Ret_ok]
  exact ⟨_, _, _, _, P4, rfl, rfl, p4⟩
end G29
/-! R17: the law. -/
namespace G29
open PySem L2 DL Gr
theorem cut_take (xs : List Int) (k : Nat) : cutD (xs.map PyData.int) none (some (k : Int)) = (xs.take k).map PyData.int := by
  unfold cutD
  rw [HT.sIx_nat]
  show ((xs.map PyData.int).drop 0).take (min k (xs.map PyData.int).length - 0) = _
  rw [List.drop_zero, Nat.sub_zero, List.map_take]
  rcases Nat.le_total k (xs.map PyData.int).length with h | h
  · rw [Nat.min_eq_left h]
  · rw [Nat.min_eq_right h, List.take_length, List.take_of_length_le h]
abbrev ΛΓ (s : SV) (o2 o3 o4 o5 o6 o7 o8 o9 o10 o11 o12 o13 o14 o16 : Option SV) : Ev := [some s, some (.cell 0), o2, o3, o4, o5, o6, o7, o8, o9, o10, o11, o12, o13, o14, none, o16, none, none, none]
theorem turn_ok (s : SV) (o2 o3 o4 o5 o6 o7 o8 o9 o10 o11 o12 o13 o14 o16 : Option SV) (P : MO) (hP : PoolOk P) :
    (B_law_3 (ΛΓ s o2 o3 o4 o5 o6 o7 o8 o9 o10 o11 o12 o13 o14 o16) [P]).Ret fun fl S' => ∃ o3 o4 o5 o6 o7 o8 o9 o10 o11 o12 o13 o14 o16 P', fl = .nx (ΛΓ s o2 o3 o4 o5 o6 o7 o8 o9 o10 o11 o12 o13 o14 o16) ∧ S' = [P'] ∧ PoolOk P' := by
  obtain ⟨v, S', e1, es, P1, rfl, hD, rfl, p1⟩ := (edges_ok P hP).ok
  have hn := hD.len
  let E : Option SV := some (.d (.tuple (es.map pr)))
  have s1 : fSet 3 (eCallD 2 F__law_edges (aCons (eVar 1) (aCons (eC (.int 6)) aNil))) (ΛΓ s o2 o3 o4 o5 o6 o7 o8 o9 o10 o11 o12 o13 o14 o16) [P] = .ok (.nx (ΛΓ s o2 E o4 o5 o6 o7 o8 o9 o10 o11 o12 o13 o14 o16)) [P1] := by
    rw [fSet_eq, (call2 (a := .cell 0) (b := .d (.int 6)) rfl rfl).trans e1, sB_ok]; rfl
  let rg : List Int := (List.range es.length).map fun (i : Nat) => (i : Int)
  have hrg : Ix es.length rg := (range_ix hn (List.Sublist.refl _)).1
  have a1 : eCall lenS (aCons (eVar 3) aNil) (ΛΓ s o2 E o4 o5 o6 o7 o8 o9 o10 o11 o12 o13 o14 o16) [P1] = .ok (.d (.int es.length)) [P1] := by
    rw [eCall_eq, aCons_eq, eVar_at (x := .d (.tuple (es.map pr))) rfl, bind_ok, aNil_eq, bind_ok, bind_ok, len_t, List.length_map]
  have a2 : eLstRg finF (rg1 (eCall lenS (aCons (eVar 3) aNil))) (ΛΓ s o2 E o4 o5 o6 o7 o8 o9 o10 o11 o12 o13 o14 o16) [P1] = .ok (.d (sqI true rg)) [P1] := by
    have e : rg1 (eCall lenS (aCons (eVar 3) aNil)) (ΛΓ s o2 E o4 o5 o6 o7 o8 o9 o10 o11 o12 o13 o14 o16) [P1] = .ok (0, (es.length : Int)) [P1] := by
      rw [rg1_eq, a1, bind_ok]
    have h : rgC 0 (es.length : Int) = true := rgC_nat _ (by omega)
    have hr : rgD 0 (es.length : Int) = rg.map .int := by
      rw [rgD_nat]
      show _ = ((List.range es.length).map fun (i : Nat) => (i : Int)).map PyData.int
      rw [List.map_map]; rfl
    unfold eLstRg
    rw [e, bind_ok]
    simp only [h, if_true, finF_eq, hr]
    rfl
  have a3 : eCallD 2 F__law_spots (aCons (eVar 3) (aCons (eLstRg finF (rg1 (eCall lenS (aCons (eVar 3) aNil)))) aNil)) (ΛΓ s o2 E o4 o5 o6 o7 o8 o9 o10 o11 o12 o13 o14 o16) [P1] = .ok (.d (.list ((spots es rg).map .int))) [P1] := (call2 (a := .d (.tuple (es.map pr))) rfl a2).trans (spots_eq es true hrg [P1])
  let N : Option SV := some (.d (.int es.length))
  have s2 : fPar 4 5 (aCons (eCall lenS (aCons (eVar 3) aNil)) (aCons (eCallD 2 F__law_spots (aCons (eVar 3) (aCons (eLstRg finF (rg1 (eCall lenS (aCons (eVar 3) aNil)))) aNil))) aNil)) (ΛΓ s o2 E o4 o5 o6 o7 o8 o9 o10 o11 o12 o13 o14 o16) [P1] = .ok (.nx (ΛΓ s o2 E N (some (.d (.list ((spots es rg).map .int)))) o6 o7 o8 o9 o10 o11 o12 o13 o14 o16)) [P1] := by
    rw [fPar_eq, aCons_eq, a1, bind_ok, aCons_eq, a3, bind_ok, aNil_eq, bind_ok, bind_ok, sB_ok]
    rfl
  have hsp0 : ∀ x ∈ spots es rg, Pl x := fun x hx => by
    obtain ⟨e, m, z⟩ := spots_mem.mp hx
    obtain ⟨y, hy, rfl⟩ := List.mem_map.mp m
    have hi : y.toNat < es.length := by have := hrg.1 y hy; omega
    have he := hD.plE _ (List.getElem_mem hi)
    rw [List.getD_eq_getElem?_getD, List.getElem?_eq_getElem hi] at z
    rcases z with rfl | rfl
    · exact he.1
    · exact he.2
  generalize spots es rg = sp0 at s2 hsp0
  obtain ⟨v, S', e2, d, P2, rfl, d0, d1, rfl, p2⟩ := (take_at (Γ := ΛΓ s o2 E N (some (.d (.list (sp0.map .int)))) o6 o7 o8 o9 o10 o11 o12 o13 o14 o16) (fm := eC (.int 10)) (P := P1) (R := []) (i := 1) p1 (m := 10) rfl (fun S => rfl) (by omega) (by omega)).ok
  obtain ⟨sp, hspd⟩ : ∃ sp, sp = sp0.take 4 ++ [190 + d] := ⟨_, rfl⟩
  have hsp : ∀ x ∈ sp, Pl x := fun x hx => by
    rw [hspd] at hx
    rcases List.mem_append.mp hx with hx | hx
    · exact hsp0 x (List.mem_of_mem_take hx)
    · rw [List.mem_singleton.mp hx]; exact ⟨by omega, by omega⟩
  have hl0 : 0 < sp.length := by rw [hspd]; simp
  have hl5 : sp.length ≤ 5 := by rw [hspd]; simp; omega
  have s3 : fSet 5 (eAddF finF (eSl finF (eVar 5) oNone (oSome (eC (.int 4)))) (eLst finF (aCons (eAddF finF (eC (.int 190)) (eCallD 2 F__law_take (aCons (eVar 1) (aCons (eC (.int 10)) aNil)))) aNil))) (ΛΓ s o2 E N (some (.d (.list (sp0.map .int)))) o6 o7 o8 o9 o10 o11 o12 o13 o14 o16) [P1] = .ok (.nx (ΛΓ s o2 E N (some (.d (.list (sp.map .int)))) o6 o7 o8 o9 o10 o11 o12 o13 o14 o16)) [P2] := by
    have b1 : eSl finF (eVar 5) oNone (oSome (eC (.int 4))) (ΛΓ s o2 E N (some (.d (.list (sp0.map .int)))) o6 o7 o8 o9 o10 o11 o12 o13 o14 o16) [P1] = .ok (.d (.list ((sp0.take 4).map .int))) [P1] := by
      have : eSl finF (eVar 5) oNone (oSome (eC (.int 4))) (ΛΓ s o2 E N (some (.d (.list (sp0.map .int)))) o6 o7 o8 o9 o10 o11 o12 o13 o14 o16) [P1] = slS finF (.d (.list (sp0.map .int))) none (some 4) [P1] := rfl
      rw [this, sl_l, show (4 : Int) = ((4 : Nat) : Int) from rfl, cut_take, finF_eq]
    have b2 : eLst finF (aCons (eAddF finF (eC (.int 190)) (eCallD 2 F__law_take (aCons (eVar 1) (aCons (eC (.int 10)) aNil)))) aNil) (ΛΓ s o2 E N (some (.d (.list (sp0.map .int)))) o6 o7 o8 o9 o10 o11 o12 o13 o14 o16) [P1] = .ok (.d (.list [.int (190 + d)])) [P2] := by
      rw [eLst_eq, aCons_eq, eAdd_eq, eC_eq, bind_ok, e2, bind_ok, addI, bind_ok, aNil_eq, bind_ok, bind_ok]
      rfl
    have b3 : addS finF (.d (.list ((sp0.take 4).map .int))) (.d (.list [.int (190 + d)])) [P2] = .ok (.d (.list (sp.map .int))) [P2] := by
      show (if _ then _ else _) = _
      rw [if_pos (by simp; omega), hspd, List.map_append]
      rfl
    rw [fSet_eq, eAdd_eq, b1, bind_ok, b2, bind_ok, b3, sB_ok]; rfl
  obtain ⟨F, e4, hF, hFl⟩ := all_turns_eq (sp := sp) hn hl5 P2
  have s4 : fSet 6 (eCallD 2 F__law_all_turns (aCons (eVar 3) (aCons (eVar 5) aNil))) (ΛΓ s o2 E N (some (.d (.list (sp.map .int)))) o6 o7 o8 o9 o10 o11 o12 o13 o14 o16) [P2] = .ok (.nx (ΛΓ s o2 E N (some (.d (.list (sp.map .int)))) (some (.d (.list F))) o7 o8 o9 o10 o11 o12 o13 o14 o16)) [P2] := by
    rw [fSet_eq, (call2 (a := .d (.tuple (es.map pr))) (b := .d (.list (sp.map .int))) rfl rfl).trans e4, sB_ok]; rfl
  obtain ⟨rk, hrk⟩ : ∃ rk, rk = rankV es := ⟨_, rfl⟩
  have s5 : fSet 7 (eIx (eCallD 1 F__law_ranks (aCons (eTup (aCons (eC (.str "graph")) (aCons (eC (.int 0)) (aCons (eVar 3) aNil)))) aNil)) (eC (.int 1))) (ΛΓ s o2 E N (some (.d (.list (sp.map .int)))) (some (.d (.list F))) o7 o8 o9 o10 o11 o12 o13 o14 o16) [P2] = .ok (.nx (LΓ s o2 es sp F rk o8 o9 o10 o11 o12 o13 o14 o16)) [P2] := by
    have a1 : eTup (aCons (eC (.str "graph")) (aCons (eC (.int 0)) (aCons (eVar 3) aNil))) (ΛΓ s o2 E N (some (.d (.list (sp.map .int)))) (some (.d (.list F))) o7 o8 o9 o10 o11 o12 o13 o14 o16) [P2] = .ok (.d (gr es)) [P2] := by
      rw [eTup_eq, aCons_eq, eC_eq, bind_ok, aCons_eq, eC_eq, bind_ok, aCons_eq, eVar_at (x := .d (.tuple (es.map pr))) rfl, bind_ok, aNil_eq, bind_ok, bind_ok, bind_ok, bind_ok]
      rfl
    have g2 : eCallD 1 F__law_ranks (aCons (eTup (aCons (eC (.str "graph")) (aCons (eC (.int 0)) (aCons (eVar 3) aNil)))) aNil) (ΛΓ s o2 E N (some (.d (.list (sp.map .int)))) (some (.d (.list F))) o7 o8 o9 o10 o11 o12 o13 o14 o16) [P2] = .ok (.d (.tuple [.int es.length, rk])) [P2] := by
      rw [call1 a1, ranks_eq es (by omega) [P2], hrk]
      rfl
    have hx : ∀ a b : PyData, ixS (.d (.tuple [a, b])) (.d (.int 1)) [P2] = .ok (.d b) [P2] := fun a b => rfl
    rw [fSet_eq, eIx_eq, g2, bind_ok, eC_eq, bind_ok, hx, sB_ok]
    rfl
  have hL1 : (L_law_1 (LΓ s o2 es sp F rk o8 o9 o10 o11 o12 o13 o14 o16) [P2]).Ret fun fl S' => ∃ o8 o9 o10 o11 o12 o13 o14 o16 P', fl = .nx (LΓ s o2 es sp F rk o8 o9 o10 o11 o12 o13 o14 o16) ∧ S' = [P'] ∧ PoolOk P' := by
    have e0 := iRg_ok (f := eC (.int 5)) (Γ := LΓ s o2 es sp F rk o8 o9 o10 o11 o12 o13 o14 o16) (S := [P2]) (n := 5) rfl (by omega)
    unfold L_law_1
    rw [fFor_eq e0]
    refine forL_ret (fun _ Γ S' => ∃ o8 o9 o10 o11 o12 o13 o14 o16 P', Γ = LΓ s o2 es sp F rk o8 o9 o10 o11 o12 o13 o14 o16 ∧ S' = [P'] ∧ PoolOk P') _ (fun _ _ _ _ => rfl) (fun Γ S' h => ?_) (fun d ds Γ S' h => ?_) _ _ _ ⟨_, _, _, _, _, _, _, _, P2, rfl, rfl, p2⟩
    · obtain ⟨a, b, c, e, f, g, h', i, P', rfl, rfl, hp⟩ := h
      exact ⟨a, b, c, e, f, g, h', i, P', rfl, rfl, hp⟩
    · obtain ⟨a, b, c, e, f, g, h', i, P', rfl, rfl, hp⟩ := h
      rw [gNm_eq]
      refine Out.Ret.of rfl ((step_ok s o2 hD hsp hF hFl hrk (some (.d d)) b c e f g h' i P' hp).imp ?_)
      rintro fl S2 ⟨a2, b2, c2, d2, e2, f2, g2, P3, rfl, rfl, p3⟩
      exact ⟨_, _, _, _, _, _, _, _, P3, rfl, rfl, p3⟩
  obtain ⟨fl, S', e5, o8, o9, o10, o11, o12, o13, o14, o16, P3, rfl, rfl, p3⟩ := hL1.ok
  have hL2 : (L_law_2 (LΓ s o2 es sp F rk o8 o9 o10 o11 o12 o13 o14 o16) [P3]).Ret fun fl S' => ∃ o8 o9 o10 o11 o12 P', fl = .nx (LΓ s o2 es sp F rk o8 o9 o10 o11 o12 o13 o14 o16) ∧ S' = [P'] ∧ PoolOk P' := by
    have e0 := iRg_ok (f := eC (.int 5)) (Γ := LΓ s o2 es sp F rk o8 o9 o10 o11 o12 o13 o14 o16) (S := [P3]) (n := 5) rfl (by omega)
    unfold L_law_2
    rw [fFor_eq e0]
    refine forL_ret (fun _ Γ S' => ∃ o8 o9 o10 o11 o12 P', Γ = LΓ s o2 es sp F rk o8 o9 o10 o11 o12 o13 o14 o16 ∧ S' = [P'] ∧ PoolOk P') _ (fun _ _ _ _ => rfl) (fun Γ S' h => ?_) (fun d ds Γ S' h => ?_) _ _ _ ⟨_, _, _, _, _, P3, rfl, rfl, p3⟩
    · obtain ⟨a, b, c, e, f, P', rfl, rfl, hp⟩ := h
      exact ⟨a, b, c, e, f, P', rfl, rfl, hp⟩
    · obtain ⟨a, b, c, e, f, P', rfl, rfl, hp⟩ := h
      rw [gNm_eq]
      refine Out.Ret.of rfl ((fault_step s o2 hD hsp hl0 hl5 F rk (some (.d d)) b c e f o13 o14 o16 P' hp).imp ?_)
      rintro fl S2 ⟨a2, b2, c2, d2, P4, rfl, rfl, p4⟩
      exact ⟨_, _, _, _, _, P4, rfl, rfl, p4⟩
  obtain ⟨fl, S', e6, o8, o9, o10, o11, o12, P4, rfl, rfl, p4⟩ := hL2.ok
  unfold B_law_3
  rw [fSeq_eq, s1, seqK_nx, fSeq_eq, s2, seqK_nx, fSeq_eq, s3, seqK_nx, fSeq_eq, s4, seqK_nx, fSeq_eq, s5, seqK_nx, fSeq_eq, e5, seqK_nx, e6, Ret_ok]
  exact ⟨_, _, _, _, _, _, _, _, _, _, _, _, _, P4, rfl, rfl, p4⟩
end G29
/-! R18: law_true. -/
namespace G29
open PySem L2 DL Gr
abbrev wrongs : List PyData := [PyData.none, .int 3, .str "twist", .tuple [], .tuple [.str "twist", .tuple [.int 0], .int 0], .tuple [.str "twist", .tuple [.int 0], .int 0, .int 1, .int 2], .tuple [.none, .tuple [.int 0], .int 0, .int 1], .tuple [.str "twist", .none, .int 0, .int 1], .tuple [.str "twist", .tuple [.int 0], .int 0, .int 200], .tuple [.str "twist", .tuple [.int 0], .bool true, .int 0], .tuple [.str "twist", .tuple [.int 2], .int 0, .int 1], .tuple [.str "hang", .tuple [.str "0"], .int 0, .int 5]]
theorem same_t (P : MO) : F__law_same [.d (.tuple [.str "turn", .bool true, .bool false]), .d (.tuple [.str "turn", .bool true, .bool false])] [P] = .ok (.d (.bool true)) [P] := by kernel_rfl
theorem same_g (P : MO) : F__law_same [.d (.tuple [.str "graph", .int 1, .bool true, .bool false]), .d (.tuple [.str "graph", .int 1, .bool true, .bool false])] [P] = .ok (.d (.bool true)) [P] := by kernel_rfl
abbrev G0 (s : SV) : Ev := ΛΓ s none none none none none none none none none none none none none none
theorem law_true (ns : List Int) (hn : ns.length ≤ 63) : F_law [.scr ns] [] = .ok (.d (.bool true)) [] := by
  obtain ⟨P, hP, e1⟩ := pool_ok ns hn
  have s1 : fSet 1 (eCallD 1 F__law_pool (aCons (eVar 0) aNil)) [some (.scr ns), none, none, none, none, none, none, none, none, none, none, none, none, none, none, none, none, none, none, none] [] = .ok (.nx (G0 (.scr ns))) [P] := by
    rw [fSet_eq, call1 (a := .scr ns) (S1 := []) rfl, e1, sB_ok]
    rfl
  have e2 : eCall0 F__law_always (G0 (.scr ns)) [P] = .ok (.d (.bool true)) [P] := by
    unfold eCall0
    rw [always_eq]
  have hL : (L_law_3 (G0 (.scr ns)) [P]).Ret fun fl S' => ∃ o2 o3 o4 o5 o6 o7 o8 o9 o10 o11 o12 o13 o14 o16 P', fl = .nx (ΛΓ (.scr ns) o2 o3 o4 o5 o6 o7 o8 o9 o10 o11 o12 o13 o14 o16) ∧ S' = [P'] ∧ PoolOk P' := by
    have e0 := iRg_ok (f := eC (.int 2)) (Γ := G0 (.scr ns)) (S := [P]) (n := 2) rfl (by omega)
    unfold L_law_3
    rw [fFor_eq e0]
    refine forL_ret (fun _ Γ S' => ∃ o2 o3 o4 o5 o6 o7 o8 o9 o10 o11 o12 o13 o14 o16 P', Γ = ΛΓ (.scr ns) o2 o3 o4 o5 o6 o7 o8 o9 o10 o11 o12 o13 o14 o16 ∧ S' = [P'] ∧ PoolOk P') _ (fun _ _ _ _ => rfl) (fun Γ S' h => ?_) (fun d ds Γ S' h => ?_) _ _ _ ⟨_, _, _, _, _, _, _, _, _, _, _, _, _, _, P, rfl, rfl, hP⟩
    · obtain ⟨o2, o3, o4, o5, o6, o7, o8, o9, o10, o11, o12, o13, o14, o16, P', rfl, rfl, hp⟩ := h
      exact ⟨o2, o3, o4, o5, o6, o7, o8, o9, o10, o11, o12, o13, o14, o16, P', rfl, rfl, hp⟩
    · obtain ⟨o2, o3, o4, o5, o6, o7, o8, o9, o10, o11, o12, o13, o14, o16, P', rfl, rfl, hp⟩ := h
      rw [gNm_eq]
      refine Out.Ret.of rfl ((turn_ok (.scr ns) (some (.d d)) o3 o4 o5 o6 o7 o8 o9 o10 o11 o12 o13 o14 o16 P' hp).imp ?_)
      rintro fl S2 ⟨a3, a4, a5, a6, a7, a8, a9, a10, a11, a12, a13, a14, a16, P3, rfl, rfl, p3⟩
      exact ⟨_, _, _, _, _, _, _, _, _, _, _, _, _, _, P3, rfl, rfl, p3⟩
  obtain ⟨fl, S', e3, o2, o3, o4, o5, o6, o7, o8, o9, o10, o11, o12, o13, o14, o16, P1, rfl, rfl, p1⟩ := hL.ok
  obtain ⟨v, S', e4, w, P2, rfl, hw, rfl, p2⟩ := (pick_ok P1 wrongs [] p1 (by simp) (by simp)).ok
  obtain ⟨l1, l2⟩ := last_ok P2 w hw
  have hev : b_law [some (.scr ns), none, none, none, none, none, none, none, none, none, none, none, none, none, none, none, none, none, none, none] [] = .ok (.rt (.d (.bool true))) [P2] := by
    unfold b_law
    rw [fSeq_eq, s1, seqK_nx, fSeq_eq, fIf_eq, tNot_eq, tru_eq, e2, bind_ok, tru_bool]
    simp only [bind_ok, Bool.not_true, sB_ok, Bool.false_eq_true, if_false]
    rw [fNil_eq, seqK_nx, fSeq_eq, e3, seqK_nx, fSeq_eq, fSet_eq, (call2 (a := .cell 0) (b := .d (.list wrongs)) rfl rfl).trans e4, sB_ok, seqK_nx, fSeq_eq, fIf_eq, tNot_eq, tru_eq, (call2 ((call2 rfl rfl).trans l1) rfl).trans (same_t P2), bind_ok, tru_bool]
    simp only [bind_ok, Bool.not_true, sB_ok, Bool.false_eq_true, if_false]
    rw [fNil_eq, seqK_nx, fRet_eq, (call2 ((call2 rfl rfl).trans l2) rfl).trans (same_g P2), sB_ok]
  have : F_law [.scr ns] [] = hand handF 0 (b_law [some (.scr ns), none, none, none, none, none, none, none, none, none, none, none, none, none, none, none, none, none, none, none] []) := rfl
  rw [this, hev]
  rfl
end G29
open PySem PySem.W PyProof.Rows in
set_option maxRecDepth 100000 in
set_option maxHeartbeats 0 in
theorem PySem.Challenge.cw_matroidproved_k29_whole_turns_holds : PySem.Challenge.rw_matroidproved_k29_whole_turns.Holds := by
  w_on; o_law; k_head; (case hw => w_witness2)
  k_fill
  refine G29.walk G29.law_true (l := PySem.Challenge.rw_matroidproved_k29_whole_turns) rfl rfl rfl (fun w h Y => PySem.W.kIn_of Y) ?T
  case T =>
    intro w mg h KX G
    refine ⟨?t, ?x⟩
    case t =>
      constructor
      case b_all => refine PySem.W.mg_none_of KX G ?a_1; (case a_1 => k_is)
      case b_bool => refine PySem.W.mg_none_of KX G ?a_2; (case a_2 => k_is)
      case b_enumerate => refine PySem.W.mg_none_of KX G ?a_3; (case a_3 => k_is)
      case b_int => refine PySem.W.mg_none_of KX G ?a_4; (case a_4 => k_is)
      case b_isinstance => refine PySem.W.mg_none_of KX G ?a_5; (case a_5 => k_is)
      case b_len => refine PySem.W.mg_none_of KX G ?a_6; (case a_6 => k_is)
      case b_list => refine PySem.W.mg_none_of KX G ?a_7; (case a_7 => k_is)
      case b_range => refine PySem.W.mg_none_of KX G ?a_8; (case a_8 => k_is)
      case b_set => refine PySem.W.mg_none_of KX G ?a_9; (case a_9 => k_is)
      case b_sorted => refine PySem.W.mg_none_of KX G ?a_10; (case a_10 => k_is)
      case b_str => refine PySem.W.mg_none_of KX G ?a_11; (case a_11 => k_is)
      case b_tuple => refine PySem.W.mg_none_of KX G ?a_12; (case a_12 => k_is)
      case k_MOST_EDGES => refine' DL.konst 8 KX G ?a_13 ?b_13; (case a_13 => k_is); (case b_13 => kernel_rfl)
      case k_MOST_PLACES => refine' DL.konst 8 KX G ?a_14 ?b_14; (case a_14 => k_is); (case b_14 => kernel_rfl)
      case e_BadGraph =>
        refine' DL.ExI.of (st := G29.i_BadGraph) (n := "number") ?P_15 KX G ?a_15 ?l_15 ?c_15 ?S_15 ?n_15 ?B_15 ?i_15 ?t_15 ?K_15 ?hb_15
        case a_15 => k_is
        case i_15 => k_is
        case l_15 => k_is
        case c_15 => k_is
        case t_15 => k_is
        case P_15 => exact ⟨by kernel_rfl, by kernel_rfl⟩
        case S_15 => exact ⟨rfl, rfl, rfl, by decide +kernel, by decide +kernel, by decide +kernel, by decide +kernel, by decide +kernel, ⟨_, rfl, rfl⟩, by decide +kernel⟩
        case n_15 => decide +kernel
        case B_15 => exact ⟨⟨_, _, _, _, _, _, _, _, _, _, rfl, rfl⟩⟩
        case hb_15 => exact fun us hl => match us, hl with | [_, _], _ => rfl
        case K_15 =>
          refine' DL.InK.of ?c1_15 ?c2_15 ?sa_15 ?ec_15 ?ty_15 ?kc_15 ?fs_15 ?ce_15 ?co_15 ?c3_15 ?c4_15 ?th_15 ?sp_15 ?up_15 ?ve_15 ?me_15
          case c1_15 => k_is
          case c2_15 => kernel_rfl
          case sa_15 => k_is
          case ec_15 => k_is
          case ty_15 => k_is
          case kc_15 => k_is
          case fs_15 => k_is
          case ce_15 => k_is
          case co_15 => k_is
          case c3_15 => rfl
          case c4_15 => kernel_rfl
          case th_15 => k_is
          case sp_15 => k_is
          case up_15 => kernel_rfl
          case ve_15 => k_is
          case me_15 => k_is
      case e_BadTurn => refine' DL.ExX.of KX G ?a_16 ?q_16 ?k_16 ?s_16 ?t_16; (case a_16 => k_is); (case q_16 => k_exc); (case k_16 => k_is); (case s_16 => k_is); (case t_16 => k_is)
      case c_BadGraph => refine' DL.CatchX.of KX G ?a_17 ?s_17 ?h_17 ?t_17 (DL.AllC.cons' (PySem.W.mg_of KX G ?d0_17) ?f0_17 (DL.AllC.cons' (PySem.W.mg_of KX G ?d1_17) ?f1_17 trivial)); (case a_17 => k_is); (case s_17 => k_is); (case h_17 => k_is); (case t_17 => k_is); (case d0_17 => k_is); (case f0_17 => k_is); (case d1_17 => k_is); (case f1_17 => k_is)
      case c_BadTurn => refine' DL.CatchX.of KX G ?a_18 ?s_18 ?h_18 ?t_18 (DL.AllC.cons' (PySem.W.mg_of KX G ?d0_18) ?f0_18 (DL.AllC.cons' (PySem.W.mg_of KX G ?d1_18) ?f1_18 trivial)); (case a_18 => k_is); (case s_18 => k_is); (case h_18 => k_is); (case t_18 => k_is); (case d0_18 => k_is); (case f0_18 => k_is); (case d1_18 => k_is); (case f1_18 => k_is)
      case i_BadGraph => refine' DL.IsX.of KX G ?a_19 (DL.AllC.cons' (PySem.W.mg_of KX G ?d0_19) ⟨⟨?p0_19, ?q0_19, ?r0_19, ?s0_19, ?t0_19, ?u0_19, ?v0_19, ?w0_19⟩, ?f0_19⟩ (DL.AllC.cons' (PySem.W.mg_of KX G ?d1_19) ⟨⟨?p1_19, ?q1_19, ?r1_19, ?s1_19, ?t1_19, ?u1_19, ?v1_19, ?w1_19⟩, ?f1_19⟩ trivial)); (case a_19 => k_is); (case d0_19 => k_is); (case p0_19 => k_is); (case q0_19 => k_is); (case r0_19 => k_is); (case s0_19 => k_is); (case t0_19 => k_is); (case u0_19 => k_is); (case v0_19 => k_is); (case w0_19 => k_is); (case f0_19 => kernel_rfl); (case d1_19 => k_is); (case p1_19 => k_is); (case q1_19 => k_is); (case r1_19 => k_is); (case s1_19 => k_is); (case t1_19 => k_is); (case u1_19 => k_is); (case v1_19 => k_is); (case w1_19 => k_is); (case f1_19 => kernel_rfl)
      case i_BadTurn => refine' DL.IsX.of KX G ?a_20 (DL.AllC.cons' (PySem.W.mg_of KX G ?d0_20) ⟨⟨?p0_20, ?q0_20, ?r0_20, ?s0_20, ?t0_20, ?u0_20, ?v0_20, ?w0_20⟩, ?f0_20⟩ (DL.AllC.cons' (PySem.W.mg_of KX G ?d1_20) ⟨⟨?p1_20, ?q1_20, ?r1_20, ?s1_20, ?t1_20, ?u1_20, ?v1_20, ?w1_20⟩, ?f1_20⟩ trivial)); (case a_20 => k_is); (case d0_20 => k_is); (case p0_20 => k_is); (case q0_20 => k_is); (case r0_20 => k_is); (case s0_20 => k_is); (case t0_20 => k_is); (case u0_20 => k_is); (case v0_20 => k_is); (case w0_20 => k_is); (case f0_20 => kernel_rfl); (case d1_20 => k_is); (case p1_20 => k_is); (case q1_20 => k_is); (case r1_20 => k_is); (case s1_20 => k_is); (case t1_20 => k_is); (case u1_20 => k_is); (case v1_20 => k_is); (case w1_20 => k_is); (case f1_20 => kernel_rfl)
      case i_MatroidError => refine' DL.IsX.of KX G ?a_21 (DL.AllC.cons' (PySem.W.mg_of KX G ?d0_21) ⟨⟨?p0_21, ?q0_21, ?r0_21, ?s0_21, ?t0_21, ?u0_21, ?v0_21, ?w0_21⟩, ?f0_21⟩ (DL.AllC.cons' (PySem.W.mg_of KX G ?d1_21) ⟨⟨?p1_21, ?q1_21, ?r1_21, ?s1_21, ?t1_21, ?u1_21, ?v1_21, ?w1_21⟩, ?f1_21⟩ trivial)); (case a_21 => k_is); (case d0_21 => k_is); (case p0_21 => k_is); (case q0_21 => k_is); (case r0_21 => k_is); (case s0_21 => k_is); (case t0_21 => k_is); (case u0_21 => k_is); (case v0_21 => k_is); (case w0_21 => k_is); (case f0_21 => kernel_rfl); (case d1_21 => k_is); (case p1_21 => k_is); (case q1_21 => k_is); (case r1_21 => k_is); (case s1_21 => k_is); (case t1_21 => k_is); (case u1_21 => k_is); (case v1_21 => k_is); (case w1_21 => k_is); (case f1_21 => kernel_rfl)
      case f_number => refine' DL.FieldT.of (DL.AllC.cons' (PySem.W.mg_of KX G ?d0_22) (fun _ => ⟨L2.xfB_ok ?x0_22, ?y0_22⟩) trivial); (case d0_22 => k_is); (case x0_22 => kernel_rfl); (case y0_22 => k_is)
      case x_is_number => refine' DL.FnX.of KX G ?a_23 ?l_23 ?c_23 ?k_23 (fun _ _ _ _ _ _ us hl => match us, hl with | [_], _ => rfl); (case a_23 => k_is); (case l_23 => k_is); (case c_23 => k_is); (case k_23 => k_is)
      case x_is_row => refine' DL.FnX.of KX G ?a_24 ?l_24 ?c_24 ?k_24 (fun _ _ _ _ _ _ us hl => match us, hl with | [_], _ => rfl); (case a_24 => k_is); (case l_24 => k_is); (case c_24 => k_is); (case k_24 => k_is)
      case x_places_of => refine' DL.FnX.of KX G ?a_25 ?l_25 ?c_25 ?k_25 (fun _ _ _ _ _ _ us hl => match us, hl with | [_, _], _ => rfl); (case a_25 => k_is); (case l_25 => k_is); (case c_25 => k_is); (case k_25 => k_is)
      case x_renamed => refine' DL.FnX.of KX G ?a_26 ?l_26 ?c_26 ?k_26 (fun _ _ _ _ _ _ us hl => match us, hl with | [_, _, _], _ => rfl); (case a_26 => k_is); (case l_26 => k_is); (case c_26 => k_is); (case k_26 => k_is)
      case x__law_pool => refine' DL.FnX.of KX G ?a_27 ?l_27 ?c_27 ?k_27 (fun _ _ _ _ _ _ us hl => match us, hl with | [_], _ => rfl); (case a_27 => k_is); (case l_27 => k_is); (case c_27 => k_is); (case k_27 => k_is)
      case x__law_is_integer => refine' DL.FnX.of KX G ?a_28 ?l_28 ?c_28 ?k_28 (fun _ _ _ _ _ _ us hl => match us, hl with | [_], _ => rfl); (case a_28 => k_is); (case l_28 => k_is); (case c_28 => k_is); (case k_28 => k_is)
      case x__law_all_sets => refine' DL.FnX.of KX G ?a_29 ?l_29 ?c_29 ?k_29 (fun _ _ _ _ _ _ us hl => match us, hl with | [_], _ => rfl); (case a_29 => k_is); (case l_29 => k_is); (case c_29 => k_is); (case k_29 => k_is)
      case x__law_forest => refine' DL.FnX.of KX G ?a_30 ?l_30 ?c_30 ?k_30 (fun _ _ _ _ _ _ us hl => match us, hl with | [_], _ => rfl); (case a_30 => k_is); (case l_30 => k_is); (case c_30 => k_is); (case k_30 => k_is)
      case x__law_others => refine' DL.FnX.of KX G ?a_31 ?l_31 ?c_31 ?k_31 (fun _ _ _ _ _ _ us hl => match us, hl with | [_, _], _ => rfl); (case a_31 => k_is); (case l_31 => k_is); (case c_31 => k_is); (case k_31 => k_is)
      case x__law_spots => refine' DL.FnX.of KX G ?a_32 ?l_32 ?c_32 ?k_32 (fun _ _ _ _ _ _ us hl => match us, hl with | [_, _], _ => rfl); (case a_32 => k_is); (case l_32 => k_is); (case c_32 => k_is); (case k_32 => k_is)
      case x__law_turned => refine' DL.FnX.of KX G ?a_33 ?l_33 ?c_33 ?k_33 (fun _ _ _ _ _ _ us hl => match us, hl with | [_, _, _, _, _], _ => rfl); (case a_33 => k_is); (case l_33 => k_is); (case c_33 => k_is); (case k_33 => k_is)
      case x_is_place => refine' DL.FnX.of KX G ?a_34 ?l_34 ?c_34 ?k_34 (fun _ _ _ _ _ _ us hl => match us, hl with | [_], _ => rfl); (case a_34 => k_is); (case l_34 => k_is); (case c_34 => k_is); (case k_34 => k_is)
      case x_is_set => refine' DL.FnX.of KX G ?a_35 ?l_35 ?c_35 ?k_35 (fun _ _ _ _ _ _ us hl => match us, hl with | [_, _], _ => rfl); (case a_35 => k_is); (case l_35 => k_is); (case c_35 => k_is); (case k_35 => k_is)
      case x_made => refine' DL.FnX.of KX G ?a_36 ?l_36 ?c_36 ?k_36 (fun _ _ _ _ _ _ us hl => match us, hl with | [_, _], _ => rfl); (case a_36 => k_is); (case l_36 => k_is); (case c_36 => k_is); (case k_36 => k_is)
      case x__law_ranks => refine' DL.FnX.of KX G ?a_37 ?l_37 ?c_37 ?k_37 (fun _ _ _ _ _ _ us hl => match us, hl with | [_], _ => rfl); (case a_37 => k_is); (case l_37 => k_is); (case c_37 => k_is); (case k_37 => k_is)
      case x__law_is_turn => refine' DL.FnX.of KX G ?a_38 ?l_38 ?c_38 ?k_38 (fun _ _ _ _ _ _ us hl => match us, hl with | [_, _, _, _, _], _ => rfl); (case a_38 => k_is); (case l_38 => k_is); (case c_38 => k_is); (case k_38 => k_is)
      case x_told_graph => refine' DL.FnX.of KX G ?a_39 ?l_39 ?c_39 ?k_39 (fun _ _ _ _ _ _ us hl => match us, hl with | [_], _ => rfl); (case a_39 => k_is); (case l_39 => k_is); (case c_39 => k_is); (case k_39 => k_is)
      case x_is_turn => refine' DL.FnX.of KX G ?a_40 ?l_40 ?c_40 ?k_40 (fun _ _ _ _ _ _ us hl => match us, hl with | [_, _], _ => rfl); (case a_40 => k_is); (case l_40 => k_is); (case c_40 => k_is); (case k_40 => k_is)
      case x__law_all_turns => refine' DL.FnX.of KX G ?a_41 ?l_41 ?c_41 ?k_41 (fun _ _ _ _ _ _ us hl => match us, hl with | [_, _], _ => rfl); (case a_41 => k_is); (case l_41 => k_is); (case c_41 => k_is); (case k_41 => k_is)
      case x_turned => refine' DL.FnX.of KX G ?a_42 ?l_42 ?c_42 ?k_42 (fun _ _ _ _ _ _ us hl => match us, hl with | [_, _], _ => rfl); (case a_42 => k_is); (case l_42 => k_is); (case c_42 => k_is); (case k_42 => k_is)
      case x__law_take => refine' DL.FnX.of KX G ?a_43 ?l_43 ?c_43 ?k_43 (fun _ _ _ _ _ _ us hl => match us, hl with | [_, _], _ => rfl); (case a_43 => k_is); (case l_43 => k_is); (case c_43 => k_is); (case k_43 => k_is)
      case x__law_pick => refine' DL.FnX.of KX G ?a_44 ?l_44 ?c_44 ?k_44 (fun _ _ _ _ _ _ us hl => match us, hl with | [_, _], _ => rfl); (case a_44 => k_is); (case l_44 => k_is); (case c_44 => k_is); (case k_44 => k_is)
      case x__law_order => refine' DL.FnX.of KX G ?a_45 ?l_45 ?c_45 ?k_45 (fun _ _ _ _ _ _ us hl => match us, hl with | [_, _], _ => rfl); (case a_45 => k_is); (case l_45 => k_is); (case c_45 => k_is); (case k_45 => k_is)
      case x__law_given => refine' DL.FnX.of KX G ?a_46 ?l_46 ?c_46 ?k_46 (fun _ _ _ _ _ _ us hl => match us, hl with | [_, _], _ => rfl); (case a_46 => k_is); (case l_46 => k_is); (case c_46 => k_is); (case k_46 => k_is)
      case x__law_fault => refine' DL.FnX.of KX G ?a_47 ?l_47 ?c_47 ?k_47 (fun _ _ _ _ _ _ us hl => match us, hl with | [_, _], _ => rfl); (case a_47 => k_is); (case l_47 => k_is); (case c_47 => k_is); (case k_47 => k_is)
      case x__law_edges => refine' DL.FnX.of KX G ?a_48 ?l_48 ?c_48 ?k_48 (fun _ _ _ _ _ _ us hl => match us, hl with | [_, _], _ => rfl); (case a_48 => k_is); (case l_48 => k_is); (case c_48 => k_is); (case k_48 => k_is)
      case x__law_same => refine' DL.FnX.of KX G ?a_49 ?l_49 ?c_49 ?k_49 (fun _ _ _ _ _ _ us hl => match us, hl with | [_, _], _ => rfl); (case a_49 => k_is); (case l_49 => k_is); (case c_49 => k_is); (case k_49 => k_is)
      case x__law_always => refine' DL.FnX.of KX G ?a_50 ?l_50 ?c_50 ?k_50 (fun _ _ _ _ _ _ us hl => match us, hl with | [], _ => rfl); (case a_50 => k_is); (case l_50 => k_is); (case c_50 => k_is); (case k_50 => k_is)
    case x => refine' DL.LawX.of KX G ?a ?l ?c ?k (fun _ _ _ _ _ _ _ => rfl); (case a => k_is); (case l => k_is); (case c => k_is); (case k => k_is)
