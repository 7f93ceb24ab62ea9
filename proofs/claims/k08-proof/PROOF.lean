import PyProof.Rows.All
import HandS.Codes
import HandS.Deep
import HandS.EndTab
import HandS.Exc
import HandS.ExcField
import HandS.ExcIs
import HandS.ExcOwn
import HandS.Flow
import HandS.ForMost
import HandS.IsInst
import HandS.Lambda
import HandS.RaiseMore
import HandS.SetBool
import HandS.SetFor
import HandS.SetTxt0
import HandS.SortInts
import HandS.Style
import HandS.Text
import HandS.TryOnly
import HandS.TupAny
import HandS.TupSets
import HandS.Wide
import HandS.WideMore
import HandS.Words
import HandS.WordsExc
import HandS.Zip
import KE.GoesEnum
import KE.GoesMore
import KE.KDflt
import PyProof.Rows.SortShellAny
import PyProof.Rows.StrMeet
import PyProof.StrBlock2
import PySem.Challenge.RW_letterfair_k08_whole_beginnings_and_what
set_option Elab.async false
set_option linter.all false
set_option maxRecDepth 100000
set_option maxHeartbeats 8000000
set_option autoImplicit false
/-! The data layer, first part: values as plain data, a frame's own objects, how they lie in the abstract heap. -/
namespace DL
open PySem PySem.Spec PyProof.Rows L2
abbrev PD := PyData
/-! ### data in the frozen heap G -/
mutual
inductive Rep (K : PySem.W.Frag) (G : Hp) : V → PD → Prop
  | non : Rep K G .non .none
  | bl (b : Bool) : Rep K G (.bl b) (.bool b)
  | int (i : Int) : Rep K G (.int i) (.int i)
  | str (x : Str) : Rep K G (.str x) (.str x)
  | lst {a : Addr} {vs : List V} {ds : List PD} : G a = some (.lst vs) → Reps K G vs ds → Rep K G (.ref a) (.list ds)
  | scr {a : Addr} {vs : List V} {ds : List PD} : SqL K G a vs → Reps K G vs ds → Rep K G (.ref a) (.dict [(.none, .list ds)])
  | tup {a : Addr} {vs : List V} {ds : List PD} : SqT K G a vs → Reps K G vs ds → Rep K G (.ref a) (.tuple ds)
  | dic {a : Addr} : G a = some (.dK []) → Rep K G (.ref a) (.dict [])
inductive Reps (K : PySem.W.Frag) (G : Hp) : List V → List PD → Prop
  | nil : Reps K G [] []
  | cons {v : V} {vs : List V} {d : PD} {ds : List PD} : Rep K G v d → Reps K G vs ds → Reps K G (v :: vs) (d :: ds)
end
theorem seqT_same {K : PySem.W.Frag} {H H' : Hp} {a : Addr} {xs : List V} (e : Same H H') (h : SqT K H a xs) : SqT K H' a xs := by
  rcases h with (h | ⟨o, h⟩) | h
  · exact .inl (.inl (e _ _ h))
  · exact .inl (.inr ⟨o, e _ _ h⟩)
  · exact .inr h
mutual
theorem Rep.mono {K : PySem.W.Frag} {G G' : Hp} (s : Same G G') : ∀ {v : V} {d : PD}, Rep K G v d → Rep K G' v d
  | _, _, .non => .non
  | _, _, .bl b => .bl b
  | _, _, .int i => .int i
  | _, _, .str x => .str x
  | _, _, .lst h r => .lst (s _ _ h) (Reps.mono s r)
  | _, _, .scr h r => .scr (s.seq h) (Reps.mono s r)
  | _, _, .tup h r => .tup (seqT_same s h) (Reps.mono s r)
  | _, _, .dic h => .dic (s _ _ h)
theorem Reps.mono {K : PySem.W.Frag} {G G' : Hp} (s : Same G G') : ∀ {vs : List V} {ds : List PD}, Reps K G vs ds → Reps K G' vs ds
  | _, _, .nil => .nil
  | _, _, .cons h t => .cons (Rep.mono s h) (Reps.mono s t)
end
theorem Reps.length {K : PySem.W.Frag} {G : Hp} : ∀ {vs : List V} {ds : List PD}, Reps K G vs ds → vs.length = ds.length
  | _, _, .nil => rfl
  | _, _, .cons _ t => by rw [List.length_cons, List.length_cons, Reps.length t]
theorem Reps.get {K : PySem.W.Frag} {G : Hp} : ∀ {vs : List V} {ds : List PD} {i : Nat} {d : PD}, Reps K G vs ds → ds[i]? = some d → ∃ v, vs[i]? = some v ∧ Rep K G v d
  | _, _, _, _, .nil, e => by simp at e
  | _, _, 0, _, .cons r _, e => by simp at e; subst e; exact ⟨_, rfl, r⟩
  | _, _, i + 1, d, .cons _ t, e => by
    obtain ⟨v, h1, h2⟩ := Reps.get (i := i) (d := d) t (by simpa using e)
    exact ⟨v, by simpa using h1, h2⟩
theorem Reps.get' {K : PySem.W.Frag} {G : Hp} : ∀ {vs : List V} {ds : List PD} {i : Nat} {v : V}, Reps K G vs ds → vs[i]? = some v → ∃ d, ds[i]? = some d ∧ Rep K G v d
  | _, _, _, _, .nil, e => by simp at e
  | _, _, 0, _, .cons r _, e => by simp at e; subst e; exact ⟨_, rfl, r⟩
  | _, _, i + 1, d, .cons _ t, e => by
    obtain ⟨v, h1, h2⟩ := Reps.get' (i := i) t (by simpa using e)
    exact ⟨v, by simpa using h1, h2⟩
theorem Reps.append {K : PySem.W.Frag} {G : Hp} : ∀ {vs ws : List V} {ds es : List PD}, Reps K G vs ds → Reps K G ws es → Reps K G (vs ++ ws) (ds ++ es)
  | _, _, _, _, .nil, s => s
  | _, _, _, _, .cons r t, s => .cons r (Reps.append t s)
theorem Reps.take {K : PySem.W.Frag} {G : Hp} : ∀ {vs : List V} {ds : List PD} (n : Nat), Reps K G vs ds → Reps K G (vs.take n) (ds.take n)
  | _, _, 0, _ => .nil
  | _, _, _ + 1, .nil => .nil
  | _, _, n + 1, .cons r t => .cons r (Reps.take n t)
theorem Reps.drop {K : PySem.W.Frag} {G : Hp} : ∀ {vs : List V} {ds : List PD} (n : Nat), Reps K G vs ds → Reps K G (vs.drop n) (ds.drop n)
  | _, _, 0, r => r
  | _, _, _ + 1, .nil => .nil
  | _, _, n + 1, .cons _ t => Reps.drop n t
theorem Reps.set {K : PySem.W.Frag} {G : Hp} {v : V} {d : PD} (r : Rep K G v d) : ∀ {vs : List V} {ds : List PD} (i : Nat), Reps K G vs ds → Reps K G (vs.set i v) (ds.set i d)
  | _, _, _, .nil => .nil
  | _, _, 0, .cons _ t => .cons r t
  | _, _, i + 1, .cons q t => .cons q (Reps.set r i t)
theorem Reps.eraseIdx {K : PySem.W.Frag} {G : Hp} : ∀ {vs : List V} {ds : List PD} (i : Nat), Reps K G vs ds → Reps K G (vs.eraseIdx i) (ds.eraseIdx i)
  | _, _, _, .nil => .nil
  | _, _, 0, .cons _ t => t
  | _, _, i + 1, .cons q t => .cons q (Reps.eraseIdx i t)
theorem Reps.dropLast {K : PySem.W.Frag} {G : Hp} {vs : List V} {ds : List PD} (h : Reps K G vs ds) : Reps K G vs.dropLast ds.dropLast := by
  rw [List.dropLast_eq_take, List.dropLast_eq_take, h.length]
  exact h.take _
theorem Reps.reverse {K : PySem.W.Frag} {G : Hp} : ∀ {vs : List V} {ds : List PD}, Reps K G vs ds → Reps K G vs.reverse ds.reverse
  | _, _, .nil => .nil
  | _, _, .cons r t => by
    rw [List.reverse_cons, List.reverse_cons]
    exact (Reps.reverse t).append (.cons r .nil)
/-! ### a frame's own objects -/
/-- a list that may still be changed (own: made in this frame; else lent by the caller), a dict, a list that was let go -/
inductive Ob where
  | ls (own : Bool) (ds : List PD)
  | dk (own : Bool) (kvs : List (Key × PD))
  | dt (own : Bool) (kvs : List (List Key × PD))
  | fz (ds : List PD)
/-- what a name holds: data, an object of the frame's, a thing not looked at -/
inductive RV where
  | dt (d : PD)
  | ob (k : Nat)
  | un (v : V)
abbrev Mu := List Ob
abbrev Rho := List (Option RV)
/-- the entry of a frame: the heap, what of it is frozen, the objects lent -/
structure Ent where
  H : Hp
  G : Hp
  P : List Addr
inductive RepKs {κ : Type} (K : PySem.W.Frag) (G : Hp) : List (κ × V) → List (κ × PD) → Prop
  | nil : RepKs K G [] []
  | cons {k : κ} {v : V} {d : PD} {vs : List (κ × V)} {ds : List (κ × PD)} : Rep K G v d → RepKs K G vs ds → RepKs K G ((k, v) :: vs) ((k, d) :: ds)
theorem RepKs.mono {κ : Type} {K : PySem.W.Frag} {G G' : Hp} (s : Same G G') : ∀ {vs : List (κ × V)} {ds : List (κ × PD)}, RepKs K G vs ds → RepKs K G' vs ds
  | _, _, .nil => .nil
  | _, _, .cons h t => .cons (h.mono s) (RepKs.mono s t)
def Ob.own : Ob → Option Bool
  | .ls o _ => some o
  | .dk o _ => some o
  | .dt o _ => some o
  | .fz _ => none
/-- an own object is new since the entry, a lent one is one of those lent -/
def OwnOk (C : Ent) (k : Nat) (a : Addr) (m : Ob) : Prop := (m.own = some true → C.P.length ≤ k ∧ ∀ o, C.H a = some o → ∃ ps, o = .tbl ps) ∧ (m.own = some false → k < C.P.length)
def ObOk (K : PySem.W.Frag) (G H : Hp) (a : Addr) : Ob → Prop
  | .ls _ ds => G a = none ∧ ∃ vs, H a = some (.lst vs) ∧ Reps K G vs ds
  | .dk _ kvs => G a = none ∧ ∃ vs, H a = some (.dK vs) ∧ RepKs K G vs kvs
  | .dt _ kvs => G a = none ∧ ∃ vs, H a = some (.dT vs) ∧ RepKs K G vs kvs
  | .fz ds => ∃ vs, G a = some (.lst vs) ∧ Reps K G vs ds
def RvOk (K : PySem.W.Frag) (G : Hp) (α : List Addr) : RV → V → Prop
  | .dt d, v => Rep K G v d
  | .ob k, v => ∃ a, α[k]? = some a ∧ v = .ref a
  | .un u, v => v = u
theorem RvOk.mono {K : PySem.W.Frag} {G G' : Hp} {α α' : List Addr} (s : Same G G') (p : α <+: α') {r : RV} {v : V} (h : RvOk K G α r v) : RvOk K G' α' r v := by
  cases r with
  | dt d => exact Rep.mono s h
  | ob k =>
    obtain ⟨a, h1, h2⟩ := h
    exact ⟨a, by
      obtain ⟨t, rfl⟩ := p
      have hk : k < α.length := (List.getElem?_eq_some_iff.mp h1).1
      rw [List.getElem?_append_left hk]
      exact h1, h2⟩
  | un u => exact h
/-- the frame's state: names ρ at slots σ, objects μ at α, G frozen within H -/
abbrev Tb := List (Addr × Str)
/-- no table of code objects -/
def NT (o : HO) : Prop := ∀ ps, o ≠ .tbl ps
def NoTb (G : Hp) : Prop := ∀ b ps, G b ≠ some (.tbl ps)
structure Rl (K : PySem.W.Frag) (T : Tb) (C : Ent) (ρ : Rho) (μ : Mu) (σ : L2.St) (H G : Hp) (α : List Addr) : Prop where
  sub : Same G H
  ext : Same C.G G
  fr : ∀ b o, C.H b = some o → NT o → b ∉ C.P → H b = some o ∧ (C.G b = none → G b = none)
  tb : LamX.Tabs T H
  gt : NoTb G
  al : α.length = μ.length
  nd : α.Nodup
  pre : C.P <+: α
  ob : ∀ (k : Nat) (a : Addr) (m : Ob), α[k]? = some a → μ[k]? = some m → ObOk K G H a m ∧ OwnOk C k a m
  len : ρ.length = σ.length
  sl : ∀ (i : Nat) (r : RV), ρ[i]? = some (some r) → ∃ v, σ[i]? = some (some v) ∧ RvOk K G α r v
theorem ObOk.there {K : PySem.W.Frag} {G H : Hp} {a : Addr} {m : Ob} (s : Same G H) (h : ObOk K G H a m) : ∃ o, H a = some o := by
  cases m with
  | ls o ds => obtain ⟨_, vs, e, _⟩ := h; exact ⟨_, e⟩
  | dk o ds => obtain ⟨_, vs, e, _⟩ := h; exact ⟨_, e⟩
  | dt o ds => obtain ⟨_, vs, e, _⟩ := h; exact ⟨_, e⟩
  | fz ds => obtain ⟨vs, e, _⟩ := h; exact ⟨_, s _ _ e⟩
/-- the heap and the frozen part grow; what stood stands, what was not frozen is not frozen -/
structure Grow (H G H' G' : Hp) : Prop where
  h : Same H H'
  g : Same G G'
  s : Same G' H'
  n : ∀ b o, H b = some o → G b = none → G' b = none
  u : ∀ b ps, G' b = some (.tbl ps) → G b = some (.tbl ps)
theorem Grow.refl {H G : Hp} (s : Same G H) : Grow H G H G := ⟨Same.refl _, Same.refl _, s, fun _ _ _ h => h, fun _ _ h => h⟩
theorem Grow.trans {H G H1 G1 H2 G2 : Hp} (a : Grow H G H1 G1) (b : Grow H1 G1 H2 G2) : Grow H G H2 G2 :=
  ⟨a.h.trans b.h, a.g.trans b.g, b.s, fun c o e n => b.n c o (a.h c o e) (a.n c o e n), fun c ps e => a.u c ps (b.u c ps e)⟩
theorem same_upd {H : Hp} {p : Addr} {o : HO} (h : H p = none) : Same H (upd H p o) := fun b x e => by
  rw [upd_ne (ne_of_none e h)]
  exact e
/-- a new frozen object -/
theorem upd_tbl {H : Hp} {p b : Addr} {o : HO} {ps : Array Value} (ht : ∀ ps, o ≠ .tbl ps) (h : upd H p o b = some (.tbl ps)) : H b = some (.tbl ps) := by
  by_cases hb : b = p
  · subst hb
    rw [upd_same] at h
    exact absurd (Option.some.inj h) (ht ps)
  · rw [upd_ne hb] at h
    exact h
theorem Grow.new {H G : Hp} {p : Addr} {o : HO} (s : Same G H) (h : H p = none) (ht : ∀ ps, o ≠ .tbl ps := by intro _ z; cases z) : Grow H G (upd H p o) (upd G p o) := by
  have hg : G p = none := s.free h
  refine ⟨same_upd h, same_upd hg, fun b x e => ?_, fun b x e n => ?_, fun b ps e => upd_tbl ht e⟩
  · by_cases hb : b = p
    · subst hb
      rw [upd_same] at e ⊢
      exact e
    · rw [upd_ne hb] at e ⊢
      exact s _ _ e
  · rw [upd_ne (ne_of_none e h)]
    exact n
section
variable {K : PySem.W.Frag} {T : Tb} {C : Ent} {ρ : Rho} {μ : Mu} {σ : L2.St} {H G H' G' : Hp} {α : List Addr}
theorem Rl.lt (R : Rl K T C ρ μ σ H G α) {k : Nat} {a : Addr} (h : α[k]? = some a) : ∃ m, μ[k]? = some m := by
  have hk : k < α.length := (List.getElem?_eq_some_iff.mp h).1
  rw [R.al] at hk
  exact ⟨_, List.getElem?_eq_getElem hk⟩
theorem Rl.at' (R : Rl K T C ρ μ σ H G α) {k : Nat} {m : Ob} (h : μ[k]? = some m) : ∃ a, α[k]? = some a ∧ ObOk K G H a m ∧ OwnOk C k a m := by
  have hk : k < μ.length := (List.getElem?_eq_some_iff.mp h).1
  rw [← R.al] at hk
  exact ⟨_, List.getElem?_eq_getElem hk, R.ob k _ m (List.getElem?_eq_getElem hk) h⟩
/-- what is new now was new at the entry -/
theorem Rl.fresh (R : Rl K T C ρ μ σ H G α) {p : Addr} (h : H p = none) : ∀ o, C.H p = some o → ∃ ps, o = .tbl ps := by
  intro o e
  by_cases hnt : ∃ ps, o = .tbl ps
  · exact hnt
  · have hnt : NT o := fun ps z => hnt ⟨ps, z⟩
    by_cases hp : p ∈ C.P
    · obtain ⟨k, hk⟩ := List.mem_iff_getElem?.mp hp
      obtain ⟨t, et⟩ := R.pre
      have hk' : α[k]? = some p := by
        rw [← et, List.getElem?_append_left (List.getElem?_eq_some_iff.mp hk).1]
        exact hk
      obtain ⟨m, hm⟩ := R.lt hk'
      obtain ⟨o', e'⟩ := (R.ob k p m hk' hm).1.there R.sub
      rw [h] at e'
      cases e'
    · have hu := (R.fr p o e hnt hp).1
      rw [h] at hu
      cases hu
theorem ObOk.nt {a : Addr} {m : Ob} (h : ObOk K G H a m) (s : Same G H) : ∀ ps, H a ≠ some (.tbl ps) := fun ps e => by
  cases m with
  | ls o ds => obtain ⟨_, vs, e2, _⟩ := h; rw [e] at e2; cases e2
  | dk o ds => obtain ⟨_, vs, e2, _⟩ := h; rw [e] at e2; cases e2
  | dt o ds => obtain ⟨_, vs, e2, _⟩ := h; rw [e] at e2; cases e2
  | fz ds => obtain ⟨vs, e2, _⟩ := h; rw [s _ _ e2] at e; cases e
theorem ObOk.grow {a : Addr} {m : Ob} (g : Grow H G H' G') (h : ObOk K G H a m) : ObOk K G' H' a m := by
  cases m with
  | ls o ds => obtain ⟨n, vs, e, r⟩ := h; exact ⟨g.n a _ e n, vs, g.h _ _ e, r.mono g.g⟩
  | dk o ds => obtain ⟨n, vs, e, r⟩ := h; exact ⟨g.n a _ e n, vs, g.h _ _ e, r.mono g.g⟩
  | dt o ds => obtain ⟨n, vs, e, r⟩ := h; exact ⟨g.n a _ e n, vs, g.h _ _ e, r.mono g.g⟩
  | fz ds => obtain ⟨vs, e, r⟩ := h; exact ⟨vs, g.g _ _ e, r.mono g.g⟩
theorem Rl.grow (R : Rl K T C ρ μ σ H G α) (g : Grow H G H' G') : Rl K T C ρ μ σ H' G' α where
  sub := g.s
  ext := R.ext.trans g.g
  fr := fun b o e hnt hp => by
    obtain ⟨h1, h2⟩ := R.fr b o e hnt hp
    exact ⟨g.h _ _ h1, fun n => g.n b o h1 (h2 n)⟩
  tb := R.tb.ext g.h
  gt := fun b ps e => R.gt b ps (g.u b ps e)
  al := R.al
  nd := R.nd
  pre := R.pre
  ob := fun k a m h1 h2 => ⟨(R.ob k a m h1 h2).1.grow g, (R.ob k a m h1 h2).2⟩
  len := R.len
  sl := fun i r h => by
    obtain ⟨v, h1, h2⟩ := R.sl i r h
    exact ⟨v, h1, h2.mono g.g (List.prefix_refl _)⟩
theorem nodup_snoc {l : List Addr} {p : Addr} (h : l.Nodup) (hp : p ∉ l) : (l ++ [p]).Nodup := by
  rw [List.nodup_append]
  refine ⟨h, by simp, fun a ha b hb => ?_⟩
  simp only [List.mem_singleton] at hb
  subst hb
  exact fun e => hp (e ▸ ha)
theorem get_snoc {β : Type} {l : List β} {x y : β} {k : Nat} (h : (l ++ [x])[k]? = some y) : l[k]? = some y ∨ (k = l.length ∧ y = x) := by
  by_cases hk : k < l.length
  · rw [List.getElem?_append_left hk] at h
    exact .inl h
  · rw [List.getElem?_append_right (by omega)] at h
    have h0 : k - l.length = 0 := by
      cases e : k - l.length with
      | zero => rfl
      | succ n => rw [e] at h; simp at h
    rw [h0] at h
    simp at h
    exact .inr ⟨by omega, h.symm⟩
/-- a new object of the frame's own -/
theorem Rl.alloc (R : Rl K T C ρ μ σ H G α) {p : Addr} {o : HO} {m : Ob} (h : H p = none) (hm : ObOk K G (upd H p o) p m) (hw : m.own = some true) : Rl K T C ρ (μ ++ [m]) σ (upd H p o) G (α ++ [p]) := by
  have hg : G p = none := R.sub.free h
  have hs : Same H (upd H p o) := same_upd h
  have hp : p ∉ α := fun hm => by
    obtain ⟨k, hk⟩ := List.mem_iff_getElem?.mp hm
    obtain ⟨m', hm'⟩ := R.lt hk
    obtain ⟨o', e'⟩ := (R.ob k p m' hk hm').1.there R.sub
    rw [h] at e'
    cases e'
  have g : Grow H G (upd H p o) G := ⟨hs, Same.refl _, R.sub.trans hs, fun _ _ _ n => n, fun _ _ e => e⟩
  refine ⟨R.sub.trans hs, R.ext, fun b x e hnt hb => ?_, R.tb.ext hs, R.gt, ?_, nodup_snoc R.nd hp, R.pre.trans (List.prefix_append _ _), fun k a m' h1 h2 => ?_, R.len, fun i r hr => ?_⟩
  · obtain ⟨h1, h2⟩ := R.fr b x e hnt hb
    exact ⟨hs _ _ h1, h2⟩
  · rw [List.length_append, List.length_append, R.al]
    rfl
  · rcases get_snoc h1 with h1 | ⟨ek, ea⟩
    · rcases get_snoc h2 with h2 | ⟨h2, _⟩
      · exact ⟨(R.ob k a m' h1 h2).1.grow g, (R.ob k a m' h1 h2).2⟩
      · have := (List.getElem?_eq_some_iff.mp h1).1
        rw [R.al] at this
        omega
    · rcases get_snoc h2 with h2 | ⟨h2, em⟩
      · have := (List.getElem?_eq_some_iff.mp h2).1
        rw [← R.al] at this
        omega
      · subst ea em
        exact ⟨hm, fun _ => ⟨by rw [ek]; exact R.pre.length_le, R.fresh h⟩, fun z => by rw [hw] at z; cases z⟩
  · obtain ⟨v, h1, h2⟩ := R.sl i r hr
    exact ⟨v, h1, h2.mono (Same.refl _) (List.prefix_append _ _)⟩
theorem nodup_get {l : List Addr} (h : l.Nodup) {i j : Nat} {a : Addr} (h1 : l[i]? = some a) (h2 : l[j]? = some a) : i = j := nd_ix h h1 h2
/-- an object of the frame's is changed -/
theorem Rl.write (R : Rl K T C ρ μ σ H G α) {k : Nat} {a : Addr} {m m' : Ob} {o : HO} (ha : α[k]? = some a) (hm : μ[k]? = some m) (hn : G a = none) (ho : m'.own = m.own) (hm' : ObOk K G (upd H a o) a m') : Rl K T C ρ (μ.set k m') σ (upd H a o) G α := by
  have hk : k < μ.length := (List.getElem?_eq_some_iff.mp hm).1
  obtain ⟨om, hom⟩ := R.ob k a m ha hm
  obtain ⟨u, hu⟩ := om.there R.sub
  have hsub : Same G (upd H a o) := fun b x e => by
    rw [upd_ne (fun z => by rw [z, hn] at e; cases e)]
    exact R.sub _ _ e
  have hstay : ∀ b u, H b = some u → b ≠ a → upd H a o b = some u := fun b u e n => by rw [upd_ne n]; exact e
  have hT : LamX.Tabs T (upd H a o) := fun p hp => by
    obtain ⟨ps, h1, h2, h3⟩ := R.tb p hp
    have hna : ∀ b u, H b = some u → (∀ vs, u ≠ .lst vs) → (∀ vs, u ≠ .dK vs) → (∀ vs, u ≠ .dT vs) → b ≠ a := fun b u e n1 n2 n3 z => by
      subst z
      cases m with
      | ls w ds => obtain ⟨_, vs, e2, _⟩ := om; rw [e] at e2; exact n1 vs (Option.some.inj e2)
      | dk w ds => obtain ⟨_, vs, e2, _⟩ := om; rw [e] at e2; exact n2 vs (Option.some.inj e2)
      | dt w ds => obtain ⟨_, vs, e2, _⟩ := om; rw [e] at e2; exact n3 vs (Option.some.inj e2)
      | fz ds => obtain ⟨vs, e2, _⟩ := om; rw [hn] at e2; cases e2
    refine ⟨ps, hstay _ _ h1 (hna _ _ h1 (fun _ z => by cases z) (fun _ z => by cases z) (fun _ z => by cases z)), h2, fun pos cv hc => ?_⟩
    obtain ⟨c, e1, e2⟩ := h3 pos cv hc
    exact ⟨c, e1, hstay _ _ e2 (hna _ _ e2 (fun _ z => by unfold LamX.CodeO at z; cases z) (fun _ z => by unfold LamX.CodeO at z; cases z) (fun _ z => by unfold LamX.CodeO at z; cases z))⟩
  refine ⟨hsub, R.ext, fun b x e hnt hb => ?_, hT, R.gt, by rw [List.length_set]; exact R.al, R.nd, R.pre, fun j b m2 h1 h2 => ?_, R.len, R.sl⟩
  · obtain ⟨h1, h2⟩ := R.fr b x e hnt hb
    refine ⟨?_, h2⟩
    rw [upd_ne]
    · exact h1
    · rintro rfl
      cases q : m.own with
      | none =>
        cases m with
        | fz ds =>
          obtain ⟨vs, e2, _⟩ := om
          rw [hn] at e2
          cases e2
        | ls o ds => cases q
        | dk o ds => cases q
        | dt o ds => cases q
      | some w =>
        cases w with
        | true =>
          obtain ⟨ps, z⟩ := (hom.1 q).2 _ e
          exact absurd z (hnt ps)
        | false =>
          apply hb
          have hp := hom.2 q
          obtain ⟨t, et⟩ := R.pre
          rw [← et, List.getElem?_append_left hp] at ha
          exact List.mem_of_getElem? ha
  · by_cases hj : j = k
    · subst hj
      rw [List.getElem?_set_self hk] at h2
      cases h2
      rw [ha] at h1
      cases h1
      refine ⟨hm', ?_⟩
      unfold OwnOk
      rw [ho]
      exact hom
    · rw [List.getElem?_set_ne (Ne.symm hj)] at h2
      have hba : b ≠ a := fun e => hj (nodup_get R.nd h1 (e ▸ ha))
      obtain ⟨q, q2⟩ := R.ob j b m2 h1 h2
      refine ⟨?_, q2⟩
      cases m2 with
      | ls o ds => obtain ⟨n, vs, e, r⟩ := q; exact ⟨n, vs, by rw [upd_ne hba]; exact e, r⟩
      | dk o ds => obtain ⟨n, vs, e, r⟩ := q; exact ⟨n, vs, by rw [upd_ne hba]; exact e, r⟩
      | dt o ds => obtain ⟨n, vs, e, r⟩ := q; exact ⟨n, vs, by rw [upd_ne hba]; exact e, r⟩
      | fz ds => exact q
end
end DL
/-! The data layer, second part: what an evaluation gives, the judgements' readings by it, expressions. -/
namespace DL
open PySem PySem.Spec PyProof.Rows L2
/-- an own error: its class's name, its numbers by name -/
structure Ex where
  name : Str
  fs : List (Str × Int)
inductive Rs (β : Type) where
  | ok (b : β) (μ : Mu)
  | er (e : Ex) (μ : Mu)
  | no
abbrev EV := Rho → Mu → Rs RV
abbrev TV := Rho → Mu → Rs Bool
abbrev AV := Rho → Mu → Rs (List RV)
def Rs.bind {β γ : Type} (x : Rs β) (k : β → Mu → Rs γ) : Rs γ := match x with
  | .ok b μ => k b μ
  | .er e μ => .er e μ
  | .no => .no
def ExOk (mg : Str → Option Value) (e : Ex) (cls : Value) (d : Option Addr) (H : Hp) : Prop :=
  ∃ c : Addr, mg e.name = some (.ref c) ∧ cls = .ref c ∧ match e.fs with
    | [] => d = none
    | fs => ∃ dd, d = some dd ∧ H dd = some (.xd (fs.map fun p => (p.1, V.int p.2)))
section
variable {β γ : Type} (K : PySem.W.Frag) (mg : Str → Option Value) (T : Tb) (W : WX) (C : Ent) (ρ : Rho) (σ : L2.St) (G : Hp) (α : List Addr)
def Post (P : β → Mu → Hp → Hp → List Addr → Prop) : Rs β → Prop
  | .ok b μ' => ∀ H' G' α', Rl K T C ρ μ' σ H' G' α' → Same G G' → α <+: α' → P b μ' H' G' α'
  | .er e μ' => ∀ cls d H' G' α', Rl K T C ρ μ' σ H' G' α' → Same G G' → α <+: α' → ExOk mg e cls d H' → W cls d σ H'
  | .no => False
end
section
variable {β γ : Type} {K : PySem.W.Frag} {mg : Str → Option Value} {W : WX} {T : Tb} {C : Ent} {ρ : Rho} {σ : L2.St} {G G1 : Hp} {α α1 : List Addr}
theorem Post.base {P : β → Mu → Hp → Hp → List Addr → Prop} {x : Rs β} (h : Post K mg T W C ρ σ G α P x) (s : Same G G1) (p : α <+: α1) : Post K mg T W C ρ σ G1 α1 P x := by
  cases x with
  | ok b μ => exact fun H' G' α' R s' p' => h H' G' α' R (s.trans s') (p.trans p')
  | er e μ => exact fun cls d H' G' α' R s' p' => h cls d H' G' α' R (s.trans s') (p.trans p')
  | no => exact h
theorem Post.mono {P P' : β → Mu → Hp → Hp → List Addr → Prop} {x : Rs β} (h : Post K mg T W C ρ σ G α P x) (hp : ∀ b μ' H' G' α', Rl K T C ρ μ' σ H' G' α' → Same G G' → α <+: α' → P b μ' H' G' α' → P' b μ' H' G' α') : Post K mg T W C ρ σ G α P' x := by
  cases x with
  | ok b μ => exact fun H' G' α' R s' p' => hp _ _ _ _ _ R s' p' (h H' G' α' R s' p')
  | er e μ => exact h
  | no => exact h
theorem Post.bind {P : γ → Mu → Hp → Hp → List Addr → Prop} {x : Rs β} {k : β → Mu → Rs γ} (h : Post K mg T W C ρ σ G α P (x.bind k)) :
    Post K mg T W C ρ σ G α (fun b μ1 H1 G1 α1 => Rl K T C ρ μ1 σ H1 G1 α1 ∧ Same G G1 ∧ α <+: α1 ∧ Post K mg T W C ρ σ G1 α1 P (k b μ1)) x := by
  cases x with
  | ok b μ => exact fun H' G' α' R s p => ⟨R, s, p, Post.base (x := k b μ) h s p⟩
  | er e μ => exact h
  | no => exact h
end
inductive RvsOk (K : PySem.W.Frag) (G : Hp) (α : List Addr) : List RV → List V → Prop
  | nil : RvsOk K G α [] []
  | cons {r : RV} {v : V} {rs : List RV} {vs : List V} : RvOk K G α r v → RvsOk K G α rs vs → RvsOk K G α (r :: rs) (v :: vs)
theorem RvsOk.mono {K : PySem.W.Frag} {G G' : Hp} {α α' : List Addr} (s : Same G G') (p : α <+: α') : ∀ {rs : List RV} {vs : List V}, RvsOk K G α rs vs → RvsOk K G' α' rs vs
  | _, _, .nil => .nil
  | _, _, .cons h t => .cons (h.mono s p) (RvsOk.mono s p t)
/-! ### the readings -/
section
variable (K : PySem.W.Frag) (mg : Str → Option Value) (T : Tb) (W : WX)
def tD (f : EV) : TE := fun σ H Q => ∃ C ρ μ G α, Rl K T C ρ μ σ H G α ∧ Post K mg T W C ρ σ G α (fun r _ H' G' α' => ∀ v, RvOk K G' α' r v → Q v H') (f ρ μ)
def tDT (f : TV) : TT := fun σ H Q => ∃ C ρ μ G α, Rl K T C ρ μ σ H G α ∧ Post K mg T W C ρ σ G α (fun b _ H' _ _ => Q b H') (f ρ μ)
def tDA (f : AV) : TA := fun σ H Q => ∃ C ρ μ G α, Rl K T C ρ μ σ H G α ∧ Post K mg T W C ρ σ G α (fun rs _ H' G' α' => ∀ vs, RvsOk K G' α' rs vs → Q vs H') (f ρ μ)
end
theorem pe_imp {X : Cx} {e : Expr} {t t' : TE} (h : PE X e t) (i : ∀ σ H Q, t' σ H Q → t σ H Q) : PE X e t' := ⟨fun pins s σ H Q I q => h.run pins s σ H Q I (i σ H Q q)⟩
theorem pt_imp {X : Cx} {e : Expr} {t t' : TT} (h : PT X e t) (i : ∀ σ H Q, t' σ H Q → t σ H Q) : PT X e t' := ⟨fun pins s σ H Q I q => h.run pins s σ H Q I (i σ H Q q)⟩
theorem pw_imp {X : Cx} {e : Expr} {t t' : TT} (h : PW X e t) (i : ∀ σ H Q, t' σ H Q → t σ H Q) : PW X e t' := ⟨fun wh pins s σ H Q I q => h.run wh pins s σ H Q I (i σ H Q q)⟩
theorem pa_imp {X : Cx} {e : List Expr} {t t' : TA} (h : PA X e t) (i : ∀ σ H Q, t' σ H Q → t σ H Q) : PA X e t' := ⟨fun pos pins s σ H Q I q => h.run pos pins s σ H Q I (i σ H Q q)⟩
theorem ps_imp {X : Cx} {e : Stmt} {t t' : TS} (h : PS X e t) (i : ∀ D σ H, t' D σ H → t D σ H) : PS X e t' := ⟨fun pins s σ H D I q => h.run pins s σ H D I (i D σ H q)⟩
theorem pss_imp {X : Cx} {e : List Stmt} {t t' : TS} (h : PSs X e t) (i : ∀ D σ H, t' D σ H → t D σ H) : PSs X e t' := ⟨fun pins s σ H D I q => h.run pins s σ H D I (i D σ H q)⟩
/-! ### what an operand is -/
def Ob.data : Ob → Option PD
  | .ls _ ds => some (.list ds)
  | .fz ds => some (.list ds)
  | _ => none
def look (μ : Mu) : RV → Option PD
  | .dt d => some d
  | .ob k => (μ[k]?).bind Ob.data
  | .un _ => none
def looks (μ : Mu) : List RV → Option (List PD)
  | [] => some []
  | r :: rs => match look μ r, looks μ rs with
    | some d, some ds => some (d :: ds)
    | _, _ => none
/-- a value as an operand: data, or a list that is still the frame's -/
def Vw (K : PySem.W.Frag) (G H : Hp) (v : V) (d : PD) : Prop := Rep K G v d ∨ ∃ a vs ds, v = .ref a ∧ d = .list ds ∧ H a = some (.lst vs) ∧ Reps K G vs ds
inductive Vws (K : PySem.W.Frag) (G H : Hp) : List V → List PD → Prop
  | nil : Vws K G H [] []
  | cons {v : V} {d : PD} {vs : List V} {ds : List PD} : Vw K G H v d → Vws K G H vs ds → Vws K G H (v :: vs) (d :: ds)
section
variable {K : PySem.W.Frag} {T : Tb} {C : Ent} {ρ : Rho} {μ : Mu} {σ : L2.St} {H G : Hp} {α : List Addr}
theorem look_ok (R : Rl K T C ρ μ σ H G α) {r : RV} {v : V} {d : PD} (h : RvOk K G α r v) (e : look μ r = some d) : Vw K G H v d := by
  cases r with
  | dt x => cases e; exact .inl h
  | un u => cases e
  | ob k =>
    obtain ⟨a, ha, ev⟩ := h
    subst ev
    obtain ⟨m, hm⟩ := R.lt ha
    obtain ⟨om, _⟩ := R.ob k a m ha hm
    have e : (μ[k]?).bind Ob.data = some d := e
    rw [hm] at e
    cases m with
    | ls o ds =>
      cases e
      obtain ⟨n, vs, q, r⟩ := om
      exact .inr ⟨a, vs, ds, rfl, rfl, q, r⟩
    | fz ds =>
      cases e
      obtain ⟨vs, q, r⟩ := om
      exact .inr ⟨a, vs, ds, rfl, rfl, R.sub _ _ q, r⟩
    | dk o ds => cases e
    | dt o ds => cases e
theorem looks_ok (R : Rl K T C ρ μ σ H G α) : ∀ {rs : List RV} {vs : List V} {ds : List PD}, RvsOk K G α rs vs → looks μ rs = some ds → Vws K G H vs ds
  | _, _, _, .nil, e => by cases e; exact .nil
  | r :: rs, _, ds, .cons h t, e => by
    unfold looks at e
    cases h1 : look μ r with
    | none => rw [h1] at e; cases e
    | some d =>
      cases h2 : looks μ rs with
      | none => rw [h1, h2] at e; cases e
      | some ds' =>
        rw [h1, h2] at e
        cases e
        exact .cons (look_ok R h h1) (looks_ok R t h2)
theorem Vw.list (s : Same G H) {v : V} {ds : List PD} (h : Vw K G H v (.list ds)) : ∃ a vs, v = .ref a ∧ H a = some (.lst vs) ∧ Reps K G vs ds := by
  rcases h with h | ⟨a, vs, es, e1, e2, e3, e4⟩
  · cases h with
    | lst q r => exact ⟨_, _, rfl, s _ _ q, r⟩
  · cases e2
    exact ⟨a, vs, e1, e3, e4⟩
theorem Vw.tup (s : Same G H) {v : V} {ds : List PD} (h : Vw K G H v (.tuple ds)) : ∃ a vs, v = .ref a ∧ SqT K H a vs ∧ Reps K G vs ds := by
  rcases h with h | ⟨a, vs, es, e1, e2, e3, e4⟩
  · cases h with
    | tup q r => exact ⟨_, _, rfl, seqT_same s q, r⟩
  · cases e2
theorem Vw.int {v : V} {i : Int} (h : Vw K G H v (.int i)) : v = .int i := by
  rcases h with h | ⟨a, vs, es, e1, e2, e3, e4⟩
  · cases h; rfl
  · cases e2
theorem Vw.bl {v : V} {i : Bool} (h : Vw K G H v (.bool i)) : v = .bl i := by
  rcases h with h | ⟨a, vs, es, e1, e2, e3, e4⟩
  · cases h; rfl
  · cases e2
theorem Vw.str {v : V} {i : Str} (h : Vw K G H v (.str i)) : v = .str i := by
  rcases h with h | ⟨a, vs, es, e1, e2, e3, e4⟩
  · cases h; rfl
  · cases e2
theorem Vw.non {v : V} (h : Vw K G H v .none) : v = .non := by
  rcases h with h | ⟨a, vs, es, e1, e2, e3, e4⟩
  · cases h; rfl
  · cases e2
theorem Vws.one {vs : List V} {d : PD} (h : Vws K G H vs [d]) : ∃ v, vs = [v] ∧ Vw K G H v d := by
  cases h with
  | cons a t => cases t; exact ⟨_, rfl, a⟩
theorem Vws.two {vs : List V} {d e : PD} (h : Vws K G H vs [d, e]) : ∃ v w, vs = [v, w] ∧ Vw K G H v d ∧ Vw K G H w e := by
  cases h with
  | cons a t =>
    cases t with
    | cons b t => cases t; exact ⟨_, _, rfl, a, b⟩
end
/-! no dict within -/
mutual
def noDict : PD → Bool
  | .dict _ => false
  | .list ds => noDicts ds
  | .tuple ds => noDicts ds
  | _ => true
def noDicts : List PD → Bool
  | [] => true
  | d :: ds => noDict d && noDicts ds
end
mutual
theorem Rep.dp {K : PySem.W.Frag} {G H : Hp} (s : Same G H) : ∀ {v : V} {d : PD}, Rep K G v d → noDict d = true → Dp K H v d
  | _, _, .non, _ => .non
  | _, _, .bl b, _ => .bl b
  | _, _, .int i, _ => .int i
  | _, _, .str x, _ => .str x
  | _, _, .lst h r, n => .lst (.of (s _ _ h)) (Reps.dp s r n)
  | _, _, .scr h r, n => by cases n
  | _, _, .tup h r, n => .tup (seqT_same s h) (Reps.dp s r n)
  | _, _, .dic h, n => by cases n
theorem Reps.dp {K : PySem.W.Frag} {G H : Hp} (s : Same G H) : ∀ {vs : List V} {ds : List PD}, Reps K G vs ds → noDicts ds = true → DpAll K H vs ds
  | _, _, .nil, _ => .nil
  | _, _, .cons h t, n => by
    unfold noDicts at n
    rw [Bool.and_eq_true] at n
    exact .cons (Rep.dp s h n.1) (Reps.dp s t n.2)
end
theorem Vw.dp {K : PySem.W.Frag} {G H : Hp} (s : Same G H) {v : V} {d : PD} (h : Vw K G H v d) (n : noDict d = true) : Dp K H v d := by
  rcases h with h | ⟨a, vs, ds, rfl, rfl, q, r⟩
  · exact Rep.dp s h n
  · exact .lst (.of q) (Reps.dp s r n)
/-! ### what an operation gives -/
inductive Out where
  | val (d : PD)
  | nls (ds : List PD)
def OutPost (K : PySem.W.Frag) (H G : Hp) (Q : VK) : Option Out → Prop
  | some (.val d) => ∀ v H' G', Grow H G H' G' → Rep K G' v d → Q v H'
  | some (.nls ds) => ∀ p vs, H p = none → Reps K G vs ds → Q (.ref p) (upd H p (.lst vs))
  | none => False
def fin (o : Option Out) (μ : Mu) : Rs RV := match o with
  | some (.val d) => .ok (.dt d) μ
  | some (.nls ds) => .ok (.ob μ.length) (μ ++ [.ls true ds])
  | none => .no
section
variable {K : PySem.W.Frag} {mg : Str → Option Value} {W : WX} {T : Tb} {C : Ent} {ρ : Rho} {μ : Mu} {σ : L2.St} {H G : Hp} {α : List Addr}
theorem get_last {β : Type} (l : List β) (x : β) : (l ++ [x])[l.length]? = some x := by
  rw [List.getElem?_append_right (Nat.le_refl _), Nat.sub_self]
  rfl
theorem fin_post (R : Rl K T C ρ μ σ H G α) {o : Option Out} {Q : VK} (h : Post K mg T W C ρ σ G α (fun r _ H' G' α' => ∀ v, RvOk K G' α' r v → Q v H') (fin o μ)) : OutPost K H G Q o := by
  cases o with
  | none => exact h
  | some o =>
    cases o with
    | val d => exact fun v H' G' g r => h H' G' α (R.grow g) g.g (List.prefix_refl _) v r
    | nls ds =>
      intro p vs hp r
      have hs : Same H (upd H p (.lst vs)) := same_upd hp
      have hg : G p = none := R.sub.free hp
      refine h _ G (α ++ [p]) (R.alloc hp (m := .ls true ds) ⟨hg, vs, upd_same, r⟩ rfl) (Same.refl _) (List.prefix_append _ _) _ ⟨p, ?_, rfl⟩
      rw [← R.al]
      exact get_last α p
end
/-- a flat answer -/
theorem out_flat {K : PySem.W.Frag} {H G : Hp} {Q : VK} {v : V} {d : PD} (s : Same G H) (h : OutPost K H G Q (some (.val d))) (r : Rep K G v d) : Q v H := h v H G (Grow.refl s) r
/-- a new tuple -/
theorem out_tup {K : PySem.W.Frag} {H G : Hp} {Q : VK} {vs : List V} {ds : List PD} (s : Same G H) (h : OutPost K H G Q (some (.val (.tuple ds)))) (r : Reps K G vs ds) : ∀ p, H p = none → Q (.ref p) (upd H p (.tup vs)) := fun p hp => by
  have g := Grow.new (o := .tup vs) s hp
  exact h _ _ _ g (.tup (.of upd_same) (r.mono g.g))
theorem out_ls {K : PySem.W.Frag} {H G : Hp} {Q : VK} {vs : List V} {ds : List PD} (h : OutPost K H G Q (some (.nls ds))) (r : Reps K G vs ds) : ∀ p, H p = none → Q (.ref p) (upd H p (.lst vs)) := fun p hp => h p vs hp r
/-! ### operations by data -/
def Op2 (X : Cx) (f : Value → Value → Sem Value) (g : PD → PD → Option Out) : Prop :=
  ∃ r : R2, OpR X f r ∧ ∀ (G H : Hp) (x y : V) (dx dy : PD) (Q : VK), Same G H → Vw X.K G H x dx → Vw X.K G H y dy → OutPost X.K H G Q (g dx dy) → r x y H Q
def Ix2 (X : Cx) (g : PD → PD → Option Out) : Prop :=
  ∃ r : R2, IxR X r ∧ ∀ (G H : Hp) (x y : V) (dx dy : PD) (Q : VK), Same G H → Vw X.K G H x dx → Vw X.K G H y dy → OutPost X.K H G Q (g dx dy) → r x y H Q
def Un1 (X : Cx) (f : Value → Sem Value) (g : PD → Option Out) : Prop :=
  ∃ r, UnR X f r ∧ ∀ (G H : Hp) (x : V) (dx : PD) (Q : VK), Same G H → Vw X.K G H x dx → OutPost X.K H G Q (g dx) → r x H Q
def CallD (X : Cx) (f : Value) (g : List PD → Option Out) : Prop :=
  ∃ r, CallR X f r ∧ ∀ (G H : Hp) (xs : List V) (ds : List PD) (Q : VK), Same G H → Vws X.K G H xs ds → OutPost X.K H G Q (g ds) → r xs H Q
def MtD (X : Cx) (T id : String) (g : PD → List PD → Option Out) : Prop :=
  ∃ r, MtR X id r ∧ ∀ (G H : Hp) (x : V) (xs : List V) (dx : PD) (ds : List PD) (Q : VK), Same G H → Vw X.K G H x dx → Vws X.K G H xs ds → OutPost X.K H G Q (g dx ds) → r x xs H Q
/-! ### evaluators -/
def eC (d : PD) : EV := fun _ μ => .ok (.dt d) μ
def eV (i : Nat) : EV := fun ρ μ => match ρ[i]? with
  | some (some r) => .ok r μ
  | _ => .no
def eVfin (ρ : Rho) (i : Nat) : EV := eV i
def e2 (g : PD → PD → Option Out) (fa fb : EV) : EV := fun ρ μ => (fa ρ μ).bind fun a μ1 => (fb ρ μ1).bind fun b μ2 => match look μ2 a, look μ2 b with
  | some x, some y => fin (g x y) μ2
  | _, _ => .no
def e1 (g : PD → Option Out) (fa : EV) : EV := fun ρ μ => (fa ρ μ).bind fun a μ1 => match look μ1 a with
  | some x => fin (g x) μ1
  | _ => .no
def aN : AV := fun _ μ => .ok [] μ
def aC (fa : EV) (fs : AV) : AV := fun ρ μ => (fa ρ μ).bind fun a μ1 => (fs ρ μ1).bind fun as μ2 => .ok (a :: as) μ2
def eCall (g : List PD → Option Out) (fs : AV) : EV := fun ρ μ => (fs ρ μ).bind fun as μ1 => match looks μ1 as with
  | some ds => fin (g ds) μ1
  | none => .no
def eMt (g : PD → List PD → Option Out) (fo : EV) (fs : AV) : EV := fun ρ μ => (fo ρ μ).bind fun o μ1 => (fs ρ μ1).bind fun as μ2 => match look μ2 o, looks μ2 as with
  | some x, some ds => fin (g x ds) μ2
  | _, _ => .no
/-- let go: the list is data from now on -/
def frzAt (k : Nat) (μ : Mu) : Option Ob → Rs PD
  | some (.ls true ds) => .ok (.list ds) (μ.set k (.fz ds))
  | some (.fz ds) => .ok (.list ds) μ
  | _ => .no
def frz (r : RV) (μ : Mu) : Rs PD := match r with
  | .dt d => .ok d μ
  | .ob k => frzAt k μ μ[k]?
  | .un _ => .no
def frzs (rs : List RV) (μ : Mu) : Rs (List PD) := match rs with
  | [] => .ok [] μ
  | r :: rs => (frz r μ).bind fun d μ1 => (frzs rs μ1).bind fun ds μ2 => .ok (d :: ds) μ2
def line (n : Nat) : Bool := decide (n ≤ sizeLine)
def eTup (fs : AV) : EV := fun ρ μ => (fs ρ μ).bind fun as μ1 => (frzs as μ1).bind fun ds μ2 => if line ds.length then .ok (.dt (.tuple ds)) μ2 else .no
def eLst (fs : AV) : EV := fun ρ μ => (fs ρ μ).bind fun as μ1 => (frzs as μ1).bind fun ds μ2 => if line ds.length then .ok (.ob μ2.length) (μ2 ++ [.ls true ds]) else .no
/-- a value that is let go at once -/
def eF (fa : EV) : EV := fun ρ μ => (fa ρ μ).bind fun a μ1 => (frz a μ1).bind fun d μ2 => .ok (.dt d) μ2
section
variable {K : PySem.W.Frag} {mg : Str → Option Value} {W : WX} {T : Tb} {C : Ent} {ρ : Rho} {μ : Mu} {σ : L2.St} {H G : Hp} {α : List Addr}
theorem Rl.freeze (R : Rl K T C ρ μ σ H G α) {k : Nat} {a : Addr} {ds : List PD} {vs : List V} (ha : α[k]? = some a) (hm : μ[k]? = some (.ls true ds)) (hn : G a = none) (hl : H a = some (.lst vs)) (hr : Reps K G vs ds) :
    Rl K T C ρ (μ.set k (.fz ds)) σ H (upd G a (.lst vs)) α ∧ Same G (upd G a (.lst vs)) := by
  have hs : Same G (upd G a (.lst vs)) := same_upd hn
  have hk : k < μ.length := (List.getElem?_eq_some_iff.mp hm).1
  obtain ⟨_, hw, _⟩ := R.ob k a _ ha hm
  obtain ⟨_, hC⟩ := hw rfl
  refine ⟨⟨fun b x e => ?_, R.ext.trans hs, fun b x e hnt hb => ?_, R.tb, fun b ps e => R.gt b ps (upd_tbl (fun _ z => by cases z) e), by rw [List.length_set]; exact R.al, R.nd, R.pre, fun j b m h1 h2 => ?_, R.len, fun i r h => ?_⟩, hs⟩
  · by_cases hb : b = a
    · subst hb
      rw [upd_same] at e
      rw [hl, ← e]
    · rw [upd_ne hb] at e
      exact R.sub _ _ e
  · obtain ⟨h1, h2⟩ := R.fr b x e hnt hb
    refine ⟨h1, fun n => ?_⟩
    rw [upd_ne (fun z => by rw [z] at e; obtain ⟨ps, y⟩ := hC _ e; exact hnt ps y)]
    exact h2 n
  · by_cases hj : j = k
    · subst hj
      rw [List.getElem?_set_self hk] at h2
      cases h2
      rw [ha] at h1
      cases h1
      exact ⟨⟨vs, upd_same, hr.mono hs⟩, fun z => (nomatch z), fun z => (nomatch z)⟩
    · rw [List.getElem?_set_ne (Ne.symm hj)] at h2
      have hba : b ≠ a := fun e => hj (nodup_get R.nd h1 (e ▸ ha))
      obtain ⟨q, q2⟩ := R.ob j b m h1 h2
      refine ⟨?_, q2⟩
      cases m with
      | ls o es => obtain ⟨n, ws, e, r⟩ := q; exact ⟨by rw [upd_ne hba]; exact n, ws, e, r.mono hs⟩
      | dk o es => obtain ⟨n, ws, e, r⟩ := q; exact ⟨by rw [upd_ne hba]; exact n, ws, e, r.mono hs⟩
      | dt o es => obtain ⟨n, ws, e, r⟩ := q; exact ⟨by rw [upd_ne hba]; exact n, ws, e, r.mono hs⟩
      | fz es => obtain ⟨ws, e, r⟩ := q; exact ⟨ws, hs _ _ e, r.mono hs⟩
  · obtain ⟨v, h1, h2⟩ := R.sl i r h
    exact ⟨v, h1, h2.mono hs (List.prefix_refl _)⟩
/-- behind letting go: the heap is the same, the frozen part has grown -/
theorem frz_ok (R : Rl K T C ρ μ σ H G α) {r : RV} {v : V} (hv : RvOk K G α r v) {P : PD → Mu → Hp → Hp → List Addr → Prop} (h : Post K mg T W C ρ σ G α P (frz r μ)) :
    ∃ d μ' G', frz r μ = .ok d μ' ∧ Rl K T C ρ μ' σ H G' α ∧ Same G G' ∧ Rep K G' v d ∧ P d μ' H G' α := by
  cases r with
  | dt d => exact ⟨d, μ, G, rfl, R, Same.refl _, hv, h H G α R (Same.refl _) (List.prefix_refl _)⟩
  | un u => exact h.elim
  | ob k =>
    obtain ⟨a, ha, rfl⟩ := hv
    obtain ⟨m, hm⟩ := R.lt ha
    obtain ⟨om, _⟩ := R.ob k a m ha hm
    have e : frz (.ob k) μ = frzAt k μ (some m) := by
      rw [← hm]
      rfl
    rw [e] at h ⊢
    cases m with
    | dk o ds => exact h.elim
    | dt o ds => exact h.elim
    | fz ds =>
      obtain ⟨vs, q, r⟩ := om
      exact ⟨_, μ, G, rfl, R, Same.refl _, .lst q r, h H G α R (Same.refl _) (List.prefix_refl _)⟩
    | ls o ds =>
      cases o with
      | false => exact h.elim
      | true =>
        obtain ⟨n, vs, q, r⟩ := om
        obtain ⟨R', s⟩ := R.freeze ha hm n q r
        exact ⟨_, _, _, rfl, R', s, .lst upd_same (r.mono s), h _ _ _ R' s (List.prefix_refl _)⟩
theorem frzs_ok : ∀ {rs : List RV} {vs : List V} {μ : Mu} {G : Hp}, Rl K T C ρ μ σ H G α → RvsOk K G α rs vs → ∀ {P : List PD → Mu → Hp → Hp → List Addr → Prop}, Post K mg T W C ρ σ G α P (frzs rs μ) →
    ∃ ds μ' G', frzs rs μ = .ok ds μ' ∧ Rl K T C ρ μ' σ H G' α ∧ Same G G' ∧ Reps K G' vs ds ∧ P ds μ' H G' α
  | [], _, μ, G, R, .nil, P, h => ⟨[], μ, G, rfl, R, Same.refl _, .nil, h H G α R (Same.refl _) (List.prefix_refl _)⟩
  | r :: rs, _, μ, G, R, .cons hv ht, P, h => by
    obtain ⟨d, μ1, G1, e1, R1, s1, r1, _, _, _, h1⟩ := frz_ok R hv (Post.bind h)
    obtain ⟨ds, μ2, G2, e2, R2, s2, r2, _, _, _, h2⟩ := frzs_ok R1 (ht.mono s1 (List.prefix_refl _)) (Post.bind h1)
    refine ⟨d :: ds, μ2, G2, ?_, R2, s1.trans s2, .cons (r1.mono s2) r2, h2 H G2 α R2 (Same.refl _) (List.prefix_refl _)⟩
    show (frz r μ).bind _ = _
    rw [e1]
    show (frzs rs μ1).bind _ = _
    rw [e2]
    rfl
end
/-! ### expressions -/
section
variable {X : Cx} {T : Tb} {W : WX} {a b : Expr} {fa fb : EV} {pos : Pos}
theorem d_const {e : Expr} {v : V} {d : PD} (h : PE X e (tC v)) (r : ∀ G, Rep X.K G v d) : PE X e (tD X.K X.mg T W (eC d)) :=
  pe_imp h fun σ H Q ⟨C, ρ, μ, G, α, R, q⟩ => q H G α R (Same.refl _) (List.prefix_refl _) v (r G)
theorem d_int {i : Int} {j : Nat} : PE X (.Constant (.int i) j pos) (tD X.K X.mg T W (eC (.int i))) := d_const pe_int fun _ => .int i
theorem d_bl {i : Bool} {j : Nat} : PE X (.Constant (.bool i) j pos) (tD X.K X.mg T W (eC (.bool i))) := d_const pe_bl fun _ => .bl i
theorem d_non {j : Nat} : PE X (.Constant .none j pos) (tD X.K X.mg T W (eC .none)) := d_const pe_non fun _ => .non
theorem d_str {i : Str} {j : Nat} : PE X (.Constant (.str i) j pos) (tD X.K X.mg T W (eC (.str i))) := d_const pe_str fun _ => .str i
theorem d_name (i : Nat) {x : Str} (hN : X.N[i]? = some x := by rfl) (hv : Vis X.env.scope x := by first | exact Or.inl rfl | exact Or.inr (Or.inl rfl) | exact Or.inr (Or.inr rfl)) (hd : (x == ("__debug__" : Str)) = false := by decide)
    (hcd : (x == ("__classdict__" : Str)) = false := by decide) : PE X (.Name x pos) (tD X.K X.mg T W (eV i)) :=
  pe_imp (pe_var hN hv hd hcd) fun σ H Q ⟨C, ρ, μ, G, α, R, q⟩ => by
    cases e : ρ[i]? with
    | none => unfold eV at q; rw [e] at q; exact q.elim
    | some o =>
      cases o with
      | none => unfold eV at q; rw [e] at q; exact q.elim
      | some r =>
        unfold eV at q
        rw [e] at q
        obtain ⟨v, h1, h2⟩ := R.sl i r e
        exact ⟨v, h1, q H G α R (Same.refl _) (List.prefix_refl _) v h2⟩
/-- a module's constant -/
theorem d_glob {x : Str} {u : Value} {v : V} {d : PD} (hg : Gl X x) (hm : X.mg x = some u) (hr : RelV v u) (r : ∀ G, Rep X.K G v d) (hd : (x == ("__debug__" : Str)) = false := by decide) : PE X (.Name x pos) (tD X.K X.mg T W (eC d)) :=
  d_const ⟨fun pins s σ H Q I h => ld_glob I hg hm ⟨v, H, I, hr, h⟩ hd⟩ r
theorem d_op2 {op : Operator} {g : PD → PD → Option Out} (h : Op2 X (binaryOp op) g) (ha : PE X a (tD X.K X.mg T W fa)) (hb : PE X b (tD X.K X.mg T W fb)) : PE X (.BinOp a op b pos) (tD X.K X.mg T W (e2 g fa fb)) := by
  obtain ⟨r, hr, hg⟩ := h
  refine pe_imp (pe_op hr ha hb) fun σ H Q ⟨C, ρ, μ, G, α, R, q⟩ => ?_
  exact e2_read R q hg
where
  e2_read {K : PySem.W.Frag} {mg : Str → Option Value} {W : WX} {T : Tb} {C : Ent} {ρ : Rho} {μ : Mu} {σ : L2.St} {H G : Hp} {α : List Addr} {fa fb : EV} {g : PD → PD → Option Out} {r : R2} {Q : VK} (R : Rl K T C ρ μ σ H G α)
    (q : Post K mg T W C ρ σ G α (fun r _ H' G' α' => ∀ v, RvOk K G' α' r v → Q v H') (e2 g fa fb ρ μ))
    (hg : ∀ (G H : Hp) (x y : V) (dx dy : PD) (Q : VK), Same G H → Vw K G H x dx → Vw K G H y dy → OutPost K H G Q (g dx dy) → r x y H Q) :
    tOp r (tD K mg T W fa) (tD K mg T W fb) σ H Q := by
    refine ⟨C, ρ, μ, G, α, R, (Post.bind q).mono fun ra μ1 H1 G1 α1 _ _ _ h1 va hva => ?_⟩
    obtain ⟨R1, s1, p1, q1⟩ := h1
    refine ⟨C, ρ, μ1, G1, α1, R1, (Post.bind q1).mono fun rb μ2 H2 G2 α2 _ _ _ h2 vb hvb => ?_⟩
    obtain ⟨R2, s2, p2, q2⟩ := h2
    cases ea : look μ2 ra with
    | none => rw [ea] at q2; exact q2.elim
    | some da =>
      cases eb : look μ2 rb with
      | none => rw [ea, eb] at q2; exact q2.elim
      | some db =>
        rw [ea, eb] at q2
        exact hg G2 H2 va vb da db Q R2.sub (look_ok R2 (hva.mono s2 p2) ea) (look_ok R2 hvb eb) (fin_post R2 q2)
theorem d_cmp {op : CmpOp} {g : PD → PD → Option Out} (h : Op2 X (compareOp op) g) (ha : PE X a (tD X.K X.mg T W fa)) (hb : PE X b (tD X.K X.mg T W fb)) (hm : behindInMarks op b = false) : PE X (.Compare a [op] [b] pos) (tD X.K X.mg T W (e2 g fa fb)) := by
  obtain ⟨r, hr, hg⟩ := h
  refine pe_imp (pe_cmpR hr ha hb hm) fun σ H Q ⟨C, ρ, μ, G, α, R, q⟩ => ?_
  exact d_op2.e2_read R q hg
theorem d_ix {g : PD → PD → Option Out} (h : Ix2 X g) (ha : PE X a (tD X.K X.mg T W fa)) (hb : PE X b (tD X.K X.mg T W fb)) (hs : PlainIx b) : PE X (.Subscript a b pos) (tD X.K X.mg T W (e2 g fa fb)) := by
  obtain ⟨r, hr, hg⟩ := h
  refine pe_imp (pe_ix hr ha hb hs) fun σ H Q ⟨C, ρ, μ, G, α, R, q⟩ => ?_
  exact d_op2.e2_read R q hg
theorem d_un {op : UnaryOp} {g : PD → Option Out} (h : Un1 X (unaryOp op) g) (ha : PE X a (tD X.K X.mg T W fa)) : PE X (.UnaryOp op a pos) (tD X.K X.mg T W (e1 g fa)) := by
  obtain ⟨r, hr, hg⟩ := h
  refine pe_imp (pe_un hr ha) fun σ H Q ⟨C, ρ, μ, G, α, R, q⟩ => ?_
  refine ⟨C, ρ, μ, G, α, R, (Post.bind q).mono fun ra μ1 H1 G1 α1 _ _ _ h1 va hva => ?_⟩
  obtain ⟨R1, s1, p1, q1⟩ := h1
  cases ea : look μ1 ra with
  | none => rw [ea] at q1; exact q1.elim
  | some da =>
    rw [ea] at q1
    exact hg G1 H1 va da Q R1.sub (look_ok R1 hva ea) (fin_post R1 q1)
theorem d_nil : PA X [] (tDA X.K X.mg T W aN) := pa_imp pa_nil fun σ H Q ⟨C, ρ, μ, G, α, R, q⟩ => q H G α R (Same.refl _) (List.prefix_refl _) [] .nil
theorem d_cons {es : List Expr} {fs : AV} (ha : PE X a (tD X.K X.mg T W fa)) (hr : PA X es (tDA X.K X.mg T W fs)) (hs : starEach (a :: es) X.env = (false, eval a X.env) :: starEach es X.env := by rfl) : PA X (a :: es) (tDA X.K X.mg T W (aC fa fs)) := by
  refine pa_imp (pa_cons ha hr hs) fun σ H Q ⟨C, ρ, μ, G, α, R, q⟩ => ?_
  refine ⟨C, ρ, μ, G, α, R, (Post.bind q).mono fun ra μ1 H1 G1 α1 _ _ _ h1 va hva => ?_⟩
  obtain ⟨R1, s1, p1, q1⟩ := h1
  refine ⟨C, ρ, μ1, G1, α1, R1, (Post.bind q1).mono fun rb μ2 H2 G2 α2 _ _ _ h2 vb hvb => ?_⟩
  obtain ⟨R2, s2, p2, q2⟩ := h2
  exact q2 H2 G2 α2 R2 (Same.refl _) (List.prefix_refl _) _ (.cons (hva.mono s2 p2) hvb)
theorem d_tup {es : List Expr} {fs : AV} {k : Nat} (h : PA X es (tDA X.K X.mg T W fs)) : PE X (.Tuple es k pos) (tD X.K X.mg T W (eTup fs)) := by
  refine pe_imp (pe_tup h) fun σ H Q ⟨C, ρ, μ, G, α, R, q⟩ => ?_
  refine ⟨C, ρ, μ, G, α, R, (Post.bind q).mono fun rs μ1 H1 G1 α1 _ _ _ h1 vs hvs => ?_⟩
  obtain ⟨R1, s1, p1, q1⟩ := h1
  obtain ⟨ds, μ2, G2, e, R2, s2, r2, _, _, _, q2⟩ := frzs_ok R1 hvs (Post.bind q1)
  have q2 := q2
  by_cases hl : line ds.length = true
  · rw [if_pos hl] at q2
    refine ⟨by rw [r2.length]; exact of_decide_eq_true hl, fun p hp => ?_⟩
    have g := Grow.new (o := .tup vs) R2.sub hp
    exact q2 _ _ α1 (R2.grow g) g.g (List.prefix_refl _) _ (.tup (.of upd_same) (r2.mono g.g))
  · rw [if_neg hl] at q2
    exact q2.elim
theorem d_lst {es : List Expr} {fs : AV} (h : PA X es (tDA X.K X.mg T W fs)) : PE X (.List es pos) (tD X.K X.mg T W (eLst fs)) := by
  refine pe_imp (pe_lst h) fun σ H Q ⟨C, ρ, μ, G, α, R, q⟩ => ?_
  refine ⟨C, ρ, μ, G, α, R, (Post.bind q).mono fun rs μ1 H1 G1 α1 _ _ _ h1 vs hvs => ?_⟩
  obtain ⟨R1, s1, p1, q1⟩ := h1
  obtain ⟨ds, μ2, G2, e, R2, s2, r2, _, _, _, q2⟩ := frzs_ok R1 hvs (Post.bind q1)
  have q2 := q2
  by_cases hl : line ds.length = true
  · rw [if_pos hl] at q2
    refine ⟨by rw [r2.length]; exact of_decide_eq_true hl, fun p hp => ?_⟩
    exact (out_ls (ds := ds) (fin_post (mg := X.mg) (W := W) R2 (o := some (.nls ds)) q2) r2 p hp)
  · rw [if_neg hl] at q2
    exact q2.elim
def tCBx (r : List V → Hp → VK → Prop) (t : TA) : TE := fun σ H Q => t σ H fun vs H1 => r vs H1 Q
theorem call_read {K : PySem.W.Frag} {mg : Str → Option Value} {T : Tb} {C : Ent} {ρ : Rho} {μ : Mu} {σ : L2.St} {H G : Hp} {α : List Addr} {fs : AV} {g : List PD → Option Out} {r : List V → Hp → VK → Prop} {Q : VK} (R : Rl K T C ρ μ σ H G α)
    (q : Post K mg T W C ρ σ G α (fun r _ H' G' α' => ∀ v, RvOk K G' α' r v → Q v H') (eCall g fs ρ μ))
    (hg : ∀ (G H : Hp) (xs : List V) (ds : List PD) (Q : VK), Same G H → Vws K G H xs ds → OutPost K H G Q (g ds) → r xs H Q) : tCB r (tDA K mg T W fs) σ H Q := by
  refine ⟨C, ρ, μ, G, α, R, (Post.bind q).mono fun rs μ1 H1 G1 α1 _ _ _ h1 vs hvs => ?_⟩
  obtain ⟨R1, s1, p1, q1⟩ := h1
  cases ea : looks μ1 rs with
  | none => rw [ea] at q1; exact q1.elim
  | some ds =>
    rw [ea] at q1
    exact hg G1 H1 vs ds Q R1.sub (looks_ok R1 hvs ea) (fin_post R1 q1)
theorem d_callB {x : Str} {id : String} {p : Pos} {es : List Expr} {fs : AV} {g : List PD → Option Out} (hc : CallD X (.builtin id) g) (hg : Gl X x) (hm : X.mg x = none) (hv : bootBuiltins x = some (.builtin id)) (ha : PA X (a :: es) (tDA X.K X.mg T W fs)) (hn : x ≠ "__name__" := by decide) (hdb : (x == ("__debug__" : Str)) = false := by decide)
    (he : starEach (a :: es) X.env = (false, eval a X.env) :: starEach es X.env := by rfl) (hpl : (backTo pos (starEach es X.env)).any (·.1) = false := by rfl) : PE X (.Call (.Name x p) (a :: es) [] pos) (tD X.K X.mg T W (eCall g fs)) := by
  obtain ⟨r, hr, h⟩ := hc
  exact pe_imp (pe_callB hr hg hm hv ha hn hdb he hpl) fun σ H Q ⟨C, ρ, μ, G, α, R, q⟩ => call_read R q h
theorem d_callTy {x : Str} {TY : String} {p : Pos} {es : List Expr} {fs : AV} {g : List PD → Option Out} (hc : CallD X (.type TY) g) (hg : Gl X x) (hm : X.mg x = none) (hv : bootBuiltins x = some (.type TY)) (ha : PA X (a :: es) (tDA X.K X.mg T W fs)) (hn : x ≠ "__name__" := by decide) (hdb : (x == ("__debug__" : Str)) = false := by decide)
    (he : starEach (a :: es) X.env = (false, eval a X.env) :: starEach es X.env := by rfl) (hpl : (backTo pos (starEach es X.env)).any (·.1) = false := by rfl) : PE X (.Call (.Name x p) (a :: es) [] pos) (tD X.K X.mg T W (eCall g fs)) := by
  obtain ⟨r, hr, h⟩ := hc
  exact pe_imp (pe_callTy hr hg hm hv ha hn hdb he hpl) fun σ H Q ⟨C, ρ, μ, G, α, R, q⟩ => call_read R q h
/-- let go at once -/
theorem d_frz (ha : PE X a (tD X.K X.mg T W fa)) : PE X a (tD X.K X.mg T W (eF fa)) :=
  pe_imp ha fun σ H Q ⟨C, ρ, μ, G, α, R, q⟩ => by
    refine ⟨C, ρ, μ, G, α, R, (Post.bind q).mono fun ra μ1 H1 G1 α1 _ _ _ h1 va hva => ?_⟩
    obtain ⟨R1, s1, p1, q1⟩ := h1
    obtain ⟨d, μ2, G2, e, R2, s2, r2, _, _, _, q2⟩ := frz_ok R1 hva (Post.bind q1)
    exact q2 H1 G2 α1 R2 (Same.refl _) (List.prefix_refl _) va r2
end
end DL
/-! The data layer, third part: tests, isinstance, slices, methods, lists changed. -/
namespace DL
open PySem PySem.Spec PyProof.Rows L2
/-! ### tests -/
def boolOf : Option PD → Option Bool
  | some (.bool b) => some b
  | _ => none
def tOf (f : EV) : TV := fun ρ μ => (f ρ μ).bind fun r μ1 => match boolOf (look μ1 r) with
  | some b => .ok b μ1
  | none => .no
def tAndD (f g : TV) : TV := fun ρ μ => (f ρ μ).bind fun c μ1 => if c = true then g ρ μ1 else .ok false μ1
def tOrD (f g : TV) : TV := fun ρ μ => (f ρ μ).bind fun c μ1 => if c = true then .ok true μ1 else g ρ μ1
def tNotD (f : TV) : TV := fun ρ μ => (f ρ μ).bind fun c μ1 => .ok (!c) μ1
def eIf (t : TV) (f g : EV) : EV := fun ρ μ => (t ρ μ).bind fun c μ1 => if c = true then f ρ μ1 else g ρ μ1
def eOfT (t : TV) : EV := fun ρ μ => (t ρ μ).bind fun c μ1 => .ok (.dt (.bool c)) μ1
def eAnd (f g : EV) : EV := fun ρ μ => (f ρ μ).bind fun r μ1 => match boolOf (look μ1 r) with
  | some true => g ρ μ1
  | some false => .ok (.dt (.bool false)) μ1
  | none => .no
def eOr (f g : EV) : EV := fun ρ μ => (f ρ μ).bind fun r μ1 => match boolOf (look μ1 r) with
  | some false => g ρ μ1
  | some true => .ok (.dt (.bool true)) μ1
  | none => .no
def eNot (f : EV) : EV := fun ρ μ => (f ρ μ).bind fun r μ1 => match boolOf (look μ1 r) with
  | some b => .ok (.dt (.bool (!b))) μ1
  | none => .no
section
variable {K : PySem.W.Frag} {mg : Str → Option Value} {W : WX} {T : Tb} {C : Ent} {ρ : Rho} {μ : Mu} {σ : L2.St} {H G : Hp} {α : List Addr}
theorem bool_ok (R : Rl K T C ρ μ σ H G α) {r : RV} {v : V} {b : Bool} (h : RvOk K G α r v) (e : boolOf (look μ r) = some b) : v = .bl b := by
  cases q : look μ r with
  | none => rw [q] at e; cases e
  | some d =>
    rw [q] at e
    cases d with
    | bool c => cases e; exact (look_ok R h q).bl
    | none => cases e
    | int i => cases e
    | str i => cases e
    | list i => cases e
    | tuple i => cases e
    | dict i => cases e
theorem tOf_read {f : EV} {Q : Bool → Hp → Prop} (R : Rl K T C ρ μ σ H G α) (q : Post K mg T W C ρ σ G α (fun b _ H' _ _ => Q b H') (tOf f ρ μ)) : tD K mg T W f σ H fun x H1 => ∃ c, x = .bl c ∧ Q c H1 := by
  refine ⟨C, ρ, μ, G, α, R, (Post.bind q).mono fun ra μ1 H1 G1 α1 _ _ _ h1 va hva => ?_⟩
  obtain ⟨R1, s1, p1, q1⟩ := h1
  cases e : boolOf (look μ1 ra) with
  | none => rw [e] at q1; exact q1.elim
  | some b =>
    rw [e] at q1
    exact ⟨b, bool_ok R1 hva e, q1 H1 G1 α1 R1 (Same.refl _) (List.prefix_refl _)⟩
end
section
variable {X : Cx} {T : Tb} {W : WX} {a b c e : Expr} {fa fb fc : EV} {tf tg : TV} {pos : Pos} {rest : List Expr}
/-- a call, a name .. as a test -/
theorem d_tval (h : PE X e (tD X.K X.mg T W fa)) (he : ∀ whole, isTrue e X.env whole = (do let v ← whole; standAt e.pos; holding [v] (truthy v)) := by intro _; rfl) : PT X e (tDT X.K X.mg T W (tOf fa)) :=
  pt_imp (pt_val h he) fun σ H Q ⟨C, ρ, μ, G, α, R, q⟩ => tOf_read R q
theorem d_tcmp {op : CmpOp} {g : PD → PD → Option Out} (h : Op2 X (compareOp op) g) (ha : PE X a (tD X.K X.mg T W fa)) (hb : PE X b (tD X.K X.mg T W fb)) (hm : behindInMarks op b = false) : PT X (.Compare a [op] [b] pos) (tDT X.K X.mg T W (tOf (e2 g fa fb))) := by
  obtain ⟨r, hr, hg⟩ := h
  refine pt_imp (pt_cmpR hr ha hb hm) fun σ H Q ⟨C, ρ, μ, G, α, R, q⟩ => ?_
  obtain ⟨C', ρ', μ', G', α', R', q'⟩ := tOf_read R q
  exact d_op2.e2_read R' q' hg
def eChain (g g' : PD → PD → Option Out) (fa fb fc : EV) : EV := fun ρ μ => (fa ρ μ).bind fun ra μ1 => (fb ρ μ1).bind fun rb μ2 => match look μ2 ra, look μ2 rb with
  | some x, some y => match g x y with
    | some (.val (.bool true)) => (fc ρ μ2).bind fun rc μ3 => match look μ3 rb, look μ3 rc with
      | some y', some z => fin (g' y' z) μ3
      | _, _ => .no
    | some (.val (.bool false)) => .ok (.dt (.bool false)) μ2
    | _ => .no
  | _, _ => .no
theorem chain_read {K : PySem.W.Frag} {mg : Str → Option Value} {T : Tb} {C : Ent} {ρ : Rho} {μ : Mu} {σ : L2.St} {H G : Hp} {α : List Addr} {g g' : PD → PD → Option Out} {r r' : R2} {Q : VK} (R : Rl K T C ρ μ σ H G α)
    (q : Post K mg T W C ρ σ G α (fun r _ H' G' α' => ∀ v, RvOk K G' α' r v → Q v H') (eChain g g' fa fb fc ρ μ))
    (hg : ∀ (G H : Hp) (x y : V) (dx dy : PD) (Q : VK), Same G H → Vw K G H x dx → Vw K G H y dy → OutPost K H G Q (g dx dy) → r x y H Q)
    (hg' : ∀ (G H : Hp) (x y : V) (dx dy : PD) (Q : VK), Same G H → Vw K G H x dx → Vw K G H y dy → OutPost K H G Q (g' dx dy) → r' x y H Q) :
    tChain r r' (tD K mg T W fa) (tD K mg T W fb) (tD K mg T W fc) σ H Q := by
  refine ⟨C, ρ, μ, G, α, R, (Post.bind q).mono fun ra μ1 H1 G1 α1 _ _ _ h1 va hva => ?_⟩
  obtain ⟨R1, s1, p1, q1⟩ := h1
  refine ⟨C, ρ, μ1, G1, α1, R1, (Post.bind q1).mono fun rb μ2 H2 G2 α2 _ _ _ h2 vb hvb => ?_⟩
  obtain ⟨R2, s2, p2, q2⟩ := h2
  cases ea : look μ2 ra with
  | none => rw [ea] at q2; exact q2.elim
  | some da =>
    cases eb : look μ2 rb with
    | none => rw [ea, eb] at q2; exact q2.elim
    | some db =>
      rw [ea, eb] at q2
      refine hg G2 H2 va vb da db _ R2.sub (look_ok R2 (hva.mono s2 p2) ea) (look_ok R2 hvb eb) ?_
      have q2 : Post K mg T W C ρ σ G2 α2 _ (match g da db with
        | some (.val (.bool true)) => (fc ρ μ2).bind fun rc μ3 => match look μ3 rb, look μ3 rc with
          | some y', some z => fin (g' y' z) μ3
          | _, _ => .no
        | some (.val (.bool false)) => .ok (.dt (.bool false)) μ2
        | _ => .no) := q2
      cases eg : g da db with
      | none => rw [eg] at q2; exact q2.elim
      | some o =>
        rw [eg] at q2
        cases o with
        | nls ds => exact q2.elim
        | val d =>
          cases d with
          | bool k =>
            intro v H' G' gr hv
            cases hv
            refine ⟨k, rfl, ?_⟩
            have R3 := R2.grow gr
            cases k with
            | false =>
              rw [if_neg Bool.false_ne_true]
              exact q2 H' G' α2 R3 gr.g (List.prefix_refl _) _ (.bl false)
            | true =>
              rw [if_pos rfl]
              have q2' := (Post.bind q2).base gr.g (List.prefix_refl _)
              refine ⟨C, ρ, μ2, G', α2, R3, q2'.mono fun rc μ3 H3 G3 α3 _ _ _ h3 vc hvc => ?_⟩
              obtain ⟨R4, s4, p4, q4⟩ := h3
              cases ey : look μ3 rb with
              | none => rw [ey] at q4; exact q4.elim
              | some dy =>
                cases ez : look μ3 rc with
                | none => rw [ey, ez] at q4; exact q4.elim
                | some dz =>
                  rw [ey, ez] at q4
                  exact hg' G3 H3 vb vc dy dz Q R4.sub (look_ok R4 (hvb.mono s4 p4) ey) (look_ok R4 hvc ez) (fin_post R4 q4)
          | none => exact q2.elim
          | int i => exact q2.elim
          | str i => exact q2.elim
          | list i => exact q2.elim
          | tuple i => exact q2.elim
          | dict i => exact q2.elim
theorem d_chain {op op' : CmpOp} {g g' : PD → PD → Option Out} (h : Op2 X (compareOp op) g) (h' : Op2 X (compareOp op') g') (ha : PE X a (tD X.K X.mg T W fa)) (hb : PE X b (tD X.K X.mg T W fb)) (hc : PE X c (tD X.K X.mg T W fc))
    (hm : lastMarks [op, op'] [b, c] = false := by with_unfolding_all rfl) : PE X (.Compare a [op, op'] [b, c] pos) (tD X.K X.mg T W (eChain g g' fa fb fc)) := by
  obtain ⟨r, hr, hg⟩ := h
  obtain ⟨r', hr', hg'⟩ := h'
  exact pe_imp (pe_chain hr hr' ha hb hc hm) fun σ H Q ⟨C, ρ, μ, G, α, R, q⟩ => chain_read R q hg hg'
theorem d_tchain {op op' : CmpOp} {g g' : PD → PD → Option Out} (h : Op2 X (compareOp op) g) (h' : Op2 X (compareOp op') g') (ha : PE X a (tD X.K X.mg T W fa)) (hb : PE X b (tD X.K X.mg T W fb)) (hc : PE X c (tD X.K X.mg T W fc))
    (hm : lastMarks [op, op'] [b, c] = false := by with_unfolding_all rfl) : PT X (.Compare a [op, op'] [b, c] pos) (tDT X.K X.mg T W (tOf (eChain g g' fa fb fc))) := by
  obtain ⟨r, hr, hg⟩ := h
  obtain ⟨r', hr', hg'⟩ := h'
  refine pt_imp (pt_chain hr hr' ha hb hc hm) fun σ H Q ⟨C, ρ, μ, G, α, R, q⟩ => ?_
  obtain ⟨C', ρ', μ', G', α', R', q'⟩ := tOf_read R q
  exact chain_read R' q' hg hg'
theorem d_and1 (ha : PT X a (tDT X.K X.mg T W tf)) : PW X (.BoolOp .And [a] pos) (tDT X.K X.mg T W tf) := pw_and1 ha
theorem d_or1 (ha : PT X a (tDT X.K X.mg T W tf)) : PW X (.BoolOp .Or [a] pos) (tDT X.K X.mg T W tf) := pw_or1 ha
theorem d_andW (ha : PT X a (tDT X.K X.mg T W tf)) (hb : PW X (.BoolOp .And (b :: rest) pos) (tDT X.K X.mg T W tg)) : PW X (.BoolOp .And (a :: b :: rest) pos) (tDT X.K X.mg T W (tAndD tf tg)) :=
  pw_imp (pw_and ha hb) fun σ H Q ⟨C, ρ, μ, G, α, R, q⟩ => by
    refine ⟨C, ρ, μ, G, α, R, (Post.bind q).mono fun k μ1 H1 G1 α1 _ _ _ h1 => ?_⟩
    obtain ⟨R1, s1, p1, q1⟩ := h1
    cases k with
    | true => rw [if_pos rfl] at q1 ⊢; exact ⟨C, ρ, μ1, G1, α1, R1, q1⟩
    | false => rw [if_neg Bool.false_ne_true] at q1 ⊢; exact q1 H1 G1 α1 R1 (Same.refl _) (List.prefix_refl _)
theorem d_orW (ha : PT X a (tDT X.K X.mg T W tf)) (hb : PW X (.BoolOp .Or (b :: rest) pos) (tDT X.K X.mg T W tg)) : PW X (.BoolOp .Or (a :: b :: rest) pos) (tDT X.K X.mg T W (tOrD tf tg)) :=
  pw_imp (pw_or ha hb) fun σ H Q ⟨C, ρ, μ, G, α, R, q⟩ => by
    refine ⟨C, ρ, μ, G, α, R, (Post.bind q).mono fun k μ1 H1 G1 α1 _ _ _ h1 => ?_⟩
    obtain ⟨R1, s1, p1, q1⟩ := h1
    cases k with
    | false => rw [if_neg Bool.false_ne_true] at q1 ⊢; exact ⟨C, ρ, μ1, G1, α1, R1, q1⟩
    | true => rw [if_pos rfl] at q1 ⊢; exact q1 H1 G1 α1 R1 (Same.refl _) (List.prefix_refl _)
theorem d_tnot (ha : PT X a (tDT X.K X.mg T W tf)) : PT X (.UnaryOp .Not a pos) (tDT X.K X.mg T W (tNotD tf)) :=
  pt_imp (pt_not ha) fun σ H Q ⟨C, ρ, μ, G, α, R, q⟩ => by
    refine ⟨C, ρ, μ, G, α, R, (Post.bind q).mono fun k μ1 H1 G1 α1 _ _ _ h1 => ?_⟩
    obtain ⟨R1, s1, p1, q1⟩ := h1
    exact q1 H1 G1 α1 R1 (Same.refl _) (List.prefix_refl _)
theorem d_and (ha : PE X a (tD X.K X.mg T W fa)) (hb : PE X (.BoolOp .And (b :: rest) pos) (tD X.K X.mg T W fb)) : PE X (.BoolOp .And (a :: b :: rest) pos) (tD X.K X.mg T W (eAnd fa fb)) :=
  pe_imp (pe_and ha hb) fun σ H Q ⟨C, ρ, μ, G, α, R, q⟩ => by
    refine ⟨C, ρ, μ, G, α, R, (Post.bind q).mono fun ra μ1 H1 G1 α1 _ _ _ h1 va hva => ?_⟩
    obtain ⟨R1, s1, p1, q1⟩ := h1
    cases e : boolOf (look μ1 ra) with
    | none => rw [e] at q1; exact q1.elim
    | some k =>
      rw [e] at q1
      refine ⟨k, bool_ok R1 hva e, ?_⟩
      cases k with
      | true => rw [if_pos rfl]; exact ⟨C, ρ, μ1, G1, α1, R1, q1⟩
      | false => rw [if_neg Bool.false_ne_true]; exact q1 H1 G1 α1 R1 (Same.refl _) (List.prefix_refl _) _ (.bl false)
theorem d_or (ha : PE X a (tD X.K X.mg T W fa)) (hb : PE X (.BoolOp .Or (b :: rest) pos) (tD X.K X.mg T W fb)) : PE X (.BoolOp .Or (a :: b :: rest) pos) (tD X.K X.mg T W (eOr fa fb)) :=
  pe_imp (pe_or ha hb) fun σ H Q ⟨C, ρ, μ, G, α, R, q⟩ => by
    refine ⟨C, ρ, μ, G, α, R, (Post.bind q).mono fun ra μ1 H1 G1 α1 _ _ _ h1 va hva => ?_⟩
    obtain ⟨R1, s1, p1, q1⟩ := h1
    cases e : boolOf (look μ1 ra) with
    | none => rw [e] at q1; exact q1.elim
    | some k =>
      rw [e] at q1
      refine ⟨k, bool_ok R1 hva e, ?_⟩
      cases k with
      | false => rw [if_neg Bool.false_ne_true]; exact ⟨C, ρ, μ1, G1, α1, R1, q1⟩
      | true => rw [if_pos rfl]; exact q1 H1 G1 α1 R1 (Same.refl _) (List.prefix_refl _) _ (.bl true)
theorem d_one {op : BoolOp} (ha : PE X a (tD X.K X.mg T W fa)) : PE X (.BoolOp op [a] pos) (tD X.K X.mg T W fa) := pe_one ha
theorem d_not (ha : PE X a (tD X.K X.mg T W fa)) : PE X (.UnaryOp .Not a pos) (tD X.K X.mg T W (eNot fa)) :=
  pe_imp (pe_not ha) fun σ H Q ⟨C, ρ, μ, G, α, R, q⟩ => by
    refine ⟨C, ρ, μ, G, α, R, (Post.bind q).mono fun ra μ1 H1 G1 α1 _ _ _ h1 va hva => ?_⟩
    obtain ⟨R1, s1, p1, q1⟩ := h1
    cases e : boolOf (look μ1 ra) with
    | none => rw [e] at q1; exact q1.elim
    | some k =>
      rw [e] at q1
      exact ⟨k, bool_ok R1 hva e, q1 H1 G1 α1 R1 (Same.refl _) (List.prefix_refl _) _ (.bl _)⟩
theorem d_ifExp (hc : PT X c (tDT X.K X.mg T W tf)) (ha : PE X a (tD X.K X.mg T W fa)) (hb : PE X b (tD X.K X.mg T W fb)) : PE X (.IfExp c a b pos) (tD X.K X.mg T W (eIf tf fa fb)) :=
  pe_imp (pe_ifExp hc ha hb) fun σ H Q ⟨C, ρ, μ, G, α, R, q⟩ => by
    refine ⟨C, ρ, μ, G, α, R, (Post.bind q).mono fun k μ1 H1 G1 α1 _ _ _ h1 => ?_⟩
    obtain ⟨R1, s1, p1, q1⟩ := h1
    cases k with
    | true => rw [if_pos rfl] at q1 ⊢; exact ⟨C, ρ, μ1, G1, α1, R1, q1⟩
    | false => rw [if_neg Bool.false_ne_true] at q1 ⊢; exact ⟨C, ρ, μ1, G1, α1, R1, q1⟩
end
/-! ### kinds -/
inductive Ty where
  | non | bl | int | str | lst | tup | dic
  deriving DecidableEq
def Ty.nm : Ty → String
  | .non => "NoneType"
  | .bl => "bool"
  | .int => "int"
  | .str => "str"
  | .lst => "list"
  | .tup => "tuple"
  | .dic => "dict"
def tyOf : PD → Ty
  | .none => .non
  | .bool _ => .bl
  | .int _ => .int
  | .str _ => .str
  | .list _ => .lst
  | .tuple _ => .tup
  | .dict _ => .dic
def isTy (a b : Ty) : Bool := decide (a = b) || (decide (a = .bl) && decide (b = .int))
theorem kit_tab (a b : Ty) (h : b ≠ .non) : kitB a.nm b.nm = some (isTy a b) := by
  cases b with
  | non => exact absurd rfl h
  | _ => cases a <;> decide +kernel
/-- the script, walked only by a slice -/
def isScr : PD → Bool
  | .dict (_ :: _) => true
  | _ => false
theorem Vw.ty {K : PySem.W.Frag} {G H : Hp} (s : Same G H) {v : V} {d : PD} (h : Vw K G H v d) (hn : isScr d = false) : TyX K H v (.type (tyOf d).nm) := by
  have hl : ∀ {a : Addr} {vs : List V}, SqL K H a vs → TyX K H (.ref a) (.type "list") := fun {a vs} q => by
    rcases q with (q | ⟨o, q⟩) | ⟨o, its, n, q1, q2, _⟩
    · exact .base (.lst q)
    · exact .base (.frz q)
    · exact .kList q1 q2
  have ht : ∀ {a : Addr} {vs : List V}, SqT K H a vs → TyX K H (.ref a) (.type "tuple") := fun {a vs} q => by
    rcases q with (q | ⟨o, q⟩) | ⟨o, its, n, q1, q2, _⟩
    · exact .base (.tup q)
    · exact .fTuple q
    · exact .kTuple q1 q2
  rcases h with h | ⟨a, vs, ds, rfl, rfl, q, r⟩
  · cases h with
    | non => exact .base .non
    | bl b => exact .base (.bl b)
    | int i => exact .base (.int i)
    | str x => exact .base (.str x)
    | lst q r => exact hl (.of (s _ _ q))
    | scr q r => cases hn
    | tup q r => exact ht (seqT_same s q)
    | dic q => exact .base (.dK (s _ _ q))
  · exact hl (.of q)
def isiD (t : Ty) (d : PD) : Option Out := if t = .non ∨ isScr d = true then none else some (.val (.bool (isTy (tyOf d) t)))
def isiDs (ts : List Ty) (d : PD) : Option Out := if Ty.non ∈ ts ∨ isScr d = true then none else some (.val (.bool (ts.any (isTy (tyOf d)))))
section
variable {X : Cx} {T : Tb} {W : WX} {a : Expr} {fa : EV} {pos : Pos}
theorem d_isi {t : Ty} {x : Str} {p p2 : Pos} (ha : PE X a (tD X.K X.mg T W fa)) (hg : Gl X "isinstance") (hm : X.mg "isinstance" = none) (hgx : Gl X x) (hmx : X.mg x = none) (hvx : bootBuiltins x = some (.type t.nm)) (hn : x ≠ "__name__" := by decide) (hd : (x == ("__debug__" : Str)) = false := by decide)
    (hs : starEach [a, .Name x p2] X.env = (false, eval a X.env) :: starEach [.Name x p2] X.env := by rfl) (hs2 : starEach [.Name x p2] X.env = (false, eval (.Name x p2) X.env) :: starEach [] X.env := by rfl) (hpl : (backTo pos (starEach [.Name x p2] X.env)).any (·.1) = false := by rfl)
    (hv : bootBuiltins "isinstance" = some (.builtin "isinstance") := by decide +kernel) : PE X (.Call (.Name "isinstance" p) [a, .Name x p2] [] pos) (tD X.K X.mg T W (e1 (isiD t) fa)) := by
  refine pe_imp (pe_callB call_isi hg hm hv (pa_cons ha (pa_cons (pe_bltn (v := .ty t.nm) hgx hmx hvx rfl hn hd) pa_nil hs2) hs) (by decide) (by decide) hs hpl) fun σ H Q ⟨C, ρ, μ, G, α, R, q⟩ => ?_
  refine ⟨C, ρ, μ, G, α, R, (Post.bind q).mono fun ra μ1 H1 G1 α1 _ _ _ h1 va hva => ?_⟩
  obtain ⟨R1, s1, p1, q1⟩ := h1
  cases e : look μ1 ra with
  | none => rw [e] at q1; exact q1.elim
  | some d =>
    rw [e] at q1
    have q1 : Post X.K X.mg T W C ρ σ G1 α1 _ (fin (isiD t d) μ1) := q1
    unfold isiD at q1
    by_cases ht : t = .non ∨ isScr d = true
    · rw [if_pos ht] at q1
      exact q1.elim
    · rw [if_neg ht] at q1
      exact ⟨va, .ty t.nm, _, _, _, rfl, .ty _, (look_ok R1 hva e).ty R1.sub (Bool.eq_false_iff.mpr fun z => ht (.inr z)), kit_ty (kit_tab _ _ fun z => ht (.inl z)), q1 H1 G1 α1 R1 (Same.refl _) (List.prefix_refl _) _ (.bl _)⟩
theorem kits {K : PySem.W.Frag} (a : Ty) : ∀ ts : List Ty, Ty.non ∉ ts → PySem.W.kitAny K (.type a.nm) (ts.map fun t => Value.type t.nm) = some (ts.any (isTy a))
  | [], _ => kitAny_nil
  | t :: ts, h => by
    have h1 : t ≠ .non := fun e => h (by rw [e]; exact List.mem_cons_self)
    have h2 : Ty.non ∉ ts := fun e => h (List.mem_cons_of_mem _ e)
    refine kitAny_cons (kit_ty (kit_tab a t h1)) (fun e => ?_) fun e => ?_
    · rw [kits a ts h2, List.any_cons, e]
      rfl
    · rw [List.any_cons, e]
      rfl
/-- isinstance(e, (T1, T2)) -/
theorem d_isi2 {t1 t2 : Ty} {x1 x2 : Str} {p p1 p2 p3 : Pos} {kk : Nat} (ha : PE X a (tD X.K X.mg T W fa)) (hg : Gl X "isinstance") (hm : X.mg "isinstance" = none) (hg1 : Gl X x1) (hm1 : X.mg x1 = none) (hv1 : bootBuiltins x1 = some (.type t1.nm)) (hg2 : Gl X x2) (hm2 : X.mg x2 = none) (hv2 : bootBuiltins x2 = some (.type t2.nm))
    (hn1 : x1 ≠ "__name__" := by decide) (hd1 : (x1 == ("__debug__" : Str)) = false := by decide) (hn2 : x2 ≠ "__name__" := by decide) (hd2 : (x2 == ("__debug__" : Str)) = false := by decide)
    (hs : starEach [a, .Tuple [.Name x1 p1, .Name x2 p2] kk p3] X.env = (false, eval a X.env) :: starEach [.Tuple [.Name x1 p1, .Name x2 p2] kk p3] X.env := by rfl) (hs2 : starEach [.Tuple [.Name x1 p1, .Name x2 p2] kk p3] X.env = (false, eval (.Tuple [.Name x1 p1, .Name x2 p2] kk p3) X.env) :: starEach [] X.env := by rfl)
    (hs3 : starEach [.Name x1 p1, .Name x2 p2] X.env = (false, eval (.Name x1 p1) X.env) :: starEach [.Name x2 p2] X.env := by rfl) (hs4 : starEach [.Name x2 p2] X.env = (false, eval (.Name x2 p2) X.env) :: starEach [] X.env := by rfl)
    (hpl : (backTo pos (starEach [.Tuple [.Name x1 p1, .Name x2 p2] kk p3] X.env)).any (·.1) = false := by rfl)
    (hv : bootBuiltins "isinstance" = some (.builtin "isinstance") := by decide +kernel) : PE X (.Call (.Name "isinstance" p) [a, .Tuple [.Name x1 p1, .Name x2 p2] kk p3] [] pos) (tD X.K X.mg T W (e1 (isiDs [t1, t2]) fa)) := by
  refine pe_imp (pe_callB call_isiT hg hm hv (pa_cons ha (pa_cons (pe_tup (pa_cons (pe_bltn (v := .ty t1.nm) hg1 hm1 hv1 rfl hn1 hd1) (pa_cons (pe_bltn (v := .ty t2.nm) hg2 hm2 hv2 rfl hn2 hd2) pa_nil hs4) hs3)) pa_nil hs2) hs) (by decide) (by decide) hs hpl) fun σ H Q ⟨C, ρ, μ, G, α, R, q⟩ => ?_
  refine ⟨C, ρ, μ, G, α, R, (Post.bind q).mono fun ra μ1 H1 G1 α1 _ _ _ h1 va hva => ?_⟩
  obtain ⟨R1, s1, p1, q1⟩ := h1
  cases e : look μ1 ra with
  | none => rw [e] at q1; exact q1.elim
  | some d =>
    rw [e] at q1
    have q1 : Post X.K X.mg T W C ρ σ G1 α1 _ (fin (isiDs [t1, t2] d) μ1) := q1
    unfold isiDs at q1
    by_cases ht : Ty.non ∈ [t1, t2] ∨ isScr d = true
    · rw [if_pos ht] at q1
      exact q1.elim
    · rw [if_neg ht] at q1
      refine ⟨by show 2 ≤ sizeLine; decide, fun tp hp => ?_⟩
      have hs : Same H1 (upd H1 tp (.tup [.ty t1.nm, .ty t2.nm])) := same_upd hp
      have g : Grow H1 G1 (upd H1 tp (.tup [.ty t1.nm, .ty t2.nm])) G1 := ⟨hs, Same.refl _, R1.sub.trans hs, fun _ _ _ n => n, fun _ _ e => e⟩
      have R2 := R1.grow g
      exact ⟨va, tp, _, _, _, _, rfl, upd_same, .cons (.ty _) (.cons (.ty _) .nil), (look_ok R2 hva e).ty R2.sub (Bool.eq_false_iff.mpr fun z => ht (.inr z)), kits _ _ fun z => ht (.inl z), q1 _ G1 α1 R2 (Same.refl _) (List.prefix_refl _) _ (.bl _)⟩
end
/-! ### slices -/
def oE (fo : Option EV) : Rho → Mu → Rs (Option Int) := fun ρ μ => match fo with
  | none => .ok none μ
  | some f => (f ρ μ).bind fun r μ1 => match r with
    | .dt (.int i) => .ok (some i) μ1
    | _ => .no
def tDO (K : PySem.W.Frag) (mg : Str → Option Value) (T : Tb) (W : WX) (fo : Option EV) : TO := fun σ H Q => ∃ C ρ μ G α, Rl K T C ρ μ σ H G α ∧ Post K mg T W C ρ σ G α (fun o _ H' _ _ => Q o H') (oE fo ρ μ)
def eSl (g : PD → Option Int → Option Int → Option Out) (fa : EV) (lo hi : Option EV) : EV := fun ρ μ => (fa ρ μ).bind fun ra μ1 => (oE lo ρ μ1).bind fun l μ2 => (oE hi ρ μ2).bind fun u μ3 => match look μ3 ra with
  | some x => fin (g x l u) μ3
  | none => .no
def Sl2 (X : Cx) (g : PD → Option Int → Option Int → Option Out) : Prop :=
  ∃ r, SlR X r ∧ ∀ (G H : Hp) (x : V) (dx : PD) (lo hi : Option Int) (Q : VK), Same G H → Vw X.K G H x dx → OutPost X.K H G Q (g dx lo hi) → r x lo hi H Q
section
variable {X : Cx} {T : Tb} {W : WX} {a e : Expr} {fa f : EV} {pos p2 : Pos} {lo hi : Option Expr} {flo fhi : Option EV}
theorem po_imp {e : Option Expr} {t t' : TO} (h : PO X e t) (i : ∀ σ H Q, t' σ H Q → t σ H Q) : PO X e t' := ⟨fun pins s σ H Q I q => h.run pins s σ H Q I (i σ H Q q)⟩
theorem d_po0 : PO X none (tDO X.K X.mg T W none) := po_imp po_none fun σ H Q ⟨C, ρ, μ, G, α, R, q⟩ => q H G α R (Same.refl _) (List.prefix_refl _)
theorem d_po1 (h : PE X e (tD X.K X.mg T W f)) : PO X (some e) (tDO X.K X.mg T W (some f)) := po_imp (po_some h) fun σ H Q ⟨C, ρ, μ, G, α, R, q⟩ => by
  refine ⟨C, ρ, μ, G, α, R, (Post.bind q).mono fun ra μ1 H1 G1 α1 _ _ _ h1 va hva => ?_⟩
  obtain ⟨R1, s1, p1, q1⟩ := h1
  cases ra with
  | ob k => exact q1.elim
  | un u => exact q1.elim
  | dt d =>
    cases d with
    | int i =>
      cases hva
      exact ⟨i, rfl, q1 H1 G1 α1 R1 (Same.refl _) (List.prefix_refl _)⟩
    | _ => exact q1.elim
theorem d_slice {g : PD → Option Int → Option Int → Option Out} (h : Sl2 X g) (he : PE X a (tD X.K X.mg T W fa)) (hl : PO X lo (tDO X.K X.mg T W flo)) (hu : PO X hi (tDO X.K X.mg T W fhi)) : PE X (.Subscript a (.Slice lo hi none p2) pos) (tD X.K X.mg T W (eSl g fa flo fhi)) := by
  obtain ⟨r, hr, hg⟩ := h
  refine pe_imp (pe_slice hr he hl hu) fun σ H Q ⟨C, ρ, μ, G, α, R, q⟩ => ?_
  refine ⟨C, ρ, μ, G, α, R, (Post.bind q).mono fun ra μ1 H1 G1 α1 _ _ _ h1 va hva => ?_⟩
  obtain ⟨R1, s1, p1, q1⟩ := h1
  refine ⟨C, ρ, μ1, G1, α1, R1, (Post.bind q1).mono fun l μ2 H2 G2 α2 _ _ _ h2 => ?_⟩
  obtain ⟨R2, s2, p2, q2⟩ := h2
  refine ⟨C, ρ, μ2, G2, α2, R2, (Post.bind q2).mono fun u μ3 H3 G3 α3 _ _ _ h3 => ?_⟩
  obtain ⟨R3, s3, p3, q3⟩ := h3
  cases e : look μ3 ra with
  | none => rw [e] at q3; exact q3.elim
  | some d =>
    rw [e] at q3
    exact hg G3 H3 va d l u Q R3.sub (look_ok R3 ((hva.mono s2 p2).mono s3 p3) e) (fin_post R3 q3)
/-! ### methods -/
/-- the receiver's kind is looked at ahead of the arguments -/
def eMtT (t : Ty) (g : PD → List PD → Option Out) (fo : EV) (fs : AV) : EV := fun ρ μ => (fo ρ μ).bind fun o μ1 => if (look μ1 o).map tyOf = some t then (fs ρ μ1).bind fun as μ2 => match look μ2 o, looks μ2 as with
  | some x, some ds => fin (g x ds) μ2
  | _, _ => .no
  else .no
theorem scr_of {d : PD} (h : tyOf d ≠ .dic) : isScr d = false := by
  cases d with
  | dict l => exact absurd rfl h
  | _ => rfl
theorem Vw.tyV {K : PySem.W.Frag} {G H : Hp} (s : Same G H) {v : V} {d : PD} (h : Vw K G H v d) (ht : tyOf d ≠ .tup) (hb : tyOf d ≠ .bl) (hn : tyOf d ≠ .non) (hsc : isScr d = false) : L2.tyV K (tyOf d).nm v H := by
  rcases h with h | ⟨a, vs, ds, rfl, rfl, q, r⟩
  · cases h with
    | non => exact absurd rfl hn
    | bl b => exact absurd rfl hb
    | int i => exact rfl
    | str x => exact rfl
    | lst q r => exact .inl ⟨rfl, _, .of (s _ _ q)⟩
    | scr q r => exact absurd hsc (by simp [isScr])
    | tup q r => exact absurd rfl ht
    | dic q => exact .inr (.inr (.inl ⟨rfl, .inl ⟨_, s _ _ q⟩⟩))
  · exact .inl ⟨rfl, _, .of q⟩
theorem mt_read {K : PySem.W.Frag} {mg : Str → Option Value} {T : Tb} {C : Ent} {ρ : Rho} {μ : Mu} {σ : L2.St} {H G : Hp} {α : List Addr} {fo : EV} {fs : AV} {t : Ty} {g : PD → List PD → Option Out} {r : V → List V → Hp → VK → Prop} {Q : VK} (R : Rl K T C ρ μ σ H G α) (ht : t = .str ∨ t = .lst)
    (q : Post K mg T W C ρ σ G α (fun r _ H' G' α' => ∀ v, RvOk K G' α' r v → Q v H') (eMtT t g fo fs ρ μ))
    (hg : ∀ (G H : Hp) (x : V) (xs : List V) (dx : PD) (ds : List PD) (Q : VK), Same G H → Vw K G H x dx → Vws K G H xs ds → OutPost K H G Q (g dx ds) → r x xs H Q) : tBM K t.nm r (tD K mg T W fo) (tDA K mg T W fs) σ H Q := by
  refine ⟨C, ρ, μ, G, α, R, (Post.bind q).mono fun ro μ1 H1 G1 α1 _ _ _ h1 vo hvo => ?_⟩
  obtain ⟨R1, s1, p1, q1⟩ := h1
  by_cases hk : (look μ1 ro).map tyOf = some t
  · have q1 : Post K mg T W C ρ σ G1 α1 _ (if (look μ1 ro).map tyOf = some t then (fs ρ μ1).bind fun as μ2 => match look μ2 ro, looks μ2 as with
      | some x, some ds => fin (g x ds) μ2
      | _, _ => .no
      else .no) := q1
    rw [if_pos hk] at q1
    cases eo : look μ1 ro with
    | none => rw [eo] at hk; cases hk
    | some d1 =>
      rw [eo] at hk
      have ek : tyOf d1 = t := Option.some.inj hk
      have vw := look_ok R1 hvo eo
      refine ⟨?_, C, ρ, μ1, G1, α1, R1, (Post.bind q1).mono fun as μ2 H2 G2 α2 _ _ _ h2 vs hvs => ?_⟩
      · rw [← ek]
        rcases ht with ht | ht
        · exact vw.tyV R1.sub (by rw [ek, ht]; decide) (by rw [ek, ht]; decide) (by rw [ek, ht]; decide) (scr_of (by rw [ek, ht]; decide))
        · exact vw.tyV R1.sub (by rw [ek, ht]; decide) (by rw [ek, ht]; decide) (by rw [ek, ht]; decide) (scr_of (by rw [ek, ht]; decide))
      · obtain ⟨R2, s2, p2, q2⟩ := h2
        cases ex : look μ2 ro with
        | none => rw [ex] at q2; exact q2.elim
        | some x =>
          cases ea : looks μ2 as with
          | none => rw [ex, ea] at q2; exact q2.elim
          | some ds =>
            rw [ex, ea] at q2
            exact hg G2 H2 vo vs x ds Q R2.sub (look_ok R2 (hvo.mono s2 p2) ex) (looks_ok R2 hvs ea) (fin_post R2 q2)
  · have q1 : Post K mg T W C ρ σ G1 α1 _ (if (look μ1 ro).map tyOf = some t then (fs ρ μ1).bind fun as μ2 => match look μ2 ro, looks μ2 as with
      | some x, some ds => fin (g x ds) μ2
      | _, _ => .no
      else .no) := q1
    rw [if_neg hk] at q1
    exact q1.elim
theorem d_mt {t : Ty} {id : String} {g : PD → List PD → Option Out} {name : Str} {apos cpos : Pos} {o : Expr} {es : List Expr} {fo : EV} {fs : AV} (ht : t = .str ∨ t = .lst) (pa : PlainAttrs t.nm) (slot : Slot t.nm name id) (hty : typeOf (.builtin id) = pure (.type "method_descriptor")) (hm : MtD X t.nm id g)
    (ho : PE X o (tD X.K X.mg T W fo)) (ha : PA X (e :: es) (tDA X.K X.mg T W fs)) (hbase : attributeBase o name X.env (eval o X.env) = eval o X.env := by rfl)
    (hfew : ((backTo cpos (starEach (e :: es) X.env)).all (fun x => !x.1) && (backToKw cpos (keywordEach [] X.env)).all (fun x => x.1.isSome)
      && decide ((e :: es).length + ([] : List Keyword).length + (if ([] : List Keyword).isEmpty then 0 else 1) < 30)) = true := by rfl)
    (hline : (apos.endLine == cpos.line) = true := by rfl) (hs : starEach (e :: es) X.env = (false, eval e X.env) :: starEach es X.env := by rfl) (hplain : (backTo cpos (starEach es X.env)).any (·.1) = false := by rfl) :
    PE X (.Call (.Attribute o name apos) (e :: es) [] cpos) (tD X.K X.mg T W (eMtT t g fo fs)) := by
  obtain ⟨r, hr, hg⟩ := hm
  exact pe_imp (pe_bm pa slot hty hr ho ha hbase hfew hline hs hplain) fun σ H Q ⟨C, ρ, μ, G, α, R, q⟩ => mt_read R ht q hg
def eMtT0 (t : Ty) (g : PD → List PD → Option Out) (fo : EV) : EV := fun ρ μ => (fo ρ μ).bind fun o μ1 => match look μ1 o with
  | some x => if tyOf x = t then fin (g x []) μ1 else .no
  | none => .no
theorem d_mt0 {t : Ty} {id : String} {g : PD → List PD → Option Out} {name : Str} {apos cpos : Pos} {o : Expr} {fo : EV} (ht : t = .str ∨ t = .lst) (pa : PlainAttrs t.nm) (slot : Slot t.nm name id) (hty : typeOf (.builtin id) = pure (.type "method_descriptor")) (hm : MtD X t.nm id g)
    (ho : PE X o (tD X.K X.mg T W fo)) (hbase : attributeBase o name X.env (eval o X.env) = eval o X.env := by rfl) (hline : (apos.endLine == cpos.line) = true := by rfl) :
    PE X (.Call (.Attribute o name apos) [] [] cpos) (tD X.K X.mg T W (eMtT0 t g fo)) := by
  obtain ⟨r, hr, hg⟩ := hm
  refine pe_imp (pe_bm0 pa slot hty hr ho hbase hline) fun σ H Q ⟨C, ρ, μ, G, α, R, q⟩ => ?_
  refine ⟨C, ρ, μ, G, α, R, (Post.bind q).mono fun ro μ1 H1 G1 α1 _ _ _ h1 vo hvo => ?_⟩
  obtain ⟨R1, s1, p1, q1⟩ := h1
  cases eo : look μ1 ro with
  | none => rw [eo] at q1; exact q1.elim
  | some x =>
    rw [eo] at q1
    have q1 : Post X.K X.mg T W C ρ σ G1 α1 _ (if tyOf x = t then fin (g x []) μ1 else .no) := q1
    by_cases ek : tyOf x = t
    · rw [if_pos ek] at q1
      have vw := look_ok R1 hvo eo
      refine ⟨?_, hg G1 H1 vo [] x [] Q R1.sub vw .nil (fin_post R1 q1)⟩
      rw [← ek]
      rcases ht with ht | ht
      · exact vw.tyV R1.sub (by rw [ek, ht]; decide) (by rw [ek, ht]; decide) (by rw [ek, ht]; decide) (scr_of (by rw [ek, ht]; decide))
      · exact vw.tyV R1.sub (by rw [ek, ht]; decide) (by rw [ek, ht]; decide) (by rw [ek, ht]; decide) (scr_of (by rw [ek, ht]; decide))
    · rw [if_neg ek] at q1
      exact q1.elim
end
/-! ### a list of the frame's is changed by a method -/
/-- what a method makes of the list's items and the arguments: the answer, the items behind -/
def MutD (X : Cx) (id : String) (g : List PD → List PD → Option (PD × List PD)) : Prop :=
  ∃ r, MtR X id r ∧ ∀ (G H : Hp) (p : Addr) (vs as : List V) (ds es : List PD) (Q : VK), Same G H → G p = none → H p = some (.lst vs) → Reps X.K G vs ds → Reps X.K G as es →
    (match g ds es with
      | some (d, ds') => ∀ v vs', Rep X.K G v d → Reps X.K G vs' ds' → Q v (upd H p (.lst vs'))
      | none => False) → r (.ref p) as H Q
def obAt (μ : Mu) : RV → Option (Nat × Bool × List PD)
  | .ob k => match μ[k]? with
    | some (.ls o ds) => some (k, o, ds)
    | _ => none
  | _ => none
/-- the arguments are let go -/
def mutFin (g : List PD → List PD → Option (PD × List PD)) (o : RV) (es : List PD) (μ : Mu) : Rs RV := match obAt μ o with
  | some (k, w, ds) => match g ds es with
    | some (d, ds') => .ok (.dt d) (μ.set k (.ls w ds'))
    | none => .no
  | none => .no
def eMut (g : List PD → List PD → Option (PD × List PD)) (fo : EV) (fs : AV) : EV := fun ρ μ => (fo ρ μ).bind fun o μ1 => match obAt μ1 o with
  | some _ => (fs ρ μ1).bind fun as μ2 => (frzs as μ2).bind fun es μ3 => mutFin g o es μ3
  | none => .no
def eMut0 (g : List PD → List PD → Option (PD × List PD)) (fo : EV) : EV := fun ρ μ => (fo ρ μ).bind fun o μ1 => mutFin g o [] μ1
section
variable {K : PySem.W.Frag} {mg : Str → Option Value} {W : WX} {T : Tb} {C : Ent} {ρ : Rho} {μ : Mu} {σ : L2.St} {H G : Hp} {α : List Addr}
theorem obAt_ok (R : Rl K T C ρ μ σ H G α) {r : RV} {v : V} {k : Nat} {w : Bool} {ds : List PD} (h : RvOk K G α r v) (e : obAt μ r = some (k, w, ds)) :
    r = .ob k ∧ μ[k]? = some (.ls w ds) ∧ ∃ a vs, α[k]? = some a ∧ v = .ref a ∧ G a = none ∧ H a = some (.lst vs) ∧ Reps K G vs ds := by
  cases r with
  | dt d => cases e
  | un u => cases e
  | ob j =>
    obtain ⟨a, ha, rfl⟩ := h
    unfold obAt at e
    cases hm : μ[j]? with
    | none => simp only [hm] at e; cases e
    | some m =>
      simp only [hm] at e
      cases m with
      | ls o es =>
        cases e
        obtain ⟨om, _⟩ := R.ob _ _ _ ha hm
        obtain ⟨n, vs, q, r⟩ := om
        exact ⟨rfl, hm, a, vs, ha, rfl, n, q, r⟩
      | dk o es => cases e
      | dt o es => cases e
      | fz es => cases e
theorem Vws_of {G H : Hp} : ∀ {vs : List V} {ds : List PD}, Reps K G vs ds → Vws K G H vs ds
  | _, _, .nil => .nil
  | _, _, .cons h t => .cons (.inl h) (Vws_of t)
theorem mutFin_read {g : List PD → List PD → Option (PD × List PD)} {o : RV} {es : List PD} {v : V} {as : List V} {r : V → List V → Hp → VK → Prop} {Q : VK} (R : Rl K T C ρ μ σ H G α) (hv : RvOk K G α o v) (ha : Reps K G as es)
    (hg : ∀ (G H : Hp) (p : Addr) (vs as : List V) (ds es : List PD) (Q : VK), Same G H → G p = none → H p = some (.lst vs) → Reps K G vs ds → Reps K G as es →
      (match g ds es with
        | some (d, ds') => ∀ v vs', Rep K G v d → Reps K G vs' ds' → Q v (upd H p (.lst vs'))
        | none => False) → r (.ref p) as H Q)
    (q : Post K mg T W C ρ σ G α (fun r _ H' G' α' => ∀ v, RvOk K G' α' r v → Q v H') (mutFin g o es μ)) : r v as H Q := by
  unfold mutFin at q
  cases e : obAt μ o with
  | none => rw [e] at q; exact q.elim
  | some z =>
    obtain ⟨k, w, ds⟩ := z
    rw [e] at q
    obtain ⟨rfl, hm, a, vs, hk, rfl, n, hl, hr⟩ := obAt_ok R hv e
    refine hg G H a vs as ds es Q R.sub n hl hr ha ?_
    cases eg : g ds es with
    | none => simp only [eg] at q; exact q.elim
    | some z =>
      obtain ⟨d, ds'⟩ := z
      simp only [eg] at q
      intro u vs' hu hvs'
      exact q _ G α (R.write hk hm n rfl ⟨n, vs', upd_same, hvs'⟩) (Same.refl _) (List.prefix_refl _) u hu
end
section
variable {X : Cx} {T : Tb} {W : WX} {e : Expr}
theorem d_mut {id : String} {g : List PD → List PD → Option (PD × List PD)} {name : Str} {apos cpos : Pos} {o : Expr} {es : List Expr} {fo : EV} {fs : AV} (slot : Slot "list" name id) (hty : typeOf (.builtin id) = pure (.type "method_descriptor")) (hm : MutD X id g)
    (ho : PE X o (tD X.K X.mg T W fo)) (ha : PA X (e :: es) (tDA X.K X.mg T W fs)) (hbase : attributeBase o name X.env (eval o X.env) = eval o X.env := by rfl)
    (hfew : ((backTo cpos (starEach (e :: es) X.env)).all (fun x => !x.1) && (backToKw cpos (keywordEach [] X.env)).all (fun x => x.1.isSome)
      && decide ((e :: es).length + ([] : List Keyword).length + (if ([] : List Keyword).isEmpty then 0 else 1) < 30)) = true := by rfl)
    (hline : (apos.endLine == cpos.line) = true := by rfl) (hs : starEach (e :: es) X.env = (false, eval e X.env) :: starEach es X.env := by rfl) (hplain : (backTo cpos (starEach es X.env)).any (·.1) = false := by rfl) :
    PE X (.Call (.Attribute o name apos) (e :: es) [] cpos) (tD X.K X.mg T W (eMut g fo fs)) := by
  obtain ⟨r, hr, hg⟩ := hm
  refine pe_imp (pe_bm PySem.F.plainAttrs_list slot hty hr ho ha hbase hfew hline hs hplain) fun σ H Q ⟨C, ρ, μ, G, α, R, q⟩ => ?_
  refine ⟨C, ρ, μ, G, α, R, (Post.bind q).mono fun ro μ1 H1 G1 α1 _ _ _ h1 vo hvo => ?_⟩
  obtain ⟨R1, s1, p1, q1⟩ := h1
  cases e1 : obAt μ1 ro with
  | none => simp only [e1] at q1; exact q1.elim
  | some z =>
    simp only [e1] at q1
    obtain ⟨k, w, ds⟩ := z
    obtain ⟨er, hm1, a, vs, hk, ev, n, hl, hr1⟩ := obAt_ok R1 hvo e1
    refine ⟨by rw [ev]; exact .inl ⟨rfl, _, .of hl⟩, C, ρ, μ1, G1, α1, R1, (Post.bind q1).mono fun as μ2 H2 G2 α2 _ _ _ h2 us hus => ?_⟩
    obtain ⟨R2, s2, p2, q2⟩ := h2
    obtain ⟨es', μ3, G3, e3, R3, s3, r3, _, _, _, q3⟩ := frzs_ok R2 hus (Post.bind q2)
    exact mutFin_read R3 ((hvo.mono s2 p2).mono s3 (List.prefix_refl _)) r3 hg q3
theorem d_mut0 {id : String} {g : List PD → List PD → Option (PD × List PD)} {name : Str} {apos cpos : Pos} {o : Expr} {fo : EV} (slot : Slot "list" name id) (hty : typeOf (.builtin id) = pure (.type "method_descriptor")) (hm : MutD X id g)
    (ho : PE X o (tD X.K X.mg T W fo)) (hbase : attributeBase o name X.env (eval o X.env) = eval o X.env := by rfl) (hline : (apos.endLine == cpos.line) = true := by rfl) :
    PE X (.Call (.Attribute o name apos) [] [] cpos) (tD X.K X.mg T W (eMut0 g fo)) := by
  obtain ⟨r, hr, hg⟩ := hm
  refine pe_imp (pe_bm0 PySem.F.plainAttrs_list slot hty hr ho hbase hline) fun σ H Q ⟨C, ρ, μ, G, α, R, q⟩ => ?_
  refine ⟨C, ρ, μ, G, α, R, (Post.bind q).mono fun ro μ1 H1 G1 α1 _ _ _ h1 vo hvo => ?_⟩
  obtain ⟨R1, s1, p1, q1⟩ := h1
  have q1' := q1
  unfold mutFin at q1'
  cases e1 : obAt μ1 ro with
  | none => rw [e1] at q1'; exact q1'.elim
  | some z =>
    obtain ⟨k, w, ds⟩ := z
    obtain ⟨er, hm1, a, vs, hk, ev, n, hl, hr1⟩ := obAt_ok R1 hvo e1
    exact ⟨by rw [ev]; exact .inl ⟨rfl, _, .of hl⟩, mutFin_read R1 hvo .nil hg q1⟩
end
end DL
/-! The data layer, fourth part: statements, loops, comprehensions. -/
namespace DL
open PySem PySem.Spec PyProof.Rows L2
inductive So where
  | nx (ρ : Rho) (μ : Mu)
  | rt (r : RV) (μ : Mu)
  | bk (ρ : Rho) (μ : Mu)
  | ct (ρ : Rho) (μ : Mu)
  | er (e : Ex) (ρ : Rho) (μ : Mu)
  | no
abbrev SV := Rho → Mu → So
def SPost (K : PySem.W.Frag) (mg : Str → Option Value) (T : Tb) (W : WX) (C : Ent) (D : Ends) (G : Hp) : So → Prop
  | .nx ρ' μ' => ∀ σ' H' G' α', Rl K T C ρ' μ' σ' H' G' α' → Same G G' → D.nx σ' H'
  | .rt r μ' => ∀ ρ' σ' H' G' α' v, Rl K T C ρ' μ' σ' H' G' α' → Same G G' → RvOk K G' α' r v → D.rt v H'
  | .bk ρ' μ' => ∀ σ' H' G' α', Rl K T C ρ' μ' σ' H' G' α' → Same G G' → D.bk σ' H'
  | .ct ρ' μ' => ∀ σ' H' G' α', Rl K T C ρ' μ' σ' H' G' α' → Same G G' → D.ct σ' H'
  | .er e ρ' μ' => ∀ cls d σ' H' G' α', Rl K T C ρ' μ' σ' H' G' α' → Same G G' → ExOk mg e cls d H' → W cls d σ' H'
  | .no => False
def tDS (K : PySem.W.Frag) (mg : Str → Option Value) (T : Tb) (W : WX) (g : SV) : TS := fun D σ H => ∃ C ρ μ G α, Rl K T C ρ μ σ H G α ∧ SPost K mg T W C D G (g ρ μ)
/-- behind an expression -/
def Rs.st {β : Type} (x : Rs β) (ρ : Rho) (k : β → Mu → So) : So := match x with
  | .ok b μ => k b μ
  | .er e μ => .er e ρ μ
  | .no => .no
section
variable {β : Type} {K : PySem.W.Frag} {mg : Str → Option Value} {W : WX} {T : Tb} {C : Ent} {ρ : Rho} {μ : Mu} {σ : L2.St} {H G G1 : Hp} {α : List Addr} {D : Ends}
theorem SPost.base {x : So} (h : SPost K mg T W C D G x) (s : Same G G1) : SPost K mg T W C D G1 x := by
  cases x with
  | nx ρ μ => exact fun σ' H' G' α' R s' => h σ' H' G' α' R (s.trans s')
  | rt r μ => exact fun ρ' σ' H' G' α' v R s' => h ρ' σ' H' G' α' v R (s.trans s')
  | bk ρ μ => exact fun σ' H' G' α' R s' => h σ' H' G' α' R (s.trans s')
  | ct ρ μ => exact fun σ' H' G' α' R s' => h σ' H' G' α' R (s.trans s')
  | er e ρ μ => exact fun cls d σ' H' G' α' R s' => h cls d σ' H' G' α' R (s.trans s')
  | no => exact h
theorem Rs.post {x : Rs β} {k : β → Mu → So} (h : SPost K mg T W C D G (x.st ρ k)) :
    Post K mg T W C ρ σ G α (fun b μ1 H1 G1 α1 => Rl K T C ρ μ1 σ H1 G1 α1 ∧ Same G G1 ∧ SPost K mg T W C D G1 (k b μ1)) x := by
  cases x with
  | ok b μ => exact fun H' G' α' R s p => ⟨R, s, SPost.base (x := k b μ) h s⟩
  | er e μ => exact fun cls d H' G' α' R s p ex => h cls d σ H' G' α' R s ex
  | no => exact h
theorem Rl.set (R : Rl K T C ρ μ σ H G α) {i : Nat} {r : RV} {v : V} (h : RvOk K G α r v) : Rl K T C (ρ.set i (some r)) μ (σ.set i (some v)) H G α where
  sub := R.sub
  ext := R.ext
  fr := R.fr
  tb := R.tb
  gt := R.gt
  al := R.al
  nd := R.nd
  pre := R.pre
  ob := R.ob
  len := by rw [List.length_set, List.length_set]; exact R.len
  sl := fun j s e => by
    by_cases hj : i = j
    · subst hj
      by_cases hi : i < ρ.length
      · rw [List.getElem?_set_self hi] at e
        cases e
        exact ⟨v, List.getElem?_set_self (by rw [← R.len]; exact hi), h⟩
      · rw [List.getElem?_eq_none (by rw [List.length_set]; omega)] at e
        cases e
    · rw [List.getElem?_set_ne hj] at e ⊢
      exact R.sl j s e
/-- other names over the same objects -/
theorem Rl.swap {ρ' : Rho} {σ' : L2.St} (R : Rl K T C ρ μ σ H G α) (hl : ρ'.length = σ'.length) (hs : ∀ (i : Nat) (r : RV), ρ'[i]? = some (some r) → ∃ v, σ'[i]? = some (some v) ∧ RvOk K G α r v) : Rl K T C ρ' μ σ' H G α :=
  ⟨R.sub, R.ext, R.fr, R.tb, R.gt, R.al, R.nd, R.pre, R.ob, hl, hs⟩
/-- the names of an earlier state over the objects of now -/
theorem Rl.back {ρ' : Rho} {σ' : L2.St} {μ' : Mu} {H' G' : Hp} {α' : List Addr} (R : Rl K T C ρ μ σ H G α) (R' : Rl K T C ρ' μ' σ' H' G' α') (s : Same G G') (p : α <+: α') : Rl K T C ρ μ' σ H' G' α' :=
  R'.swap R.len fun i r e => by
    obtain ⟨v, h1, h2⟩ := R.sl i r e
    exact ⟨v, h1, h2.mono s p⟩
end
/-! ### plain statements -/
def sSeq (g h : SV) : SV := fun ρ μ => match g ρ μ with
  | .nx ρ' μ' => h ρ' μ'
  | x => x
def sNext : SV := fun ρ μ => .nx ρ μ
def sDrop (f : EV) : SV := fun ρ μ => (f ρ μ).st ρ fun _ μ' => .nx ρ μ'
def sSet (i : Nat) (f : EV) : SV := fun ρ μ => (f ρ μ).st ρ fun r μ' => .nx (ρ.set i (some r)) μ'
def sRet (f : EV) : SV := fun ρ μ => (f ρ μ).st ρ fun r μ' => .rt r μ'
def sRetN : SV := fun _ μ => .rt (.dt .none) μ
def sIf (t : TV) (g h : SV) : SV := fun ρ μ => (t ρ μ).st ρ fun b μ' => if b = true then g ρ μ' else h ρ μ'
def sBrk : SV := fun ρ μ => .bk ρ μ
def sCnt : SV := fun ρ μ => .ct ρ μ
def sPar (i j : Nat) (fs : AV) : SV := fun ρ μ => (fs ρ μ).st ρ fun rs μ' => match rs with
  | [a, b] => .nx ((ρ.set i (some a)).set j (some b)) μ'
  | _ => .no
def sAug (i : Nat) (g : PD → PD → Option Out) (f : EV) : SV := fun ρ μ => match ρ[i]? with
  | some (some r) => (f ρ μ).st ρ fun rb μ1 => match look μ1 r, look μ1 rb with
    | some x, some y => (fin (g x y) μ1).st ρ fun z μ2 => .nx (ρ.set i (some z)) μ2
    | _, _ => .no
  | _ => .no
section
variable {X : Cx} {T : Tb} {W : WX} {e : Expr} {st : Stmt} {rest p q : List Stmt} {f : EV} {g h : SV} {tf : TV} {pos : Pos}
theorem d_snil : PSs X [] (tDS X.K X.mg T W sNext) := pss_imp pss_nil fun D σ H ⟨C, ρ, μ, G, α, R, q⟩ => q σ H G α R (Same.refl _)
theorem d_seq (h1 : PS X st (tDS X.K X.mg T W g)) (h2 : PSs X rest (tDS X.K X.mg T W h)) : PSs X (st :: rest) (tDS X.K X.mg T W (sSeq g h)) :=
  pss_imp (pss_cons h1 h2) fun D σ H ⟨C, ρ, μ, G, α, R, q⟩ => by
    refine ⟨C, ρ, μ, G, α, R, ?_⟩
    unfold sSeq at q
    cases e : g ρ μ with
    | nx ρ' μ' =>
      rw [e] at q
      exact fun σ' H' G' α' R' s' => ⟨C, ρ', μ', G', α', R', SPost.base q s'⟩
    | rt r μ' => rw [e] at q; exact q
    | bk ρ' μ' => rw [e] at q; exact q
    | ct ρ' μ' => rw [e] at q; exact q
    | er e' ρ' μ' => rw [e] at q; exact q
    | no => rw [e] at q; exact q
theorem d_sone (h1 : PS X st (tDS X.K X.mg T W g)) : PSs X [st] (tDS X.K X.mg T W g) := pss_one h1
theorem d_pass : PS X (.Pass pos) (tDS X.K X.mg T W sNext) := ps_imp ps_pass fun D σ H ⟨C, ρ, μ, G, α, R, q⟩ => q σ H G α R (Same.refl _)
theorem d_brk : PS X (.Break pos) (tDS X.K X.mg T W sBrk) := ps_imp ps_break fun D σ H ⟨C, ρ, μ, G, α, R, q⟩ => q σ H G α R (Same.refl _)
theorem d_cnt : PS X (.Continue pos) (tDS X.K X.mg T W sCnt) := ps_imp ps_continue fun D σ H ⟨C, ρ, μ, G, α, R, q⟩ => q σ H G α R (Same.refl _)
theorem d_expr (he : PE X e (tD X.K X.mg T W f)) (hs : swapsWith e none pos.line X.env = pure false := by rfl) : PS X (.Expr e pos) (tDS X.K X.mg T W (sDrop f)) :=
  ps_imp (ps_expr he hs) fun D σ H ⟨C, ρ, μ, G, α, R, q⟩ => ⟨C, ρ, μ, G, α, R, (Rs.post q).mono fun r μ1 H1 G1 α1 _ _ _ h1 v hv => h1.2.2 σ H1 G1 α1 h1.1 (Same.refl _)⟩
theorem d_set {i : Nat} {x : Str} {pos' : Pos} (hN : X.N.Nodup) (hi : X.N[i]? = some x) (hx : Loc X.env.scope x) (he : PE X e (tD X.K X.mg T W f)) (hs : swapsWith e (some (.Name x pos')) pos.line X.env = pure false := by rfl) (hf : X.fn x = true ∨ X.env.scope.names.lookup x = some .local := by first | exact .inl rfl | exact .inr rfl | assumption) :
    PS X (.Assign [.Name x pos'] e pos) (tDS X.K X.mg T W (sSet i f)) :=
  ps_imp (ps_set hN hi hx he hs hf) fun D σ H ⟨C, ρ, μ, G, α, R, q⟩ => ⟨C, ρ, μ, G, α, R, (Rs.post q).mono fun r μ1 H1 G1 α1 _ _ _ h1 v hv => h1.2.2 _ H1 G1 α1 (h1.1.set hv) (Same.refl _)⟩
theorem d_ret (he : PE X e (tD X.K X.mg T W f)) : PS X (.Return (some e) pos) (tDS X.K X.mg T W (sRet f)) :=
  ps_imp (ps_ret he) fun D σ H ⟨C, ρ, μ, G, α, R, q⟩ => ⟨C, ρ, μ, G, α, R, (Rs.post q).mono fun r μ1 H1 G1 α1 _ _ _ h1 v hv => h1.2.2 ρ σ H1 G1 α1 v h1.1 (Same.refl _) hv⟩
theorem d_retN : PS X (.Return none pos) (tDS X.K X.mg T W sRetN) := ps_imp ps_retN fun D σ H ⟨C, ρ, μ, G, α, R, q⟩ => q ρ σ H G α .non R (Same.refl _) .non
theorem d_if {c : Expr} (hc : PT X c (tDT X.K X.mg T W tf)) (ha : PSs X p (tDS X.K X.mg T W g)) (hb : PSs X q (tDS X.K X.mg T W h)) : PS X (.If c p q pos) (tDS X.K X.mg T W (sIf tf g h)) :=
  ps_imp (ps_if hc ha hb) fun D σ H ⟨C, ρ, μ, G, α, R, q⟩ => ⟨C, ρ, μ, G, α, R, (Rs.post q).mono fun b μ1 H1 G1 α1 _ _ _ h1 => by
    obtain ⟨R1, s1, q1⟩ := h1
    cases b with
    | true => rw [if_pos rfl] at q1 ⊢; exact ⟨C, ρ, μ1, G1, α1, R1, q1⟩
    | false => rw [if_neg Bool.false_ne_true] at q1 ⊢; exact ⟨C, ρ, μ1, G1, α1, R1, q1⟩⟩
theorem d_par {i j : Nat} {x y : Str} {a b : Expr} {fs : AV} {px py pt : Pos} {kt k2 pt2} (hc : X.calm = true) (hN : X.N.Nodup) (hi : X.N[i]? = some x) (hj : X.N[j]? = some y) (hij : i ≠ j)
    (hx : X.env.scope.names.lookup x = some .local) (hy : X.env.scope.names.lookup y = some .local) (ha : PA X [a, b] (tDA X.K X.mg T W fs))
    (hw : swappedStores [.Tuple [.Name x px, .Name y py] kt pt] (.Tuple [a, b] k2 pt2) X.env = pure (some [x, y]))
    (hs : swapsWithSole [.Tuple [.Name x px, .Name y py] kt pt] (.Tuple [a, b] k2 pt2) pos.line X.env = pure false := by rfl) :
    PS X (.Assign [.Tuple [.Name x px, .Name y py] kt pt] (.Tuple [a, b] k2 pt2) pos) (tDS X.K X.mg T W (sPar i j fs)) :=
  ps_imp (ps_par hc hN hi hj hij hx hy ha hw hs) fun D σ H ⟨C, ρ, μ, G, α, R, q⟩ => ⟨C, ρ, μ, G, α, R, (Rs.post q).mono fun rs μ1 H1 G1 α1 _ _ _ h1 vs hvs => by
    obtain ⟨R1, s1, q1⟩ := h1
    cases hvs with
    | nil => exact q1.elim
    | cons r1 t1 =>
      cases t1 with
      | nil => exact q1.elim
      | cons r2 t2 =>
        cases t2 with
        | cons r3 t3 => exact q1.elim
        | nil => exact ⟨_, _, rfl, q1 _ H1 G1 α1 ((R1.set r1).set r2) (Same.refl _)⟩⟩
theorem d_aug {i : Nat} {x : Str} {op : Operator} {gg : PD → PD → Option Out} {pos' : Pos} (hN : X.N.Nodup) (hi : X.N[i]? = some x) (hx : Loc X.env.scope x) (he : PE X e (tD X.K X.mg T W f)) (ho : Op2 X (inplaceOp op) gg) (hf : X.fn x = true ∨ X.env.scope.names.lookup x = some .local := by first | exact .inl rfl | exact .inr rfl | assumption) :
    PS X (.AugAssign (.Name x pos') op e pos) (tDS X.K X.mg T W (sAug i gg f)) := by
  obtain ⟨r, hr, hg⟩ := ho
  refine ps_imp (ps_aug (ti := r) hN hi hx he hr hf) fun D σ H ⟨C, ρ, μ, G, α, R, q⟩ => ?_
  unfold sAug at q
  cases er : ρ[i]? with
  | none => rw [er] at q; exact q.elim
  | some o =>
    cases o with
    | none => rw [er] at q; exact q.elim
    | some ro =>
      rw [er] at q
      obtain ⟨vo, e1, hvo⟩ := R.sl i ro er
      refine ⟨vo, e1, C, ρ, μ, G, α, R, ?_⟩
      have q' : Post X.K X.mg T W C ρ σ G α (fun rb μ1 H1 G1 α1 => (Rl X.K T C ρ μ1 σ H1 G1 α1 ∧ Same G G1 ∧ SPost X.K X.mg T W C D G1 (match look μ1 ro, look μ1 rb with
        | some x, some y => (fin (gg x y) μ1).st ρ fun z μ2 => .nx (ρ.set i (some z)) μ2
        | _, _ => .no)) ∧ α <+: α1) (f ρ μ) := (Rs.post (σ := σ) (α := α) q).mono fun _ _ _ _ _ _ _ p h => ⟨h, p⟩
      refine q'.mono fun rb μ1 H1 G1 α1 _ _ _ h1 vb hvb => ?_
      obtain ⟨⟨R1, s1, q1⟩, p1⟩ := h1
      cases ea : look μ1 ro with
      | none => rw [ea] at q1; exact q1.elim
      | some da =>
        cases eb : look μ1 rb with
        | none => rw [ea, eb] at q1; exact q1.elim
        | some db =>
          rw [ea, eb] at q1
          refine hg G1 H1 vo vb da db _ R1.sub (look_ok R1 (hvo.mono s1 p1) ea) (look_ok R1 hvb eb) ?_
          refine fin_post (mg := X.mg) (W := W) (o := gg da db) R1 ?_
          exact (Rs.post (σ := σ) (α := α1) q1).mono fun z μ2 H2 G2 α2 _ _ _ h2 vz hvz => h2.2.2 _ H2 G2 α2 (h2.1.set hvz) (Same.refl _)
end

/-! ### targets -/
/-- what a target makes of the names; L: the places that it may change -/
def tDG (K : PySem.W.Frag) (T : Tb) (L : List Nat) (tg : RV → Rho → Option Rho) : TG := fun v σ H Q => ∃ C ρ μ G α r ρ', Rl K T C ρ μ σ H G α ∧ RvOk K G α r v ∧ tg r ρ = some ρ' ∧ ∀ σ', Rl K T C ρ' μ σ' H G α → σ'.length = σ.length → (∀ j, j ∉ L → σ'[j]? = σ[j]?) → Q σ' H
def tDGs (K : PySem.W.Frag) (T : Tb) (L : List Nat) (tg : List PD → Rho → Option Rho) : TGs := fun vs σ H Q => ∃ C ρ μ G α ds ρ', Rl K T C ρ μ σ H G α ∧ Reps K G vs ds ∧ tg ds ρ = some ρ' ∧ ∀ σ', Rl K T C ρ' μ σ' H G α → σ'.length = σ.length → (∀ j, j ∉ L → σ'[j]? = σ[j]?) → Q σ' H
def gN (i : Nat) : RV → Rho → Option Rho := fun r ρ => some (ρ.set i (some r))
def gT (n : Nat) (ts : List PD → Rho → Option Rho) : RV → Rho → Option Rho := fun r ρ => match r with
  | .dt (.tuple ds) => if ds.length = n then ts ds ρ else none
  | _ => none
def gN0 : List PD → Rho → Option Rho := fun ds ρ => match ds with
  | [] => some ρ
  | _ => none
def gCn (t : RV → Rho → Option Rho) (ts : List PD → Rho → Option Rho) : List PD → Rho → Option Rho := fun ds ρ => match ds with
  | d :: r => (t (.dt d) ρ).bind (ts r)
  | [] => none
def sAsg (f : EV) (tg : RV → Rho → Option Rho) : SV := fun ρ μ => (f ρ μ).st ρ fun r μ' => match tg r ρ with
  | some ρ' => .nx ρ' μ'
  | none => .no
section
variable {X : Cx} {T : Tb} {W : WX} {pos : Pos}
theorem pg_imp {e : Expr} {t t' : TG} (h : PG X e t) (i : ∀ v σ H Q, t' v σ H Q → t v σ H Q) : PG X e t' := ⟨fun pins s σ H v u Q I r q => h.run pins s σ H v u Q I r (i v σ H Q q)⟩
theorem pgs_imp {e : List Expr} {t t' : TGs} (h : PGs X e t) (i : ∀ v σ H Q, t' v σ H Q → t v σ H Q) : PGs X e t' := ⟨fun pins s σ H v u Q I r q => h.run pins s σ H v u Q I r (i v σ H Q q)⟩
theorem g_name (i : Nat) {x : Str} (hN : X.N.Nodup) (hi : X.N[i]? = some x := by rfl) (hx : Loc X.env.scope x := by first | exact Or.inl rfl | exact Or.inr rfl) (hf : X.fn x = true ∨ X.env.scope.names.lookup x = some .local := by first | exact .inl rfl | exact .inr rfl | assumption) : PG X (.Name x pos) (tDG X.K T [i] (gN i)) :=
  pg_imp (pg_name (i := i) hN hi hx hf) fun v σ H Q ⟨C, ρ, μ, G, α, r, ρ', R, hv, e, q⟩ => by
    cases e
    exact q _ (R.set hv) (by rw [List.length_set]) fun j hj => by rw [List.getElem?_set_ne (fun z => hj (by rw [z]; exact List.mem_singleton_self _))]
theorem g_nil : PGs X [] (tDGs X.K T [] gN0) := pgs_imp pgs_nil fun vs σ H Q ⟨C, ρ, μ, G, α, ds, ρ', R, hv, e, q⟩ => by
  cases hv with
  | nil => cases e; exact ⟨rfl, q σ R rfl fun _ _ => rfl⟩
  | cons a b => cases e
theorem g_cons {e : Expr} {es : List Expr} {L L' : List Nat} {t : RV → Rho → Option Rho} {ts : List PD → Rho → Option Rho} (h1 : PG X e (tDG X.K T L t)) (h2 : PGs X es (tDGs X.K T L' ts))
    (hs : (assignEach (e :: es) X.env).map (·.2) = assign e X.env :: (assignEach es X.env).map (·.2) := by rfl) : PGs X (e :: es) (tDGs X.K T (L ++ L') (gCn t ts)) :=
  pgs_imp (pgs_cons h1 h2 hs) fun vs σ H Q ⟨C, ρ, μ, G, α, ds, ρ', R, hv, e, q⟩ => by
    cases hv with
    | nil => cases e
    | @cons v vs' d ds' a b =>
      have e : (t (.dt d) ρ).bind (ts ds') = some ρ' := e
      cases e1 : t (.dt d) ρ with
      | none => rw [e1] at e; cases e
      | some ρ1 =>
        rw [e1] at e
        exact ⟨v, vs', rfl, C, ρ, μ, G, α, .dt d, ρ1, R, a, e1, fun σ1 R1 l1 k1 => ⟨C, ρ1, μ, G, α, ds', ρ', R1, b, e, fun σ2 R2 l2 k2 => q σ2 R2 (l2.trans l1) fun j hj =>
          (k2 j fun z => hj (List.mem_append_right _ z)).trans (k1 j fun z => hj (List.mem_append_left _ z))⟩⟩
theorem g_tup {es : List Expr} {k : Nat} {L : List Nat} {ts : List PD → Rho → Option Rho} {n : Nat} (hc : X.calm = true) (h : PGs X es (tDGs X.K T L ts))
    (hn : (assignEach es X.env).length = n := by rfl) (hst : (assignEach es X.env).findIdx? (·.1) = none := by rfl) : PG X (.Tuple es k pos) (tDG X.K T L (gT n ts)) :=
  pg_imp (pg_tup hc h hn hst) fun v σ H Q ⟨C, ρ, μ, G, α, r, ρ', R, hv, e, q⟩ => by
    cases r with
    | ob k => cases e
    | un u => cases e
    | dt d =>
      cases d with
      | tuple ds =>
        have e : (if ds.length = n then ts ds ρ else none) = some ρ' := e
        by_cases hl : ds.length = n
        · rw [if_pos hl] at e
          obtain ⟨a, vs, ev, hq, hr⟩ := Vw.tup R.sub (.inl hv)
          exact ⟨a, vs, ev, hq, hr.length.trans hl, C, ρ, μ, G, α, ds, ρ', R, hr, e, q⟩
        · rw [if_neg hl] at e
          cases e
      | _ => cases e
theorem d_asg {tg e : Expr} {f : EV} {L : List Nat} {t : RV → Rho → Option Rho} (he : PE X e (tD X.K X.mg T W f)) (hg : PG X tg (tDG X.K T L t)) (hs : swapsWithSole [tg] e pos.line X.env = pure false := by rfl) (hw : swappedStores [tg] e X.env = pure none := by rfl)
    (h1 : (assignEach [tg] X.env).map (·.2) = [assign tg X.env] := by rfl) : PS X (.Assign [tg] e pos) (tDS X.K X.mg T W (sAsg f t)) :=
  ps_imp (ps_asg he hg hs hw h1) fun D σ H ⟨C, ρ, μ, G, α, R, q⟩ => ⟨C, ρ, μ, G, α, R, (Rs.post q).mono fun r μ1 H1 G1 α1 _ _ _ h1 v hv => by
    obtain ⟨R1, s1, q1⟩ := h1
    cases e : t r ρ with
    | none => rw [e] at q1; exact q1.elim
    | some ρ' =>
      rw [e] at q1
      exact ⟨C, ρ, μ1, G1, α1, r, ρ', R1, hv, e, fun σ' R' _ _ => q1 σ' H1 G1 α1 R' (Same.refl _)⟩⟩
end
/-! ### what is walked -/
abbrev IV := Rho → Mu → Rs (List PD)
/-- an iterator that gives these items -/
def ItOk (K : PySem.W.Frag) (G : Hp) (items : List PD) (J : It) : Prop := ∀ (i : Nat) (H' G' : Hp), Same G G' → Same G' H' →
  (i < items.length → J.go i H') ∧ (items.length = i → J.stop i H') ∧ (∀ d, items[i]? = some d → ∀ x H2, J.yld i H' x H2 → ∃ G2, Grow H' G' H2 G2 ∧ Rep K G2 x d)
def tDI (K : PySem.W.Frag) (mg : Str → Option Value) (T : Tb) (W : WX) (fi : IV) : TI := fun σ H R => ∃ C ρ μ G α, Rl K T C ρ μ σ H G α ∧ Post K mg T W C ρ σ G α (fun items _ H' G' _ => ∀ J, ItOk K G' items J → R J H') (fi ρ μ)
def forL (tg : RV → Rho → Option Rho) (body : SV) : List PD → SV
  | [], ρ, μ => .nx ρ μ
  | d :: r, ρ, μ => match tg (.dt d) ρ with
    | none => .no
    | some ρ1 => match body ρ1 μ with
      | .nx ρ2 μ2 => forL tg body r ρ2 μ2
      | .ct ρ2 μ2 => forL tg body r ρ2 μ2
      | .bk ρ2 μ2 => .nx ρ2 μ2
      | x => x
def sFor (fi : IV) (tg : RV → Rho → Option Rho) (body : SV) : SV := fun ρ μ => (fi ρ μ).st ρ fun items μ1 => forL tg body items ρ μ1
def whL (t : TV) (body : SV) : Nat → SV
  | 0, _, _ => .no
  | n + 1, ρ, μ => (t ρ μ).st ρ fun b μ1 => if b = true then match body ρ μ1 with
      | .nx ρ2 μ2 => whL t body n ρ2 μ2
      | .ct ρ2 μ2 => whL t body n ρ2 μ2
      | .bk ρ2 μ2 => .nx ρ2 μ2
      | x => x
    else .nx ρ μ1
def sWhile (n : Nat) (t : TV) (body : SV) : SV := whL t body n
section
variable {X : Cx} {T : Tb} {W : WX} {pos : Pos}
theorem pi_imp {tg e : Expr} {t t' : TI} (h : PI X tg e t) (i : ∀ σ H R, t' σ H R → t σ H R) : PI X tg e t' := ⟨fun pins s σ H R I q => h.run pins s σ H R I (i σ H R q)⟩
theorem d_for {tg iter : Expr} {body : List Stmt} {fi : IV} {L : List Nat} {t : RV → Rho → Option Rho} {b : SV} (hp : PassesOwn (model X.prog X.w) X.A X.env X.xe) (hc : X.calm = true) (hi : PI X tg iter (tDI X.K X.mg T W fi)) (hg : PG X tg (tDG X.K T L t)) (hb : PSs X body (tDS X.K X.mg T W b))
    (hs : ∀ x, foldedSetIterable iter X.env x = pure x := by intro _; rfl) : PS X (.For tg iter body [] pos) (tDS X.K X.mg T W (sFor fi t b)) := by
  refine ps_imp (ps_for hp hc hi hg hb hs) fun D σ H ⟨C, ρ, μ, G, α, R, q⟩ => ⟨C, ρ, μ, G, α, R, (Rs.post q).mono fun items μ1 H1 G1 α1 _ _ _ h1 J hJ => ?_⟩
  obtain ⟨R1, s1, q1⟩ := h1
  refine ⟨fun i m σ H => m = items.length - i ∧ i ≤ items.length ∧ ∃ ρ μ G' α', Rl X.K T C ρ μ σ H G' α' ∧ Same G1 G' ∧ SPost X.K X.mg T W C D G' (forL t b (items.drop i) ρ μ),
    ⟨items.length, by simp, Nat.zero_le _, ρ, μ1, G1, α1, R1, Same.refl _, q1⟩, ?_⟩
  rintro i m σ2 H2 ⟨rfl, hi, ρ2, μ2, G2, α2, R2, s2, q2⟩
  obtain ⟨j1, j2, j3⟩ := hJ i H2 G2 s2 R2.sub
  by_cases hlt : i < items.length
  · refine .inr ⟨j1 hlt, fun σ' H' => i + 1 ≤ items.length ∧ ∃ ρ μ G' α', Rl X.K T C ρ μ σ' H' G' α' ∧ Same G1 G' ∧ SPost X.K X.mg T W C D G' (forL t b (items.drop (i + 1)) ρ μ), fun σ' H' h => ⟨items.length - (i + 1), by omega, rfl, h⟩, fun x H3 hy => ?_⟩
    have hd : items[i]? = some items[i] := List.getElem?_eq_getElem hlt
    obtain ⟨G3, g3, r3⟩ := j3 _ hd x H3 hy
    have R3 := R2.grow g3
    rw [List.drop_eq_getElem_cons hlt] at q2
    have q2 : SPost X.K X.mg T W C D G2 (match t (.dt items[i]) ρ2 with
      | none => .no
      | some ρ1 => match b ρ1 μ2 with
        | .nx ρ2 μ2 => forL t b (items.drop (i + 1)) ρ2 μ2
        | .ct ρ2 μ2 => forL t b (items.drop (i + 1)) ρ2 μ2
        | .bk ρ2 μ2 => .nx ρ2 μ2
        | x => x) := q2
    cases et : t (.dt items[i]) ρ2 with
    | none => rw [et] at q2; exact q2.elim
    | some ρ3 =>
      rw [et] at q2
      refine ⟨C, ρ2, μ2, G3, α2, .dt items[i], ρ3, R3, r3, et, fun σ' R' _ _ => ⟨C, ρ3, μ2, G3, α2, R', ?_⟩⟩
      have q3 := SPost.base q2 g3.g
      have again : ∀ {ρ4 : Rho} {μ4 : Mu}, SPost X.K X.mg T W C D G3 (forL t b (items.drop (i + 1)) ρ4 μ4) → ∀ σ' H' G' α', Rl X.K T C ρ4 μ4 σ' H' G' α' → Same G3 G' →
          i + 1 ≤ items.length ∧ ∃ ρ μ G' α', Rl X.K T C ρ μ σ' H' G' α' ∧ Same G1 G' ∧ SPost X.K X.mg T W C D G' (forL t b (items.drop (i + 1)) ρ μ) :=
        fun {ρ4 μ4} q σ' H' G' α' R s => ⟨hlt, ρ4, μ4, G', α', R, (s2.trans g3.g).trans s, SPost.base q s⟩
      cases eb : b ρ3 μ2 with
      | nx ρ4 μ4 => simp only [eb] at q3; exact again q3
      | ct ρ4 μ4 => simp only [eb] at q3; exact again q3
      | bk ρ4 μ4 => simp only [eb] at q3; exact q3
      | rt r μ4 => simp only [eb] at q3; exact q3
      | er e ρ4 μ4 => simp only [eb] at q3; exact q3
      | no => simp only [eb] at q3; exact q3
  · have e : i = items.length := by omega
    subst e
    rw [List.drop_length] at q2
    exact .inl ⟨j2 rfl, q2 σ2 H2 G2 α2 R2 (Same.refl _)⟩
theorem d_while {c : Expr} {body : List Stmt} {t : TV} {b : SV} (n : Nat) (hp : PassesOwn (model X.prog X.w) X.A X.env X.xe) (hc : PT X c (tDT X.K X.mg T W t)) (hb : PSs X body (tDS X.K X.mg T W b)) : PS X (.While c body [] pos) (tDS X.K X.mg T W (sWhile n t b)) := by
  refine ps_imp (ps_while hp hc hb) fun D σ H ⟨C, ρ, μ, G, α, R, q⟩ => ?_
  refine ⟨fun m σ H => ∃ ρ μ G α, Rl X.K T C ρ μ σ H G α ∧ SPost X.K X.mg T W C D G (whL t b m ρ μ), ⟨n, ρ, μ, G, α, R, q⟩, ?_⟩
  rintro m σ2 H2 ⟨ρ2, μ2, G2, α2, R2, q2⟩
  cases m with
  | zero => exact q2.elim
  | succ m =>
    refine ⟨C, ρ2, μ2, G2, α2, R2, (Rs.post q2).mono fun k μ3 H3 G3 α3 _ _ _ h3 => ?_⟩
    obtain ⟨R3, s3, q3⟩ := h3
    cases k with
    | false =>
      rw [if_neg Bool.false_ne_true] at q3 ⊢
      exact q3 σ2 H3 G3 α3 R3 (Same.refl _)
    | true =>
      rw [if_pos rfl] at q3 ⊢
      refine ⟨fun σ' H' => ∃ ρ μ G α, Rl X.K T C ρ μ σ' H' G α ∧ SPost X.K X.mg T W C D G (whL t b m ρ μ), fun σ' H' h => ⟨m, Nat.lt_succ_self _, h⟩, C, ρ2, μ3, G3, α3, R3, ?_⟩
      have again : ∀ {ρ4 : Rho} {μ4 : Mu}, SPost X.K X.mg T W C D G3 (whL t b m ρ4 μ4) → ∀ σ' H' G' α', Rl X.K T C ρ4 μ4 σ' H' G' α' → Same G3 G' →
          ∃ ρ μ G α, Rl X.K T C ρ μ σ' H' G α ∧ SPost X.K X.mg T W C D G (whL t b m ρ μ) :=
        fun {ρ4 μ4} q σ' H' G' α' R s => ⟨ρ4, μ4, G', α', R, SPost.base q s⟩
      cases eb : b ρ2 μ3 with
      | nx ρ4 μ4 => simp only [eb] at q3; exact again q3
      | ct ρ4 μ4 => simp only [eb] at q3; exact again q3
      | bk ρ4 μ4 => simp only [eb] at q3; exact q3
      | rt r μ4 => simp only [eb] at q3; exact q3
      | er e ρ4 μ4 => simp only [eb] at q3; exact q3
      | no => simp only [eb] at q3; exact q3
end
/-! ### the iterators -/
section
variable {X : Cx} {T : Tb} {W : WX} {tg : Expr}
theorem it_list {K : PySem.W.Frag} {G : Hp} {a : Addr} {vs : List V} {ds : List PD} (h : SqL K G a vs) (r : Reps K G vs ds) : ItOk K G ds (Itl K a) := fun i H' G' s s' => by
  have hs : SqL K H' a vs := (s.trans s').seq h
  refine ⟨fun hi => ?_, fun hi => ⟨vs, hs, by rw [r.length]; exact Nat.le_of_eq hi⟩, fun d hd x H2 hy => ?_⟩
  · obtain ⟨v, hv, _⟩ := r.get (List.getElem?_eq_getElem hi)
    exact ⟨vs, v, hs, hv⟩
  · obtain ⟨rfl, hy⟩ := hy
    obtain ⟨v, hv, hr⟩ := r.get hd
    have e : v = x := Option.some.inj (hv.symm.trans (hy vs hs))
    subst e
    exact ⟨G', Grow.refl s', hr.mono s⟩
theorem it_tup {K : PySem.W.Frag} {G : Hp} {a : Addr} {vs : List V} {ds : List PD} (h : SqT K G a vs) (r : Reps K G vs ds) : ItOk K G ds (Itt K a) := fun i H' G' s s' => by
  have hs : SqT K H' a vs := seqT_same (s.trans s') h
  refine ⟨fun hi => ?_, fun hi => ⟨vs, hs, by rw [r.length]; exact Nat.le_of_eq hi⟩, fun d hd x H2 hy => ?_⟩
  · obtain ⟨v, hv, _⟩ := r.get (List.getElem?_eq_getElem hi)
    exact ⟨vs, v, hs, hv⟩
  · obtain ⟨rfl, hy⟩ := hy
    obtain ⟨v, hv, hr⟩ := r.get hd
    have e : v = x := Option.some.inj (hv.symm.trans (hy vs hs))
    subst e
    exact ⟨G', Grow.refl s', hr.mono s⟩
def strL (x : Str) : List PD := x.cps.toList.map fun c => .str ⟨#[c]⟩
theorem it_str {K : PySem.W.Frag} {G : Hp} (x : Str) : ItOk K G (strL x) (Its x) := fun i H' G' s s' => by
  have hl : (strL x).length = x.cps.size := by unfold strL; rw [List.length_map, Array.length_toList]
  refine ⟨fun hi => by rw [hl] at hi; exact hi, fun hi => by rw [hl] at hi; exact Nat.le_of_eq hi, fun d hd y H2 hy => ?_⟩
  obtain ⟨rfl, c, hc, rfl⟩ := hy
  unfold strL at hd
  rw [List.getElem?_map, Array.getElem?_toList, hc] at hd
  cases hd
  exact ⟨G', Grow.refl s', .str _⟩
def rangeL (lo : Int) (n : Nat) : List PD := (List.range n).map fun (i : Nat) => .int (lo + i)
theorem it_range {K : PySem.W.Frag} {G : Hp} (lo : Int) (n : Nat) : ItOk K G (rangeL lo n) (Itr lo n) := fun i H' G' s s' => by
  have hl : (rangeL lo n).length = n := by unfold rangeL; rw [List.length_map, List.length_range]
  refine ⟨fun hi => by rw [hl] at hi; exact hi, fun hi => by rw [hl] at hi; exact Nat.le_of_eq hi, fun d hd y H2 hy => ?_⟩
  obtain ⟨rfl, rfl⟩ := hy
  unfold rangeL at hd
  rw [List.getElem?_map] at hd
  cases e : (List.range n)[i]? with
  | none => rw [e] at hd; cases hd
  | some j =>
    rw [e] at hd
    have hi : i < n := by
      have := (List.getElem?_eq_some_iff.mp e).1
      rwa [List.length_range] at this
    rw [List.getElem?_range hi] at e
    cases e
    cases hd
    exact ⟨G', Grow.refl s', .int _⟩
/-- what stands for an expression that is walked: a list, a tuple, a text -/
def itemsOf : PD → Option (List PD)
  | .list ds => some ds
  | .tuple ds => some ds
  | .str x => some (strL x)
  | _ => none
def iE (f : EV) : IV := fun ρ μ => (f ρ μ).bind fun r μ1 => (frz r μ1).bind fun d μ2 => match itemsOf d with
  | some ds => .ok ds μ2
  | none => .no
/-- an expression that is walked, whatever it is -/
theorem d_iter {e : Expr} {f : EV} (h : PE X e (tD X.K X.mg T W f)) : PI X tg e (tDI X.K X.mg T W (iE f)) := by
  refine ⟨fun pins s σ H R I ⟨C, ρ, μ, G, α, RL, q⟩ => ?_⟩
  -- by the kind that comes: list, tuple, text
  refine thn (h.run pins s σ H (fun v H1 => ∃ d μ2 G2 α2, Rl X.K T C ρ μ2 σ H1 G2 α2 ∧ Rep X.K G2 v d ∧ ∃ ds, itemsOf d = some ds ∧ ∀ J, ItOk X.K G2 ds J → R J H1) I ⟨C, ρ, μ, G, α, RL, (Post.bind q).mono fun ra μ1 H1 G1 α1 _ _ _ h1 va hva => ?_⟩) fun v s1 hh => ?_
  · obtain ⟨R1, s1, p1, q1⟩ := h1
    obtain ⟨d, μ2, G2, e2, R2, s2, r2, _, _, _, q2⟩ := frz_ok R1 hva (Post.bind q1)
    cases ed : itemsOf d with
    | none => rw [ed] at q2; exact q2.elim
    | some ds =>
      rw [ed] at q2
      exact ⟨d, μ2, G2, α1, R2, r2, ds, ed, fun J hJ => q2 H1 G2 α1 R2 (Same.refl _) (List.prefix_refl _) J hJ⟩
  · obtain ⟨x, H1, I1, rx, d, μ2, G2, α2, R2, r2, ds, ed, k⟩ := hh
    cases r2 with
    | non => cases ed
    | bl b => cases ed
    | int i => cases ed
    | dic hq => cases ed
    | scr hq hr => cases ed
    | lst hq hr =>
      rename_i a vs ds'
      cases ed
      cases rx
      obtain ⟨its, rv, p, hz⟩ := I1.list (.of (R2.sub _ _ hq))
      refine wpAny_pyIter_list p.isList ?_
      refine ⟨s1.heap.objs.size, [s1.heap.objs.size], _, _, H1, rfl, I1.kept (t' := s1.toks) fun b o e => Heap.get?_push_of_some _ e, turn_list a _, ⟨_, Heap.get?_push_size _ rfl, rfl, rfl⟩, fun b hb => ?_, k _ (it_list (.of hq) hr)⟩
      have e : b = s1.heap.objs.size := by simpa using hb
      subst e
      exact I1.fpOk (Nat.le_refl _) (I1.hok.fresh (Nat.le_refl _))
    | tup hq hr =>
      rename_i a vs ds'
      cases ed
      cases rx
      obtain ⟨its, rv, p, hz⟩ := I1.tuple (seqT_same R2.sub hq)
      refine wpAny_pyIter_tuple (show s1.heap.IsTuple a its.toArray from p) ?_
      refine ⟨s1.heap.objs.size, [s1.heap.objs.size], _, _, H1, rfl, I1.kept (t' := s1.toks) fun b o e => Heap.get?_push_of_some _ e, turn_tuple a _, ⟨_, Heap.get?_push_size _ rfl, rfl, rfl⟩, fun b hb => ?_, k _ (it_tup hq hr)⟩
      have e : b = s1.heap.objs.size := by simpa using hb
      subst e
      exact I1.fpOk (Nat.le_refl _) (I1.hok.fresh (Nat.le_refl _))
    | str x =>
      cases ed
      obtain ⟨t, rfl⟩ := rx
      cases ha : x.cps.all (· < 128)
      · exact wpAny_pyIter_wide ha (pi_one (tk := s1.toks) I1 _ (turn_str _ x t "str_iterator" (.inr rfl)) ⟨_, Heap.get?_push_size _ rfl, rfl, rfl⟩ (k _ (it_str x)))
      · exact wpAny_pyIter_ascii ha (pi_one (tk := s1.toks) I1 _ (turn_str _ x t "str_ascii_iterator" (.inl rfl)) ⟨_, Heap.get?_push_size _ rfl, rfl, rfl⟩ (k _ (it_str x)))
end
end DL
/-! The data layer, fifth part: comprehensions, what is left behind cut off, defs and their calls, own errors raised. -/
namespace DL
open PySem PySem.Spec PyProof.Rows L2
/-! ### ranges -/
def small62 (i : Int) : Bool := decide (-(2 ^ 62) ≤ i) && decide (i < 2 ^ 62)
def iR1 (fs : AV) : IV := fun ρ μ => (fs ρ μ).bind fun rs μ1 => match rs with
  | [.dt (.int j)] => if small62 j = true then .ok (rangeL 0 j.toNat) μ1 else .no
  | _ => .no
def iR2 (fs : AV) : IV := fun ρ μ => (fs ρ μ).bind fun rs μ1 => match rs with
  | [.dt (.int i), .dt (.int j)] => if (small62 i && small62 j) = true then .ok (rangeL i (j - i).toNat) μ1 else .no
  | _ => .no
def rangeCL (lo c : Int) (n : Nat) : List PD := (List.range n).map fun (i : Nat) => .int (lo + i * c)
def iR3 (fs : AV) : IV := fun ρ μ => (fs ρ μ).bind fun rs μ1 => match rs with
  | [.dt (.int i), .dt (.int j), .dt (.int c)] => if (decide (c ≠ 0) && decide (c.natAbs < 1073741824) && Builtin.Range.small i j c && decide (0 ≤ Builtin.Range.rangeSize i j c)) = true then .ok (rangeCL i c (Builtin.Range.rangeSize i j c).toNat) μ1 else .no
  | _ => .no
section
variable {X : Cx} {T : Tb} {W : WX} {tg : Expr}
theorem small62_iff {i : Int} (h : small62 i = true) : -(2 ^ 62) ≤ i ∧ i < 2 ^ 62 := by
  unfold small62 at h
  simpa using h
theorem one_int {K : PySem.W.Frag} {G : Hp} {α : List Addr} {rs : List RV} {vs : List V} {i : Int} (h : RvsOk K G α rs vs) (e : rs = [.dt (.int i)]) : vs = [.int i] := by
  subst e
  cases h with
  | cons r1 t1 =>
    cases t1
    cases r1
    rfl
theorem d_range1 {a : Expr} {fs : AV} {p pos : Pos} (hg : Gl X "range") (hm : X.mg "range" = none) (ha : PA X [a] (tDA X.K X.mg T W fs)) (hs : starEach [a] X.env = [(false, eval a X.env)] := by rfl) : PI X tg (.Call (.Name "range" p) [a] [] pos) (tDI X.K X.mg T W (iR1 fs)) :=
  pi_imp (pi_range1 hg hm ha hs) fun σ H R ⟨C, ρ, μ, G, α, RL, q⟩ => by
    refine ⟨C, ρ, μ, G, α, RL, (Post.bind q).mono fun rs μ1 H1 G1 α1 _ _ _ h1 vs hvs => ?_⟩
    obtain ⟨R1, s1, p1, q1⟩ := h1
    have key : ∀ rs : List RV, (∃ j, rs = [.dt (.int j)]) ∨ (match rs with
        | [.dt (.int j)] => if small62 j = true then (.ok (rangeL 0 j.toNat) μ1 : Rs (List PD)) else .no
        | _ => .no) = .no := fun rs => by
      split
      · exact .inl ⟨_, rfl⟩
      · exact .inr rfl
    rcases key rs with ⟨j, e⟩ | e
    · have ev := one_int hvs e
      subst e
      subst ev
      have q1 : Post X.K X.mg T W C ρ σ G1 α1 _ (if small62 j = true then .ok (rangeL 0 j.toNat) μ1 else .no) := q1
      by_cases hj : small62 j = true
      · rw [if_pos hj] at q1
        obtain ⟨b1, b2⟩ := small62_iff hj
        exact ⟨j, rfl, b1, b2, q1 H1 G1 α1 R1 (Same.refl _) (List.prefix_refl _) _ (it_range 0 _)⟩
      · rw [if_neg hj] at q1
        exact q1.elim
    · have q1 := q1
      rw [e] at q1
      exact q1.elim
theorem two_ints {K : PySem.W.Frag} {G : Hp} {α : List Addr} {rs : List RV} {vs : List V} {i j : Int} (h : RvsOk K G α rs vs) (e : rs = [.dt (.int i), .dt (.int j)]) : vs = [.int i, .int j] := by
  subst e
  cases h with
  | cons r1 t1 =>
    cases t1 with
    | cons r2 t2 =>
      cases t2
      cases r1
      cases r2
      rfl
theorem three_ints {K : PySem.W.Frag} {G : Hp} {α : List Addr} {rs : List RV} {vs : List V} {i j c : Int} (h : RvsOk K G α rs vs) (e : rs = [.dt (.int i), .dt (.int j), .dt (.int c)]) : vs = [.int i, .int j, .int c] := by
  subst e
  cases h with
  | cons r1 t1 =>
    cases t1 with
    | cons r2 t2 =>
      cases t2 with
      | cons r3 t3 =>
        cases t3
        cases r1
        cases r2
        cases r3
        rfl
theorem d_range2 {a b : Expr} {fs : AV} {p pos : Pos} (hg : Gl X "range") (hm : X.mg "range" = none) (ha : PA X [a, b] (tDA X.K X.mg T W fs)) (hs : starEach [a, b] X.env = [(false, eval a X.env), (false, eval b X.env)] := by rfl) (hs2 : starEach [b] X.env = [(false, eval b X.env)] := by rfl) :
    PI X tg (.Call (.Name "range" p) [a, b] [] pos) (tDI X.K X.mg T W (iR2 fs)) :=
  pi_imp (pi_range2 hg hm ha hs hs2) fun σ H R ⟨C, ρ, μ, G, α, RL, q⟩ => by
    refine ⟨C, ρ, μ, G, α, RL, (Post.bind q).mono fun rs μ1 H1 G1 α1 _ _ _ h1 vs hvs => ?_⟩
    obtain ⟨R1, s1, p1, q1⟩ := h1
    have key : ∀ rs : List RV, (∃ i j, rs = [.dt (.int i), .dt (.int j)]) ∨ (match rs with
        | [.dt (.int i), .dt (.int j)] => if (small62 i && small62 j) = true then (.ok (rangeL i (j - i).toNat) μ1 : Rs (List PD)) else .no
        | _ => .no) = .no := fun rs => by
      split
      · exact .inl ⟨_, _, rfl⟩
      · exact .inr rfl
    rcases key rs with ⟨i, j, e⟩ | e
    · have ev := two_ints hvs e
      subst e
      subst ev
      have q1 : Post X.K X.mg T W C ρ σ G1 α1 _ (if (small62 i && small62 j) = true then .ok (rangeL i (j - i).toNat) μ1 else .no) := q1
      by_cases hj : (small62 i && small62 j) = true
      · rw [if_pos hj] at q1
        rw [Bool.and_eq_true] at hj
        obtain ⟨b1, b2⟩ := small62_iff hj.1
        obtain ⟨b3, b4⟩ := small62_iff hj.2
        exact ⟨i, j, rfl, ⟨b1, b2, b3, b4⟩, q1 H1 G1 α1 R1 (Same.refl _) (List.prefix_refl _) _ (it_range i _)⟩
      · rw [if_neg hj] at q1
        exact q1.elim
    · have q1 := q1
      rw [e] at q1
      exact q1.elim
theorem it_rangeC {K : PySem.W.Frag} {G : Hp} (lo c : Int) (n : Nat) : ItOk K G (rangeCL lo c n) (Itc lo c n) := fun i H' G' s s' => by
  have hl : (rangeCL lo c n).length = n := by unfold rangeCL; rw [List.length_map, List.length_range]
  refine ⟨fun hi => by rw [hl] at hi; exact hi, fun hi => by rw [hl] at hi; exact Nat.le_of_eq hi, fun d hd y H2 hy => ?_⟩
  obtain ⟨rfl, rfl⟩ := hy
  unfold rangeCL at hd
  rw [List.getElem?_map] at hd
  cases e : (List.range n)[i]? with
  | none => rw [e] at hd; cases hd
  | some j =>
    rw [e] at hd
    have hi : i < n := by
      have := (List.getElem?_eq_some_iff.mp e).1
      rwa [List.length_range] at this
    rw [List.getElem?_range hi] at e
    cases e
    cases hd
    exact ⟨G', Grow.refl s', .int _⟩
theorem d_range3 {a b c : Expr} {fs : AV} {p pos : Pos} (hg : Gl X "range") (hm : X.mg "range" = none) (ha : PA X [a, b, c] (tDA X.K X.mg T W fs)) (hs : starEach [a, b, c] X.env = (false, eval a X.env) :: starEach [b, c] X.env := by rfl) (hpl : (backTo pos (starEach [b, c] X.env)).any (·.1) = false := by rfl) :
    PI X tg (.Call (.Name "range" p) [a, b, c] [] pos) (tDI X.K X.mg T W (iR3 fs)) :=
  pi_imp (pi_range3 hg hm ha hs hpl) fun σ H R ⟨C, ρ, μ, G, α, RL, q⟩ => by
    refine ⟨C, ρ, μ, G, α, RL, (Post.bind q).mono fun rs μ1 H1 G1 α1 _ _ _ h1 vs hvs => ?_⟩
    obtain ⟨R1, s1, p1, q1⟩ := h1
    have key : ∀ rs : List RV, (∃ i j c, rs = [.dt (.int i), .dt (.int j), .dt (.int c)]) ∨ (match rs with
        | [.dt (.int i), .dt (.int j), .dt (.int c)] => if (decide (c ≠ 0) && decide (c.natAbs < 1073741824) && Builtin.Range.small i j c && decide (0 ≤ Builtin.Range.rangeSize i j c)) = true then (.ok (rangeCL i c (Builtin.Range.rangeSize i j c).toNat) μ1 : Rs (List PD)) else .no
        | _ => .no) = .no := fun rs => by
      split
      · exact .inl ⟨_, _, _, rfl⟩
      · exact .inr rfl
    rcases key rs with ⟨i, j, c, e⟩ | e
    · have ev := three_ints hvs e
      subst e
      subst ev
      have q1 : Post X.K X.mg T W C ρ σ G1 α1 _ (if (decide (c ≠ 0) && decide (c.natAbs < 1073741824) && Builtin.Range.small i j c && decide (0 ≤ Builtin.Range.rangeSize i j c)) = true then .ok (rangeCL i c (Builtin.Range.rangeSize i j c).toNat) μ1 else .no) := q1
      by_cases hj : (decide (c ≠ 0) && decide (c.natAbs < 1073741824) && Builtin.Range.small i j c && decide (0 ≤ Builtin.Range.rangeSize i j c)) = true
      · rw [if_pos hj] at q1
        simp only [Bool.and_eq_true, decide_eq_true_eq] at hj
        obtain ⟨⟨⟨b1, b2⟩, b3⟩, b4⟩ := hj
        exact ⟨i, j, c, (Builtin.Range.rangeSize i j c).toNat, rfl, ⟨b1, b2, b3, by omega⟩, q1 H1 G1 α1 R1 (Same.refl _) (List.prefix_refl _) _ (it_rangeC i c _)⟩
      · rw [if_neg hj] at q1
        exact q1.elim
    · have q1 := q1
      rw [e] at q1
      exact q1.elim
end
/-! ### comprehensions -/
def W0 : WX := fun _ _ _ _ => False
def wipeR (ρ : Rho) : List Nat → Rho
  | [] => ρ
  | v :: vs => (wipeR ρ vs).set v none
theorem wipeR_length (ρ : Rho) : ∀ vs : List Nat, (wipeR ρ vs).length = ρ.length
  | [] => rfl
  | v :: vs => by unfold wipeR; rw [List.length_set, wipeR_length ρ vs]
/-- an own list grows -/
def snocAt (k : Nat) (d : PD) (μ : Mu) : Option Mu := match μ[k]? with
  | some (.ls w ds) => if ds.length < sizeLine then some (μ.set k (.ls w (ds ++ [d]))) else none
  | _ => none
def Rs.noer {β : Type} : Rs β → Rs β
  | .er _ _ => .no
  | x => x
def compL (tg : RV → Rho → Option Rho) (tt : TV) (te : EV) (vs : List Nat) (k : Nat) : List PD → Rho → Mu → Rs Unit
  | [], _, μ => .ok () μ
  | d :: r, ρ, μ => match tg (.dt d) (wipeR ρ vs) with
    | none => .no
    | some ρ1 => (tt ρ1 μ).noer.bind fun b μ1 => if b = true then (te ρ1 μ1).noer.bind fun y μ2 => (frz y μ2).bind fun d μ3 => match snocAt k d μ3 with
        | some μ4 => compL tg tt te vs k r ρ μ4
        | none => .no
      else compL tg tt te vs k r ρ μ1
def tYesD : TV := fun _ μ => .ok true μ
def eComp (fi : IV) (tg : RV → Rho → Option Rho) (tt : TV) (te : EV) (vs : List Nat) : EV := fun ρ μ => (fi ρ μ).bind fun items μ1 => (compL tg tt te vs μ1.length items ρ (μ1 ++ [.ls true []])).bind fun _ μ2 => .ok (.ob μ1.length) μ2
section
variable {K : PySem.W.Frag} {mg : Str → Option Value} {W : WX} {T : Tb} {C : Ent} {ρ : Rho} {μ : Mu} {σ : L2.St} {H G : Hp} {α : List Addr}
theorem wipe_get {σ : L2.St} {ρ : Rho} (hl : ρ.length = σ.length) : ∀ (vs : List Nat) (i : Nat) (r : RV), (wipeR ρ vs)[i]? = some (some r) → ρ[i]? = some (some r) ∧ (wipe σ vs)[i]? = σ[i]?
  | [], i, r, e => ⟨e, rfl⟩
  | v :: vs, i, r, e => by
    have e : ((wipeR ρ vs).set v none)[i]? = some (some r) := e
    show ρ[i]? = _ ∧ ((wipe σ vs).set v none)[i]? = _
    by_cases hi : v = i
    · subst hi
      by_cases hv : v < (wipeR ρ vs).length
      · rw [List.getElem?_set_self hv] at e; cases e
      · rw [List.getElem?_eq_none (by rw [List.length_set]; omega)] at e; cases e
    · rw [List.getElem?_set_ne hi] at e ⊢
      exact wipe_get hl vs i r e
theorem Rl.wipe (R : Rl K T C ρ μ σ H G α) (vs : List Nat) : Rl K T C (wipeR ρ vs) μ (L2.wipe σ vs) H G α :=
  R.swap (by rw [wipeR_length, wipe_length]; exact R.len) fun i r e => by
    obtain ⟨e1, e2⟩ := wipe_get R.len vs i r e
    obtain ⟨v, h1, h2⟩ := R.sl i r e1
    exact ⟨v, e2.trans h1, h2⟩
theorem wipe_ext {σ σ' : L2.St} (vs : List Nat) (hl : σ'.length = σ.length) (h : ∀ j, j ∉ vs → σ'[j]? = σ[j]?) : L2.wipe σ' vs = L2.wipe σ vs := by
  apply List.ext_getElem?
  intro j
  have key : ∀ (τ : L2.St) (us : List Nat), (j ∈ us → (L2.wipe τ us)[j]? = if j < τ.length then some none else none) ∧ (j ∉ us → (L2.wipe τ us)[j]? = τ[j]?) := fun τ us => by
    induction us with
    | nil => exact ⟨fun h => absurd h (by simp), fun _ => rfl⟩
    | cons v us ih =>
      show (j ∈ v :: us → ((L2.wipe τ us).set v none)[j]? = _) ∧ (j ∉ v :: us → ((L2.wipe τ us).set v none)[j]? = _)
      by_cases hv : v = j
      · subst hv
        refine ⟨fun _ => ?_, fun h => absurd List.mem_cons_self h⟩
        by_cases hlt : v < τ.length
        · rw [List.getElem?_set_self (by rw [wipe_length]; exact hlt), if_pos hlt]
        · rw [List.getElem?_eq_none (by rw [List.length_set, wipe_length]; omega), if_neg hlt]
      · rw [List.getElem?_set_ne hv]
        refine ⟨fun h => ih.1 ?_, fun h => ih.2 fun q => h (List.mem_cons_of_mem _ q)⟩
        rcases List.mem_cons.mp h with e | e
        · exact absurd e.symm hv
        · exact e
  by_cases hj : j ∈ vs
  · rw [(key σ' vs).1 hj, (key σ vs).1 hj, hl]
  · rw [(key σ' vs).2 hj, (key σ vs).2 hj, h j hj]
theorem snocAt_ok (R : Rl K T C ρ μ σ H G α) {k : Nat} {D : Addr} {d : PD} {v : V} {μ' : Mu} (hk : α[k]? = some D) (hv : Rep K G v d) (e : snocAt k d μ = some μ') :
    ∃ acc, H D = some (.lst acc) ∧ acc.length < sizeLine ∧ Rl K T C ρ μ' σ (upd H D (.lst (acc ++ [v]))) G α := by
  unfold snocAt at e
  cases hm : μ[k]? with
  | none => simp only [hm] at e; cases e
  | some m =>
    simp only [hm] at e
    cases m with
    | ls w ds =>
      simp only at e
      by_cases hl : ds.length < sizeLine
      · rw [if_pos hl] at e
        cases e
        obtain ⟨⟨n, vs, q, r⟩, _⟩ := R.ob k D _ hk hm
        exact ⟨vs, q, by rw [r.length]; exact hl, R.write hk hm n rfl ⟨n, _, upd_same, r.append (.cons hv .nil)⟩⟩
      · rw [if_neg hl] at e
        cases e
    | dk w ds => cases e
    | dt w ds => cases e
    | fz ds => cases e
theorem Post.noer {β : Type} {P : β → Mu → Hp → Hp → List Addr → Prop} {x : Rs β} (h : Post K mg T W C ρ σ G α P x.noer) : Post K mg T W0 C ρ σ G α P x := by
  cases x with
  | ok b μ => exact h
  | er e μ => exact h.elim
  | no => exact h
/-- a post at other names -/
theorem Post.at {β : Type} {ρ' : Rho} {σ' : L2.St} {P P' : β → Mu → Hp → Hp → List Addr → Prop} {x : Rs β} (h : Post K mg T W C ρ σ G α P x.noer) (hR : ∀ μ1 H1 G1 α1, Rl K T C ρ' μ1 σ' H1 G1 α1 → Same G G1 → α <+: α1 → Rl K T C ρ μ1 σ H1 G1 α1)
    (hp : ∀ b μ1 H1 G1 α1, Rl K T C ρ' μ1 σ' H1 G1 α1 → Same G G1 → α <+: α1 → P b μ1 H1 G1 α1 → P' b μ1 H1 G1 α1) : Post K mg T W0 C ρ' σ' G α P' x := by
  cases x with
  | ok b μ => exact fun H1 G1 α1 R s p => hp _ _ _ _ _ R s p (h H1 G1 α1 (hR _ _ _ _ R s p) s p)
  | er e μ => exact h.elim
  | no => exact h
theorem noer_bind {β γ : Type} {x : Rs β} {k : β → Mu → Rs γ} : x.noer.bind k = match x with
    | .ok b μ => k b μ
    | _ => .no := by
  cases x <;> rfl
end
section
variable {X : Cx} {T : Tb} {W : WX}
/-- one turn of a comprehension's block, as data -/
theorem comp_turn {K : PySem.W.Frag} {mg : Str → Option Value} {T : Tb} {C : Ent} {ρ ρ1 : Rho} {μ : Mu} {σ σ2 : L2.St} {H G : Hp} {α : List Addr} {tg : RV → Rho → Option Rho} {tt : TV} {te : EV} {vs : List Nat} {k : Nat} {D : Addr} {r : List PD} {P : Unit → Mu → Hp → Hp → List Addr → Prop}
    (R : Rl K T C ρ μ σ H G α) (R2 : Rl K T C ρ1 μ σ2 H G α) (hk : α[k]? = some D)
    (q : Post K mg T W C ρ σ G α P ((tt ρ1 μ).noer.bind fun b μ1 => if b = true then (te ρ1 μ1).noer.bind fun y μ2 => (frz y μ2).bind fun d μ3 => match snocAt k d μ3 with
        | some μ4 => compL tg tt te vs k r ρ μ4
        | none => .no
      else compL tg tt te vs k r ρ μ1)) (Nx : Hp → Prop)
    (hNx : ∀ μ' H' G' α', Rl K T C ρ μ' σ H' G' α' → Same G G' → α <+: α' → Post K mg T W C ρ σ G' α' P (compL tg tt te vs k r ρ μ') → Nx H') :
    tDT K mg T W0 tt σ2 H fun b H3 => if b = true then tD K mg T W0 te σ2 H3 fun y H4 => ∃ acc, H4 D = some (.lst acc) ∧ acc.length < sizeLine ∧ Nx (upd H4 D (.lst (acc ++ [y]))) else Nx H3 := by
  refine ⟨C, ρ1, μ, G, α, R2, ?_⟩
  refine Post.at (Post.bind q) (fun μ1 H1 G1 α1 R1 s p => R.back R1 s p) fun b μ1 H1 G1 α1 R1 s p h1 => ?_
  obtain ⟨Ro, _, _, q1⟩ := h1
  cases b with
  | false =>
    rw [if_neg Bool.false_ne_true] at q1 ⊢
    exact hNx μ1 H1 G1 α1 Ro s p q1
  | true =>
    rw [if_pos rfl] at q1 ⊢
    refine ⟨C, ρ1, μ1, G1, α1, R1, ?_⟩
    refine Post.at (Post.bind q1) (fun μ2 H2 G2 α2 R2' s2 p2 => Ro.back R2' s2 p2) fun y μ2 H2 G2 α2 R2' s2 p2 h2 v hv => ?_
    obtain ⟨Ro2, _, _, q2⟩ := h2
    obtain ⟨d, μ3, G3, e3, R3, s3, r3, _, _, _, q3⟩ := frz_ok Ro2 hv (Post.bind q2)
    have hk2 : α2[k]? = some D := by
      obtain ⟨t, rfl⟩ := p.trans p2
      rw [List.getElem?_append_left (List.getElem?_eq_some_iff.mp hk).1]
      exact hk
    cases es : snocAt k d μ3 with
    | none => rw [es] at q3; exact q3.elim
    | some μ4 =>
      rw [es] at q3
      obtain ⟨acc, h1, h2, R4⟩ := snocAt_ok R3 hk2 r3 es
      exact ⟨acc, h1, h2, hNx μ4 _ G3 α2 R4 ((s.trans s2).trans s3) (p.trans p2) q3⟩
theorem pts_imp {X : Cx} {ifs : List Expr} {t t' : TT} (h : PTs X ifs t) (i : ∀ σ H Q, t' σ H Q → t σ H Q) : PTs X ifs t' := ⟨fun pins s σ H Q I q => h.run pins s σ H Q I (i σ H Q q)⟩
theorem d_pts0 : PTs X [] (tDT X.K X.mg T W tYesD) := pts_imp pts_nil fun σ H Q ⟨C, ρ, μ, G, α, R, q⟩ => q H G α R (Same.refl _) (List.prefix_refl _)
theorem d_pts1 {c : Expr} {t : TV} (h : PT X c (tDT X.K X.mg T W t)) : PTs X [c] (tDT X.K X.mg T W t) := pts_one h
/-- what a comprehension's reading is by data -/
theorem comp_read {K : PySem.W.Frag} {mg : Str → Option Value} {T : Tb} {C : Ent} {ρ : Rho} {μ : Mu} {σ : L2.St} {H G : Hp} {α : List Addr} {fi : IV} {tg : RV → Rho → Option Rho} {tt : TV} {te : EV} {vs L : List Nat} {Q : VK} (hL : ∀ i ∈ L, i ∈ vs) (R : Rl K T C ρ μ σ H G α)
    (q : Post K mg T W C ρ σ G α (fun r _ H' G' α' => ∀ v, RvOk K G' α' r v → Q v H') (eComp fi tg tt te vs ρ μ)) : tLc (tDI K mg T W fi) (tDG K T L tg) (tDT K mg T W0 tt) (tD K mg T W0 te) vs σ H Q := by
  refine ⟨C, ρ, μ, G, α, R, (Post.bind q).mono fun items μ1 H1 G1 α1 _ _ _ h1 J hJ D hD => ?_⟩
  obtain ⟨R1, s1, p1, q1⟩ := h1
  have hg : G1 D = none := R1.sub.free hD
  have R2 : Rl K T C ρ (μ1 ++ [.ls true []]) σ (upd H1 D (.lst [])) G1 (α1 ++ [D]) := R1.alloc hD (m := .ls true []) ⟨hg, [], upd_same, .nil⟩ rfl
  have hk0 : (α1 ++ [D])[μ1.length]? = some D := by
    rw [← R1.al]
    exact get_last α1 D
  refine ⟨fun i m H => m = items.length - i ∧ i ≤ items.length ∧ ∃ μ G' α', Rl K T C ρ μ σ H G' α' ∧ Same G1 G' ∧ (α1 ++ [D]) <+: α' ∧
      Post K mg T W C ρ σ G' α' (fun r _ H' G' α' => ∀ v, RvOk K G' α' r v → Q v H') ((compL tg tt te vs μ1.length (items.drop i) ρ μ).bind fun _ μ2 => .ok (.ob μ1.length) μ2),
    ⟨items.length, by simp, Nat.zero_le _, μ1 ++ [.ls true []], G1, α1 ++ [D], R2, Same.refl _, List.prefix_refl _, q1.base (Same.refl _) (List.prefix_append _ _)⟩, ?_⟩
  rintro i m H2 ⟨rfl, hi, μ2, G2, α2, R2', s2, p2, q2⟩
  have hk2 : α2[μ1.length]? = some D := by
    obtain ⟨t, rfl⟩ := p2
    rw [List.getElem?_append_left (List.getElem?_eq_some_iff.mp hk0).1]
    exact hk0
  obtain ⟨j1, j2, j3⟩ := hJ i H2 G2 s2 R2'.sub
  by_cases hlt : i < items.length
  · refine .inr ⟨j1 hlt, fun H' => i + 1 ≤ items.length ∧ ∃ μ G' α', Rl K T C ρ μ σ H' G' α' ∧ Same G1 G' ∧ (α1 ++ [D]) <+: α' ∧
      Post K mg T W C ρ σ G' α' (fun r _ H' G' α' => ∀ v, RvOk K G' α' r v → Q v H') ((compL tg tt te vs μ1.length (items.drop (i + 1)) ρ μ).bind fun _ μ2 => .ok (.ob μ1.length) μ2), fun H' h => ⟨items.length - (i + 1), by omega, rfl, h⟩, fun x H3 hy => ?_⟩
    have hd : items[i]? = some items[i] := List.getElem?_eq_getElem hlt
    obtain ⟨G3, g3, r3⟩ := j3 _ hd x H3 hy
    have R3 := R2'.grow g3
    rw [List.drop_eq_getElem_cons hlt] at q2
    have q2 := q2.base g3.g (List.prefix_refl _)
    have q2 := Post.bind q2
    have q2 : Post K mg T W C ρ σ G3 α2 _ (match tg (.dt items[i]) (wipeR ρ vs) with
      | none => .no
      | some ρ1 => (tt ρ1 μ2).noer.bind fun b μ1' => if b = true then (te ρ1 μ1').noer.bind fun y μ2 => (frz y μ2).bind fun d μ3 => match snocAt μ1.length d μ3 with
          | some μ4 => compL tg tt te vs μ1.length (items.drop (i + 1)) ρ μ4
          | none => .no
        else compL tg tt te vs μ1.length (items.drop (i + 1)) ρ μ1') := q2
    cases et : tg (.dt items[i]) (wipeR ρ vs) with
    | none => rw [et] at q2; exact q2.elim
    | some ρ3 =>
      rw [et] at q2
      refine ⟨C, wipeR ρ vs, μ2, G3, α2, .dt items[i], ρ3, R3.wipe vs, r3, et, fun σ' R' hl hj => ⟨?_, ?_⟩⟩
      · have e1 : L2.wipe σ' vs = L2.wipe (L2.wipe σ vs) vs := wipe_ext vs hl fun j hjv => hj j fun z => hjv (hL j z)
        rw [e1]
        refine wipe_ext vs (wipe_length σ vs) fun j hj => wipe_out hj
      · refine comp_turn R3 R' hk2 q2 _ fun μ' H' G' α' R4 s4 p4 q4 => ?_
        refine ⟨hlt, μ', G', α', R4, (s2.trans g3.g).trans s4, p2.trans p4, ?_⟩
        cases ec : compL tg tt te vs μ1.length (items.drop (i + 1)) ρ μ' with
        | ok b μ5 =>
          rw [ec] at q4
          show Post K mg T W C ρ σ G' α' _ (Rs.ok (RV.ob μ1.length) μ5 : Rs RV)
          intro H5 G5 α5 R5 s5 p5
          obtain ⟨_, _, _, z⟩ := q4 H5 G5 α5 R5 s5 p5
          exact z H5 G5 α5 R5 (Same.refl _) (List.prefix_refl _)
        | er e μ5 => rw [ec] at q4; exact q4
        | no => rw [ec] at q4; exact q4
  · have e : i = items.length := by omega
    subst e
    rw [List.drop_length] at q2
    exact .inl ⟨j2 rfl, q2 H2 G2 α2 R2' (Same.refl _) (List.prefix_refl _) _ ⟨D, hk2, rfl⟩⟩
theorem d_comp {elt tg iter : Expr} {ifs : List Expr} {scope : Scope} {own : List (Str × Nat)} {pos : Pos} {fi : IV} {L : List Nat} {t : RV → Rho → Option Rho} {tt : TV} {te : EV} (hc : X.calm = true) (hN : X.N.Nodup) (hi : PI X tg iter (tDI X.K X.mg T W fi)) (ok : BlkOk X.N X.env.scope scope own)
    (hg : ∀ (s : Shared) (H : Hp) (C : Addr) (cl : List (Str × Addr)) (fp : List Addr), PG (X.blk s H scope (compEnvC scope cl C X.env) fp) tg (tDG X.K T L t)) (ht : ∀ (s : Shared) (H : Hp) (C : Addr) (cl : List (Str × Addr)) (fp : List Addr), PTs (X.blk s H scope (compEnvC scope cl C X.env) fp) ifs (tDT X.K X.mg T W0 tt))
    (he : ∀ (s : Shared) (H : Hp) (C : Addr) (cl : List (Str × Addr)) (fp : List Addr), PE (X.blk s H scope (compEnvC scope cl C X.env) fp) elt (tD X.K X.mg T W0 te)) (hs : ∀ x, foldedSetIterable iter X.env x = pure x := by intro _; rfl) (hL : ∀ i ∈ L, i ∈ own.map (·.2) := by decide) :
    PE X (.ListComp elt [⟨tg, iter, ifs, 0⟩] scope pos) (tD X.K X.mg T W (eComp fi t tt te (own.map (·.2)))) :=
  pe_imp (pe_lc hc hN hi ok hg ht he hs) fun σ H Q ⟨C, ρ, μ, G, α, R, q⟩ => comp_read hL R q
/-- name = [..] -/
theorem d_setComp {i : Nat} {y : Str} {py : Pos} {elt tg iter : Expr} {ifs : List Expr} {scope : Scope} {own : List (Str × Nat)} {pos spos : Pos} {fi : IV} {L : List Nat} {t : RV → Rho → Option Rho} {tt : TV} {te : EV} (hc : X.calm = true) (hN : X.N.Nodup) (hy : X.N[i]? = some y) (hyl : X.env.scope.names.lookup y = some .local)
    (hsw : swapsWith (.ListComp elt [⟨tg, iter, ifs, 0⟩] scope pos) (some (.Name y py)) spos.line X.env = pure true) (hi : PI X tg iter (tDI X.K X.mg T W fi)) (ok : BlkOk X.N X.env.scope scope own)
    (hg : ∀ (s : Shared) (H : Hp) (C : Addr) (cl : List (Str × Addr)) (fp : List Addr), PG (X.blk s H scope (compEnvC scope cl C X.env) fp) tg (tDG X.K T L t)) (ht : ∀ (s : Shared) (H : Hp) (C : Addr) (cl : List (Str × Addr)) (fp : List Addr), PTs (X.blk s H scope (compEnvC scope cl C X.env) fp) ifs (tDT X.K X.mg T W0 tt))
    (he : ∀ (s : Shared) (H : Hp) (C : Addr) (cl : List (Str × Addr)) (fp : List Addr), PE (X.blk s H scope (compEnvC scope cl C X.env) fp) elt (tD X.K X.mg T W0 te)) (hs : ∀ x, foldedSetIterable iter X.env x = pure x := by intro _; rfl) (hL : ∀ i ∈ L, i ∈ own.map (·.2) := by decide) :
    PS X (.Assign [.Name y py] (.ListComp elt [⟨tg, iter, ifs, 0⟩] scope pos) spos) (tDS X.K X.mg T W (sSet i (eComp fi t tt te (own.map (·.2))))) :=
  ps_imp (ps_setLc hc hN hy hyl hsw hi ok hg ht he hs) fun D σ H ⟨C, ρ, μ, G, α, R, q⟩ =>
    comp_read hL R ((Rs.post q).mono fun r μ1 H1 G1 α1 _ _ _ h1 v hv => h1.2.2 _ H1 G1 α1 (h1.1.set hv) (Same.refl _))
end
/-! ### what is left behind is cut off -/
def gcR (n : Nat) (r : RV) (μ : Mu) : Rs RV := match r with
  | .ob k => if k < n then .ok (.ob k) (μ.take n) else match μ[k]? with
    | some m => .ok (.ob n) (μ.take n ++ [m])
    | none => .no
  | r => .ok r (μ.take n)
def eGc (f : EV) : EV := fun ρ μ => (f ρ μ).bind fun r μ1 => gcR μ.length r μ1
def tGc (f : TV) : TV := fun ρ μ => (f ρ μ).bind fun b μ1 => .ok b (μ1.take μ.length)
section
variable {K : PySem.W.Frag} {mg : Str → Option Value} {W : WX} {T : Tb} {C : Ent} {ρ : Rho} {μ μ1 : Mu} {σ : L2.St} {H H1 G G1 : Hp} {α α1 : List Addr}
theorem Rl.take (R : Rl K T C ρ μ σ H G α) (R1 : Rl K T C ρ μ1 σ H1 G1 α1) (s : Same G G1) (p : α <+: α1) : Rl K T C ρ (μ1.take μ.length) σ H1 G1 α where
  sub := R1.sub
  ext := R1.ext
  fr := R1.fr
  tb := R1.tb
  gt := R1.gt
  al := by
    have h1 := p.length_le
    have h2 := R.al
    have h3 := R1.al
    rw [List.length_take]
    omega
  nd := R.nd
  pre := R.pre
  ob := fun k a m h1 h2 => by
    have hk : k < μ.length := by
      have := (List.getElem?_eq_some_iff.mp h1).1
      rw [R.al] at this
      exact this
    rw [List.getElem?_take_of_lt hk] at h2
    obtain ⟨t, rfl⟩ := p
    exact R1.ob k a m (by rw [List.getElem?_append_left (List.getElem?_eq_some_iff.mp h1).1]; exact h1) h2
  len := R.len
  sl := fun i r h => by
    obtain ⟨v, h1, h2⟩ := R.sl i r h
    exact ⟨v, h1, h2.mono s (List.prefix_refl _)⟩
theorem Rl.keep (R : Rl K T C ρ μ σ H G α) (R1 : Rl K T C ρ μ1 σ H1 G1 α1) (s : Same G G1) (p : α <+: α1) {k : Nat} {m : Ob} {a : Addr} (hk : ¬ k < μ.length) (hm : μ1[k]? = some m) (ha : α1[k]? = some a) : Rl K T C ρ (μ1.take μ.length ++ [m]) σ H1 G1 (α ++ [a]) := by
  have R2 := R.take R1 s p
  obtain ⟨om, ow⟩ := R1.ob k a m ha hm
  have hna : a ∉ α := fun hmem => by
    obtain ⟨j, hj⟩ := List.mem_iff_getElem?.mp hmem
    have hjl := (List.getElem?_eq_some_iff.mp hj).1
    obtain ⟨t, et⟩ := p
    have h1 : α1[j]? = some a := by rw [← et, List.getElem?_append_left hjl]; exact hj
    have := nodup_get R1.nd h1 ha
    rw [R.al] at hjl
    omega
  refine ⟨R2.sub, R2.ext, R2.fr, R2.tb, R2.gt, ?_, nodup_snoc R.nd hna, R.pre.trans (List.prefix_append _ _), fun j b m' h1 h2 => ?_, R.len, fun i r h => ?_⟩
  · rw [List.length_append, List.length_append, R2.al]
    rfl
  · rcases get_snoc h1 with h1 | ⟨ek, eb⟩
    · rcases get_snoc h2 with h2 | ⟨h2, _⟩
      · exact R2.ob j b m' h1 h2
      · have := (List.getElem?_eq_some_iff.mp h1).1
        rw [R2.al] at this
        omega
    · rcases get_snoc h2 with h2 | ⟨ej, em⟩
      · have := (List.getElem?_eq_some_iff.mp h2).1
        rw [← R2.al] at this
        omega
      · subst eb em
        refine ⟨om, fun z => ⟨?_, (ow.1 z).2⟩, fun z => ?_⟩
        · rw [ek]; exact R.pre.length_le
        · have h1 := ow.2 z
          have h2 := R.pre.length_le
          have h3 := R.al
          omega
  · obtain ⟨v, h1, h2⟩ := R.sl i r h
    exact ⟨v, h1, h2.mono s (List.prefix_append _ _)⟩
end
section
variable {X : Cx} {T : Tb} {W : WX} {a : Expr} {fa : EV} {t : TV}
theorem d_gc (ha : PE X a (tD X.K X.mg T W fa)) : PE X a (tD X.K X.mg T W (eGc fa)) :=
  pe_imp ha fun σ H Q ⟨C, ρ, μ, G, α, R, q⟩ => by
    refine ⟨C, ρ, μ, G, α, R, ?_⟩
    unfold eGc at q
    cases e : fa ρ μ with
    | no => rw [e] at q; exact q
    | er x μ1 => rw [e] at q; exact q
    | ok r μ1 =>
      rw [e] at q
      have q : Post X.K X.mg T W C ρ σ G α _ (gcR μ.length r μ1) := q
      intro H1 G1 α1 R1 s1 p1 v hv
      have R2 := R.take R1 s1 p1
      cases r with
      | dt d => exact q H1 G1 α R2 s1 (List.prefix_refl _) v hv
      | un u => exact q H1 G1 α R2 s1 (List.prefix_refl _) v hv
      | ob k =>
        obtain ⟨b, hb, rfl⟩ := hv
        unfold gcR at q
        by_cases hk : k < μ.length
        · simp only [if_pos hk] at q
          refine q H1 G1 α R2 s1 (List.prefix_refl _) _ ⟨b, ?_, rfl⟩
          obtain ⟨t, rfl⟩ := p1
          rw [List.getElem?_append_left (by rw [R.al]; exact hk)] at hb
          exact hb
        · simp only [if_neg hk] at q
          obtain ⟨m, hm⟩ := R1.lt hb
          rw [hm] at q
          refine q H1 G1 (α ++ [b]) (R.keep R1 s1 p1 hk hm hb) s1 (List.prefix_append _ _) _ ⟨b, ?_, rfl⟩
          rw [← R.al]
          exact get_last α b
theorem d_tgc {t : TV} (ha : PT X a (tDT X.K X.mg T W t)) : PT X a (tDT X.K X.mg T W (tGc t)) :=
  pt_imp ha fun σ H Q ⟨C, ρ, μ, G, α, R, q⟩ => by
    refine ⟨C, ρ, μ, G, α, R, ?_⟩
    unfold tGc at q
    cases e : t ρ μ with
    | no => rw [e] at q; exact q
    | er x μ1 => rw [e] at q; exact q
    | ok r μ1 =>
      rw [e] at q
      exact fun H1 G1 α1 R1 s1 p1 => q H1 G1 α (R.take R1 s1 p1) s1 (List.prefix_refl _)
end
end DL
/-! The data layer, sixth part: defs, their calls, own errors raised. -/
namespace DL
open PySem PySem.Spec PyProof.Rows L2
inductive Arg where
  | d (x : PD)
  | b (m : Ob)
inductive Ret where
  | d (x : PD)
  | o (m : Ob)
/-- how a def ends: the answer or the error, what it leaves of the objects lent -/
inductive Rf where
  | ok (r : Ret) (ms : List Ob)
  | er (e : Ex) (ms : List Ob)
  | no
abbrev FV := List Arg → Rf
def Ob.with (w : Bool) : Ob → Ob
  | .ls _ ds => .ls w ds
  | .dk _ kvs => .dk w kvs
  | .dt _ kvs => .dt w kvs
  | .fz ds => .fz ds
inductive ArgsOk (K : PySem.W.Frag) (G H : Hp) : List Arg → List V → List Addr → Prop
  | nil : ArgsOk K G H [] [] []
  | d {v : V} {x : PD} {as : List Arg} {vs : List V} {P : List Addr} : Rep K G v x → ArgsOk K G H as vs P → ArgsOk K G H (.d x :: as) (v :: vs) P
  | b {a : Addr} {m : Ob} {as : List Arg} {vs : List V} {P : List Addr} : ObOk K G H a m → m.own = some false → ArgsOk K G H as vs P → ArgsOk K G H (.b m :: as) (.ref a :: vs) (a :: P)
/-- what a call leaves of the heap: all but the objects lent stands -/
structure Fram (T : Tb) (G H G' H' : Hp) (P : List Addr) : Prop where
  g : Same G G'
  s : Same G' H'
  k : ∀ b o, H b = some o → NT o → b ∉ P → H' b = some o ∧ (G b = none → G' b = none)
  t : LamX.Tabs T H'
  u : NoTb G'
inductive ObsOk (K : PySem.W.Frag) (G H : Hp) : List Addr → List Ob → Prop
  | nil : ObsOk K G H [] []
  | cons {a : Addr} {m : Ob} {P : List Addr} {ms : List Ob} : ObOk K G H a m → m.own = some false → ObsOk K G H P ms → ObsOk K G H (a :: P) (m :: ms)
def RetOk (K : PySem.W.Frag) (H0 G H : Hp) : Ret → V → Prop
  | .d x, v => Rep K G v x
  | .o m, v => ∃ a, v = .ref a ∧ ObOk K G H a m ∧ m.own = some true ∧ ∀ o, H0 a = some o → ∃ ps, o = .tbl ps
def RfPost (K : PySem.W.Frag) (mg : Str → Option Value) (T : Tb) (G H : Hp) (P : List Addr) (Q : VK) (E : XK) : Rf → Prop
  | .ok r ms => ∀ H' G' v, Fram T G H G' H' P → ObsOk K G' H' P ms → RetOk K H G' H' r v → Q v H'
  | .er e ms => ∀ cls d H' G', Fram T G H G' H' P → ObsOk K G' H' P ms → ExOk mg e cls d H' → E cls d H'
  | .no => False
/-- a def by what it makes of data and of objects lent -/
def spF (K : PySem.W.Frag) (mg : Str → Option Value) (T : Tb) (n : Nat) (F : FV) : Sp := fun vs H Q E => vs.length = n ∧ LamX.Tabs T H ∧ ∃ G as P, NoTb G ∧ Same G H ∧ ArgsOk K G H as vs P ∧ P.Nodup ∧ RfPost K mg T G H P Q E (F as)
/-! ### a def's body -/
def entR : Nat → List Arg → Rho
  | _, [] => []
  | k, .d x :: as => some (.dt x) :: entR k as
  | k, .b m :: as => some (.ob k) :: entR (k + 1) as
def entM : List Arg → Mu
  | [] => []
  | .d x :: as => entM as
  | .b m :: as => m :: entM as
def pad (n : Nat) (ρ : Rho) : Rho := ρ ++ List.replicate (n - ρ.length) none
/-- the objects lent as they are left; none where one was let go -/
def lents : Nat → Mu → Option (List Ob)
  | 0, _ => some []
  | n + 1, m :: μ => if m.own = some false then (lents n μ).map (m :: ·) else none
  | _ + 1, [] => none
def retV (r : RV) (μ : Mu) : Option Ret := match r with
  | .dt d => some (.d d)
  | .un _ => none
  | .ob k => match μ[k]? with
    | some (.fz ds) => some (.d (.list ds))
    | some m => if m.own = some true then some (.o m) else none
    | none => none
def retF (m : Nat) (r : RV) (μ : Mu) : Rf := match lents m μ, retV r μ with
  | some ms, some x => .ok x ms
  | _, _ => .no
def endF (m : Nat) : So → Rf
  | .nx _ μ => retF m (.dt .none) μ
  | .rt r μ => retF m r μ
  | .er e _ μ => match lents m μ with
    | some ms => .er e ms
    | none => .no
  | _ => .no
def runF (n : Nat) (g : SV) : FV := fun as => endF (entM as).length (g (pad n (entR 0 as)) (entM as))
section
variable {K : PySem.W.Frag} {T : Tb} {mg : Str → Option Value} {G H G' H' : Hp}
theorem ArgsOk.len : ∀ {as : List Arg} {vs : List V} {P : List Addr}, ArgsOk K G H as vs P → as.length = vs.length ∧ P.length = (entM as).length
  | _, _, _, .nil => ⟨rfl, rfl⟩
  | _, _, _, .d _ t => ⟨by rw [List.length_cons, List.length_cons, t.len.1], t.len.2⟩
  | _, _, _, .b _ _ t => ⟨by rw [List.length_cons, List.length_cons, t.len.1], by show _ + 1 = _ + 1; rw [t.len.2]⟩
theorem entR_length : ∀ (as : List Arg) (k : Nat), (entR k as).length = as.length
  | [], _ => rfl
  | .d x :: as, k => by show _ + 1 = _ + 1; rw [entR_length as]
  | .b m :: as, k => by show _ + 1 = _ + 1; rw [entR_length as]
theorem ArgsOk.ob : ∀ {as : List Arg} {vs : List V} {P : List Addr}, ArgsOk K G H as vs P → ∀ (k : Nat) (a : Addr) (m : Ob), P[k]? = some a → (entM as)[k]? = some m → ObOk K G H a m ∧ m.own = some false
  | _, _, _, .nil, k, a, m, h1, _ => by simp at h1
  | _, _, _, .d _ t, k, a, m, h1, h2 => t.ob k a m h1 h2
  | _, _, _, .b q w t, 0, a, m, h1, h2 => by
    cases h1
    cases h2
    exact ⟨q, w⟩
  | _, _, _, .b q w t, k + 1, a, m, h1, h2 => t.ob k a m h1 h2
theorem ArgsOk.sl {P0 : List Addr} : ∀ {as : List Arg} {vs : List V} {P : List Addr}, ArgsOk K G H as vs P → ∀ (k : Nat), (∀ j a, P[j]? = some a → P0[k + j]? = some a) → ∀ (i : Nat) (r : RV), (entR k as)[i]? = some (some r) → ∃ v, vs[i]? = some v ∧ RvOk K G P0 r v
  | _, _, _, .nil, k, hP, i, r, e => by cases i <;> cases e
  | _, _, _, .d q t, k, hP, 0, r, e => by
    cases e
    exact ⟨_, rfl, q⟩
  | _, _, _, .d q t, k, hP, i + 1, r, e => t.sl k hP i r e
  | _, _, _, .b q w t, k, hP, 0, r, e => by
    cases e
    exact ⟨_, rfl, _, hP 0 _ rfl, rfl⟩
  | _, _, _, .b q w t, k, hP, i + 1, r, e => t.sl (k + 1) (fun j a h => by rw [Nat.add_assoc, Nat.add_comm 1]; exact hP (j + 1) a h) i r e
theorem lents_ok {α : List Addr} : ∀ (n : Nat) (P : List Addr) (μ : Mu) (ms : List Ob), P.length = n → (∀ (k : Nat) (a : Addr) (m : Ob), P[k]? = some a → μ[k]? = some m → ObOk K G H a m) → lents n μ = some ms → ObsOk K G H P ms
  | 0, [], μ, ms, _, _, e => by cases e; exact .nil
  | n + 1, a :: P, [], ms, _, _, e => by cases e
  | n + 1, a :: P, m :: μ, ms, hl, h, e => by
    unfold lents at e
    by_cases hw : m.own = some false
    · rw [if_pos hw] at e
      cases e2 : lents n μ with
      | none => rw [e2] at e; cases e
      | some ms' =>
        rw [e2] at e
        cases e
        exact .cons (h 0 a m rfl rfl) hw (lents_ok (α := α) n P μ ms' (by simpa using hl) (fun k b x h1 h2 => h (k + 1) b x h1 h2) e2)
    · rw [if_neg hw] at e
      cases e
theorem get_start {N : List Str} {vs : List V} {i : Nat} {v : V} (h : vs[i]? = some v) : (L2.start N vs)[i]? = some (some v) := by
  unfold L2.start
  have hi := (List.getElem?_eq_some_iff.mp h).1
  rw [List.getElem?_append_left (by rw [List.length_map]; exact hi), List.getElem?_map, h]
  rfl
theorem pad_get {n : Nat} {ρ : Rho} {i : Nat} {r : RV} (h : (pad n ρ)[i]? = some (some r)) : ρ[i]? = some (some r) := by
  unfold pad at h
  by_cases hi : i < ρ.length
  · rw [List.getElem?_append_left hi] at h
    exact h
  · rw [List.getElem?_append_right (by omega), List.getElem?_replicate] at h
    split at h <;> cases h
/-- the entry -/
theorem Rl.entry {N : List Str} {vs : List V} {as : List Arg} {P : List Addr} (ht : LamX.Tabs T H) (hg : NoTb G) (s : Same G H) (ha : ArgsOk K G H as vs P) (nd : P.Nodup) : Rl K T ⟨H, G, P⟩ (pad N.length (entR 0 as)) (entM as) (L2.start N vs) H G P where
  sub := s
  ext := Same.refl _
  fr := fun b o e _ hb => ⟨e, id⟩
  tb := ht
  gt := hg
  al := ha.len.2
  nd := nd
  pre := List.prefix_refl _
  ob := fun k a m h1 h2 => by
    obtain ⟨q1, q2⟩ := ha.ob k a m h1 h2
    exact ⟨q1, fun z => (by rw [q2] at z; cases z), fun _ => (List.getElem?_eq_some_iff.mp h1).1⟩
  len := by
    unfold pad L2.start
    rw [List.length_append, List.length_append, List.length_replicate, List.length_replicate, List.length_map, entR_length, ha.len.1]
  sl := fun i r h => by
    obtain ⟨v, h1, h2⟩ := ha.sl (P0 := P) 0 (fun j a h => by rw [Nat.zero_add]; exact h) i r (pad_get h)
    exact ⟨v, get_start h1, h2⟩
theorem Rl.fram {C : Ent} {ρ : Rho} {μ : Mu} {σ : L2.St} {α : List Addr} (R : Rl K T C ρ μ σ H G α) : Fram T C.G C.H G H C.P := ⟨R.ext, R.sub, R.fr, R.tb, R.gt⟩
theorem Rl.obs {C : Ent} {ρ : Rho} {μ : Mu} {σ : L2.St} {α : List Addr} {ms : List Ob} (R : Rl K T C ρ μ σ H G α) (e : lents C.P.length μ = some ms) : ObsOk K G H C.P ms :=
  lents_ok (α := α) C.P.length C.P μ ms rfl (fun k a m h1 h2 => (R.ob k a m (by
    obtain ⟨t, et⟩ := R.pre
    rw [← et, List.getElem?_append_left (List.getElem?_eq_some_iff.mp h1).1]
    exact h1) h2).1) e
theorem Rl.ret {C : Ent} {ρ : Rho} {μ : Mu} {σ : L2.St} {α : List Addr} {r : RV} {v : V} {x : Ret} (R : Rl K T C ρ μ σ H G α) (h : RvOk K G α r v) (e : retV r μ = some x) : RetOk K C.H G H x v := by
  unfold retV at e
  cases r with
  | dt d => cases e; exact h
  | un u => cases e
  | ob k =>
    obtain ⟨a, ha, rfl⟩ := h
    simp only at e
    cases em : μ[k]? with
    | none => rw [em] at e; cases e
    | some m =>
      rw [em] at e
      obtain ⟨q, w1, w2⟩ := R.ob k a m ha em
      cases m with
      | fz ds =>
        cases e
        obtain ⟨vs, q1, q2⟩ := q
        exact .lst q1 q2
      | ls o ds =>
        have e : (if (Ob.ls o ds).own = some true then some (Ret.o (.ls o ds)) else none) = some x := e
        by_cases hw : (Ob.ls o ds).own = some true
        · rw [if_pos hw] at e; cases e; exact ⟨a, rfl, q, hw, (w1 hw).2⟩
        · rw [if_neg hw] at e; cases e
      | dk o ds =>
        have e : (if (Ob.dk o ds).own = some true then some (Ret.o (.dk o ds)) else none) = some x := e
        by_cases hw : (Ob.dk o ds).own = some true
        · rw [if_pos hw] at e; cases e; exact ⟨a, rfl, q, hw, (w1 hw).2⟩
        · rw [if_neg hw] at e; cases e
      | dt o ds =>
        have e : (if (Ob.dt o ds).own = some true then some (Ret.o (.dt o ds)) else none) = some x := e
        by_cases hw : (Ob.dt o ds).own = some true
        · rw [if_pos hw] at e; cases e; exact ⟨a, rfl, q, hw, (w1 hw).2⟩
        · rw [if_neg hw] at e; cases e
/-- the body's reading gives the def's -/
theorem run_ok {N : List Str} {n : Nat} {g : SV} {vs : List V} {Q : VK} {E : XK} (h : spF K mg T n (runF N.length g) vs H Q E) : tDS K mg T (fun cls d _ H => E cls d H) g { nx := fun _ H' => Q .non H', rt := Q } (L2.start N vs) H := by
  obtain ⟨_, ht, G, as, P, hg, s, ha, nd, q⟩ := h
  refine ⟨⟨H, G, P⟩, _, _, G, P, Rl.entry ht hg s ha nd, ?_⟩
  unfold runF at q
  rw [← ha.len.2] at q
  have key : ∀ {μ : Mu} {r : RV}, RfPost K mg T G H P Q E (retF P.length r μ) → ∀ (ρ' : Rho) (σ' : L2.St) (H' G' : Hp) (α' : List Addr) (v : V), Rl K T ⟨H, G, P⟩ ρ' μ σ' H' G' α' → RvOk K G' α' r v → Q v H' := fun {μ r} q ρ' σ' H' G' α' v R hv => by
    unfold retF at q
    cases e1 : lents P.length μ with
    | none => rw [e1] at q; exact q.elim
    | some ms =>
      cases e2 : retV r μ with
      | none => rw [e1, e2] at q; exact q.elim
      | some x =>
        rw [e1, e2] at q
        exact q H' G' v R.fram (R.obs e1) (R.ret hv e2)
  cases e : g (pad N.length (entR 0 as)) (entM as) with
  | nx ρ' μ' => rw [e] at q; exact fun σ' H' G' α' R _ => key q ρ' σ' H' G' α' .non R .non
  | rt r μ' => rw [e] at q; exact fun ρ' σ' H' G' α' v R _ hv => key q ρ' σ' H' G' α' v R hv
  | bk ρ' μ' => rw [e] at q; exact q.elim
  | ct ρ' μ' => rw [e] at q; exact q.elim
  | no => rw [e] at q; exact q.elim
  | er x ρ' μ' =>
    rw [e] at q
    unfold endF at q
    intro cls d σ' H' G' α' R _ ex
    cases e1 : lents P.length μ' with
    | none => simp only [e1] at q; exact q.elim
    | some ms =>
      simp only [e1] at q
      exact q cls d H' G' R.fram (R.obs e1) ex
end
section
variable {P : Program} {w : World} {K : PySem.W.Frag} {T : Tb} {mg : Str → Option Value} {base : Heap}
/-- a def -/
theorem d_fun {x qual : Str} {st : Stmt} {f : Addr} {fd : FuncData} {N ps : List Str} {k n : Nat} {g : SV} (F : Fun K x qual st f fd) (S : FnScope N ps (defScope st)) (hn : ps.length = n)
    (hbody : ∀ (cdv : Value) (A : Around) (outer : List Env) (s : Shared) (H : Hp) (E : XK), Room k (A.deeper (envOfC qual (defScope st) s.heap.objs.size f cdv)) →
      PSs (cxOf (L2.CX P w) P w K mg base N qual (defScope st) f cdv A outer s H E) (defBody st) (tDS K mg T (fun cls d _ H => E cls d H) g)) : FnOk P w K mg base (L2.CX P w) (k + 1) f fd ps (spF K mg T n (runF N.length g)) :=
  F.okX S (fun vs H Q E h => h.1.trans hn.symm) fun cdv A outer s H vs Q E hr h => ⟨_, hbody cdv A outer s H E hr, run_ok h⟩
end
end DL
/-! The data layer, seventh part: calls of defs, own errors raised. -/
namespace DL
open PySem PySem.Spec PyProof.Rows L2
/-- data arguments are let go -/
def frzM : List Bool → List RV → Mu → Rs (List RV)
  | true :: bs, r :: rs, μ => (frzM bs rs μ).bind fun rs' μ1 => .ok (r :: rs') μ1
  | false :: bs, r :: rs, μ => (frz r μ).bind fun d μ1 => (frzM bs rs μ1).bind fun rs' μ2 => .ok (.dt d :: rs') μ2
  | _, [], μ => .ok [] μ
  | [], _ :: _, _ => .no
/-- the arguments as the callee sees them; the objects lent -/
def lend (μ : Mu) : List RV → Option (List Arg × List Nat)
  | [] => some ([], [])
  | .dt d :: rs => (lend μ rs).map fun p => (.d d :: p.1, p.2)
  | .un _ :: _ => none
  | .ob k :: rs => match μ[k]? with
    | some m => if m.own = none then none else (lend μ rs).map fun p => (.b (m.with false) :: p.1, k :: p.2)
    | none => none
def giveBack : List Nat → List Ob → Mu → Mu
  | k :: ks, m :: ms, μ => match μ[k]? with
    | some m0 => giveBack ks ms (μ.set k (m.with (m0.own == some true)))
    | none => giveBack ks ms μ
  | _, _, μ => μ
def callFin (F : FV) (μ : Mu) : Option (List Arg × List Nat) → Rs RV
  | none => .no
  | some (as, ks) => if ks.Nodup then match F as with
      | .ok (.d d) ms => .ok (.dt d) (giveBack ks ms μ)
      | .ok (.o m) ms => .ok (.ob μ.length) (giveBack ks ms μ ++ [m])
      | .er e ms => .er e (giveBack ks ms μ)
      | .no => .no
    else .no
def eDef (F : FV) (bs : List Bool) (n : Nat) (fs : AV) : EV := fun ρ μ => (fs ρ μ).bind fun rs μ1 => if rs.length = n then (frzM bs rs μ1).bind fun rs' μ2 => callFin F μ2 (lend μ2 rs') else .no
section
variable {K : PySem.W.Frag} {mg : Str → Option Value} {W : WX} {T : Tb} {C : Ent} {ρ : Rho} {μ : Mu} {σ : L2.St} {H G H' G' : Hp} {α : List Addr}
theorem frzM_ok : ∀ {bs : List Bool} {rs : List RV} {vs : List V} {μ : Mu} {G : Hp}, Rl K T C ρ μ σ H G α → RvsOk K G α rs vs → ∀ {P : List RV → Mu → Hp → Hp → List Addr → Prop}, Post K mg T W C ρ σ G α P (frzM bs rs μ) →
    ∃ rs' μ' G', frzM bs rs μ = .ok rs' μ' ∧ Rl K T C ρ μ' σ H G' α ∧ Same G G' ∧ RvsOk K G' α rs' vs ∧ P rs' μ' H G' α
  | bs, [], _, μ, G, R, .nil, P, h => by
    have e : frzM bs [] μ = .ok [] μ := by cases bs with | nil => rfl | cons b bs => cases b <;> rfl
    rw [e] at h
    exact ⟨[], μ, G, e, R, Same.refl _, .nil, h H G α R (Same.refl _) (List.prefix_refl _)⟩
  | [], r :: rs, _, μ, G, R, .cons hv ht, P, h => h.elim
  | true :: bs, r :: rs, _, μ, G, R, .cons hv ht, P, h => by
    obtain ⟨rs', μ2, G2, e2, R2, s2, r2, _, _, _, h2⟩ := frzM_ok R ht (Post.bind (x := frzM bs rs μ) h)
    refine ⟨r :: rs', μ2, G2, ?_, R2, s2, .cons (hv.mono s2 (List.prefix_refl _)) r2, h2 H G2 α R2 (Same.refl _) (List.prefix_refl _)⟩
    show (frzM bs rs μ).bind _ = _
    rw [e2]
    rfl
  | false :: bs, r :: rs, _, μ, G, R, .cons hv ht, P, h => by
    obtain ⟨d, μ1, G1, e1, R1, s1, r1, _, _, _, h1⟩ := frz_ok R hv (Post.bind (x := frz r μ) h)
    obtain ⟨rs', μ2, G2, e2, R2, s2, r2, _, _, _, h2⟩ := frzM_ok R1 (ht.mono s1 (List.prefix_refl _)) (Post.bind (x := frzM bs rs μ1) h1)
    refine ⟨.dt d :: rs', μ2, G2, ?_, R2, s1.trans s2, .cons (r1.mono s2) r2, h2 H G2 α R2 (Same.refl _) (List.prefix_refl _)⟩
    show (frz r μ).bind _ = _
    rw [e1]
    show (frzM bs rs μ1).bind _ = _
    rw [e2]
    rfl
theorem ObOk.with {a : Addr} {m : Ob} {w : Bool} (h : ObOk K G H a m) : ObOk K G H a (m.with w) := by
  cases m <;> exact h
theorem own_with {m : Ob} {w : Bool} (h : m.own ≠ none) : (m.with w).own = some w := by
  cases m with
  | fz ds => exact absurd rfl h
  | _ => rfl
/-- the places of the objects lent -/
def Ats (α : List Addr) : List Nat → List Addr → Prop
  | [], [] => True
  | k :: ks, a :: P => α[k]? = some a ∧ Ats α ks P
  | _, _ => False
theorem lend_ok (R : Rl K T C ρ μ σ H G α) : ∀ {rs : List RV} {vs : List V} {as : List Arg} {ks : List Nat}, RvsOk K G α rs vs → lend μ rs = some (as, ks) → ∃ P, ArgsOk K G H as vs P ∧ Ats α ks P ∧ ∀ k ∈ ks, ∃ m, μ[k]? = some m ∧ m.own ≠ none
  | [], _, as, ks, .nil, e => by cases e; exact ⟨[], .nil, trivial, fun k h => by cases h⟩
  | .un u :: rs, _, as, ks, .cons hv ht, e => by cases e
  | .dt d :: rs, _, as, ks, .cons hv ht, e => by
    have e : (lend μ rs).map (fun p => (Arg.d d :: p.1, p.2)) = some (as, ks) := e
    cases e2 : lend μ rs with
    | none => rw [e2] at e; cases e
    | some p =>
      rw [e2] at e
      cases e
      obtain ⟨P, h1, h2, h3⟩ := lend_ok R ht e2
      exact ⟨P, .d hv h1, h2, h3⟩
  | .ob k :: rs, _, as, ks, .cons hv ht, e => by
    obtain ⟨a, ha, rfl⟩ := hv
    unfold lend at e
    cases em : μ[k]? with
    | none => simp only [em] at e; cases e
    | some m =>
      simp only [em] at e
      by_cases hw : m.own = none
      · rw [if_pos hw] at e; cases e
      · rw [if_neg hw] at e
        cases e2 : lend μ rs with
        | none => rw [e2] at e; cases e
        | some p =>
          rw [e2] at e
          cases e
          obtain ⟨P, h1, h2, h3⟩ := lend_ok R ht e2
          refine ⟨a :: P, .b (R.ob k a m ha em).1.with (own_with hw) h1, ⟨ha, h2⟩, fun j hj => ?_⟩
          rcases List.mem_cons.mp hj with rfl | hj
          · exact ⟨m, em, hw⟩
          · exact h3 j hj
theorem Ats.mem : ∀ {ks : List Nat} {P : List Addr}, Ats α ks P → ∀ a ∈ P, ∃ k ∈ ks, α[k]? = some a
  | [], [], _, a, h => by cases h
  | k :: ks, b :: P, ⟨h1, h2⟩, a, h => by
    rcases List.mem_cons.mp h with rfl | h
    · exact ⟨k, List.mem_cons_self, h1⟩
    · obtain ⟨j, hj, e⟩ := Ats.mem h2 a h
      exact ⟨j, List.mem_cons_of_mem _ hj, e⟩
  | [], _ :: _, h, _, _ => h.elim
  | _ :: _, [], h, _, _ => h.elim
theorem Ats.mem' : ∀ {ks : List Nat} {P : List Addr}, Ats α ks P → ∀ k ∈ ks, ∃ a ∈ P, α[k]? = some a
  | [], [], _, a, h => by cases h
  | j :: ks, b :: P, ⟨h1, h2⟩, k, h => by
    rcases List.mem_cons.mp h with rfl | h
    · exact ⟨b, List.mem_cons_self, h1⟩
    · obtain ⟨j, hj, e⟩ := Ats.mem' h2 k h
      exact ⟨j, List.mem_cons_of_mem _ hj, e⟩
  | [], _ :: _, h, _, _ => h.elim
  | _ :: _, [], h, _, _ => h.elim
theorem Ats.nodup (nd : α.Nodup) : ∀ {ks : List Nat} {P : List Addr}, Ats α ks P → ks.Nodup → P.Nodup
  | [], [], _, _ => List.nodup_nil
  | k :: ks, b :: P, ⟨h1, h2⟩, h => by
    rw [List.nodup_cons] at h ⊢
    refine ⟨fun hm => ?_, Ats.nodup nd h2 h.2⟩
    obtain ⟨j, hj, e⟩ := Ats.mem h2 b hm
    exact h.1 (nodup_get nd h1 e ▸ hj)
  | [], _ :: _, h, _ => h.elim
  | _ :: _, [], h, _ => h.elim
theorem giveBack_length : ∀ (ks : List Nat) (ms : List Ob) (μ : Mu), (giveBack ks ms μ).length = μ.length
  | [], _, _ => rfl
  | _ :: _, [], _ => rfl
  | k :: ks, m :: ms, μ => by
    unfold giveBack
    split
    · rw [giveBack_length ks ms, List.length_set]
    · exact giveBack_length ks ms μ
theorem giveBack_out : ∀ (ks : List Nat) (ms : List Ob) (μ : Mu) (j : Nat), j ∉ ks → (giveBack ks ms μ)[j]? = μ[j]?
  | [], _, _, _, _ => rfl
  | _ :: _, [], _, _, _ => rfl
  | k :: ks, m :: ms, μ, j, h => by
    unfold giveBack
    have h1 : j ≠ k := fun e => h (e ▸ List.mem_cons_self)
    have h2 : j ∉ ks := fun e => h (List.mem_cons_of_mem _ e)
    split
    · rw [giveBack_out ks ms _ j h2, List.getElem?_set_ne (Ne.symm h1)]
    · exact giveBack_out ks ms μ j h2
theorem giveBack_in : ∀ (ks : List Nat) (P : List Addr) (ms : List Ob) (μ : Mu), ks.Nodup → Ats α ks P → α.Nodup → ObsOk K G H P ms → (∀ k ∈ ks, ∃ m, μ[k]? = some m ∧ m.own ≠ none) → ∀ j ∈ ks, ∀ a, α[j]? = some a → ∀ m', (giveBack ks ms μ)[j]? = some m' →
      ObOk K G H a m' ∧ ∃ m0, μ[j]? = some m0 ∧ m'.own = m0.own
  | [], _, _, _, _, _, _, _, _, j, hj, _, _, _, _ => by cases hj
  | k :: ks, [], _, _, _, h, _, _, _, _, _, _, _, _, _ => h.elim
  | k :: ks, b :: P, [], _, _, _, _, h, _, _, _, _, _, _, _ => by cases h
  | k :: ks, b :: P, m :: ms, μ, nd, ⟨h1, h2⟩, na, .cons q w t, hw, j, hj, a, ha, m', e => by
    rw [List.nodup_cons] at nd
    obtain ⟨m0, em, hm0⟩ := hw k List.mem_cons_self
    have e0 : giveBack (k :: ks) (m :: ms) μ = giveBack ks ms (μ.set k (m.with (m0.own == some true))) := by
      rw [show giveBack (k :: ks) (m :: ms) μ = match μ[k]? with
        | some m0 => giveBack ks ms (μ.set k (m.with (m0.own == some true)))
        | none => giveBack ks ms μ from rfl, em]
    rw [e0] at e
    have hk : k < μ.length := (List.getElem?_eq_some_iff.mp em).1
    by_cases hjk : j = k
    · subst hjk
      rw [giveBack_out ks ms _ j nd.1, List.getElem?_set_self hk] at e
      cases e
      rw [h1] at ha
      cases ha
      refine ⟨q.with, m0, em, ?_⟩
      rw [own_with (by rw [w]; simp)]
      cases m0 with
      | fz ds => exact absurd rfl hm0
      | ls o ds => cases o <;> rfl
      | dk o ds => cases o <;> rfl
      | dt o ds => cases o <;> rfl
    · have hj' : j ∈ ks := by
        rcases List.mem_cons.mp hj with e | e
        · exact absurd e hjk
        · exact e
      have hw' : ∀ i ∈ ks, ∃ x, (μ.set k (m.with (m0.own == some true)))[i]? = some x ∧ x.own ≠ none := fun i hi => by
        obtain ⟨x, h1, h2⟩ := hw i (List.mem_cons_of_mem _ hi)
        exact ⟨x, by rw [List.getElem?_set_ne (fun z : k = i => nd.1 (by rw [z]; exact hi))]; exact h1, h2⟩
      obtain ⟨q1, x, q2, q3⟩ := giveBack_in ks P ms _ nd.2 h2 na t hw' j hj' a ha m' e
      exact ⟨q1, x, by rw [List.getElem?_set_ne (fun z : k = j => hjk z.symm)] at q2; exact q2, q3⟩
theorem ObOk.keep {a : Addr} {m : Ob} (g : Same G G') (s : Same G H) (k : ∀ o, H a = some o → NT o → H' a = some o ∧ (G a = none → G' a = none)) (h : ObOk K G H a m) : ObOk K G' H' a m := by
  cases m with
  | ls o ds => obtain ⟨n, vs, e, r⟩ := h; obtain ⟨k1, k2⟩ := k _ e (fun _ z => by cases z); exact ⟨k2 n, vs, k1, r.mono g⟩
  | dk o ds => obtain ⟨n, vs, e, r⟩ := h; obtain ⟨k1, k2⟩ := k _ e (fun _ z => by cases z); exact ⟨k2 n, vs, k1, r.mono g⟩
  | dt o ds => obtain ⟨n, vs, e, r⟩ := h; obtain ⟨k1, k2⟩ := k _ e (fun _ z => by cases z); exact ⟨k2 n, vs, k1, r.mono g⟩
  | fz ds => obtain ⟨vs, e, r⟩ := h; exact ⟨vs, g _ _ e, r.mono g⟩
/-- behind a call -/
theorem Rl.called (R : Rl K T C ρ μ σ H G α) {ks : List Nat} {P : List Addr} {ms : List Ob} (nd : ks.Nodup) (ha : Ats α ks P) (hw : ∀ k ∈ ks, ∃ m, μ[k]? = some m ∧ m.own ≠ none) (f : Fram T G H G' H' P) (ho : ObsOk K G' H' P ms) : Rl K T C ρ (giveBack ks ms μ) σ H' G' α where
  sub := f.s
  ext := R.ext.trans f.g
  fr := fun b o e hnt hb => by
    obtain ⟨h1, h2⟩ := R.fr b o e hnt hb
    have hp : b ∉ P := fun hm => by
      obtain ⟨k, hk, ek⟩ := ha.mem b hm
      obtain ⟨m, em, wm⟩ := hw k hk
      obtain ⟨_, o1, o2⟩ := R.ob k b m ek em
      cases q : m.own with
      | none => exact wm q
      | some w =>
        cases w with
        | true =>
          obtain ⟨ps, z⟩ := (o1 q).2 _ e
          exact hnt ps z
        | false =>
          have hk' := o2 q
          obtain ⟨t, et⟩ := R.pre
          rw [← et, List.getElem?_append_left hk'] at ek
          exact hb (List.mem_of_getElem? ek)
    obtain ⟨h3, h4⟩ := f.k b o h1 hnt hp
    exact ⟨h3, fun n => h4 (h2 n)⟩
  tb := f.t
  gt := f.u
  al := by rw [giveBack_length]; exact R.al
  nd := R.nd
  pre := R.pre
  ob := fun j a m' h1 h2 => by
    by_cases hj : j ∈ ks
    · obtain ⟨q1, m0, q2, q3⟩ := giveBack_in ks P ms μ nd ha R.nd ho hw j hj a h1 m' h2
      refine ⟨q1, ?_⟩
      have := (R.ob j a m0 h1 q2).2
      unfold OwnOk at this ⊢
      rw [q3]
      exact this
    · rw [giveBack_out ks ms μ j hj] at h2
      obtain ⟨q1, q2⟩ := R.ob j a m' h1 h2
      refine ⟨q1.keep f.g R.sub fun o e hnt => f.k a o e hnt fun hm => ?_, q2⟩
      obtain ⟨k, hk, ek⟩ := ha.mem a hm
      exact hj (nodup_get R.nd h1 ek ▸ hk)
  len := R.len
  sl := fun i r h => by
    obtain ⟨v, h1, h2⟩ := R.sl i r h
    exact ⟨v, h1, h2.mono f.g (List.prefix_refl _)⟩
/-- one more object of the frame's own -/
theorem Rl.add (R : Rl K T C ρ μ σ H G α) {a : Addr} {m : Ob} (hn : a ∉ α) (hC : ∀ o, C.H a = some o → ∃ ps, o = .tbl ps) (hm : ObOk K G H a m) (hw : m.own = some true) : Rl K T C ρ (μ ++ [m]) σ H G (α ++ [a]) := by
  refine ⟨R.sub, R.ext, R.fr, R.tb, R.gt, ?_, nodup_snoc R.nd hn, R.pre.trans (List.prefix_append _ _), fun j b m' h1 h2 => ?_, R.len, fun i r h => ?_⟩
  · rw [List.length_append, List.length_append, R.al]
    rfl
  · rcases get_snoc h1 with h1 | ⟨ek, eb⟩
    · rcases get_snoc h2 with h2 | ⟨h2, _⟩
      · exact R.ob j b m' h1 h2
      · have := (List.getElem?_eq_some_iff.mp h1).1
        rw [R.al] at this
        omega
    · rcases get_snoc h2 with h2 | ⟨ej, em⟩
      · have := (List.getElem?_eq_some_iff.mp h2).1
        rw [← R.al] at this
        omega
      · subst eb em
        refine ⟨hm, fun z => ⟨?_, hC⟩, fun z => ?_⟩
        · rw [ek]; exact R.pre.length_le
        · rw [hw] at z; cases z
  · obtain ⟨v, h1, h2⟩ := R.sl i r h
    exact ⟨v, h1, h2.mono (Same.refl _) (List.prefix_append _ _)⟩
/-- a call's reading by data -/
theorem def_read {F : FV} {bs : List Bool} {n : Nat} {fs : AV} {Q : VK} (R : Rl K T C ρ μ σ H G α) (q : Post K mg T W C ρ σ G α (fun r _ H' G' α' => ∀ v, RvOk K G' α' r v → Q v H') (eDef F bs n fs ρ μ)) : tCallS (spF K mg T n F) (WE W) (tDA K mg T W fs) σ H Q := by
  refine ⟨C, ρ, μ, G, α, R, (Post.bind q).mono fun rs μ1 H1 G1 α1 _ _ _ h1 vs hvs => ?_⟩
  obtain ⟨R1, s1, p1, q1⟩ := h1
  have q1 : Post K mg T W C ρ σ G1 α1 _ (if rs.length = n then (frzM bs rs μ1).bind fun rs' μ2 => callFin F μ2 (lend μ2 rs') else .no) := q1
  by_cases hl : rs.length = n
  · rw [if_pos hl] at q1
    have hvl : ∀ {rs : List RV} {vs : List V}, RvsOk K G1 α1 rs vs → vs.length = rs.length := fun {rs vs} h => by
      induction h with
      | nil => rfl
      | cons _ _ ih => rw [List.length_cons, List.length_cons, ih]
    obtain ⟨rs', μ2, G2, e2, R2, s2, r2, _, _, _, q2⟩ := frzM_ok R1 hvs (Post.bind q1)
    refine ⟨(hvl hvs).trans hl, R2.tb, ?_⟩
    cases el : lend μ2 rs' with
    | none => rw [el] at q2; exact q2.elim
    | some p =>
      obtain ⟨as, ks⟩ := p
      rw [el] at q2
      have q2 : Post K mg T W C ρ σ G2 α1 _ (if ks.Nodup then match F as with
        | .ok (.d d) ms => (.ok (RV.dt d) (giveBack ks ms μ2) : Rs RV)
        | .ok (.o m) ms => (.ok (RV.ob μ2.length) (giveBack ks ms μ2 ++ [m]) : Rs RV)
        | .er e ms => .er e (giveBack ks ms μ2)
        | .no => .no
      else .no) := q2
      by_cases hn : ks.Nodup
      · rw [if_pos hn] at q2
        obtain ⟨P, h1, h2, h3⟩ := lend_ok R2 r2 el
        refine ⟨G2, as, P, R2.gt, R2.sub, h1, h2.nodup R2.nd hn, ?_⟩
        cases ef : F as with
        | no => simp only [ef] at q2; exact q2.elim
        | er e ms =>
          simp only [ef] at q2
          exact fun cls d H' G' f ho ex => q2 cls d H' G' α1 (R2.called hn h2 h3 f ho) f.g (List.prefix_refl _) ex
        | ok r ms =>
          simp only [ef] at q2
          cases r with
          | d x =>
            exact fun H' G' v f ho hr => q2 H' G' α1 (R2.called hn h2 h3 f ho) f.g (List.prefix_refl _) v hr
          | o m =>
            intro H' G' v f ho hr
            obtain ⟨a, rfl, hm, hw, hH⟩ := hr
            have hna : a ∉ α1 := fun hm => by
              obtain ⟨k, hk⟩ := List.mem_iff_getElem?.mp hm
              obtain ⟨m', em⟩ := R2.lt hk
              obtain ⟨o', e'⟩ := (R2.ob k a m' hk em).1.there R2.sub
              obtain ⟨ps, z⟩ := hH _ e'
              subst z
              exact (R2.ob k a m' hk em).1.nt R2.sub ps e'
            refine q2 H' G' (α1 ++ [a]) ((R2.called hn h2 h3 f ho).add hna (fun o e => by
              by_cases hnt : ∃ ps, o = .tbl ps
              · exact hnt
              · have hnt : NT o := fun ps z => hnt ⟨ps, z⟩
                by_cases hp : a ∈ C.P
                · obtain ⟨k, hk⟩ := List.mem_iff_getElem?.mp hp
                  obtain ⟨t, et⟩ := R2.pre
                  exact absurd (List.mem_of_getElem? (by rw [← et, List.getElem?_append_left (List.getElem?_eq_some_iff.mp hk).1]; exact hk)) hna
                · exact hH _ (R2.fr a o e hnt hp).1) hm hw) f.g (List.prefix_append _ _) _ ⟨a, ?_, rfl⟩
            rw [← R2.al]
            exact get_last α1 a
      · rw [if_neg hn] at q2
        exact q2.elim
  · rw [if_neg hl] at q1
    exact q1.elim
end
section
variable {X : Cx} {T : Tb} {W : WX} {pos : Pos}
/-- a def's call -/
theorem d_def {k n : Nat} {f : Addr} {fd : FuncData} {ps : List Str} {F : FV} {x : Str} {p : Pos} {e : Expr} {es : List Expr} {fs : AV} (bs : List Bool) (hF : FnOk X.prog X.w X.K X.mg X.base (L2.CX X.prog X.w) k f fd ps (spF X.K X.mg T n F)) (hr : Room k X.A) (hg : Gl X x) (hm : X.mg x = some (.ref f)) (hk : PySem.W.keepIn X.K (.ref f) = true) (hb : Binds X.K fd ps [])
    (tk : Takes X W) (ha : PA X (e :: es) (tDA X.K X.mg T W fs)) (hdb : (x == ("__debug__" : Str)) = false := by decide) (he : starEach (e :: es) X.env = (false, eval e X.env) :: starEach es X.env := by rfl) (hpl : (backTo pos (starEach es X.env)).any (·.1) = false := by rfl) :
    PE X (.Call (.Name x p) (e :: es) [] pos) (tD X.K X.mg T W (eDef F bs n fs)) :=
  pe_imp (pe_callS hF hr hg hm hk hb (fun σ => passAt tk σ) ha hdb he hpl) fun σ H Q ⟨C, ρ, μ, G, α, R, q⟩ => def_read R q
/-- X() -/
theorem pmk_own0 {C : Addr} {bmB : List Value} {B newId initId : String} {x : Str} {p : Pos} (F : ExcBaseFacts B newId initId bmB) (q : PySem.W.excIn X.K C bmB newId = true) (gC : X.mg x = some (.ref C))
    (kC : PySem.W.keepIn X.K (.ref C) = true) (r : Raises X (.ref C)) (hg : Gl X x) (hdb : (x == ("__debug__" : Str)) = false := by decide) :
    PMk X (.Call (.Name x p) [] [] pos) (fun _ H Q => Q (.ref C) none H) := by
  intro pins s σ H Q I h
  refine wpAny_Call_Name_kw (ld_glob I hg gC ?_ hdb)
  refine PySem.W.callWith_K0 I.kIn kC ?_
  obtain ⟨bm, N, nm, qn, bs, hdct, sn, sub, ab, col, dd, k0, k1, k2, k3, k5, mN, hC, hN, hni, T⟩ := exc_obj I.kIn q
  refine wpAny_call_exc_subT F T hC hN hni (fun h' e hm => ?_) (Nat.zero_le _)
  exact mk_of I hm r h (I.hok.gone hm.new)
def sRaise (x : Str) : SV := fun ρ μ => .er ⟨x, []⟩ ρ μ
/-- raise X() -/
theorem d_raise0 {C : Addr} {bmB : List Value} {B newId initId : String} {x : Str} {p p2 : Pos} (hc : X.calm = true) (tk : Takes X W) (F : ExcBaseFacts B newId initId bmB) (q : PySem.W.excIn X.K C bmB newId = true) (gC : X.mg x = some (.ref C))
    (kC : PySem.W.keepIn X.K (.ref C) = true) (r : Raises X (.ref C)) (hg : Gl X x) (hdb : (x == ("__debug__" : Str)) = false := by decide) :
    PS X (.Raise (some (.Call (.Name x p) [] [] p2)) none pos) (tDS X.K X.mg T W (sRaise x)) :=
  ps_imp (ps_raise hc tk (pmk_own0 F q gC kC r hg hdb)) fun D σ H ⟨C', ρ, μ, G, α, R, h⟩ => h _ none σ H G α R (Same.refl _) ⟨C, gC, rfl, rfl⟩
end
end DL
/-! The data layer, eighth part: a lambda handed to a def that calls it within a try. -/
namespace DL
open PySem PySem.Spec PyProof.Rows L2
/-! ### what a def that calls what it got makes of the call's outcome -/
/-- how a call ends: an answer, an error -/
inductive Oc where
  | ok (d : PD)
  | er (e : Ex)
/-- hn f a o: the answer, f the lambda, a the error's place -/
abbrev HN := Addr → Addr → Oc → Option PD
/-- behind a stretch that changes what it will, G2 H2: all known of the heap -/
structure Now (T : Tb) (G1 G2 H2 : Hp) : Prop where
  g : Same G1 G2
  u : NoTb G2
  s : Same G2 H2
  t : LamX.Tabs T H2
def HEnd (K : PySem.W.Frag) (T : Tb) (Q : VK) (G2 H2 : Hp) (o : Option PD) : Prop := match o with
  | some x => ∀ H3 G3 v, Fram T G2 H2 G3 H3 [] → Rep K G3 v x → Q v H3
  | none => False
def TTH (K : PySem.W.Frag) (mg : Str → Option Value) (T : Tb) (es : Ex → Bool) (hn : HN) : (XK → Hp → VK → Prop) → Hp → VK → Prop := fun tl H Q =>
  LamX.Tabs T H ∧ ∃ G, NoTb G ∧ Same G H ∧ ∀ H1 G1, Fram T G H G1 H1 [] → tl (fun cls d H2 => ∃ e G2, es e = true ∧ Now T G1 G2 H2 ∧ ExOk mg e cls d H2 ∧ ∀ f a, HEnd K T Q G2 H2 (hn f a (.er e))) H1
    (fun v H2 => ∃ G2 d, Now T G1 G2 H2 ∧ Rep K G2 v d ∧ ∀ f a, HEnd K T Q G2 H2 (hn f a (.ok d)))
/-- errors of these names, without fields -/
def esN (l : List Str) : Ex → Bool := fun e => decide (e.name ∈ l) && e.fs.isEmpty
def endD : So → Option PD
  | .rt (.dt d) _ => some d
  | .nx _ _ => some .none
  | _ => none
def sufD (gsu : Ex → Addr → SV) (gpost : SV) (i n : Nat) (a : Addr) (e : Ex) : So := match gsu e a ((List.replicate n none).set i (some (.un (.ref a)))) [] with
  | .nx ρ μ => gpost (ρ.set i none) μ
  | .rt r μ => .rt r μ
  | _ => .no
def contD (gpost : SV) : So → So
  | .nx ρ μ => gpost ρ μ
  | .rt r μ => .rt r μ
  | _ => .no
/-- the def's law: what stands ahead of the try, what is made of the call's answer, the suite, what stands behind -/
def hnd (gpre : SV) (cK : Rho → PD → So) (gsu : Ex → Addr → SV) (gpost : SV) (i n : Nat) : HN := fun f a o => match gpre (pad n [some (.un (.ref f))]) [] with
  | .nx ρ [] => match o with
    | .ok d => endD (contD gpost (cK ρ d))
    | .er e => endD (sufD gsu gpost i n a e)
  | _ => none
section
variable {K : PySem.W.Frag} {mg : Str → Option Value} {T : Tb} {W : WX} {C : Ent} {ρ : Rho} {μ : Mu} {σ : L2.St} {H G H' G' : Hp} {α : List Addr}
/-- an entry without objects -/
theorem Rl.bare (ht : LamX.Tabs T H) (hg : NoTb G) (s : Same G H) (hl : ρ.length = σ.length) (hs : ∀ (i : Nat) (r : RV), ρ[i]? = some (some r) → ∃ v, σ[i]? = some (some v) ∧ RvOk K G [] r v) : Rl K T ⟨H, G, []⟩ ρ [] σ H G [] where
  sub := s
  ext := Same.refl _
  fr := fun b o e _ hb => ⟨e, id⟩
  tb := ht
  gt := hg
  al := rfl
  nd := List.nodup_nil
  pre := List.prefix_refl _
  ob := fun k a m h1 h2 => by simp at h1
  len := hl
  sl := hs
theorem Fram.refl (ht : LamX.Tabs T H) (hg : NoTb G) (s : Same G H) : Fram T G H G H [] := ⟨Same.refl _, s, fun b o e _ _ => ⟨e, id⟩, ht, hg⟩
theorem SPost.end {x : So} {d : PD} {Q : VK} (e : endD x = some d) (hq : ∀ H' G' v, Fram T G H G' H' [] → Rep K G' v d → Q v H') : SPost K mg T W ⟨H, G, []⟩ { nx := fun _ H' => Q .non H', rt := Q } G x := by
  cases x with
  | rt r μ =>
    cases r with
    | dt d' => cases e; exact fun ρ' σ' H' G' α' v R s hv => hq H' G' v R.fram hv
    | ob k => cases e
    | un u => cases e
  | nx ρ' μ' => cases e; exact fun σ' H' G' α' R s => hq H' G' .non R.fram .non
  | bk ρ' μ' => cases e
  | ct ρ' μ' => cases e
  | er e' ρ' μ' => cases e
  | no => cases e
end
section
variable {X : Cx} {T : Tb}
theorem pss_ex {X : Cx} {st : List Stmt} {β : Type} {p : β → Prop} {t : β → TS} (h : ∀ b, p b → PSs X st (t b)) : PSs X st (fun D σ H => ∃ b, p b ∧ t b D σ H) :=
  ⟨fun pins s σ H D I ⟨b, hp, q⟩ => (h b hp).run pins s σ H D I q⟩
theorem pe_mono {X : Cx} {e : Expr} {t : TE} (h : PE X e t) : PE X e (fun σ H Q => ∃ Q' : VK, (∀ v H', Q' v H' → Q v H') ∧ t σ H Q') := ⟨fun pins s σ H Q I ⟨Q', hq, q⟩ => thn (h.run pins s σ H Q' I q) fun v s' ⟨x, H1, I1, r, q1⟩ => ⟨x, H1, I1, r, hq _ _ q1⟩⟩
theorem takes_len {X : Cx} {W : WX} {n : Nat} (tk : Takes X W) (hn : X.N.length = n) : Takes X (fun cls d σ H => σ.length = n → W cls d σ H) := fun u s' ⟨a, B, sI, pins, σ, H, cls, d, e, I, nb, up, sky, na, os, ag, w⟩ =>
  tk u s' ⟨a, B, sI, pins, σ, H, cls, d, e, I, nb, up, sky, na, os, ag, w (I.len.trans hn)⟩
/-- the def's context -/
abbrev hCx (X : Cx) (Ng : List Str) (x : Str) (sg : Scope) (g : Addr) (cdg : Value) (s : Shared) (H : Hp) : Cx := (cxOf C8.CX0 X.prog X.w X.K X.mg X.base Ng x sg g cdg X.A X.stack s H C8.E0).nox
/-- [pre ..;] try: a statement with call() / except E as n: suite; post -/
theorem gives_call {Ng : List Str} {x a q n en : Str} {sg : Scope} {g CE : Addr} {cdg : Value} {pres : List Stmt} {b₀ cst : Stmt} {suite : List Stmt} {post : Stmt} {i : Nat} {es : Ex → Bool} {p1 p2 p4 p5 p6 : Pos} {gpre gpost : SV} {cK : Rho → PD → So} {K2 : Ends → L2.St → VK} {gsu : Ex → Addr → SV}
    (hN : Ng.Nodup) (hi : Ng[i]? = some n) (hln : sg.names.lookup n = some .local) (hge : sg.names.lookup en = some .globalImplicit) (hme : X.mg en = some (.ref CE)) (hde : (en == ("__debug__" : Str)) = false) (h0 : 0 < Ng.length)
    (hpre : ∀ (s : Shared) (H : Hp) (u : TS) (rest : List Stmt), PSs (hCx X Ng x sg g cdg s H) rest u → PSs (hCx X Ng x sg g cdg s H) (pres ++ rest) (tSeq (tDS X.K X.mg T W0 gpre) u))
    (hcs : ∀ (s : Shared) (H : Hp) (pn : List (Addr × Obj)) (xe : Value → Shared → Prop) (t : TE), PE ((hCx X Ng x sg g cdg s H).tr pn xe) (.Call (.Name a p1) [] [] p2) t → PS ((hCx X Ng x sg g cdg s H).tr pn xe) cst (fun D σ H => t σ H (K2 D σ)))
    (hK2 : ∀ (D : Ends) (σ : L2.St) (ρ : Rho) (v : V) (d : PD) (H2 G2 : Hp), Rl X.K T ⟨H2, G2, []⟩ ρ [] σ H2 G2 [] → Rep X.K G2 v d → SPost X.K X.mg T W0 ⟨H2, G2, []⟩ D G2 (cK ρ d) → K2 D σ v H2)
    (hpost : ∀ (s : Shared) (H : Hp), PS (hCx X Ng x sg g cdg s H) post (tDS X.K X.mg T W0 gpost))
    (hex : ∀ e, es e = true → ∀ c, X.mg e.name = some (.ref c) → PySem.W.exmOne X.K (.ref c) (.ref CE) = some true)
    (hclean : ∀ f, ∃ ρ, gpre (pad Ng.length [some (.un (.ref f))]) [] = .nx ρ [] ∧ ρ[0]? = some (some (.un (.ref f))))
    (hsu : ∀ (s : Shared) (H : Hp) (a : Addr) (oe : Obj) (pn : List (Addr × Obj)) (e : Ex) (cls : Value) (d : Option Addr), es e = true → (∃ H', ExOk X.mg e cls d H') → Zc cls d oe → (∃ vs, oe.data = .fields vs) →
      PSs ((hCx X Ng x sg g cdg s H).suite a ((a, oe) :: pn)) (b₀ :: suite) (tDS X.K X.mg T W0 (gsu e a))) :
    LamX.GivesTo X Ng x sg g cdg (pres ++ [.Try [cst] [.ExceptHandler (some (.Name en p4)) (some n) (b₀ :: suite) p5] [] [] p6, post]) a q (TTH X.K X.mg T es (hnd gpre cK gsu gpost i Ng.length)) := by
  intro f c' s H Q tl act hc h
  have hgl : Gl (hCx X Ng x sg g cdg s H) en := hge
  -- the tail
  have htail : PSs (hCx X Ng x sg g cdg s H) [.Try [cst] [.ExceptHandler (some (.Name en p4)) (some n) (b₀ :: suite) p5] [] [] p6, post] (fun D σ H1 => ∃ C ρ G1, C.P = [] ∧ Rl X.K T C ρ [] σ H1 G1 [] ∧ ρ[0]? = some (some (.un (.ref f))) ∧ H1 c' = some (LamX.CodeO c' q) ∧
      ∃ (Ech : XK) (Qch : VK), (∀ cls d H2, Ech cls d H2 → ∃ e G2, es e = true ∧ Now T G1 G2 H2 ∧ ExOk X.mg e cls d H2 ∧ ∀ a, SPost X.K X.mg T W0 ⟨H2, G2, []⟩ D G2 (sufD gsu gpost i Ng.length a e)) ∧ (∀ v H2, Qch v H2 → ∃ G2 d, Now T G1 G2 H2 ∧ Rep X.K G2 v d ∧ SPost X.K X.mg T W0 ⟨H2, G2, []⟩ D G2 (contD gpost (cK ρ d))) ∧ tl Ech H1 Qch) := by
    refine pss_imp (pss_cons (ps_try_as (X := hCx X Ng x sg g cdg s H) (c := .ref CE) (i := i) (Wout := fun _ _ _ _ => False)
      (tb := fun W D σ H1 => ∃ (Ech : XK) (Qch : VK), (∀ cls d σ' H', Ech cls d H' → σ'.length = Ng.length → W cls d σ' H') ∧ (∀ v H2, Qch v H2 → K2 D σ v H2) ∧ σ[0]? = some (some (.ref f)) ∧ H1 c' = some (LamX.CodeO c' q) ∧ tl Ech H1 Qch)
      (ts := fun a cls d => fun D σ H2 => ∃ e, (es e = true ∧ ∃ H', ExOk X.mg e cls d H') ∧ tDS X.K X.mg T W0 (gsu e a) D σ H2)
      rfl rfl hN hi hln ⟨hgl, hde, .inl hme⟩ LamX.takes0 (fun W pn xe tk _ => ?_) (fun a oe cls d pn hz hf => ?_)) (pss_one (hpost s H))) fun D σ H1 hh => ?_
    · refine ⟨fun pins s' σ H' D I h' => ?_⟩
      obtain ⟨Ech, Qch, hW, hQ, h1, h2, h3⟩ := h'
      have hp := pe_mono (act _ pn xe Ech p1 p2 (takes_len (n := Ng.length) tk rfl) hW)
      exact (pss_one (hcs s H pn xe _ hp)).run pins s' σ H' D I ⟨Qch, hQ, h1, h2, h3⟩
    · refine pss_ex (p := fun e : Ex => es e = true ∧ ∃ H', ExOk X.mg e cls d H') (t := fun e => tDS X.K X.mg T W0 (gsu e a)) fun e he => ?_
      exact hsu s H a oe pn e cls d he.1 he.2 hz hf
    · obtain ⟨C, ρ, G1, hP, R, hr0, hcc, Ech, Qch, hE, hQ, htl⟩ := hh
      obtain ⟨v0, e0, r0⟩ := R.sl 0 _ hr0
      have r0 : v0 = .ref f := r0
      subst r0
      -- from here the state behind a call
      have now : ∀ {G2 H2 : Hp} (nw : Now T G1 G2 H2), Rl X.K T ⟨H2, G2, []⟩ ρ [] σ H2 G2 [] := fun {G2 H2} nw => Rl.bare nw.t nw.u nw.s R.len fun j r hj => by
        obtain ⟨v, h1, h2⟩ := R.sl j r hj
        exact ⟨v, h1, h2.mono nw.g (List.prefix_refl _)⟩
      refine ⟨Ech, Qch, fun cls d σ' H2 hEe hl => ?_, fun v H2 hq => ?_, e0, hcc, htl⟩
      · obtain ⟨e, G2, he, nw, hx, hp⟩ := hE _ _ _ hEe
        obtain ⟨c, hc1, hc2, hc3⟩ := id hx
        refine ⟨true, by rw [hc2]; exact hex _ he c hc1, fun _ ea hea => ?_, fun z => by cases z⟩
        refine ⟨e, ⟨he, H2, hx⟩, ⟨H2, G2, []⟩, (List.replicate Ng.length none).set i (some (.un (.ref ea))), [], G2, [], ?_, ?_⟩
        · refine Rl.bare nw.t nw.u nw.s (by rw [List.length_set, List.length_set, List.length_replicate, hl]) fun j r hj => ?_
          by_cases hji : i = j
          · subst hji
            have hlt : i < Ng.length := (List.getElem?_eq_some_iff.mp hi).1
            rw [List.getElem?_set_self (by rw [List.length_replicate]; exact hlt)] at hj
            cases hj
            exact ⟨.ref ea, List.getElem?_set_self (by rw [hl]; exact hlt), rfl⟩
          · rw [List.getElem?_set_ne hji, List.getElem?_replicate] at hj
            split at hj <;> cases hj
        · have hp := hp ea
          unfold sufD at hp
          cases eg : gsu e ea ((List.replicate Ng.length none).set i (some (.un (.ref ea)))) [] with
          | nx ρ2 μ2 =>
            simp only [eg] at hp
            intro σ3 H3 G3 α3 R3 s3
            refine ⟨⟨H2, G2, []⟩, ρ2.set i none, μ2, G3, α3, R3.swap (by rw [List.length_set, List.length_set]; exact R3.len) fun j r hj => ?_, SPost.base hp s3⟩
            by_cases hji : i = j
            · subst hji
              by_cases hlt : i < ρ2.length
              · rw [List.getElem?_set_self hlt] at hj; cases hj
              · rw [List.getElem?_eq_none (by rw [List.length_set]; omega)] at hj; cases hj
            · rw [List.getElem?_set_ne hji] at hj
              obtain ⟨v, h1, h2⟩ := R3.sl j r hj
              exact ⟨v, by rw [List.getElem?_set_ne hji]; exact h1, h2⟩
          | rt r μ2 => simp only [eg] at hp; exact hp
          | bk ρ2 μ2 => simp only [eg] at hp; exact hp.elim
          | ct ρ2 μ2 => simp only [eg] at hp; exact hp.elim
          | er e2 ρ2 μ2 => simp only [eg] at hp; exact hp.elim
          | no => simp only [eg] at hp; exact hp.elim
      · obtain ⟨G2, d, nw, rd, hp⟩ := hQ v H2 hq
        refine hK2 _ σ ρ v d H2 G2 (now nw) rd ?_
        cases ec : cK ρ d with
        | nx ρ' μ' => rw [ec] at hp; exact fun σ' H' G' α' R' s' => ⟨_, ρ', μ', G', α', R', SPost.base (x := gpost ρ' μ') hp s'⟩
        | rt r μ' => rw [ec] at hp; exact hp
        | bk ρ' μ' => rw [ec] at hp; exact hp.elim
        | ct ρ' μ' => rw [ec] at hp; exact hp.elim
        | er e' ρ' μ' => rw [ec] at hp; exact hp.elim
        | no => rw [ec] at hp; exact hp.elim
  obtain ⟨hT, G, hG, hS, hpre2⟩ := h
  refine ⟨_, hpre s H _ _ htail, ?_⟩
  have R0 : Rl X.K T ⟨H, G, []⟩ (pad Ng.length [some (.un (.ref f))]) [] (L2.start Ng [.ref f]) H G [] := by
    refine Rl.bare hT hG hS (by unfold pad L2.start; rw [List.length_append, List.length_append, List.length_replicate, List.length_replicate]; rfl) fun j r hj => ?_
    have hj := pad_get hj
    cases j with
    | zero =>
      cases hj
      exact ⟨.ref f, get_start (vs := [.ref f]) rfl, rfl⟩
    | succ j => cases j <;> cases hj
  have base := hpre2 H G (Fram.refl hT hG hS)
  refine ⟨⟨H, G, []⟩, _, [], G, [], R0, ?_⟩
  obtain ⟨ρ, eg, hr0⟩ := hclean f
  rw [eg]
  intro σ1 H1 G1 α1 R1 s1
  have ea : α1 = [] := List.eq_nil_of_length_eq_zero R1.al
  subst ea
  have hco : H1 c' = some (LamX.CodeO c' q) := (R1.fr c' _ hc LamX.codeO_ne (by simp)).1
  refine ⟨⟨H, G, []⟩, ρ, G1, rfl, R1, hr0, hco, _, _, fun cls d H2 hE => ?_, fun v H2 hQ => ?_, hpre2 H1 G1 R1.fram⟩
  · obtain ⟨e, G2, he, nw, hx, hh⟩ := hE
    refine ⟨e, G2, he, nw, hx, fun a => ?_⟩
    have hh := hh f a
    unfold hnd at hh
    rw [eg] at hh
    have hh : HEnd X.K T Q G2 H2 (endD (sufD gsu gpost i Ng.length a e)) := hh
    unfold HEnd at hh
    cases ed : endD (sufD gsu gpost i Ng.length a e) with
    | none => rw [ed] at hh; exact hh.elim
    | some d => rw [ed] at hh; exact SPost.end ed hh
  · obtain ⟨G2, d, nw, rd, hh⟩ := hQ
    refine ⟨G2, d, nw, rd, ?_⟩
    have hh := hh f f
    unfold hnd at hh
    rw [eg] at hh
    have hh : HEnd X.K T Q G2 H2 (endD (contD gpost (cK ρ d))) := hh
    unfold HEnd at hh
    cases ed : endD (contD gpost (cK ρ d)) with
    | none => rw [ed] at hh; exact hh.elim
    | some d => rw [ed] at hh; exact SPost.end ed hh
end
/-! ### the maker's side -/
def hvR (o : Option PD) (μ : Mu) : Rs RV := match o with
  | some x => .ok (.dt x) μ
  | none => .no
def eLam (hv : Oc → Option PD) (es : Ex → Bool) (fe : EV) : EV := fun ρ μ => match fe ρ μ with
  | .ok r μ1 => (match r with
    | .dt d => hvR (hv (.ok d)) μ1
    | _ => .no)
  | .er e μ1 => if es e = true then hvR (hv (.er e)) μ1 else .no
  | .no => .no
section
variable {K : PySem.W.Frag} {mg : Str → Option Value} {T : Tb} {W : WX} {C : Ent} {ρ : Rho} {μ : Mu} {σ : L2.St} {H G H' G' : Hp} {α : List Addr}
/-- a lambda was made -/
theorem Rl.extN (R : Rl K T C ρ μ σ H G α) (e : LamX.ExtN H H') (t : LamX.Tabs T H') : Rl K T C ρ μ σ H' G α where
  sub := fun b o h => e b o (R.sub b o h) fun ps z => R.gt b ps (by rw [h, z])
  ext := R.ext
  fr := fun b o h hnt hb => by
    obtain ⟨h1, h2⟩ := R.fr b o h hnt hb
    exact ⟨e b o h1 hnt, h2⟩
  tb := t
  gt := R.gt
  al := R.al
  nd := R.nd
  pre := R.pre
  ob := fun k a m h1 h2 => by
    obtain ⟨q, w⟩ := R.ob k a m h1 h2
    refine ⟨?_, w⟩
    cases m with
    | ls o ds => obtain ⟨n, vs, q1, q2⟩ := q; exact ⟨n, vs, e _ _ q1 (fun _ z => by cases z), q2⟩
    | dk o ds => obtain ⟨n, vs, q1, q2⟩ := q; exact ⟨n, vs, e _ _ q1 (fun _ z => by cases z), q2⟩
    | dt o ds => obtain ⟨n, vs, q1, q2⟩ := q; exact ⟨n, vs, e _ _ q1 (fun _ z => by cases z), q2⟩
    | fz ds => exact q
  len := R.len
  sl := R.sl
theorem Rl.framed (R : Rl K T C ρ μ σ H G α) (f : Fram T G H G' H' []) : Rl K T C ρ μ σ H' G' α := R.called (ks := []) (P := []) (ms := []) List.nodup_nil trivial (fun k h => by cases h) f .nil
end
section
variable {X : Cx} {T : Tb} {W : WX}
/-- what a lambda handed over gives, by data -/
theorem lam_read {es : Ex → Bool} {hn : HN} {hv : Oc → Option PD} {fe : EV} {σ : L2.St} {H : Hp} {Q : VK} (hhv : ∀ f a o y, hv o = some y → hn f a o = some y) (h : tD X.K X.mg T W (eLam hv es fe) σ H Q) :
    LamX.tLam T (TTH X.K X.mg T es hn) (fun E => tD X.K X.mg T (fun cls d _ H => E cls d H) fe) σ H Q := by
    obtain ⟨C, ρ, μ, G, α, R, q⟩ := h
    refine ⟨R.tb, fun H1 eN T1 => ⟨T1, G, R.gt, (R.extN eN T1).sub, fun H2 G2 f => ⟨C, ρ, μ, G2, α, (R.extN eN T1).framed f, ?_⟩⟩⟩
    unfold eLam at q
    cases e : fe ρ μ with
    | no => rw [e] at q; exact q.elim
    | ok r μ1 =>
      rw [e] at q
      cases r with
      | ob k => exact q.elim
      | un u => exact q.elim
      | dt d =>
        have q : Post X.K X.mg T W C ρ σ G α _ (hvR (hv (.ok d)) μ1) := q
        intro H3 G3 α3 R3 s3 p3 v hv'
        refine ⟨G3, d, ⟨s3, R3.gt, R3.sub, R3.tb⟩, hv', fun f' a' => ?_⟩
        cases eh : hv (.ok d) with
        | none => rw [eh] at q; exact q.elim
        | some y =>
          rw [eh] at q
          rw [hhv f' a' _ _ eh]
          exact fun H4 G4 v4 f4 r4 => q H4 G4 α3 (R3.framed f4) ((f.g.trans s3).trans f4.g) p3 v4 r4
    | er ex μ1 =>
      rw [e] at q
      have q : Post X.K X.mg T W C ρ σ G α _ (if es ex = true then hvR (hv (.er ex)) μ1 else .no) := q
      intro cls d H3 G3 α3 R3 s3 p3 hx
      by_cases hm : es ex = true
      · rw [if_pos hm] at q
        refine ⟨ex, G3, hm, ⟨s3, R3.gt, R3.sub, R3.tb⟩, hx, fun f' a' => ?_⟩
        cases eh : hv (.er ex) with
        | none => rw [eh] at q; exact q.elim
        | some y =>
          rw [eh] at q
          rw [hhv f' a' _ _ eh]
          exact fun H4 G4 v4 f4 r4 => q H4 G4 α3 (R3.framed f4) ((f.g.trans s3).trans f4.g) p3 v4 r4
      · rw [if_neg hm] at q
        exact q.elim
/-- x(lambda: body), x a def that calls it within a try -/
theorem d_lam {x a : Str} {g c P : Addr} {k : Nat} {pg : Arguments} {bg : List Stmt} {sg : Scope} {dV kV doc pm cdv ct oc : Value} {an od : Option Addr} {osl : Array (Option Value)} {Ng : List Str} {es : Ex → Bool} {hn : HN} {hv : Oc → Option PD}
    {params : Arguments} {body : Expr} {scope : Scope} {fe : EV} {p lpos pos : Pos} (hg : Gl X x) (hm : X.mg x = some (.ref g)) (hk : PySem.W.keepIn X.K (.ref g) = true)
    (lk : X.K.lookup g = some ⟨oc, od, .func (PySem.W.fnOf x x pg bg sg dV kV doc pm an cdv ct), osl⟩) (hcg : PySem.W.codeIn X.K cdv x = true) (hb : L2.Binds X.K (PySem.W.fnOf x x pg bg sg dV kV doc pm an cdv ct) [a] []) (Sg : FnScope Ng [a] sg) (hNg : Ng[0]? = some a) (hva : Vis sg a)
    (hG : LamX.GivesTo X Ng x sg g cdv bg a (X.env.qual ++ "<lambda>") (TTH X.K X.mg T es hn)) (hhv : ∀ f a o y, hv o = some y → hn f a o = some y)
    (TB : LamX.TabB X.base X.mg c P) (hcode : X.env.code = .ref c) (hmT : (P, X.env.qual ++ "<lambda>") ∈ T) (hu : ∀ p ∈ T, p.1 = P → p.2 = X.env.qual ++ "<lambda>") (hr : Room (k + 2) X.A) (L : LamX.LamS X.env.scope scope) (hdef : defaultsOf params X.env = ([], []))
    (hbind : ∀ (q : Str) (cl : List (Str × Addr)) (pm cv ctv : Value), bindArgs (PySem.W.kla_fn "<lambda>" q params body scope cl pm cv ctv) ⟨[], []⟩ = pure [])
    (hbody : ∀ (A : Around) (outer : List Env) (s : Shared) (H : Hp) (E : XK) (f c' : Addr), Room k (A.deeper (LamX.lamEnv X scope s.heap.objs.size f c')) → PE (LamX.lamCx X A outer s H E scope f c') body (tD X.K X.mg T (fun cls d _ H => E cls d H) fe))
    (hdb : (x == ("__debug__" : Str)) = false := by decide) (hd : (a == ("__debug__" : Str)) = false := by decide) (hcd : (a == ("__classdict__" : Str)) = false := by decide) :
    PE X (.Call (.Name x p) [.Lambda params body scope lpos] [] pos) (tD X.K X.mg T W (eLam hv es fe)) :=
  pe_imp (LamX.pe_lamcall (t := fun E => tD X.K X.mg T (fun cls d _ H => E cls d H) fe) hg hm hk lk hcg hb Sg hNg hva hG TB hcode hmT hu hr L hdef hbind hbody hdb hd hcd) fun σ H Q h => lam_read hhv h
/-! ### what stands in the try -/
/-- call() -/
theorem hcs_expr {X : Cx} {Ng : List Str} {x a : Str} {sg : Scope} {g : Addr} {cdg : Value} {p1 p2 p3 : Pos} : ∀ (s : Shared) (H : Hp) (pn : List (Addr × Obj)) (xe : Value → Shared → Prop) (t : TE), PE ((hCx X Ng x sg g cdg s H).tr pn xe) (.Call (.Name a p1) [] [] p2) t →
    PS ((hCx X Ng x sg g cdg s H).tr pn xe) (.Expr (.Call (.Name a p1) [] [] p2) p3) (fun D σ H => t σ H ((fun (D : Ends) (σ : L2.St) (_ : V) (H2 : Hp) => D.nx σ H2) D σ)) := fun s H pn xe t h => ps_expr h
theorem hK_expr {X : Cx} {T : Tb} : ∀ (D : Ends) (σ : L2.St) (ρ : Rho) (v : V) (d : PD) (H2 G2 : Hp), Rl X.K T ⟨H2, G2, []⟩ ρ [] σ H2 G2 [] → Rep X.K G2 v d → SPost X.K X.mg T W0 ⟨H2, G2, []⟩ D G2 ((fun (ρ : Rho) (_ : PD) => So.nx ρ []) ρ d) → (fun (D : Ends) (σ : L2.St) (_ : V) (H2 : Hp) => D.nx σ H2) D σ v H2 :=
  fun D σ ρ v d H2 G2 R hv h => h σ H2 G2 [] R (Same.refl _)
/-- y = call() -/
theorem hcs_set {X : Cx} {Ng : List Str} {x a y : Str} {sg : Scope} {g : Addr} {cdg : Value} {p1 p2 p3 py : Pos} {j : Nat} (hN : Ng.Nodup) (hj : Ng[j]? = some y) (hy : sg.names.lookup y = some .local) : ∀ (s : Shared) (H : Hp) (pn : List (Addr × Obj)) (xe : Value → Shared → Prop) (t : TE), PE ((hCx X Ng x sg g cdg s H).tr pn xe) (.Call (.Name a p1) [] [] p2) t →
    PS ((hCx X Ng x sg g cdg s H).tr pn xe) (.Assign [.Name y py] (.Call (.Name a p1) [] [] p2) p3) (fun D σ H => t σ H ((fun (D : Ends) (σ : L2.St) (v : V) (H2 : Hp) => D.nx (σ.set j (some v)) H2) D σ)) := fun s H pn xe t h => ps_set (X := (hCx X Ng x sg g cdg s H).tr pn xe) hN hj (.inl hy) h (by rfl) (.inr hy)
theorem hK_set {X : Cx} {T : Tb} {j : Nat} : ∀ (D : Ends) (σ : L2.St) (ρ : Rho) (v : V) (d : PD) (H2 G2 : Hp), Rl X.K T ⟨H2, G2, []⟩ ρ [] σ H2 G2 [] → Rep X.K G2 v d → SPost X.K X.mg T W0 ⟨H2, G2, []⟩ D G2 ((fun (ρ : Rho) (d : PD) => So.nx (ρ.set j (some (.dt d))) []) ρ d) → (fun (D : Ends) (σ : L2.St) (v : V) (H2 : Hp) => D.nx (σ.set j (some v)) H2) D σ v H2 :=
  fun D σ ρ v d H2 G2 R hv h => h _ H2 G2 [] (R.set (r := .dt d) hv) (Same.refl _)
/-- isinstance(error, C) in the suite -/
def eIsE (i : Nat) (a : Addr) (b : Bool) : EV := fun ρ μ => match ρ[i]? with
  | some (some (.un (.ref a'))) => if a' = a then .ok (.dt (.bool b)) μ else .no
  | _ => .no
theorem d_isE {a D : Addr} {oe : Obj} {pn : List (Addr × Obj)} {i : Nat} {n x : Str} {p p1 p2 pos : Pos} {c : V} {cv : Value} {b : Bool} (CC : ExcC X.K D) (hz : Zc (.ref D) none oe) (hf : ∃ vs, oe.data = .fields vs) (hcv : ∀ u, RelV c u → u = cv) (hkit : PySem.W.kitOne X.K (.ref D) cv = some b)
    (hN : X.N[i]? = some n) (hv : Vis X.env.scope n) (hcl : PE (X.suite a ((a, oe) :: pn)) (.Name x p2) (tC c)) (hg : Gl X "isinstance") (hm : X.mg "isinstance" = none) (hd : (n == ("__debug__" : Str)) = false := by decide) (hcd : (n == ("__classdict__" : Str)) = false := by decide)
    (hs : starEach [.Name n p1, .Name x p2] X.env = (false, eval (.Name n p1) X.env) :: starEach [.Name x p2] X.env := by rfl) (hs2 : starEach [.Name x p2] X.env = (false, eval (.Name x p2) X.env) :: starEach [] X.env := by rfl) (hpl : (backTo pos (starEach [.Name x p2] X.env)).any (·.1) = false := by rfl)
    (hvb : bootBuiltins "isinstance" = some (.builtin "isinstance") := by decide +kernel) :
    PE (X.suite a ((a, oe) :: pn)) (.Call (.Name "isinstance" p) [.Name n p1, .Name x p2] [] pos) (tD X.K X.mg T W (eIsE i a b)) := by
  refine pe_imp (pe_callB (X := X.suite a ((a, oe) :: pn)) (call_isE CC hz hf) hg hm hvb (pa_cons (pe_var (i := i) hN hv hd hcd) (pa_cons hcl pa_nil hs2) hs) (by decide) (by decide) hs hpl) fun σ H Q ⟨C, ρ, μ, G, α, R, q⟩ => ?_
  unfold eIsE at q
  cases e : ρ[i]? with
  | none => rw [e] at q; exact q.elim
  | some o =>
    cases o with
    | none => rw [e] at q; exact q.elim
    | some r =>
      obtain ⟨v, h1, h2⟩ := R.sl i r e
      cases r with
      | dt d => rw [e] at q; exact q.elim
      | ob k => rw [e] at q; exact q.elim
      | un u =>
        have h2 : v = u := h2
        subst h2
        cases v with
        | ref a' =>
          rw [e] at q
          simp only at q
          by_cases ha : a' = a
          · rw [if_pos ha] at q
            subst ha
            exact ⟨_, h1, c, cv, b, rfl, hcv, hkit, q H G α R (Same.refl _) (List.prefix_refl _) _ (.bl b)⟩
          · rw [if_neg ha] at q
            exact q.elim
        | _ => rw [e] at q; exact q.elim
end
end DL
/-! The data layer, ninth part: zip and enumerate over lists, tuples and texts. -/
namespace DL
open PySem PySem.Spec PyProof.Rows L2
/-- what an iterator walks -/
inductive Src where
  | L (a : Addr) (vs : List V)
  | T (a : Addr) (vs : List V)
  | S (x : Str) (t : Tok)
def strV (x : Str) : List V := x.cps.toList.map fun c => .str ⟨#[c]⟩
def Src.items : Src → List V
  | .L _ vs => vs
  | .T _ vs => vs
  | .S x _ => strV x
def Src.val : Src → Value
  | .L a _ => .ref a
  | .T a _ => .ref a
  | .S x t => .str x t
def Src.obj : Src → Obj
  | .L a _ => { cls := .type "list_iterator", data := .fields #[.ref a, .int 0 0] }
  | .T a _ => { cls := .type "tuple_iterator", data := .fields #[.ref a, .int 0 0] }
  | .S x t => { cls := .type (strIterType x), data := .fields #[.str x t, .int 0 0] }
def Src.ok (K : PySem.W.Frag) (H : Hp) : Src → Prop
  | .L a vs => SqL K H a vs
  | .T a vs => SqT K H a vs
  | .S _ _ => True
def Src.it (z : Src) (it : Addr) (i : Nat) (h : Heap) : Prop := match z with
  | .L a _ => h.IsListIter it a i
  | .T a _ => h.IsTupleIter it a i
  | .S x t => h.IsStrIter it (strIterType x) x t i
def Src.rest : Src → List Addr
  | .L a _ => [a]
  | .T a _ => [a]
  | .S _ _ => []
def Src.fp (z : Src) (it : Addr) : List Addr := it :: z.rest
section
variable {X : Cx} {pins : List (Addr × Obj)} {σ : L2.St} {H : Hp} {s : Shared} {z : Src} {it : Addr}
theorem Src.at' {i : Nat} {h h' : Heap} (st : z.it it i h) (k : ∀ o, h.get? it = some o → h'.get? it = some o) : z.it it i h' := by
  cases z with
  | L a vs => exact st.at k
  | T a vs => exact st.at k
  | S x t => obtain ⟨o, ho, r⟩ := st; exact ⟨o, k o ho, r⟩
theorem Src.first {h : Heap} (e : h.get? it = some z.obj) : z.it it 0 h := by
  cases z with
  | L a vs => exact ⟨_, e, rfl, rfl⟩
  | T a vs => exact ⟨_, e, rfl, rfl⟩
  | S x t => exact ⟨_, e, rfl, rfl⟩
theorem Src.ex {i : Nat} {h : Heap} (st : z.it it i h) : ∃ o, h.get? it = some o ∧ ∀ v, o.data ≠ .cell v := by
  cases z with
  | L a vs => obtain ⟨o, ho, _, hd⟩ := st; exact ⟨o, ho, fun v q => by rw [hd] at q; cases q⟩
  | T a vs => obtain ⟨o, ho, _, hd⟩ := st; exact ⟨o, ho, fun v q => by rw [hd] at q; cases q⟩
  | S x t => obtain ⟨o, ho, _, hd⟩ := st; exact ⟨o, ho, fun v q => by rw [hd] at q; cases q⟩
theorem strV_get {x : Str} {i c : Nat} (h : x.cps[i]? = some c) : (strV x)[i]? = some (.str ⟨#[c]⟩) := by
  unfold strV
  rw [List.getElem?_map, Array.getElem?_toList, h]
  rfl
theorem strV_len (x : Str) : (strV x).length = x.cps.size := by unfold strV; rw [List.length_map, Array.length_toList]
/-- the iterator draws the items, as the heap stands -/
theorem Src.draws (A : Around) (hh : A.handled = none) (I : Inv X pins σ H s) (ok : z.ok X.K H) (far : it ∉ z.rest) : ∃ (P : Nat → Value → Prop) (St : Nat → Heap → Prop), Draws X.prog X.w A it (z.fp it) z.items.length P St ∧
    (∀ i, z.it it i s.heap → St i s.heap) ∧ (∀ i h, St i h → z.it it i h) ∧ (∀ i u, P i u → ∃ v, z.items[i]? = some v ∧ RelV v u) ∧ ∀ b ∈ z.rest, ∃ o, s.heap.get? b = some o := by
  cases z with
  | L a vs =>
    obtain ⟨its, rv, p, _⟩ := I.list ok
    have hl : vs.length = its.toArray.size := by rw [List.size_toArray, rv.length]
    have DD := Draws.list (prog := X.prog) (w := X.w) hh it a (fun e => far (by rw [← e]; exact List.mem_singleton_self _)) its.toArray
    rw [← hl] at DD
    refine ⟨_, _, DD, fun i h => ⟨h, p.isList⟩, fun i h q => q.1, fun i u hu => ?_, fun b hb => ?_⟩
    · have hu : its[i]? = some u := by simpa using hu
      have hi : i < vs.length := by rw [rv.length]; exact (List.getElem?_eq_some_iff.mp hu).1
      obtain ⟨u', hu', r⟩ := rv.get (List.getElem?_eq_getElem hi)
      rw [hu] at hu'
      cases hu'
      exact ⟨_, List.getElem?_eq_getElem hi, r⟩
    · rw [List.mem_singleton.mp hb]
      obtain ⟨o, ho, _⟩ := p.isList
      exact ⟨o, ho⟩
  | T a vs =>
    obtain ⟨its, rv, p, _⟩ := I.tuple ok
    have hl : vs.length = its.toArray.size := by rw [List.size_toArray, rv.length]
    have DD := Draws.tuple (prog := X.prog) (w := X.w) hh it a (fun e => far (by rw [← e]; exact List.mem_singleton_self _)) its.toArray
    rw [← hl] at DD
    refine ⟨_, _, DD, fun i h => ⟨h, p⟩, fun i h q => q.1, fun i u hu => ?_, fun b hb => ?_⟩
    · have hu : its[i]? = some u := by simpa using hu
      have hi : i < vs.length := by rw [rv.length]; exact (List.getElem?_eq_some_iff.mp hu).1
      obtain ⟨u', hu', r⟩ := rv.get (List.getElem?_eq_getElem hi)
      rw [hu] at hu'
      cases hu'
      exact ⟨_, List.getElem?_eq_getElem hi, r⟩
    · rw [List.mem_singleton.mp hb]
      obtain ⟨o, ho, _⟩ := id p
      exact ⟨o, ho⟩
  | S x t =>
    have DD := Draws.text (prog := X.prog) (w := X.w) hh it x t
    rw [← strV_len x] at DD
    refine ⟨_, _, DD, fun i h => h, fun i h q => q, fun i u hu => ?_, fun b hb => by cases hb⟩
    obtain ⟨c, t', hc, rfl⟩ := hu
    exact ⟨_, strV_get hc, ⟨t', rfl⟩⟩
/-- it begins -/
theorem Src.begins (I : Inv X pins σ H s) (ok : z.ok X.K H) : ∃ C : Heap → Prop, Begins z.val z.obj C ∧ C s.heap ∧ ∀ b ∈ z.rest, b < s.heap.objs.size := by
  cases z with
  | L a vs =>
    obtain ⟨its, rv, p, _⟩ := I.list ok
    refine ⟨_, begins_list a its.toArray, p.isList, fun b hb => ?_⟩
    rw [List.mem_singleton.mp hb]
    obtain ⟨o, ho, _⟩ := p.isList
    exact Heap.lt_size ho
  | T a vs =>
    obtain ⟨its, rv, p, _⟩ := I.tuple ok
    refine ⟨_, begins_tuple a its.toArray, p, fun b hb => ?_⟩
    rw [List.mem_singleton.mp hb]
    obtain ⟨o, ho, _⟩ := id p
    exact Heap.lt_size ho
  | S x t => exact ⟨_, begins_text x t, trivial, fun b hb => by cases hb⟩
end
/-! ### zip -/
def ItzS (K : PySem.W.Frag) (z1 z2 : Src) : It :=
  ⟨fun i H => z1.ok K H ∧ z2.ok K H ∧ i < z1.items.length ∧ i < z2.items.length,
    fun i H v H' => ∃ T x y, v = .ref T ∧ H T = none ∧ H' = upd H T (.tup [x, y]) ∧ z1.items[i]? = some x ∧ z2.items[i]? = some y,
    fun i H => z1.ok K H ∧ z2.ok K H ∧ i ≤ z1.items.length ∧ i ≤ z2.items.length ∧ (i = z1.items.length ∨ i = z2.items.length)⟩
theorem turn_zipS {P : Program} {w : World} {K : PySem.W.Frag} {elts : List Expr} {kk : Nat} {tpos : Pos} {z1 z2 : Src} {z TI TO i1 i2 : Addr} (D : ZipSep2 z TI TO i1 i2 (z1.fp i1) (z2.fp i2)) (f1 : i1 ∉ z1.rest) (f2 : i2 ∉ z2.rest) :
    Turn P w K (.Tuple elts kk tpos) (ItzS K z1 z2) [z, TI, TO, i1, i2] z (fun i h => IsZip h z TI TO .none ∧ IsTupOf2 h TI (.ref i1) (.ref i2) ∧ (∃ x y, IsTupOf2 h TO x y) ∧ z1.it i1 i h ∧ z2.it i2 i h) where
  mem := by simp
  obj := fun i h st c hc => by
    obtain ⟨hz, hTI, ⟨x, y, hTO⟩, h1, h2⟩ := st
    have e' : c = z ∨ c = TI ∨ c = TO ∨ c = i1 ∨ c = i2 := by simpa using hc
    rcases e' with q | q | q | q | q
    · exact ⟨_, by rw [q]; exact hz, fun v q => by cases q⟩
    · exact ⟨_, by rw [q]; exact hTI, fun v q => by cases q⟩
    · exact ⟨_, by rw [q]; exact hTO, fun v q => by cases q⟩
    · subst q; exact Src.ex h1
    · subst q; exact Src.ex h2
  keep := fun i h h' st k => by
    obtain ⟨hz, hTI, ⟨x, y, hTO⟩, h1, h2⟩ := st
    exact ⟨k z (by simp) _ hz, k TI (by simp) _ hTI, ⟨x, y, k TO (by simp) _ hTO⟩, Src.at' h1 fun o q => k i1 (by simp) o q, Src.at' h2 fun o q => k i2 (by simp) o q⟩
  item := by
    intro X hP hw hK hc i pins s σ H E I hf st hg
    subst hP hw hK
    obtain ⟨hz, hTI, ⟨x0, y0, hTO⟩, h1, h2⟩ := st
    obtain ⟨ok1, ok2, hl1, hl2⟩ := hg
    obtain ⟨P1, S1, D1, a1, b1, c1, _⟩ := Src.draws (z := z1) X.A.in1 (I.ok.hd hc) I ok1 f1
    obtain ⟨P2, S2, D2, a2, b2, c2, _⟩ := Src.draws (z := z2) X.A.in1 (I.ok.hd hc) I ok2 f2
    have hzl : z < s.heap.objs.size := Heap.lt_size hz
    refine wpAny_pyNext_zipD2_item D D1 D2 hz hTI hTO (a1 i h1) (a2 i h2) hl1 hl2 fun u1 u2 h' tk p1 p2 hz' hTO' s1' s2' hT hsz hk => ?_
    obtain ⟨v1, e1, r1⟩ := c1 i u1 p1
    obtain ⟨v2, e2, r2⟩ := c2 i u2 p2
    refine ⟨_, rfl, wpAny_letOwnedTupleGo_zip (s := { s with heap := h', toks := tk }) hz' fun h'' z'' sb => ?_⟩
    have hT2 : h''.get? s.heap.objs.size = some { cls := .type "tuple", data := .seq #[u1, u2] } := (sb.2 _ (Nat.ne_of_gt hzl)).trans hT
    have I1 := I.turnedNew (t' := tk) (ch := [z, TI, TO, i1, i2]) (h' := h'') (T := s.heap.objs.size) (ob := .tup [v1, v2]) (fun c o hb q => (sb.2 c (fun e => hb (by simp [e]))).trans (hk c o (fun e => hb (by simp [e])) (fun e => hb (by simp [e])) (fun e => hb (by simp [e])) (fun e => hb (by simp [e])) q)) hf (Nat.le_refl _)
      ⟨by show 2 ≤ sizeLine; decide, [u1, u2], .cons r1 (.cons r2 .nil), ⟨_, hT2, rfl, _, rfl⟩⟩
    refine ⟨.ref s.heap.objs.size, _, I1, rfl, ⟨_, v1, v2, rfl, I.hok.fresh (Nat.le_refl _), rfl, e1, e2⟩, ⟨z'', ?_, ⟨u1, u2, ?_⟩, ?_, ?_⟩, fun c hcm => ?_⟩
    · exact (sb.2 _ D.TIz).trans (hk _ _ D.TIz D.TITO D.TIi1 D.TIi2 hTI)
    · exact (sb.2 _ D.TOz).trans hTO'
    · exact Src.at' (b1 _ _ s1') fun o q => (sb.2 _ (Ne.symm D.zi1)).trans q
    · exact Src.at' (b2 _ _ s2') fun o q => (sb.2 _ (Ne.symm D.zi2)).trans q
    · have hlt : c < s.heap.objs.size := by
        have e' : c = z ∨ c = TI ∨ c = TO ∨ c = i1 ∨ c = i2 := by simpa using hcm
        rcases e' with q | q | q | q | q
        · rw [q]; exact hzl
        · rw [q]; exact Heap.lt_size hTI
        · rw [q]; exact Heap.lt_size hTO
        · obtain ⟨o, ho, _⟩ := Src.ex h1; rw [q]; exact Heap.lt_size ho
        · obtain ⟨o, ho, _⟩ := Src.ex h2; rw [q]; exact Heap.lt_size ho
      rw [upd_ne (Nat.ne_of_lt hlt)]
      exact (hf c hcm).1
  done := by
    intro X hP hw hK hc i pins s σ H E I hf st hg
    subst hP hw hK
    obtain ⟨hz, hTI, ⟨x0, y0, hTO⟩, h1, h2⟩ := st
    obtain ⟨ok1, ok2, hl1, hl2, hend⟩ := hg
    obtain ⟨P1, S1, D1, a1, b1, c1, _⟩ := Src.draws (z := z1) X.A.in1 (I.ok.hd hc) I ok1 f1
    obtain ⟨P2, S2, D2, a2, b2, c2, _⟩ := Src.draws (z := z2) X.A.in1 (I.ok.hd hc) I ok2 f2
    exact wpAny_pyNext_zipD2_end D D1 D2 hz hTI hTO (a1 i h1) (a2 i h2) hl1 hl2 hend fun h' tk hk => ⟨rfl, I.turnedL (t' := tk) (ch := [z, TI, TO, i1, i2]) (fun c o hb q =>
      hk c o (fun e => hb (by simp [e])) (fun e => hb (by simp [e])) (fun e => hb (by simp [e])) (fun e => hb (by simp [e])) q) hf⟩
  self := fun A i s Q E st h => wpAny_pyIter_zip st.1 h
/-! ### enumerate -/
def ItnS (K : PySem.W.Frag) (z : Src) : It :=
  ⟨fun i H => z.ok K H ∧ i < z.items.length,
    fun i H v H' => ∃ T x, v = .ref T ∧ H T = none ∧ H' = upd H T (.tup [.int (i : Nat), x]) ∧ z.items[i]? = some x,
    fun i H => z.ok K H ∧ i = z.items.length⟩
theorem turn_enumS {P : Program} {w : World} {K : PySem.W.Frag} {elts : List Expr} {kk : Nat} {tpos : Pos} {z : Src} {e it : Addr} (hne : e ≠ it) (hef : e ∉ z.rest) (far : it ∉ z.rest) :
    Turn P w K (.Tuple elts kk tpos) (ItnS K z) [e, it] e (fun i h => (∃ old, IsEnum h e it ((i : Nat) : Int) old) ∧ z.it it i h) where
  mem := by simp
  obj := fun i h st b hb => by
    obtain ⟨⟨old, he⟩, hi⟩ := st
    have e' : b = e ∨ b = it := by simpa using hb
    rcases e' with q | q
    · exact ⟨_, by rw [q]; exact he, fun v q => by cases q⟩
    · subst q; exact Src.ex hi
  keep := fun i h h' st k => let ⟨⟨old, he⟩, hi⟩ := st; ⟨⟨old, k e (by simp) _ he⟩, Src.at' hi fun o q => k it (by simp) o q⟩
  item := by
    intro X hP hw hK hc i pins s σ H E I hf st hg
    subst hP hw hK
    obtain ⟨⟨old, he⟩, hit⟩ := st
    obtain ⟨ok1, hl⟩ := hg
    obtain ⟨P1, S1, D1, a1, b1, c1, _⟩ := Src.draws (z := z) X.A.in1 (I.ok.hd hc) I ok1 far
    have hel : e < s.heap.objs.size := Heap.lt_size he
    have hil : it < s.heap.objs.size := by obtain ⟨_, q, _⟩ := Src.ex hit; exact Heap.lt_size q
    have hef' : e ∉ z.fp it := fun hm => by
      rcases List.mem_cons.mp hm with q | q
      · exact hne q
      · exact hef q
    refine wpAny_pyNext_enum_itemD D1 he (a1 i hit) hl hne hef' fun u h' tk p1 ho s1' hT hsz hk => ?_
    obtain ⟨v1, e1, r1⟩ := c1 i u p1
    refine ⟨_, rfl, wpAny_letOwnedTupleGo_enum (s := { s with heap := h', toks := tk + 1 }) ho fun h'' he' sb => ?_⟩
    have hT2 : h''.get? s.heap.objs.size = some { cls := .type "tuple", data := .seq #[.int i tk, u] } := (sb.2 _ (Nat.ne_of_gt hel)).trans hT
    have I1 := I.turnedNew (t' := tk + 1) (ch := [e, it]) (h' := h'') (T := s.heap.objs.size) (ob := .tup [.int (i : Nat), v1]) (fun b ob hb q => (sb.2 b (fun q => hb (by simp [q]))).trans (hk b ob (fun q => hb (by simp [q])) (fun q => hb (by simp [q])) q)) hf (Nat.le_refl _)
      ⟨by show 2 ≤ sizeLine; decide, [.int i tk, u], .cons ⟨_, rfl⟩ (.cons r1 .nil), ⟨_, hT2, rfl, _, rfl⟩⟩
    refine ⟨.ref s.heap.objs.size, _, I1, rfl, ⟨_, v1, rfl, I.hok.fresh (Nat.le_refl _), rfl, e1⟩, ⟨⟨u, ?_⟩, Src.at' (b1 _ _ s1') fun o q => (sb.2 it (Ne.symm hne)).trans q⟩, fun b hb => ?_⟩
    · have e1 : ((i + 1 : Nat) : Int) = (i : Int) + 1 := by omega
      rw [e1]; exact he'
    · have hb' : b < s.heap.objs.size := by
        have e' : b = e ∨ b = it := by simpa using hb
        rcases e' with q | q
        · rw [q]; exact hel
        · rw [q]; exact hil
      rw [upd_ne (Nat.ne_of_lt hb')]
      exact (hf b hb).1
  done := by
    intro X hP hw hK hc i pins s σ H E I hf st hg
    subst hP hw hK
    obtain ⟨⟨old, he⟩, hit⟩ := st
    obtain ⟨ok1, hl⟩ := hg
    subst hl
    obtain ⟨P1, S1, D1, a1, b1, c1, _⟩ := Src.draws (z := z) X.A.in1 (I.ok.hd hc) I ok1 far
    obtain ⟨f0, f1, f2, f3, f4, f5⟩ := hf it (by simp)
    exact wpAny_pyNext_enum_endD D1 he (a1 _ hit) fun h' eb => ⟨rfl, I.turned (t' := s.toks) (fun b o hb q => eb b o hb q) f0 f1 f3 f4 f5⟩
  self := fun A i s Q E st h => let ⟨⟨_, he⟩, _⟩ := st; wpAny_pyIter_enum he h
set_option maxHeartbeats 4000000 in
theorem meets_enum1 {v : Value} {o : Obj} {C : Heap → Prop} (B : Begins v o C) :
    Meets (Builtin.«enumerate.__new__» ⟨[.type "enumerate", v], []⟩) (fun _ R s => C s.heap ∧ R (.ok (.ret (.ref (s.heap.push o).objs.size))) { s with heap := (s.heap.push o).push { cls := .type "enumerate", data := .fields #[.none, .bool false, .ref s.heap.objs.size, rawInt 0, .none, .none] } }) :=
  .of_wp fun prog w A R s h => by
    obtain ⟨hp, ge, dr, tk, os⟩ := s
    obtain ⟨hc, hR⟩ := h
    have hsub := PySem.sub_enumerate
    have q1 : ∀ {A' : Around} {E : Value → Shared → Prop} {Q : Value → Shared → Prop}, Q (.ref hp.objs.size) ⟨hp.push o, ge, dr, tk, os⟩ → wpAny (model prog w) A' (pyIter v) Q E ⟨hp, ge, dr, tk, os⟩ := fun q => B.iter prog w _ _ _ _ hc q
    wp_walk using q1
    refine wpAny_stack_any fun st => wpAny_pure ?_
    split
    · rename_i c _ _ _ _ _
      cases (c == Value.type "enumerate")
      · wp_walk using q1
        exact ⟨_, rfl, hR⟩
      · wp_walk using q1
        exact ⟨_, rfl, hR⟩
    · wp_walk using q1
      exact ⟨_, rfl, hR⟩
theorem call_enum1 {prog : Program} {w : World} {A : Around} {E : Value → Shared → Prop} {s : Shared} {v : Value} {o : Obj} {C : Heap → Prop} {Q : Value → Shared → Prop} (B : Begins v o C) (h1 : C s.heap)
    (h : ∀ h', IsEnum h' (s.heap.objs.size + 1) s.heap.objs.size 0 .none → h'.get? s.heap.objs.size = some o → (∀ b o, s.heap.get? b = some o → h'.get? b = some o) → Q (.ref (s.heap.objs.size + 1)) { s with heap := h' }) :
    wpAny (model prog w) A (call (.type "enumerate") [v]) Q E s := by
  refine callType_new F.called_enumerate (by decide) (F.typeCall_enumerate_1 _) (F.newCall_enumerate_1 _) (fun obj => F.args_object_init_2 obj _) F.entry_enumerate_new (meets_enum1 B) ⟨h1, ?_⟩
  have hz : (s.heap.push o).objs.size = s.heap.objs.size + 1 := Heap.size_push ..
  have he : IsEnum ((s.heap.push o).push { cls := .type "enumerate", data := .fields #[.none, .bool false, .ref s.heap.objs.size, rawInt 0, .none, .none] }) (s.heap.objs.size + 1) s.heap.objs.size 0 .none := by
    have q := Heap.get?_push_size (s.heap.push o) (o := { cls := .type "enumerate", data := .fields #[.none, .bool false, .ref s.heap.objs.size, rawInt 0, .none, .none] }) rfl
    rw [hz] at q
    exact q
  show _ ∧ _
  rw [hz]
  exact ⟨⟨_, he, rfl⟩, h _ he (Heap.get?_push_of_some _ (Heap.get?_push_size _ B.free)) fun b o x => Heap.get?_push_of_some _ (Heap.get?_push_of_some _ x)⟩
/-! ### by data -/
/-- a value as a source -/
theorem src_of {K : PySem.W.Frag} {G : Hp} {v : V} {d : PD} {ds : List PD} {u : Value} (r : Rep K G v d) (e : itemsOf d = some ds) (ru : RelV v u) : ∃ z : Src, z.val = u ∧ (∀ H, Same G H → z.ok K H) ∧ Reps K G z.items ds := by
  cases r with
  | non => cases e
  | bl b => cases e
  | int i => cases e
  | dic h => cases e
  | scr h rs => cases e
  | lst h rs =>
    rename_i a vs ds'
    cases e
    have ru : u = .ref a := ru
    exact ⟨.L a vs, ru.symm, fun H s => .of (s _ _ h), rs⟩
  | tup h rs =>
    rename_i a vs ds'
    cases e
    have ru : u = .ref a := ru
    exact ⟨.T a vs, ru.symm, fun H s => seqT_same s h, rs⟩
  | str x =>
    cases e
    obtain ⟨t, rfl⟩ := ru
    refine ⟨.S x t, rfl, fun H s => trivial, ?_⟩
    show Reps K G (strV x) (strL x)
    unfold strV strL
    generalize x.cps.toList = l
    induction l with
    | nil => exact .nil
    | cons c l ih => exact .cons (.str _) ih
def zipD (xs ys : List PD) : List PD := List.zipWith (fun x y => .tuple [x, y]) xs ys
theorem it_zip {K : PySem.W.Frag} {G : Hp} {z1 z2 : Src} {xs ys : List PD} (o1 : ∀ H, Same G H → z1.ok K H) (o2 : ∀ H, Same G H → z2.ok K H) (r1 : Reps K G z1.items xs) (r2 : Reps K G z2.items ys) : ItOk K G (zipD xs ys) (ItzS K z1 z2) := fun i H' G' s s' => by
  have hl : (zipD xs ys).length = min xs.length ys.length := by unfold zipD; rw [List.length_zipWith]
  have l1 := r1.length
  have l2 := r2.length
  refine ⟨fun hi => ⟨o1 _ (s.trans s'), o2 _ (s.trans s'), by omega, by omega⟩, fun hi => ⟨o1 _ (s.trans s'), o2 _ (s.trans s'), by omega, by omega, by omega⟩, fun d hd v H2 hy => ?_⟩
  obtain ⟨T, x, y, rfl, hT, rfl, e1, e2⟩ := hy
  obtain ⟨dx, f1, q1⟩ := r1.get' e1
  obtain ⟨dy, f2, q2⟩ := r2.get' e2
  have ed : (zipD xs ys)[i]? = some (.tuple [dx, dy]) := by unfold zipD; rw [List.getElem?_zipWith, f1, f2]
  rw [hd] at ed
  cases ed
  have g := Grow.new (o := .tup [x, y]) s' hT
  exact ⟨_, g, .tup (.of upd_same) (.cons ((q1.mono s).mono g.g) (.cons ((q2.mono s).mono g.g) .nil))⟩
def enumD (n : Nat) : List PD → List PD
  | [] => []
  | x :: xs => .tuple [.int (n : Nat), x] :: enumD (n + 1) xs
theorem enumD_length : ∀ (xs : List PD) (n : Nat), (enumD n xs).length = xs.length
  | [], _ => rfl
  | x :: xs, n => by show _ + 1 = _ + 1; rw [enumD_length xs]
theorem enumD_get : ∀ (xs : List PD) (n i : Nat) (x : PD), xs[i]? = some x → (enumD n xs)[i]? = some (.tuple [.int ((n + i : Nat) : Int), x])
  | [], _, i, _, e => by simp at e
  | x :: xs, n, 0, y, e => by cases e; rfl
  | x :: xs, n, i + 1, y, e => by
    have := enumD_get xs (n + 1) i y e
    rw [Nat.add_right_comm] at this
    exact this
theorem it_enum {K : PySem.W.Frag} {G : Hp} {z : Src} {xs : List PD} (o1 : ∀ H, Same G H → z.ok K H) (r1 : Reps K G z.items xs) : ItOk K G (enumD 0 xs) (ItnS K z) := fun i H' G' s s' => by
  have hl := enumD_length xs 0
  have l1 := r1.length
  refine ⟨fun hi => ⟨o1 _ (s.trans s'), by omega⟩, fun hi => ⟨o1 _ (s.trans s'), by omega⟩, fun d hd v H2 hy => ?_⟩
  obtain ⟨T, x, rfl, hT, rfl, e1⟩ := hy
  obtain ⟨dx, f1, q1⟩ := r1.get' e1
  have ed := enumD_get xs 0 i dx f1
  rw [hd] at ed
  cases ed
  have g := Grow.new (o := .tup [.int (i : Nat), x]) s' hT
  rw [Nat.zero_add]
  exact ⟨_, g, .tup (.of upd_same) (.cons (.int _) (.cons ((q1.mono s).mono g.g) .nil))⟩
def iZipD (fs : AV) : IV := fun ρ μ => (fs ρ μ).bind fun rs μ1 => (frzs rs μ1).bind fun ds μ2 => match ds with
  | [x, y] => match itemsOf x, itemsOf y with
    | some xs, some ys => .ok (zipD xs ys) μ2
    | _, _ => .no
  | _ => .no
def iEnumD (fs : AV) : IV := fun ρ μ => (fs ρ μ).bind fun rs μ1 => (frzs rs μ1).bind fun ds μ2 => match ds with
  | [x] => match itemsOf x with
    | some xs => .ok (enumD 0 xs) μ2
    | none => .no
  | _ => .no
section
variable {X : Cx} {T : Tb} {W : WX} {elts : List Expr} {kk : Nat} {tpos p pos : Pos}
theorem Reps.nil' {K : PySem.W.Frag} {G : Hp} {vs : List V} (h : Reps K G vs []) : vs = [] := by cases h; rfl
theorem Reps.one {K : PySem.W.Frag} {G : Hp} {vs : List V} {d : PD} (h : Reps K G vs [d]) : ∃ v, vs = [v] ∧ Rep K G v d := by
  cases h with
  | cons a t => cases t; exact ⟨_, rfl, a⟩
theorem Reps.two {K : PySem.W.Frag} {G : Hp} {vs : List V} {d e : PD} (h : Reps K G vs [d, e]) : ∃ v w, vs = [v, w] ∧ Rep K G v d ∧ Rep K G w e := by
  cases h with
  | cons a t =>
    obtain ⟨w, rfl, b⟩ := Reps.one t
    exact ⟨_, w, rfl, a, b⟩
theorem d_zip {e e2 : Expr} {fs : AV} (hg : Gl X "zip") (hm : X.mg "zip" = none) (ha : PA X [e, e2] (tDA X.K X.mg T W fs))
    (hs : starEach [e, e2] X.env = (false, eval e X.env) :: starEach [e2] X.env := by rfl) (hpl : (backTo pos (starEach [e2] X.env)).any (·.1) = false := by rfl) :
    PI X (.Tuple elts kk tpos) (.Call (.Name "zip" p) [e, e2] [] pos) (tDI X.K X.mg T W (iZipD fs)) := by
  refine ⟨fun pins s σ H R I ⟨C, ρ, μ, G, α, RL, q⟩ => ?_⟩
  refine Call_ (ld_blt I hg hm PyProof.Rows.boot_zip (PyProof.Rows.callWith_type1 (thn (ha.run pos pins s σ H (fun vs H1 => ∃ G2 x y v w xs ys, vs = [v, w] ∧ Same G2 H1 ∧ Rep X.K G2 v x ∧ Rep X.K G2 w y ∧ itemsOf x = some xs ∧ itemsOf y = some ys ∧ ∀ J, ItOk X.K G2 (zipD xs ys) J → R J H1) I
    ⟨C, ρ, μ, G, α, RL, (Post.bind q).mono fun rs μ1 H1 G1 α1 _ _ _ h1 vs hvs => ?_⟩) fun us s1 ⟨vs, H1, I1, r1, q1⟩ => ?_) hs hpl))
  · obtain ⟨R1, s1, p1, q1⟩ := h1
    obtain ⟨ds, μ2, G2, e2, R2, s2, r2, _, _, _, q2⟩ := frzs_ok R1 hvs (Post.bind q1)
    match ds, r2, q2 with
    | [x, y], r2, q2 =>
      obtain ⟨v, w, rfl, rx, ry⟩ := r2.two
      simp only at q2
      cases ex : itemsOf x with
      | none => simp only [ex] at q2; exact q2.elim
      | some xs =>
        cases ey : itemsOf y with
        | none => simp only [ex, ey] at q2; exact q2.elim
        | some ys =>
          simp only [ex, ey] at q2
          exact ⟨G2, x, y, v, w, xs, ys, rfl, R2.sub, rx, ry, ex, ey, q2 H1 G2 α1 R2 (Same.refl _) (List.prefix_refl _)⟩
    | [], _, q2 => exact q2.elim
    | [_], _, q2 => exact q2.elim
    | _ :: _ :: _ :: _, _, q2 => exact q2.elim
  · obtain ⟨G2, x, y, v, w, xs, ys, rfl, s2, rx, ry, ex, ey, k⟩ := q1
    cases r1 with
    | cons rv rr =>
      cases rr with
      | cons rw' rr =>
        cases rr
        obtain ⟨z1, e1, o1, i1⟩ := src_of rx ex rv
        obtain ⟨z2, e2', o2, i2⟩ := src_of ry ey rw'
        obtain ⟨C1, B1, c1, l1⟩ := Src.begins I1 (o1 _ s2)
        obtain ⟨C2, B2, c2, l2⟩ := Src.begins I1 (o2 _ s2)
        rw [← e1, ← e2']
        refine zip_begins2 B1 B2 c1 c2 fun h' hz hTI hTO h1 h2 hsz hk => wpAny_pyIter_zip hz ?_
        have I2 : Inv X pins σ H1 { s1 with heap := h' } := I1.kept (t' := s1.toks) hk
        have fresh5 : ∀ c, c ∈ [s1.heap.objs.size + 4, s1.heap.objs.size + 2, s1.heap.objs.size + 3, s1.heap.objs.size, s1.heap.objs.size + 1] → FpOk X pins H1 c := fun c hcm => by
          have hle : s1.heap.objs.size ≤ c := by
            simp only [List.mem_cons, List.not_mem_nil, or_false] at hcm
            rcases hcm with z | z | z | z | z
            · rw [z]; exact Nat.le_add_right _ _
            · rw [z]; exact Nat.le_add_right _ _
            · rw [z]; exact Nat.le_add_right _ _
            · rw [z]; exact Nat.le_refl _
            · rw [z]; exact Nat.le_add_right _ _
          exact I1.fpOk hle (I1.hok.fresh hle)
        exact ⟨s1.heap.objs.size + 4, _, _, _, H1, rfl, I2, turn_zipS (zip_sep2 l1 l2) (fun hm => absurd (l1 _ hm) (Nat.lt_irrefl _)) (fun hm => absurd (l2 _ hm) (Nat.not_lt.mpr (Nat.le_succ _))), ⟨hz, hTI, ⟨_, _, hTO⟩, Src.first h1, Src.first h2⟩, fresh5, k _ (it_zip o1 o2 i1 i2)⟩
theorem d_enum {e : Expr} {fs : AV} (hg : Gl X "enumerate") (hm : X.mg "enumerate" = none) (ha : PA X [e] (tDA X.K X.mg T W fs)) (hs : starEach [e] X.env = [(false, eval e X.env)] := by rfl) :
    PI X (.Tuple elts kk tpos) (.Call (.Name "enumerate" p) [e] [] pos) (tDI X.K X.mg T W (iEnumD fs)) := by
  refine ⟨fun pins s σ H R I ⟨C, ρ, μ, G, α, RL, q⟩ => ?_⟩
  refine Call_ (ld_blt I hg hm boot_enumerate (PyProof.Rows.callWith_type1 (thn (ha.run pos pins s σ H (fun vs H1 => ∃ G2 x v xs, vs = [v] ∧ Same G2 H1 ∧ Rep X.K G2 v x ∧ itemsOf x = some xs ∧ ∀ J, ItOk X.K G2 (enumD 0 xs) J → R J H1) I
    ⟨C, ρ, μ, G, α, RL, (Post.bind q).mono fun rs μ1 H1 G1 α1 _ _ _ h1 vs hvs => ?_⟩) fun us s1 ⟨vs, H1, I1, r1, q1⟩ => ?_) hs rfl))
  · obtain ⟨R1, s1, p1, q1⟩ := h1
    obtain ⟨ds, μ2, G2, e2, R2, s2, r2, _, _, _, q2⟩ := frzs_ok R1 hvs (Post.bind q1)
    match ds, r2, q2 with
    | [x], r2, q2 =>
      obtain ⟨v, rfl, rx⟩ := r2.one
      simp only at q2
      cases ex : itemsOf x with
      | none => simp only [ex] at q2; exact q2.elim
      | some xs =>
        simp only [ex] at q2
        exact ⟨G2, x, v, xs, rfl, R2.sub, rx, ex, q2 H1 G2 α1 R2 (Same.refl _) (List.prefix_refl _)⟩
    | [], _, q2 => exact q2.elim
    | _ :: _ :: _, _, q2 => exact q2.elim
  · obtain ⟨G2, x, v, xs, rfl, s2, rx, ex, k⟩ := q1
    cases r1 with
    | cons rv rr =>
      cases rr
      obtain ⟨z1, e1, o1, i1⟩ := src_of rx ex rv
      obtain ⟨C1, B1, c1, l1⟩ := Src.begins I1 (o1 _ s2)
      rw [← e1]
      refine call_enum1 B1 c1 fun h' he h1 hk => wpAny_pyIter_enum he ?_
      have I2 : Inv X pins σ H1 { s1 with heap := h' } := I1.kept (t' := s1.toks) hk
      refine ⟨s1.heap.objs.size + 1, [s1.heap.objs.size + 1, s1.heap.objs.size], _, _, H1, rfl, I2, turn_enumS (Nat.succ_ne_self _) (fun hm => absurd (l1 _ hm) (Nat.not_lt.mpr (Nat.le_succ _))) (fun hm => absurd (l1 _ hm) (Nat.lt_irrefl _)), ⟨⟨.none, he⟩, Src.first h1⟩, fun b hb => ?_, k _ (it_enum o1 i1)⟩
      have hle : s1.heap.objs.size ≤ b := by
        simp only [List.mem_cons, List.not_mem_nil, or_false] at hb
        rcases hb with z | z
        · rw [z]; exact Nat.le_add_right _ _
        · rw [z]; exact Nat.le_refl _
      exact I1.fpOk hle (I1.hok.fresh hle)
end
end DL
/-! The data layer, tenth part: operations by data. -/
namespace DL
open PySem PySem.Spec PyProof.Rows L2
/-! ### flat data as values -/
def flatD : PD → Bool
  | .none => true
  | .bool _ => true
  | .int _ => true
  | .str _ => true
  | _ => false
def toV : PD → V
  | .none => .non
  | .bool b => .bl b
  | .int i => .int i
  | .str x => .str x
  | _ => .non
section
variable {K : PySem.W.Frag} {G H : Hp}
theorem Rep.flat {v : V} {d : PD} (h : Rep K G v d) (f : flatD d = true) : v = toV d ∧ flatV v = true := by
  cases h with
  | non => exact ⟨rfl, rfl⟩
  | bl b => exact ⟨rfl, rfl⟩
  | int i => exact ⟨rfl, rfl⟩
  | str x => exact ⟨rfl, rfl⟩
  | lst a b => cases f
  | scr a b => cases f
  | tup a b => cases f
  | dic a => cases f
theorem Vw.flat {v : V} {d : PD} (h : Vw K G H v d) (f : flatD d = true) : v = toV d ∧ flatV v = true := by
  rcases h with h | ⟨a, vs, ds, rfl, rfl, q, r⟩
  · exact h.flat f
  · cases f
theorem Reps.flat : ∀ {vs : List V} {ds : List PD}, Reps K G vs ds → ds.all flatD = true → vs = ds.map toV ∧ vs.all flatV = true
  | _, _, .nil, _ => ⟨rfl, rfl⟩
  | _, _, .cons r t, f => by
    rw [List.all_cons, Bool.and_eq_true] at f
    obtain ⟨e1, f1⟩ := r.flat f.1
    obtain ⟨e2, f2⟩ := Reps.flat t f.2
    exact ⟨by rw [List.map_cons, ← e1, ← e2], by rw [List.all_cons, f1, f2]; rfl⟩
end
/-! ### arithmetic, joins -/
def gAdd : PD → PD → Option Out
  | .int i, .int j => some (.val (.int (i + j)))
  | .str x, .str y => if x.length + y.length ≤ sizeLine then some (.val (.str (x ++ y))) else none
  | .list xs, .list ys => if xs.length + ys.length ≤ sizeLine then some (.nls (xs ++ ys)) else none
  | .tuple xs, .tuple ys => if xs.length + ys.length ≤ sizeLine then some (.val (.tuple (xs ++ ys))) else none
  | _, _ => none
def gIadd : PD → PD → Option Out
  | .int i, .int j => some (.val (.int (i + j)))
  | .str x, .str y => if x.length + y.length ≤ sizeLine then some (.val (.str (x ++ y))) else none
  | _, _ => none
def gSub : PD → PD → Option Out
  | .int i, .int j => some (.val (.int (i - j)))
  | _, _ => none
def mulOkB (x : Str) (n : Int) : Bool := decide (-(2 ^ 62) < n) && decide (n < 2 ^ 40) && decide (x.length * n.toNat ≤ sizeLine)
def mulOkI (i j : Int) : Bool := (decide (-(2 ^ 64) < i) && decide (i < 2 ^ 64)) || (decide (-(2 ^ 64) < j) && decide (j < 2 ^ 64))
def gMul : PD → PD → Option Out
  | .int i, .int j => if mulOkI i j = true then some (.val (.int (i * j))) else none
  | .str x, .int n => if mulOkB x n = true then some (.val (.str (Txt.mul x n))) else none
  | .list xs, .int n => if (decide (-(2 ^ 63) ≤ n) && decide (n < 2 ^ 63) && decide (xs.length * n.toNat ≤ sizeLine)) = true then some (.nls (List.replicate n.toNat xs).flatten) else none
  | _, _ => none
def gMod : PD → PD → Option Out
  | .int i, .int j => if 0 < j then some (.val (.int (i % j))) else none
  | _, _ => none
def gFdiv : PD → PD → Option Out
  | .int i, .int j => if 0 < j ∧ j.natAbs.log2 < 9000 then some (.val (.int (i / j))) else none
  | _, _ => none
def gPow : PD → PD → Option Out
  | .int i, .int j => if 0 ≤ j ∧ j ≤ 1000000 ∧ i.natAbs < 2 ^ 64 then some (.val (.int (i ^ j.toNat))) else none
  | _, _ => none
def gI2 (f : Int → Int → Bool) : PD → PD → Option Out
  | .int i, .int j => some (.val (.bool (f i j)))
  | _, _ => none
def gLt := gI2 fun i j => decide (i < j)
def gLe := gI2 fun i j => decide (i ≤ j)
def gGt := gI2 fun i j => decide (j < i)
def gGe := gI2 fun i j => decide (j ≤ i)
def gEq : PD → PD → Option Out := fun d e => if (noDict d && noDict e && SeqAt.shaped d && SeqAt.shaped e) = true then some (.val (.bool (PyData.eqv d e))) else none
def gNe : PD → PD → Option Out := fun d e => if (noDict d && noDict e && SeqAt.shaped d && SeqAt.shaped e) = true then some (.val (.bool (!PyData.eqv d e))) else none
def strIn (w z : Str) : Bool := match w.cps.toList with
  | [c] => decide (c ∈ z.cps.toList)
  | _ => !(Builtin.Str.occurrences z w 0 z.length 1).isEmpty
def inD (x : PD) (ds : List PD) : Option Bool := if (flatD x && ds.all flatD) = true then some (inV (toV x) (ds.map toV)) else none
def inB : PD → PD → Option Bool
  | x, .list ds => inD x ds
  | x, .tuple ds => inD x ds
  | .str w, .str z => some (strIn w z)
  | _, _ => none
def gIn : PD → PD → Option Out := fun x y => (inB x y).map fun b => .val (.bool b)
def gNin : PD → PD → Option Out := fun x y => (inB x y).map fun b => .val (.bool (!b))
def isNone : PD → Bool
  | .none => true
  | _ => false
def gIs : PD → PD → Option Out
  | x, .none => some (.val (.bool (isNone x)))
  | .bool a, .bool b => some (.val (.bool (decide (a = b))))
  | _, _ => none
def gIsn : PD → PD → Option Out
  | x, .none => some (.val (.bool (!isNone x)))
  | .bool a, .bool b => some (.val (.bool (!decide (a = b))))
  | _, _ => none
def gNeg : PD → Option Out
  | .int i => some (.val (.int (-i)))
  | _ => none
section
variable {X : Cx} {K : PySem.W.Frag} {G H : Hp}
theorem out_if {Q : VK} {c : Prop} [Decidable c] {o : Out} (h : OutPost K H G Q (if c then some o else none)) : c ∧ OutPost K H G Q (some o) := by
  by_cases hc : c
  · rw [if_pos hc] at h; exact ⟨hc, h⟩
  · rw [if_neg hc] at h; exact h.elim
theorem out_map {α : Type} {Q : VK} {x : Option α} {f : α → Out} (h : OutPost K H G Q (x.map f)) : ∃ a, x = some a ∧ OutPost K H G Q (some (f a)) := by
  cases x with
  | none => exact h.elim
  | some a => exact ⟨a, rfl, h⟩
theorem op2_int {f : Value → Value → Sem Value} {C : Int → Int → Prop} {k : Int → Int → V} {g : PD → PD → Option Out} (h : OpR X f (rI C k))
    (hg : ∀ (G H : Hp) (x y : PD) (Q : VK), Same G H → OutPost X.K H G Q (g x y) → ∃ i j, x = .int i ∧ y = .int j ∧ C i j ∧ Q (k i j) H) : Op2 X f g :=
  ⟨_, h, fun G H x y dx dy Q s hx hy q => by
    obtain ⟨i, j, rfl, rfl, c, q⟩ := hg G H dx dy Q s q
    exact ⟨i, j, hx.int, hy.int, c, q⟩⟩
theorem op2_int0 {f : Value → Value → Sem Value} {k : Int → Int → V} {g : PD → PD → Option Out} (h : OpR X f (rI0 k))
    (hg : ∀ (G H : Hp) (x y : PD) (Q : VK), Same G H → OutPost X.K H G Q (g x y) → ∃ i j, x = .int i ∧ y = .int j ∧ Q (k i j) H) : Op2 X f g :=
  ⟨_, h, fun G H x y dx dy Q s hx hy q => by
    obtain ⟨i, j, rfl, rfl, q2⟩ := hg G H dx dy Q s q
    exact ⟨i, j, hx.int, hy.int, q2⟩⟩
theorem o_sub : Op2 X (binaryOp .Sub) gSub := op2_int0 op_sub fun G H x y Q s q => by
  match x, y, q with
  | .int i, .int j, q => exact ⟨i, j, rfl, rfl, out_flat s q (.int _)⟩
theorem o_mod : Op2 X (binaryOp .Mod) gMod := op2_int op_mod fun G H x y Q s q => by
  match x, y, q with
  | .int i, .int j, q =>
    obtain ⟨c, q⟩ := out_if (c := 0 < j) q
    exact ⟨i, j, rfl, rfl, c, out_flat s q (.int _)⟩
theorem o_fdiv : Op2 X (binaryOp .FloorDiv) gFdiv := op2_int op_fdivW fun G H x y Q s q => by
  match x, y, q with
  | .int i, .int j, q =>
    obtain ⟨c, q⟩ := out_if (c := 0 < j ∧ j.natAbs.log2 < 9000) q
    exact ⟨i, j, rfl, rfl, c, out_flat s q (.int _)⟩
theorem o_pow : Op2 X (binaryOp .Pow) gPow := op2_int op_pow fun G H x y Q s q => by
  match x, y, q with
  | .int i, .int j, q =>
    obtain ⟨c, q⟩ := out_if (c := 0 ≤ j ∧ j ≤ 1000000 ∧ i.natAbs < 2 ^ 64) q
    exact ⟨i, j, rfl, rfl, c, out_flat s q (.int _)⟩
theorem gI2_read {f : Int → Int → Bool} {x y : PD} {Q : VK} (s : Same G H) (q : OutPost K H G Q (gI2 f x y)) : ∃ i j, x = .int i ∧ y = .int j ∧ Q (.bl (f i j)) H := by
  match x, y, q with
  | .int i, .int j, q => exact ⟨i, j, rfl, rfl, out_flat s q (.bl _)⟩
theorem o_lt : Op2 X (compareOp .Lt) gLt := op2_int0 op_lt fun G H x y Q s q => gI2_read s q
theorem o_le : Op2 X (compareOp .LtE) gLe := op2_int0 op_le fun G H x y Q s q => gI2_read s q
theorem o_gt : Op2 X (compareOp .Gt) gGt := op2_int0 op_gt fun G H x y Q s q => gI2_read s q
theorem o_ge : Op2 X (compareOp .GtE) gGe := op2_int0 op_ge fun G H x y Q s q => gI2_read s q
theorem out_tup' {Q : VK} {vs : List V} {ds : List PD} (s : Same G H) (h : OutPost K H G Q (some (.val (.tuple ds)))) (r : Reps K G vs ds) : ∀ p, H p = none → Q (.ref p) (upd H p (.tup vs)) := out_tup s h r
theorem o_add : Op2 X (binaryOp .Add) gAdd := by
  refine ⟨_, (op_add.or (op_add_str.or (op_cat.or op_catA))), fun G H x y dx dy Q s hx hy q => ?_⟩
  match dx, dy, hx, hy, q with
  | .int i, .int j, hx, hy, q => exact .inl ⟨i, j, hx.int, hy.int, out_flat s q (.int _)⟩
  | .str a, .str b, hx, hy, q =>
    obtain ⟨c, q⟩ := out_if (c := a.length + b.length ≤ sizeLine) q
    exact .inr (.inl ⟨a, b, hx.str, hy.str, c, out_flat s q (.str _)⟩)
  | .list as, .list bs, hx, hy, q =>
    obtain ⟨c, q⟩ := out_if (c := as.length + bs.length ≤ sizeLine) q
    obtain ⟨a, vs, rfl, ha, ra⟩ := hx.list s
    obtain ⟨b, ws, rfl, hb, rb⟩ := hy.list s
    exact .inr (.inr (.inl ⟨a, b, vs, ws, rfl, rfl, ha, hb, by rw [ra.length, rb.length]; exact c, out_ls q (ra.append rb)⟩))
  | .tuple as, .tuple bs, hx, hy, q =>
    obtain ⟨c, q⟩ := out_if (c := as.length + bs.length ≤ sizeLine) q
    -- one of the two may be the answer itself
    have hq : ∀ v ds, Rep X.K G v (.tuple ds) → ds = as ++ bs → Q v H := fun v ds r e => out_flat s q (e ▸ r)
    rcases hx with hx | ⟨_, _, _, _, z, _⟩
    · rcases hy with hy | ⟨_, _, _, _, z, _⟩
      · cases hx with
        | tup qa ra =>
          cases hy with
          | tup qb rb =>
            rename_i a vs b ws
            refine .inr (.inr (.inr ⟨a, b, vs, ws, rfl, rfl, seqT_same s qa, seqT_same s qb, by rw [ra.length, rb.length]; exact c, fun e => ?_, fun _ e => ?_, fun _ _ => out_tup s q (ra.append rb)⟩))
            · subst e
              cases ra
              exact hq _ _ (.tup qb rb) rfl
            · subst e
              cases rb
              exact hq _ _ (.tup qa ra) (List.append_nil _).symm
      · cases z
    · cases z
theorem o_iadd : Op2 X (inplaceOp .Add) gIadd := by
  refine ⟨_, iop_add.or iop_add_str, fun G H x y dx dy Q s hx hy q => ?_⟩
  match dx, dy, hx, hy, q with
  | .int i, .int j, hx, hy, q => exact .inl ⟨i, j, hx.int, hy.int, out_flat s q (.int _)⟩
  | .str a, .str b, hx, hy, q =>
    obtain ⟨c, q⟩ := out_if (c := a.length + b.length ≤ sizeLine) q
    exact .inr ⟨a, b, hx.str, hy.str, c, out_flat s q (.str _)⟩
theorem mulOk_of {x : Str} {n : Int} (h : mulOkB x n = true) : MulOk x n := by
  unfold mulOkB at h
  simp only [Bool.and_eq_true, decide_eq_true_eq] at h
  obtain ⟨⟨h1, h2⟩, h3⟩ := h
  have hs : sizeLine < 2 ^ 30 := by rw [sizeLine_eq]; decide
  refine ⟨?_, fun hn _ hc => ?_, fun _ _ => ?_⟩
  · rw [Bool.or_eq_false_iff]
    exact ⟨decide_eq_false (by omega), decide_eq_false (by omega)⟩
  · -- (x.length : Int) > (2^63 - 1) / n
    have hn1 : 1 ≤ n := by omega
    have e : ((x.length * n.toNat : Nat) : Int) = (x.length : Int) * n := by
      rw [Int.natCast_mul, Int.toNat_of_nonneg (by omega)]
    have h4 : (x.length : Int) * n ≤ (2 ^ 63 - 1) := by
      rw [← e]
      have : ((x.length * n.toNat : Nat) : Int) ≤ (sizeLine : Nat) := by exact_mod_cast h3
      omega
    have h5 : (x.length : Int) ≤ (2 ^ 63 - 1) / n := (Int.le_ediv_iff_mul_le (by omega)).mpr h4
    omega
  · unfold Builtin.Str.tooLong
    exact decide_eq_false (by omega)
theorem op_mulS : OpR X (binaryOp .Mult) (fun x y H Q => ∃ (a : Str) (n : Int), x = .str a ∧ y = .int n ∧ MulOk a n ∧ Q (.str (Txt.mul a n)) H) := by
  intro pins s σ H x y v u Q I rx ry h
  obtain ⟨a, n, rfl, rfl, c, q⟩ := h
  obtain ⟨t, rfl⟩ := rx
  obtain ⟨t', rfl⟩ := ry
  exact PySem.SB.mul c fun t1 k => ⟨.str _, H, I.tok _, ⟨_, rfl⟩, q⟩
theorem Reps.rep {vs : List V} {ds : List PD} (h : Reps K G vs ds) : ∀ n : Nat, Reps K G (List.replicate n vs).flatten (List.replicate n ds).flatten
  | 0 => .nil
  | n + 1 => by
    rw [List.replicate_succ, List.replicate_succ, List.flatten_cons, List.flatten_cons]
    exact h.append (Reps.rep h n)
theorem o_mul : Op2 X (binaryOp .Mult) gMul := by
  refine ⟨_, (op_mul.or (op_mulS.or op_rep)), fun G H x y dx dy Q s hx hy q => ?_⟩
  match dx, dy, hx, hy, q with
  | .int i, .int j, hx, hy, q =>
    obtain ⟨c, q⟩ := out_if (c := mulOkI i j = true) q
    unfold mulOkI at c
    simp only [Bool.or_eq_true, Bool.and_eq_true, decide_eq_true_eq] at c
    exact .inl ⟨i, j, hx.int, hy.int, c, out_flat s q (.int _)⟩
  | .str a, .int n, hx, hy, q =>
    obtain ⟨c, q⟩ := out_if (c := mulOkB a n = true) q
    exact .inr (.inl ⟨a, n, hx.str, hy.int, mulOk_of c, out_flat s q (.str _)⟩)
  | .list as, .int n, hx, hy, q =>
    obtain ⟨c, q⟩ := out_if (c := (decide (-(2 ^ 63) ≤ n) && decide (n < 2 ^ 63) && decide (as.length * n.toNat ≤ sizeLine)) = true) q
    simp only [Bool.and_eq_true, decide_eq_true_eq] at c
    obtain ⟨a, vs, rfl, ha, ra⟩ := hx.list s
    exact .inr (.inr ⟨a, n, vs, rfl, hy.int, ha, c.1.1, c.1.2, by rw [ra.length]; exact c.2, out_ls q (ra.rep _)⟩)
theorem o_eq (hu : X.A.units + 64 < cLine) : Op2 X (compareOp .Eq) gEq := ⟨_, op_eqD hu, fun G H x y dx dy Q s hx hy q => by
  obtain ⟨c, q⟩ := out_if (c := (noDict dx && noDict dy && SeqAt.shaped dx && SeqAt.shaped dy) = true) q
  simp only [Bool.and_eq_true] at c
  exact ⟨dx, dy, hx.dp s c.1.1.1, hy.dp s c.1.1.2, c.1.2, c.2, out_flat s q (.bl _)⟩⟩
theorem o_ne (hu : X.A.units + 64 < cLine) : Op2 X (compareOp .NotEq) gNe := ⟨_, op_neD hu, fun G H x y dx dy Q s hx hy q => by
  obtain ⟨c, q⟩ := out_if (c := (noDict dx && noDict dy && SeqAt.shaped dx && SeqAt.shaped dy) = true) q
  simp only [Bool.and_eq_true] at c
  exact ⟨dx, dy, hx.dp s c.1.1.1, hy.dp s c.1.1.2, c.1.2, c.2, out_flat s q (.bl _)⟩⟩
theorem inB_read {x y : V} {dx dy : PD} {b : Bool} (s : Same G H) (hx : Vw K G H x dx) (hy : Vw K G H y dy) (e : inB dx dy = some b) :
    (∃ i j, x = .str i ∧ y = .str j ∧ b = strIn i j) ∨ ∃ p xs, y = .ref p ∧ (SqL K H p xs ∨ SqT K H p xs) ∧ flatV x = true ∧ xs.all flatV = true ∧ b = inV x xs := by
  have key : ∀ ds, inD dx ds = some b → ∀ p vs, y = .ref p → (SqL K H p vs ∨ SqT K H p vs) → Reps K G vs ds → ∃ p xs, y = .ref p ∧ (SqL K H p xs ∨ SqT K H p xs) ∧ flatV x = true ∧ xs.all flatV = true ∧ b = inV x xs := fun ds e p vs ey hq r => by
    unfold inD at e
    by_cases c : (flatD dx && ds.all flatD) = true
    · rw [if_pos c] at e
      cases e
      rw [Bool.and_eq_true] at c
      obtain ⟨e1, f1⟩ := hx.flat c.1
      obtain ⟨e2, f2⟩ := r.flat c.2
      exact ⟨p, vs, ey, hq, f1, f2, by rw [e1, e2]⟩
    · rw [if_neg c] at e
      cases e
  cases dy with
  | list ds =>
    obtain ⟨p, vs, ey, hq, r⟩ := hy.list s
    exact .inr (key ds (by cases dx <;> exact e) p vs ey (.inl (.of hq)) r)
  | tuple ds =>
    obtain ⟨p, vs, ey, hq, r⟩ := hy.tup s
    exact .inr (key ds (by cases dx <;> exact e) p vs ey (.inr hq) r)
  | str z =>
    cases dx with
    | str w => cases e; exact .inl ⟨w, z, hx.str, hy.str, rfl⟩
    | _ => cases e
  | none => cases dx <;> cases e
  | bool c => cases dx <;> cases e
  | int c => cases dx <;> cases e
  | dict c => cases dx <;> cases e
theorem op_inT : OpR X (compareOp .In) (fun x y H Q => ∃ i j, x = .str i ∧ y = .str j ∧ Q (.bl (strIn i j)) H) := by
  intro pins s σ H x y v u Q I rx ry h
  obtain ⟨i, j, rfl, rfl, q⟩ := h
  unfold strIn at q
  split at q
  · rename_i c hc
    have ei : i = ⟨#[c]⟩ := by
      obtain ⟨l⟩ := i
      have : l = #[c] := by rw [← Array.toArray_toList (xs := l), hc]
      rw [this]
    exact op_in_sign pins s σ H _ _ v u Q I rx ry ⟨c, j, by rw [ei], rfl, q⟩
  · exact op_in_str pins s σ H _ _ v u Q I rx ry ⟨i, j, rfl, rfl, q⟩
theorem op_ninT : OpR X (compareOp .NotIn) (fun x y H Q => ∃ i j, x = .str i ∧ y = .str j ∧ Q (.bl (!strIn i j)) H) := by
  intro pins s σ H x y v u Q I rx ry h
  obtain ⟨i, j, rfl, rfl, q⟩ := h
  unfold strIn at q
  split at q
  · rename_i c hc
    have ei : i = ⟨#[c]⟩ := by
      obtain ⟨l⟩ := i
      have : l = #[c] := by rw [← Array.toArray_toList (xs := l), hc]
      rw [this]
    exact op_notIn_sign pins s σ H _ _ v u Q I rx ry ⟨c, j, by rw [ei], rfl, q⟩
  · exact op_notIn_str pins s σ H _ _ v u Q I rx ry ⟨i, j, rfl, rfl, q⟩
theorem o_in : Op2 X (compareOp .In) gIn := ⟨_, op_inT.or op_in_seq, fun G H x y dx dy Q s hx hy q => by
  obtain ⟨b, e, q⟩ := out_map q
  rcases inB_read s hx hy e with ⟨i, j, e1, e2, e3⟩ | ⟨p, xs, e1, hq, f1, f2, e3⟩
  · exact .inl ⟨i, j, e1, e2, by rw [← e3]; exact out_flat s q (.bl _)⟩
  · exact .inr ⟨p, xs, e1, hq, f1, f2, by rw [if_neg Bool.false_ne_true, ← e3]; exact out_flat s q (.bl _)⟩⟩
theorem o_nin : Op2 X (compareOp .NotIn) gNin := ⟨_, op_ninT.or op_notIn_seq, fun G H x y dx dy Q s hx hy q => by
  obtain ⟨b, e, q⟩ := out_map q
  rcases inB_read s hx hy e with ⟨i, j, e1, e2, e3⟩ | ⟨p, xs, e1, hq, f1, f2, e3⟩
  · exact .inl ⟨i, j, e1, e2, by rw [← e3]; exact out_flat s q (.bl _)⟩
  · exact .inr ⟨p, xs, e1, hq, f1, f2, by rw [if_pos rfl, ← e3]; exact out_flat s q (.bl _)⟩⟩
theorem Vw.isNon {x : V} {d : PD} (h : Vw K G H x d) : decide (x = .non) = isNone d := by
  rcases h with h | ⟨a, vs, ds, rfl, rfl, q, r⟩
  · cases h with
    | non => rfl
    | _ => exact decide_eq_false (by intro z; cases z)
  · exact decide_eq_false (by intro z; cases z)
theorem o_is : Op2 X (compareOp .Is) gIs := ⟨_, op_isN.or op_isBl, fun G H x y dx dy Q s hx hy q => by
  cases dy with
  | none =>
    refine .inl ⟨hy.non, ?_⟩
    rw [hx.isNon]
    cases dx <;> exact out_flat s q (.bl _)
  | bool b =>
    cases dx with
    | bool a => exact .inr ⟨a, b, hx.bl, hy.bl, out_flat s q (.bl _)⟩
    | _ => exact q.elim
  | _ => cases dx <;> exact q.elim⟩
theorem o_isn : Op2 X (compareOp .IsNot) gIsn := ⟨_, op_notN.or op_notBl, fun G H x y dx dy Q s hx hy q => by
  cases dy with
  | none =>
    refine .inl ⟨hy.non, ?_⟩
    rw [hx.isNon]
    cases dx <;> exact out_flat s q (.bl _)
  | bool b =>
    cases dx with
    | bool a => exact .inr ⟨a, b, hx.bl, hy.bl, out_flat s q (.bl _)⟩
    | _ => exact q.elim
  | _ => cases dx <;> exact q.elim⟩
theorem o_neg : Un1 X (unaryOp .USub) gNeg := ⟨_, un_neg, fun G H x dx Q s hx q => by
  cases dx with
  | int i => exact ⟨i, hx.int, out_flat s q (.int _)⟩
  | _ => exact q.elim⟩
end
/-! ### items, slices -/
def ixD : PD → Int → Option PD
  | .list ds, i => atI ds i
  | .tuple ds, i => atI ds i
  | .str z, i => if z.length ≤ sizeLine then (atI z.cps.toList i).map fun c => .str ⟨#[c]⟩ else none
  | _, _ => none
def gIx : PD → PD → Option Out
  | x, .int i => (ixD x i).map .val
  | _, _ => none
def cutD (ds : List PD) (lo hi : Option Int) : List PD := (ds.drop (HT.sIx ds.length 0 lo)).take (HT.sIx ds.length ds.length hi - HT.sIx ds.length 0 lo)
def gSl : PD → Option Int → Option Int → Option Out
  | .list ds, lo, hi => some (.nls (cutD ds lo hi))
  | .tuple ds, lo, hi => some (.val (.tuple (cutD ds lo hi)))
  | .str z, lo, hi => if z.length ≤ sizeLine then some (.val (.str (cutS z lo hi))) else none
  | .dict [(.none, .list ds)], lo, hi => some (.nls (cutD ds lo hi))
  | _, _, _ => none
section
variable {X : Cx} {K : PySem.W.Frag} {G H : Hp}
theorem Reps.atI {vs : List V} {ds : List PD} {i : Int} {d : PD} (r : Reps K G vs ds) (e : atI ds i = some d) : ∃ v, L2.atI vs i = some v ∧ Rep K G v d := by
  unfold L2.atI at e ⊢
  rw [r.length]
  cases q : ixN ds.length i with
  | none => rw [q] at e; cases e
  | some j =>
    rw [q] at e
    obtain ⟨v, h1, h2⟩ := r.get (show ds[j]? = some d from e)
    exact ⟨v, h1, h2⟩
theorem i_ix : Ix2 X gIx := ⟨_, ix_seq, fun G H x y dx dy Q s hx hy q => by
  cases dy with
  | int i =>
    obtain ⟨d, e, q2⟩ := out_map (x := ixD dx i) (f := .val) (Q := Q) (G := G) (H := H) (K := X.K) (by cases dx <;> exact q)
    cases dx with
    | list ds =>
      obtain ⟨p, vs, rfl, hq, r⟩ := hx.list s
      obtain ⟨v, e1, rv⟩ := r.atI e
      exact .inl ⟨p, vs, i, v, rfl, hy.int, .of hq, e1, out_flat s q2 rv⟩
    | tuple ds =>
      obtain ⟨p, vs, rfl, hq, r⟩ := hx.tup s
      obtain ⟨v, e1, rv⟩ := r.atI e
      exact .inr (.inl ⟨p, vs, i, v, rfl, hy.int, hq, e1, out_flat s q2 rv⟩)
    | str z =>
      have e : (if z.length ≤ sizeLine then (L2.atI z.cps.toList i).map fun c => PyData.str ⟨#[c]⟩ else none) = some d := e
      by_cases c : z.length ≤ sizeLine
      · rw [if_pos c] at e
        cases e1 : L2.atI z.cps.toList i with
        | none => rw [e1] at e; cases e
        | some c1 =>
          rw [e1] at e
          cases e
          exact .inr (.inr ⟨z, i, c1, hx.str, hy.int, c, e1, out_flat s q2 (.str _)⟩)
      · rw [if_neg c] at e
        cases e
    | none => cases e
    | bool b => cases e
    | int b => cases e
    | dict b => cases e
  | _ => cases dx <;> exact q.elim⟩
theorem Reps.cut {vs : List V} {ds : List PD} (r : Reps K G vs ds) (lo hi : Option Int) : Reps K G (cutV vs lo hi) (cutD ds lo hi) := by
  unfold cutV cutD
  rw [r.length]
  exact (r.drop _).take _
theorem s_sl : Sl2 X gSl := ⟨_, sl_list.or (sl_tupA.or sl_str), fun G H x dx lo hi Q s hx q => by
  match dx, hx, q with
  | .list ds, hx, q =>
    obtain ⟨p, vs, rfl, hq, r⟩ := hx.list s
    exact .inl ⟨p, vs, rfl, .of hq, out_ls q (r.cut lo hi)⟩
  | .tuple ds, hx, q =>
    rcases hx with hx | ⟨_, _, _, _, z, _⟩
    · cases hx with
      | tup hq r =>
        rename_i a vs
        refine .inr (.inl ⟨a, vs, rfl, seqT_same s hq, fun hw => ?_, fun _ => out_tup s q (r.cut lo hi)⟩)
        refine out_flat s q (.tup hq ?_)
        have e : cutD ds lo hi = ds := by
          unfold cutD
          rw [← r.length, hw.1, hw.2, List.drop_zero, r.length, Nat.sub_zero]
          exact List.take_length
        rw [e]
        exact r
    · cases z
  | .str z, hx, q =>
    obtain ⟨c, q⟩ := out_if (c := z.length ≤ sizeLine) q
    exact .inr (.inr ⟨z, hx.str, c, out_flat s q (.str _)⟩)
  | .dict [(.none, .list ds)], hx, q =>
    rcases hx with hx | ⟨_, _, _, _, z, _⟩
    · cases hx with
      | scr hq r => exact .inl ⟨_, _, rfl, s.seq hq, out_ls q (r.cut lo hi)⟩
    · cases z⟩
end
end DL
/-! The data layer, eleventh part: built-ins called, methods, items stored. -/
namespace DL
open PySem PySem.Spec PyProof.Rows L2
/-! ### built-ins -/
def lenD : PD → Option Nat
  | .list ds => some ds.length
  | .tuple ds => some ds.length
  | .str x => if x.length ≤ sizeLine then some x.length else none
  | _ => none
def cLen : List PD → Option Out
  | [d] => (lenD d).map fun (n : Nat) => .val (.int (n : Int))
  | _ => none
def cAbs : List PD → Option Out
  | [.int i] => some (.val (.int (if i < 0 then -i else i)))
  | _ => none
def intD : PD → Option Int
  | .int i => some i
  | .bool b => some (if b then 1 else 0)
  | .str a => if a.length ≤ 640 then PySem.intText? a else none
  | _ => none
def cInt : List PD → Option Out
  | [d] => (intD d).map fun i => .val (.int i)
  | _ => none
def cStr : List PD → Option Out
  | [.int i] => if i.natAbs.log2 < 1920 then some (.val (.str (toString i))) else none
  | [.str x] => some (.val (.str x))
  | _ => none
def cList : List PD → Option Out
  | [.list ds] => some (.nls ds)
  | [.tuple ds] => some (.nls ds)
  | _ => none
def cTup : List PD → Option Out
  | [.list ds] => some (.val (.tuple ds))
  | [.tuple ds] => some (.val (.tuple ds))
  | _ => none
def intsOf : List PD → Option (List Int)
  | [] => some []
  | .int i :: ds => (intsOf ds).map (i :: ·)
  | _ => none
def boolsOf : List PD → Option (List Bool)
  | [] => some []
  | .bool i :: ds => (boolsOf ds).map (i :: ·)
  | _ => none
def strsOf : List PD → Option (List Str)
  | [] => some []
  | .str i :: ds => (strsOf ds).map (i :: ·)
  | _ => none
def cSum : List PD → Option Out
  | [.list ds] => (intsOf ds).map fun ns => .val (.int ns.sum)
  | _ => none
def cAll : List PD → Option Out
  | [.list ds] => (boolsOf ds).map fun bs => .val (.bool (bs.all id))
  | _ => none
def cAny : List PD → Option Out
  | [.list ds] => (boolsOf ds).map fun bs => .val (.bool (bs.any id))
  | _ => none
def cMax2 : List PD → Option Out
  | [.int i, .int j] => some (.val (.int (if j > i then j else i)))
  | _ => none
def cMin2 : List PD → Option Out
  | [.int i, .int j] => some (.val (.int (if j < i then j else i)))
  | _ => none
def maxL : List Int → Option Int
  | [] => none
  | a :: r => some (r.foldl max a)
def minL : List Int → Option Int
  | [] => none
  | a :: r => some (r.foldl min a)
def cMaxL : List PD → Option Out
  | [.list ds] => ((intsOf ds).bind maxL).map fun m => .val (.int m)
  | _ => none
def cMinL : List PD → Option Out
  | [.list ds] => ((intsOf ds).bind minL).map fun m => .val (.int m)
  | _ => none
section
variable {X : Cx} {K : PySem.W.Frag} {G H : Hp}
theorem intsOf_map : ∀ {ds : List PD} {ns : List Int}, intsOf ds = some ns → ds = ns.map PyData.int
  | [], _, e => by cases e; rfl
  | .int i :: ds, ns, e => by
    have e : (intsOf ds).map (i :: ·) = some ns := e
    cases e2 : intsOf ds with
    | none => rw [e2] at e; cases e
    | some m => rw [e2] at e; cases e; rw [intsOf_map e2]; rfl
theorem boolsOf_map : ∀ {ds : List PD} {ns : List Bool}, boolsOf ds = some ns → ds = ns.map PyData.bool
  | [], _, e => by cases e; rfl
  | .bool i :: ds, ns, e => by
    have e : (boolsOf ds).map (i :: ·) = some ns := e
    cases e2 : boolsOf ds with
    | none => rw [e2] at e; cases e
    | some m => rw [e2] at e; cases e; rw [boolsOf_map e2]; rfl
theorem strsOf_map : ∀ {ds : List PD} {ns : List Str}, strsOf ds = some ns → ds = ns.map PyData.str
  | [], _, e => by cases e; rfl
  | .str i :: ds, ns, e => by
    have e : (strsOf ds).map (i :: ·) = some ns := e
    cases e2 : strsOf ds with
    | none => rw [e2] at e; cases e
    | some m => rw [e2] at e; cases e; rw [strsOf_map e2]; rfl
theorem Reps.ints {vs : List V} : ∀ {ns : List Int}, Reps K G vs (ns.map PyData.int) → vs = ns.map V.int := fun {ns} h => by
  induction ns generalizing vs with
  | nil => cases h; rfl
  | cons n r ih =>
    cases h with
    | cons a t => cases a; rw [ih t]; rfl
theorem Reps.bools {vs : List V} : ∀ {ns : List Bool}, Reps K G vs (ns.map PyData.bool) → vs = ns.map V.bl := fun {ns} h => by
  induction ns generalizing vs with
  | nil => cases h; rfl
  | cons n r ih =>
    cases h with
    | cons a t => cases a; rw [ih t]; rfl
theorem Reps.strs {vs : List V} : ∀ {ns : List Str}, Reps K G vs (ns.map PyData.str) → vs = ns.map V.str := fun {ns} h => by
  induction ns generalizing vs with
  | nil => cases h; rfl
  | cons n r ih =>
    cases h with
    | cons a t => cases a; rw [ih t]; rfl
theorem Reps.ofStrs : ∀ ns : List Str, Reps K G (ns.map V.str) (ns.map PyData.str)
  | [] => .nil
  | n :: r => .cons (.str n) (Reps.ofStrs r)
theorem Reps.ofInts : ∀ ns : List Int, Reps K G (ns.map V.int) (ns.map PyData.int)
  | [] => .nil
  | n :: r => .cons (.int n) (Reps.ofInts r)
theorem c_len : CallD X (.builtin "len") cLen := ⟨_, call_len, fun G H xs ds Q s hx q => by
  match ds, hx, q with
  | [d], hx, q =>
    obtain ⟨v, rfl, hv⟩ := hx.one
    obtain ⟨n, e, q⟩ := out_map q
    refine ⟨v, n, rfl, ?_, out_flat s q (.int _)⟩
    cases d with
    | list ds =>
      cases e
      obtain ⟨p, vs, rfl, hq, r⟩ := hv.list s
      exact .inl ⟨vs, .of hq, r.length.symm⟩
    | tuple ds =>
      cases e
      obtain ⟨p, vs, rfl, hq, r⟩ := hv.tup s
      exact .inr ⟨vs, hq, r.length.symm⟩
    | str x =>
      have e : (if x.length ≤ sizeLine then some x.length else none) = some n := e
      by_cases c : x.length ≤ sizeLine
      · rw [if_pos c] at e
        cases e
        rw [hv.str]
        exact ⟨c, rfl⟩
      · rw [if_neg c] at e
        cases e
    | none => cases e
    | bool b => cases e
    | int b => cases e
    | dict b => cases e⟩
theorem c_abs : CallD X (.builtin "abs") cAbs := ⟨_, call_abs, fun G H xs ds Q s hx q => by
  match ds, hx, q with
  | [.int i], hx, q =>
    obtain ⟨v, rfl, hv⟩ := hx.one
    exact ⟨i, by rw [hv.int], out_flat s q (.int _)⟩⟩
theorem c_int : CallD X (.type "int") cInt := ⟨_, call_int1.or call_int_str, fun G H xs ds Q s hx q => by
  match ds, hx, q with
  | [d], hx, q =>
    obtain ⟨v, rfl, hv⟩ := hx.one
    obtain ⟨n, e, q2⟩ := out_map q
    cases d with
    | int i => cases e; exact .inl (.inl ⟨n, by rw [hv.int], out_flat s q2 (.int _)⟩)
    | bool b => cases e; exact .inl (.inr ⟨b, by rw [hv.bl], out_flat s q2 (.int _)⟩)
    | str a =>
      have e : (if a.length ≤ 640 then PySem.intText? a else none) = some n := e
      by_cases c : a.length ≤ 640
      · rw [if_pos c] at e
        exact .inr ⟨a, n, by rw [hv.str], e, c, out_flat s q2 (.int _)⟩
      · rw [if_neg c] at e
        cases e
    | none => cases e
    | list b => cases e
    | tuple b => cases e
    | dict b => cases e⟩
theorem c_str : CallD X (.type "str") cStr := ⟨_, call_str_int.or SkE.call_str_str, fun G H xs ds Q s hx q => by
  match ds, hx, q with
  | [.int i], hx, q =>
    obtain ⟨v, rfl, hv⟩ := hx.one
    obtain ⟨c, q⟩ := out_if (c := i.natAbs.log2 < 1920) q
    exact .inl ⟨i, by rw [hv.int], c, out_flat s q (.str _)⟩
  | [.str a], hx, q =>
    obtain ⟨v, rfl, hv⟩ := hx.one
    exact .inr ⟨a, by rw [hv.str], out_flat s q (.str _)⟩⟩
theorem c_list : CallD X (.type "list") cList := ⟨_, call_list_of, fun G H xs ds Q s hx q => by
  match ds, hx, q with
  | [.list es], hx, q =>
    obtain ⟨v, rfl, hv⟩ := hx.one
    obtain ⟨p, vs, rfl, hq, r⟩ := hv.list s
    exact ⟨p, vs, rfl, .inl (.of hq), out_ls q r⟩
  | [.tuple es], hx, q =>
    obtain ⟨v, rfl, hv⟩ := hx.one
    obtain ⟨p, vs, rfl, hq, r⟩ := hv.tup s
    exact ⟨p, vs, rfl, .inr hq, out_ls q r⟩⟩
theorem c_tup : CallD X (.type "tuple") cTup := ⟨_, call_tuple_of, fun G H xs ds Q s hx q => by
  match ds, hx, q with
  | [.list es], hx, q =>
    obtain ⟨v, rfl, hv⟩ := hx.one
    obtain ⟨p, vs, rfl, hq, r⟩ := hv.list s
    exact ⟨p, vs, rfl, .inl ⟨.of hq, out_tup s q r⟩⟩
  | [.tuple es], hx, q =>
    obtain ⟨v, rfl, hv⟩ := hx.one
    rcases hv with hv | ⟨_, _, _, _, z, _⟩
    · cases hv with
      | tup hq r => exact ⟨_, _, rfl, .inr ⟨seqT_same s hq, out_flat s q (.tup hq r)⟩⟩
    · cases z⟩
theorem c_sum (hc : X.calm = true) : CallD X (.builtin "sum") cSum := ⟨_, cr_sum hc, fun G H xs ds Q s hx q => by
  match ds, hx, q with
  | [.list es], hx, q =>
    obtain ⟨v, rfl, hv⟩ := hx.one
    obtain ⟨ns, e, q⟩ := out_map q
    obtain ⟨p, vs, rfl, hq, r⟩ := hv.list s
    rw [intsOf_map e] at r
    exact ⟨p, ns, rfl, by rw [← r.ints]; exact .of hq, out_flat s q (.int _)⟩⟩
theorem c_all (hc : X.calm = true) : CallD X (.builtin "all") cAll := ⟨_, cr_all hc, fun G H xs ds Q s hx q => by
  match ds, hx, q with
  | [.list es], hx, q =>
    obtain ⟨v, rfl, hv⟩ := hx.one
    obtain ⟨ns, e, q⟩ := out_map q
    obtain ⟨p, vs, rfl, hq, r⟩ := hv.list s
    rw [boolsOf_map e] at r
    exact ⟨p, ns, rfl, by rw [← r.bools]; exact .of hq, out_flat s q (.bl _)⟩⟩
theorem c_any (hc : X.calm = true) : CallD X (.builtin "any") cAny := ⟨_, cr_any hc, fun G H xs ds Q s hx q => by
  match ds, hx, q with
  | [.list es], hx, q =>
    obtain ⟨v, rfl, hv⟩ := hx.one
    obtain ⟨ns, e, q⟩ := out_map q
    obtain ⟨p, vs, rfl, hq, r⟩ := hv.list s
    rw [boolsOf_map e] at r
    exact ⟨p, ns, rfl, by rw [← r.bools]; exact .of hq, out_flat s q (.bl _)⟩⟩
theorem c_max2 (hc : X.calm = true) : CallD X (.builtin "max") cMax2 := ⟨_, call_max2 hc, fun G H xs ds Q s hx q => by
  match ds, hx, q with
  | [.int i, .int j], hx, q =>
    obtain ⟨v, w, rfl, hv, hw⟩ := hx.two
    exact ⟨i, j, by rw [hv.int, hw.int], out_flat s q (.int _)⟩⟩
theorem c_min2 (hc : X.calm = true) : CallD X (.builtin "min") cMin2 := ⟨_, call_min2 hc, fun G H xs ds Q s hx q => by
  match ds, hx, q with
  | [.int i, .int j], hx, q =>
    obtain ⟨v, w, rfl, hv, hw⟩ := hx.two
    exact ⟨i, j, by rw [hv.int, hw.int], out_flat s q (.int _)⟩⟩
theorem foldl_max_ge : ∀ (r : List Int) (a : Int), a ≤ r.foldl max a ∧ ∀ y ∈ r, y ≤ r.foldl max a
  | [], a => ⟨Int.le_refl _, fun y h => by cases h⟩
  | b :: r, a => by
    obtain ⟨h1, h2⟩ := foldl_max_ge r (max a b)
    refine ⟨Int.le_trans (Int.le_max_left a b) h1, fun y h => ?_⟩
    rcases List.mem_cons.mp h with rfl | h
    · exact Int.le_trans (Int.le_max_right a y) h1
    · exact h2 y h
theorem foldl_min_le : ∀ (r : List Int) (a : Int), r.foldl min a ≤ a ∧ ∀ y ∈ r, r.foldl min a ≤ y
  | [], a => ⟨Int.le_refl _, fun y h => by cases h⟩
  | b :: r, a => by
    obtain ⟨h1, h2⟩ := foldl_min_le r (min a b)
    refine ⟨Int.le_trans h1 (Int.min_le_left a b), fun y h => ?_⟩
    rcases List.mem_cons.mp h with rfl | h
    · exact Int.le_trans h1 (Int.min_le_right a y)
    · exact h2 y h
theorem foldl_max_mem : ∀ (ns : List Int) (a : Int), ns.foldl max a ∈ a :: ns
  | [], a => List.mem_singleton_self _
  | b :: ns, a => by
    show ns.foldl max (max a b) ∈ _
    rcases List.mem_cons.mp (foldl_max_mem ns (max a b)) with h | h
    · rw [h]
      rcases Int.le_total a b with z | z
      · rw [Int.max_eq_right z]; simp
      · rw [Int.max_eq_left z]; simp
    · exact List.mem_cons_of_mem _ (List.mem_cons_of_mem _ h)
theorem foldl_min_mem : ∀ (ns : List Int) (a : Int), ns.foldl min a ∈ a :: ns
  | [], a => List.mem_singleton_self _
  | b :: ns, a => by
    show ns.foldl min (min a b) ∈ _
    rcases List.mem_cons.mp (foldl_min_mem ns (min a b)) with h | h
    · rw [h]
      rcases Int.le_total a b with z | z
      · rw [Int.min_eq_left z]; simp
      · rw [Int.min_eq_right z]; simp
    · exact List.mem_cons_of_mem _ (List.mem_cons_of_mem _ h)
theorem c_maxL (hc : X.calm = true) : CallD X (.builtin "max") cMaxL := ⟨_, cr_max hc, fun G H xs ds Q s hx q => by
  match ds, hx, q with
  | [.list es], hx, q =>
    obtain ⟨v, rfl, hv⟩ := hx.one
    obtain ⟨m, e, q⟩ := out_map q
    obtain ⟨p, vs, rfl, hq, r⟩ := hv.list s
    cases e1 : intsOf es with
    | none => rw [e1] at e; cases e
    | some ns =>
      rw [e1] at e
      cases ns with
      | nil => cases e
      | cons a ns =>
        have e : some (ns.foldl max a) = some m := e
        cases e
        rw [intsOf_map e1] at r
        refine ⟨p, a :: ns, rfl, by rw [← r.ints]; exact .of hq, Nat.succ_pos _, fun m hm hle => ?_⟩
        have h1 : ns.foldl max a ≤ m := by
          have hmem := foldl_max_mem ns a
          exact hle _ hmem
        have h2 : m ≤ ns.foldl max a := by
          obtain ⟨k1, k2⟩ := foldl_max_ge ns a
          rcases List.mem_cons.mp hm with z | z
          · rw [z]; exact k1
          · exact k2 m z
        have em : m = ns.foldl max a := Int.le_antisymm h2 h1
        rw [em]
        exact out_flat s q (.int _)⟩
theorem c_minL (hc : X.calm = true) : CallD X (.builtin "min") cMinL := ⟨_, cr_min hc, fun G H xs ds Q s hx q => by
  match ds, hx, q with
  | [.list es], hx, q =>
    obtain ⟨v, rfl, hv⟩ := hx.one
    obtain ⟨m, e, q⟩ := out_map q
    obtain ⟨p, vs, rfl, hq, r⟩ := hv.list s
    cases e1 : intsOf es with
    | none => rw [e1] at e; cases e
    | some ns =>
      rw [e1] at e
      cases ns with
      | nil => cases e
      | cons a ns =>
        have e : some (ns.foldl min a) = some m := e
        cases e
        rw [intsOf_map e1] at r
        refine ⟨p, a :: ns, rfl, by rw [← r.ints]; exact .of hq, Nat.succ_pos _, fun m hm hle => ?_⟩
        have h1 : m ≤ ns.foldl min a := by
          have hmem := foldl_min_mem ns a
          exact hle _ hmem
        have h2 : ns.foldl min a ≤ m := by
          obtain ⟨k1, k2⟩ := foldl_min_le ns a
          rcases List.mem_cons.mp hm with z | z
          · rw [z]; exact k1
          · exact k2 m z
        have em : m = ns.foldl min a := Int.le_antisymm h1 h2
        rw [em]
        exact out_flat s q (.int _)⟩
end
/-! ### methods that look -/
def mJoin : PD → List PD → Option Out
  | .str a, [.list ds] => (strsOf ds).bind fun ys => if (ys.map (·.length)).sum + ys.length * a.length ≤ 16777216 then some (.val (.str (Txt.join a ys))) else none
  | .str a, [.tuple ds] => (strsOf ds).bind fun ys => if (ys.map (·.length)).sum + ys.length * a.length ≤ 16777216 then some (.val (.str (Txt.join a ys))) else none
  | _, _ => none
def mCountS : PD → List PD → Option Out
  | .str a, [.str b] => some (.val (.int (Txt.count a b)))
  | _, _ => none
def mUpper : PD → List PD → Option Out
  | .str a, [] => if a.length ≤ 5592405 then some (.val (.str (Txt.upper a))) else none
  | _, _ => none
def idxF (y : V) : List V → Nat → Option Nat
  | [], _ => none
  | z :: zs, n => if eqV z y = true then some n else idxF y zs (n + 1)
def mIndexL : PD → List PD → Option Out
  | .list ds, [x] => if (flatD x && ds.all flatD) = true then (idxF (toV x) (ds.map toV) 0).map fun (j : Nat) => .val (.int (j : Int)) else none
  | _, _ => none
def mCountL : PD → List PD → Option Out
  | .list ds, [x] => if (flatD x && ds.all flatD) = true then some (.val (.int ((ds.map toV).countP fun z => eqV z (toV x)))) else none
  | _, _ => none
section
variable {X : Cx} {K : PySem.W.Frag} {G H : Hp}
theorem out_bind {α : Type} {Q : VK} {x : Option α} {f : α → Option Out} (h : OutPost K H G Q (x.bind f)) : ∃ a, x = some a ∧ OutPost K H G Q (f a) := by
  cases x with
  | none => exact h.elim
  | some a => exact ⟨a, rfl, h⟩
theorem m_join : MtD X "str" "str.join" mJoin := ⟨_, mt_join, fun G H x xs dx ds Q s hx hxs q => by
  match dx, ds, hx, hxs, q with
  | .str a, [.list es], hx, hxs, q =>
    obtain ⟨v, rfl, hv⟩ := hxs.one
    obtain ⟨ys, e, q⟩ := out_bind q
    obtain ⟨c, q⟩ := out_if q
    obtain ⟨p, vs, rfl, hq, r⟩ := hv.list s
    rw [strsOf_map e] at r
    exact ⟨a, p, ys, hx.str, rfl, .inl (by rw [← r.strs]; exact .of hq), c, out_flat s q (.str _)⟩
  | .str a, [.tuple es], hx, hxs, q =>
    obtain ⟨v, rfl, hv⟩ := hxs.one
    obtain ⟨ys, e, q⟩ := out_bind q
    obtain ⟨c, q⟩ := out_if q
    obtain ⟨p, vs, rfl, hq, r⟩ := hv.tup s
    rw [strsOf_map e] at r
    exact ⟨a, p, ys, hx.str, rfl, .inr (by rw [← r.strs]; exact hq), c, out_flat s q (.str _)⟩⟩
theorem m_countS : MtD X "str" "str.count" mCountS := ⟨_, mt_count, fun G H x xs dx ds Q s hx hxs q => by
  match dx, ds, hx, hxs, q with
  | .str a, [.str b], hx, hxs, q =>
    obtain ⟨v, rfl, hv⟩ := hxs.one
    exact ⟨a, b, hx.str, by rw [hv.str], out_flat s q (.int _)⟩⟩
theorem m_upper : MtD X "str" "str.upper" mUpper := ⟨_, mt_upper, fun G H x xs dx ds Q s hx hxs q => by
  match dx, ds, hx, hxs, q with
  | .str a, [], hx, hxs, q =>
    obtain ⟨c, q⟩ := out_if (c := a.length ≤ 5592405) q
    cases hxs
    exact ⟨a, hx.str, rfl, c, out_flat s q (.str _)⟩⟩
theorem idxF_ok (y : V) : ∀ (zs : List V) (n j : Nat), idxF y zs n = some j → n ≤ j ∧ ∃ z, zs[j - n]? = some z ∧ eqV z y = true ∧ ∀ (m : Nat) (z' : V), m < j - n → zs[m]? = some z' → eqV z' y = false
  | [], n, j, e => by cases e
  | z :: zs, n, j, e => by
    unfold idxF at e
    by_cases c : eqV z y = true
    · rw [if_pos c] at e
      cases e
      refine ⟨Nat.le_refl _, z, by rw [Nat.sub_self]; rfl, c, fun m z' hm => absurd hm (by omega)⟩
    · rw [if_neg c] at e
      obtain ⟨h1, z1, h2, h3, h4⟩ := idxF_ok y zs (n + 1) j e
      have ej : j - n = (j - (n + 1)) + 1 := by omega
      refine ⟨by omega, z1, by rw [ej]; exact h2, h3, fun m z' hm hz => ?_⟩
      cases m with
      | zero => cases hz; exact Bool.eq_false_iff.mpr c
      | succ m => exact h4 m z' (by omega) hz
theorem m_indexL : MtD X "list" "list.index" mIndexL := ⟨_, mt_index, fun G H x xs dx ds Q s hx hxs q => by
  match dx, ds, hx, hxs, q with
  | .list es, [d], hx, hxs, q =>
    obtain ⟨v, rfl, hv⟩ := hxs.one
    have q : OutPost X.K H G Q (if (flatD d && es.all flatD) = true then (idxF (toV d) (es.map toV) 0).map fun (j : Nat) => .val (.int (j : Int)) else none) := q
    by_cases c : (flatD d && es.all flatD) = true
    · rw [if_pos c] at q
      obtain ⟨j, e, q⟩ := out_map q
      rw [Bool.and_eq_true] at c
      obtain ⟨p, vs, rfl, hq, r⟩ := hx.list s
      obtain ⟨e1, f1⟩ := hv.flat c.1
      obtain ⟨e2, f2⟩ := r.flat c.2
      rw [← e1, ← e2] at e
      obtain ⟨_, z, h2, h3, h4⟩ := idxF_ok v vs 0 j e
      exact ⟨p, vs, v, j, z, rfl, rfl, .of hq, f1, f2, h2, h3, h4, out_flat s q (.int _)⟩
    · rw [if_neg c] at q
      exact q.elim⟩
theorem eqU_count (x : V) : ∀ {xs : List V} {us : List Value}, Vals xs us → xs.all flatV = true → us.countP (eqU x) = xs.countP fun z => eqV z x
  | _, _, .nil, _ => rfl
  | y :: xs, u :: us, .cons r t, f => by
    rw [List.all_cons, Bool.and_eq_true] at f
    rw [List.countP_cons, List.countP_cons, eqU_count x t f.2, eqU_of r f.1]
theorem mt_countF : MtR X "list.count" (fun x xs H Q => ∃ (p : Addr) (ys : List V) (y : V), x = .ref p ∧ xs = [y] ∧ SqL X.K H p ys ∧ flatV y = true ∧ ys.all flatV = true ∧ Q (.int (ys.countP fun z => eqV z y)) H) := by
  intro pins s σ H x xs v us Q I rx rxs h
  obtain ⟨p, ys, y, rfl, rfl, hs, fy, fys, q⟩ := h
  cases rx
  obtain ⟨u, rfl, ru⟩ := rxs.one
  obtain ⟨its, rv, pl, _⟩ := I.list hs
  obtain ⟨⟨cls, dd, data, sl⟩, n, ho, hc, hdn, hd⟩ := pl
  dsimp only at hc hd
  subst hc hd
  refine call_meets PySem.F.slot_list_count ⟨_, ho, rfl⟩ PySem.F.entry_list_count (PySem.F.args_list_count_2 _ _)
    (SeqAt.list_countAt p its.toArray n dd sl u (eqU y)) ⟨ho, fun u' hu' => mem_eqAt ru fy rv fys u' (by simpa using hu'), ?_⟩
  refine ⟨.int (ys.countP fun z => eqV z y), H, I.tok _, ⟨s.toks, ?_⟩, q⟩
  rw [← eqU_count y rv fys]
theorem m_countL : MtD X "list" "list.count" mCountL := ⟨_, mt_countF, fun G H x xs dx ds Q s hx hxs q => by
  match dx, ds, hx, hxs, q with
  | .list es, [d], hx, hxs, q =>
    obtain ⟨v, rfl, hv⟩ := hxs.one
    obtain ⟨c, q⟩ := out_if (c := (flatD d && es.all flatD) = true) q
    rw [Bool.and_eq_true] at c
    obtain ⟨p, vs, rfl, hq, r⟩ := hx.list s
    obtain ⟨e1, f1⟩ := hv.flat c.1
    obtain ⟨e2, f2⟩ := r.flat c.2
    refine ⟨p, vs, v, rfl, rfl, .of hq, f1, f2, ?_⟩
    rw [e1, e2]
    exact out_flat s q (.int _)⟩
end
/-! ### methods that change -/
def uAppend : List PD → List PD → Option (PD × List PD)
  | ds, [d] => if ds.length < sizeLine then some (.none, ds ++ [d]) else none
  | _, _ => none
def uExtend : List PD → List PD → Option (PD × List PD)
  | ds, [.list es] => if ds.length + es.length ≤ sizeLine then some (.none, ds ++ es) else none
  | _, _ => none
def uPopAt : List PD → List PD → Option (PD × List PD)
  | ds, [.int i] => if (decide (-(2 ^ 63) ≤ i) && decide (i < 2 ^ 63)) = true then (seqIndex? i ds.length).bind fun k => (ds[k]?).map fun d => (d, ds.eraseIdx k) else none
  | _, _ => none
def uPop : List PD → List PD → Option (PD × List PD)
  | ds, [] => (ds[ds.length - 1]?).map fun d => (d, ds.dropLast)
  | _, _ => none
section
variable {X : Cx} {K : PySem.W.Frag} {G H : Hp}
theorem mut_if {c : Prop} [Decidable c] {z : PD × List PD} {Q : VK} {p : Addr} (q : match (if c then some z else none) with
    | some (d, ds') => ∀ v vs', Rep K G v d → Reps K G vs' ds' → Q v (upd H p (.lst vs'))
    | none => False) : c ∧ ∀ v vs', Rep K G v z.1 → Reps K G vs' z.2 → Q v (upd H p (.lst vs')) := by
  by_cases hc : c
  · rw [if_pos hc] at q; exact ⟨hc, q⟩
  · rw [if_neg hc] at q; exact q.elim
theorem u_append : MutD X "list.append" uAppend := ⟨_, mt_append, fun G H p vs as ds es Q s n hl r ha q => by
  match es, ha, q with
  | [d], ha, q =>
    obtain ⟨v, rfl, hv⟩ := ha.one
    obtain ⟨c, q⟩ := mut_if (c := ds.length < sizeLine) q
    exact ⟨p, vs, v, rfl, rfl, hl, by rw [r.length]; exact c, q _ _ .non (r.append (.cons hv .nil))⟩⟩
theorem u_extend : MutD X "list.extend" uExtend := ⟨_, mt_extend, fun G H p vs as ds es Q s n hl r ha q => by
  match es, ha, q with
  | [.list es], ha, q =>
    obtain ⟨v, rfl, hv⟩ := ha.one
    obtain ⟨c, q⟩ := mut_if (c := ds.length + es.length ≤ sizeLine) q
    cases hv with
    | lst hb rb => exact ⟨p, _, vs, _, rfl, rfl, hl, s _ _ hb, by rw [r.length, rb.length]; exact c, q _ _ .non (r.append rb)⟩⟩
theorem u_popAt : MutD X "list.pop" uPopAt := ⟨_, mt_popAt, fun G H p vs as ds es Q s n hl r ha q => by
  match es, ha, q with
  | [.int i], ha, q =>
    obtain ⟨v, rfl, hv⟩ := ha.one
    cases hv
    have q : match (if (decide (-(2 ^ 63) ≤ i) && decide (i < 2 ^ 63)) = true then (seqIndex? i ds.length).bind fun k => (ds[k]?).map fun d => (d, ds.eraseIdx k) else none) with
      | some (d, ds') => ∀ v vs', Rep X.K G v d → Reps X.K G vs' ds' → Q v (upd H p (.lst vs'))
      | none => False := q
    by_cases c : (decide (-(2 ^ 63) ≤ i) && decide (i < 2 ^ 63)) = true
    · rw [if_pos c] at q
      simp only [Bool.and_eq_true, decide_eq_true_eq] at c
      cases e1 : seqIndex? i ds.length with
      | none => rw [e1] at q; exact q.elim
      | some k =>
        rw [e1] at q
        cases e2 : ds[k]? with
        | none => simp only [Option.bind_some, e2, Option.map_none] at q
        | some d =>
          simp only [Option.bind_some, e2, Option.map_some] at q
          obtain ⟨v, hv, rv⟩ := r.get e2
          exact ⟨p, vs, i, k, v, rfl, rfl, hl, c.1, c.2, by rw [r.length]; exact e1, hv, q _ _ rv (r.eraseIdx k)⟩
    · rw [if_neg c] at q
      exact q.elim⟩
theorem u_pop : MutD X "list.pop" uPop := ⟨_, mt_pop, fun G H p vs as ds es Q s n hl r ha q => by
  match es, ha, q with
  | [], ha, q =>
    cases ha
    unfold uPop at q
    cases e2 : ds[ds.length - 1]? with
    | none => simp only [e2, Option.map_none] at q
    | some d =>
      simp only [e2, Option.map_some] at q
      obtain ⟨v, hv, rv⟩ := r.get e2
      exact ⟨p, vs, v, rfl, rfl, hl, by rw [r.length]; exact hv, q _ _ rv r.dropLast⟩⟩
end
/-! ### an item stored -/
def storeAt (ro ri : RV) (d : PD) (μ : Mu) : Option Mu := match obAt μ ro, ri with
  | some (k, w, ds), .dt (.int i) => (ixN ds.length i).map fun j => μ.set k (.ls w (ds.set j d))
  | _, _ => none
def sStore (fo fi fe : EV) : SV := fun ρ μ => (fe ρ μ).st ρ fun rv μ1 => (fo ρ μ1).st ρ fun ro μ2 => (fi ρ μ2).st ρ fun ri μ3 => (frz rv μ3).st ρ fun d μ4 => match storeAt ro ri d μ4 with
  | some μ5 => .nx ρ μ5
  | none => .no
section
variable {X : Cx} {T : Tb} {W : WX} {o i e : Expr} {fo fi fe : EV} {pos p2 : Pos}
theorem Rs.post' {β : Type} {K : PySem.W.Frag} {mg : Str → Option Value} {C : Ent} {ρ : Rho} {σ : L2.St} {G : Hp} {α : List Addr} {D : Ends} {x : Rs β} {k : β → Mu → So} (h : SPost K mg T W C D G (x.st ρ k)) :
    Post K mg T W C ρ σ G α (fun b μ1 H1 G1 α1 => Rl K T C ρ μ1 σ H1 G1 α1 ∧ Same G G1 ∧ α <+: α1 ∧ SPost K mg T W C D G1 (k b μ1)) x :=
  (Rs.post (σ := σ) (α := α) h).mono fun _ _ _ _ _ _ _ p q => ⟨q.1, q.2.1, p, q.2.2⟩
theorem d_store (he : PE X e (tD X.K X.mg T W fe)) (ho : PE X o (tD X.K X.mg T W fo)) (hi : PE X i (tD X.K X.mg T W fi)) (ha : ∀ v, assign (.Subscript o i p2) X.env v = (do
      let ov ← holding [v] (eval o X.env)
      let iv ← holding [v, ov] (eval i X.env)
      standAt p2
      holding [v, ov, iv] (setItem ov iv v)
      release [v, ov, iv] []) := by intro _; rfl) (hs : swapsWithSole [.Subscript o i p2] e pos.line X.env = pure false := by rfl) (hw : swappedStores [.Subscript o i p2] e X.env = pure none := by rfl)
    (h1 : (assignEach [.Subscript o i p2] X.env).map (·.2) = [assign (.Subscript o i p2) X.env] := by rfl) : PS X (.Assign [.Subscript o i p2] e pos) (tDS X.K X.mg T W (sStore fo fi fe)) :=
  ps_imp (ps_asg he (pg_sub ho hi set_list ha) hs hw h1) fun D σ H ⟨C, ρ, μ, G, α, R, q⟩ => by
    refine ⟨C, ρ, μ, G, α, R, (Rs.post' q).mono fun rv μ1 H1 G1 α1 _ _ _ h1 v hv => ?_⟩
    obtain ⟨R1, s1, _, q1⟩ := h1
    refine ⟨C, ρ, μ1, G1, α1, R1, (Rs.post' q1).mono fun ro μ2 H2 G2 α2 _ _ _ h2 vo hvo => ?_⟩
    obtain ⟨R2, s2, p2, q2⟩ := h2
    refine ⟨C, ρ, μ2, G2, α2, R2, (Rs.post' q2).mono fun ri μ3 H3 G3 α3 _ _ _ h3 vi hvi => ?_⟩
    obtain ⟨R3, s3, p3, q3⟩ := h3
    have hv3 := (hv.mono s2 p2).mono s3 p3
    have q3' := Rs.post' (σ := σ) (α := α3) q3
    obtain ⟨d, μ4, G4, e4, R4, s4, r4, _, _, _, q4⟩ := frz_ok R3 hv3 q3'
    unfold storeAt at q4
    cases eo : obAt μ4 ro with
    | none => simp only [eo] at q4; exact q4.elim
    | some z =>
      obtain ⟨k, w, ds⟩ := z
      obtain ⟨rfl, hm, a, vs, hk, rfl, n, hl, hr⟩ := obAt_ok R4 ((hvo.mono s3 p3).mono s4 (List.prefix_refl _)) eo
      simp only [eo] at q4
      cases ri with
      | ob k => exact q4.elim
      | un u => exact q4.elim
      | dt di =>
        cases di with
        | int i =>
          cases hvi
          cases ej : ixN ds.length i with
          | none => simp only [ej, Option.map_none] at q4; exact q4.elim
          | some j =>
            simp only [ej, Option.map_some] at q4
            exact ⟨a, vs, i, j, rfl, rfl, hl, by rw [hr.length]; exact ej, q4 σ _ G4 α3 (R4.write hk hm n rfl ⟨n, _, upd_same, hr.set r4 j⟩) (Same.refl _)⟩
        | _ => exact q4.elim
end
end DL
/-! Sets of texts below the layer: made of a row of texts, walked by sorted, counted by len. -/
namespace DL
open PySem PySem.Spec PyProof.Rows L2
/-- an entry's text -/
def txE (x : Int × Value) : Str := match x.2 with
  | .str z _ => z
  | _ => Str.empty
def EntS (w : World) (x : Int × Value) : Prop := ∃ z u, x.2 = Value.str z u ∧ x.1 = hashStr w z
/-- at c lies a set of texts whose members are those of M -/
def TxSet (w : World) (h : Heap) (c : Addr) (M : List Str) : Prop :=
  ∃ o rows ep tb, h.get? c = some o ∧ o.ExactSet ∧ o.data = .set rows ep tb ∧ (∀ x ∈ rows.toList, EntS w x) ∧ (rows.toList.map txE).Nodup ∧ (∀ z, z ∈ M ↔ z ∈ rows.toList.map txE) ∧
    rows.size ≤ M.length ∧ tb.fits rows.size = true ∧ Ris tb.place.toList ∧ (w.params.followText "set-order" = true ∨ tb.led = true)
section
variable {P : Program} {w : World} {h h' : Heap} {c : Addr} {M : List Str}
theorem isTx (z : Str) (u : Tok) : (strKind P w).is z (.str z u) = true := by
  show Value.isStrOf z (.str z u) = true
  simp [Value.isStrOf]
theorem TxSet.keep (T : TxSet w h c M) (k : ∀ o, h.get? c = some o → h'.get? c = some o) : TxSet w h' c M := by
  obtain ⟨o, rows, ep, tb, g, r⟩ := T
  exact ⟨o, rows, ep, tb, k o g, r⟩
theorem ents_elems {l : List (Int × Value)} (g : ∀ x ∈ l, EntS w x) : ElemsOf (strKind P w) l := fun x hx => by
  obtain ⟨z, u, h1, h2⟩ := g x hx
  exact ⟨⟨z, by rw [h1]; exact isTx z u, h2⟩, by rw [h1] <;> rfl⟩
theorem ent_is {x : Int × Value} (g : EntS w x) (z : Str) : (strKind P w).is z x.2 = true ↔ txE x = z := by
  obtain ⟨y, u, h1, _⟩ := g
  unfold txE
  rw [h1]
  constructor
  · intro q
    exact (strKind P w).inj (.str y u) y z (isTx y u) q
  · rintro rfl
    exact isTx y u
theorem ents_mem {l : List (Int × Value)} (g : ∀ x ∈ l, EntS w x) (z : Str) : z ∈ l.map txE ↔ ∃ x ∈ l, (strKind P w).is z x.2 = true := by
  rw [List.mem_map]
  exact ⟨fun ⟨x, hx, q⟩ => ⟨x, hx, (ent_is (g x hx) z).2 q⟩, fun ⟨x, hx, q⟩ => ⟨x, hx, (ent_is (g x hx) z).1 q⟩⟩
end
section
variable {P : Program} {w : World} {A : Around} {E : Value → Shared → Prop} {s : Shared} {c : Addr} {M : List Str}
theorem put_at {h : Heap} {o : Obj} {rows rows' : Array (Int × Value)} {ep : Nat} {tb tb' : SetTable} (g : h.get? c = some o) (d : o.data = .set rows ep tb) :
    (h.update c (Obj.putSet rows' tb')).get? c = some { o with data := .set rows' (ep + 1) tb' } := by
  have q := Heap.get?_update_self (Obj.putSet rows' tb') g (by rw [putSet_of rows' tb' d]; rfl)
  rwa [putSet_of rows' tb' d] at q
/-- the end of an add: the rows are stored, and laid anew where the table is too full -/
theorem tx_tail {gv : Bool → Sem Unit} (hgv : ∀ (b : Bool) (s1 : Shared) (Q1 : Unit → Shared → Prop), Q1 () s1 → wpAny (model P w) A (gv b) Q1 E s1)
    {o : Obj} {rows : Array (Int × Value)} {ep : Nat} {tb : SetTable} (g : s.heap.get? c = some o) (ex : o.ExactSet) (d : o.data = .set rows ep tb)
    {r1 : Array (Int × Value)} {t1 : SetTable} (e1 : ∀ x ∈ r1.toList, EntS w x) (n1 : (r1.toList.map txE).Nodup) (m1 : ∀ z, z ∈ M ↔ z ∈ r1.toList.map txE)
    (z1 : r1.size ≤ M.length) (zb : M.length < scanBound) (f1 : t1.fits r1.size = true) (i1 : Ris t1.place.toList) (l1 : w.params.followText "set-order" = true ∨ t1.led = true) {dm : Bool} {R : Option Bool → Shared → Prop}
    (k : ∀ h', Heap.SameBut c s.heap h' → TxSet w h' c M → R (some true) { s with heap := h' }) :
    wpAny (model P w) A (do
        storeSet c r1 t1
        if (!dm && t1.tooFull) = true then do
            gv (relayAll t1 r1 (SetTable.grown r1.size)).2.2
            storeSet c (relayAll t1 r1 (SetTable.grown r1.size)).1 (relayAll t1 r1 (SetTable.grown r1.size)).2.1
            pure (some true)
          else pure (some true)) R E s := by
  have zs : r1.size < scanBound := Nat.lt_of_le_of_lt z1 zb
  refine wpAny_bind (wpAny_storeSet_of g d ?_ (fits_of_scanBound zs))
  have g1 := put_at (rows' := r1) (tb' := t1) g d
  have b1 := Heap.SameBut.update s.heap c (Obj.putSet r1 t1)
  split
  · have pm := relayAll_perm t1 r1 (SetTable.grown r1.size)
    have f2 := relayAll_fits t1 r1 (SetTable.grown r1.size)
    have i2 := relayAll_ris t1 r1 (SetTable.grown r1.size)
    have l2 := relayAll_led t1 r1 (SetTable.grown r1.size)
    generalize relayAll t1 r1 (SetTable.grown r1.size) = Y at pm f2 i2 l2 ⊢
    obtain ⟨r2, t2, gave⟩ := Y
    dsimp only at pm f2 i2 l2 ⊢
    have sz : r2.size = r1.size := by rw [← Array.length_toList, pm.length_eq, Array.length_toList]
    refine wpAny_bind (hgv _ _ _ ?_)
    refine wpAny_bind (wpAny_storeSet_of g1 rfl ?_ (fits_of_scanBound (by rw [sz]; exact zs)))
    have g2 := put_at (rows' := r2) (tb' := t2) g1 rfl
    refine wpAny_pure (k _ (b1.trans (Heap.SameBut.update _ c _)) ?_)
    exact ⟨_, r2, _, t2, g2, ex, rfl, fun x hx => e1 x (pm.mem_iff.mp hx), (pm.map txE).nodup_iff.mpr n1, fun z => (m1 z).trans (pm.map txE).mem_iff.symm, by rw [sz]; exact z1, f2, i2,
      l1.imp id fun y => by rw [l2]; exact y⟩
  · exact wpAny_pure (k _ b1 ⟨_, r1, _, t1, g1, ex, rfl, e1, n1, m1, z1, f1, i1, l1⟩)
/-- a text is put in -/
theorem tx_add {z : Str} {u : Tok} {Q : Bool → Shared → Prop} (T : TxSet w s.heap c M) (room : M.length + 1 < scanBound)
    (k : ∀ b h', Heap.SameBut c s.heap h' → TxSet w h' c (M ++ [z]) → Q b { s with heap := h' }) :
    wpAny (model P w) A (setAddHashed c (.str z u) ((strKind P w).hash z)) Q E s := by
  obtain ⟨o, rows, ep, tb, g, ex, d, en, nd, mm, sz, ft, ri, ld⟩ := T
  have key : (strKind P w).is z (.str z u) = true := isTx z u
  have hsc : (Value.str z u).scannable = true := rfl
  have el : ElemsOf (strKind P w) rows.toList := ents_elems en
  have hb : rows.size < scanBound := by omega
  unfold setAddHashed setAddHashedIn
  refine wpAny_holding (wpAny_bind (wpAny_setState_of g d ft ?_))
  dsimp only
  rw [byScan_of hsc hb el]
  simp only [↓reduceIte]
  unfold setAddByScan
  refine wpAny_bind ?_
  refine wpAny_bind (wpAny_rule ?_)
  refine wpAny_bind (wpAny_setScan_of key g d ft el ?_)
  cases fi : List.findIdx? (fun x => (strKind P w).is z x.2) rows.toList with
  | some j =>
    dsimp only
    obtain ⟨hj, pj, _⟩ := List.findIdx?_eq_some_iff_getElem.mp fi
    have hz : z ∈ M := (mm z).2 ((ents_mem (P := P) (w := w) en z).2 ⟨rows.toList[j], List.getElem_mem hj, pj⟩)
    refine wpAny_pure (wpAny_pure ?_)
    exact k _ s.heap (Heap.SameBut.refl c s.heap) ⟨o, rows, ep, tb, g, ex, d, en, nd, fun y => by
      rw [← mm y, List.mem_append, List.mem_singleton]
      exact ⟨fun q => q.elim id fun q => by rw [q]; exact hz, .inl⟩, by rw [List.length_append]; omega, ft, ri, ld⟩
  | none =>
    dsimp only
    have hz : z ∉ rows.toList.map txE := fun q => by
      obtain ⟨x, hx, q⟩ := (ents_mem (P := P) (w := w) en z).1 q
      have n := List.findIdx?_eq_none_iff.mp fi x hx
      rw [q] at n
      cases n
    have hgw : ∀ (b : Bool) {s1 : Shared} {Q1 : Unit → Shared → Prop}, Q1 () s1 → wpAny (model P w) A (match b with | true => rule "set.scan.the-table-gave-way" | false => pure ()) Q1 E s1 :=
      fun b s1 Q1 q => by cases b <;> first | exact wpAny_pure q | exact wpAny_rule q
    have pm := layNew_perm tb rows ((strKind P w).hash z) (.str z u)
    have f1 := layNew_fits tb rows ((strKind P w).hash z) (.str z u)
    have i1 := layNew_ris tb rows ((strKind P w).hash z) (.str z u) ri
    have l1 := layNew_led tb rows ((strKind P w).hash z) (.str z u)
    generalize layNew tb rows ((strKind P w).hash z) (.str z u) = Y at pm f1 i1 l1 ⊢
    obtain ⟨r1, t1, dm, gave⟩ := Y
    dsimp only at pm f1 i1 l1 ⊢
    rw [Array.toList_push] at pm
    have pc : r1.toList.Perm (((strKind P w).hash z, Value.str z u) :: rows.toList) := pm.trans (List.perm_append_singleton _ _)
    have pk : (r1.toList.map txE).Perm (z :: rows.toList.map txE) := pc.map txE
    have e1 : ∀ x ∈ r1.toList, EntS w x := fun x hx => by
      rcases List.mem_cons.mp (pc.mem_iff.mp hx) with q | q
      · rw [q]; exact ⟨z, u, rfl, rfl⟩
      · exact en x q
    have n1 : (r1.toList.map txE).Nodup := pk.nodup_iff.mpr (List.nodup_cons.mpr ⟨hz, nd⟩)
    have m1 : ∀ y, y ∈ M ++ [z] ↔ y ∈ r1.toList.map txE := fun y => by
      rw [List.mem_append, List.mem_singleton, mm y, pk.mem_iff, List.mem_cons]
      exact Or.comm
    have s1 : r1.size ≤ (M ++ [z]).length := by
      rw [List.length_append, ← Array.length_toList, pc.length_eq, List.length_cons, Array.length_toList]
      show rows.size + 1 ≤ M.length + 1
      omega
    have zb : (M ++ [z]).length < scanBound := by rw [List.length_append]; exact room
    have ld1 : w.params.followText "set-order" = true ∨ t1.led = true := ld.imp id fun y => by rw [l1]; exact y
    refine wpAny_bind (hgw _ ?_)
    split
    · refine wpAny_bind ?_
      rw [hashByValue_scannable 8 hsc]
      refine wpAny_pure ?_
      refine tx_tail (M := M ++ [z]) ?_ g ex d e1 n1 m1 s1 zb ?_ ?_ ?_ ?_
      · intro b s2 Q2 q; cases b <;> first | exact wpAny_pure q | exact wpAny_rule q
      · first | (split <;> first | exact f1 | exact SetTable.fits_plain_off f1) | exact f1
      · first | (split <;> exact i1) | exact i1
      · first | (split <;> exact ld1) | exact ld1
      · intro h' sb r; dsimp only; exact wpAny_pure (k _ h' sb r)
    · refine wpAny_bind (wpAny_pure ?_)
      simp only [↓reduceIte]
      refine tx_tail (M := M ++ [z]) ?_ g ex d e1 n1 m1 s1 zb f1 i1 ld1 ?_
      · intro b s2 Q2 q; cases b <;> first | exact wpAny_pure q | exact wpAny_rule q
      · intro h' sb r; dsimp only; exact wpAny_pure (k _ h' sb r)
end
end DL
/-! Sets of texts below the layer: set(row), sorted(set(row)), len(set(row)). -/
namespace DL
open PySem PySem.Spec PyProof.Rows L2
section
variable {P : Program} {w : World} {A : Around} {E : Value → Shared → Prop} {I c : Addr} {fp : List Addr} {n : Nat} {Pv : Nat → Value → Prop} {St : Nat → Heap → Prop} {R : Result → Shared → Prop}
theorem take_more {α : Type} {l : List α} {i : Nat} {x : α} (h : l[i]? = some x) : l.take i ++ [x] = l.take (i + 1) := by
  rw [List.take_add_one, h]; rfl
/-- the row is put in, text by text -/
theorem tx_loop (W : Walks P w A.in1 I fp [I] n Pv St) (hc : c ∉ fp) (hI : I ∈ fp) {zs : List Str} (hn : n = zs.length) (hv : ∀ i v, Pv i v → ∃ z u, zs[i]? = some z ∧ v = Value.str z u) (hb : zs.length + 1 < scanBound) :
    ∀ (k i : Nat) (s : Shared), n - i = k → i ≤ n → St i s.heap → TxSet w s.heap c (zs.take i) →
      (∀ h' tk, (∀ b o, b ≠ c → b ≠ I → s.heap.get? b = some o → h'.get? b = some o) → TxSet w h' c zs → R (.ok (.ret .none)) { s with heap := h', toks := tk }) →
      codeAny (model P w) A (.builtin "set.update.loop" ⟨[.ref c, .ref I], []⟩) R s
  | 0, i, s, hk, hi, st, T, q => by
    have hin : i = n := by omega
    subst hin
    refine codeAny_builtin F.entry_set_update_loop ?_
    rw [Around.under_plainId F.plain_set_update_loop _]
    show wpAny _ A.in1 (pyNext (.ref I) >>= _) _ _ s
    refine wpAny_bind (W.done s _ _ st fun h' tk hm => ?_)
    refine wpAny_pure (q h' tk (fun b o h1 h2 e => hm b o (by rw [List.mem_singleton]; exact h2) e) ?_)
    rw [hn, List.take_length] at T
    exact T.keep fun o e => hm c o (fun z => hc (List.mem_singleton.mp z ▸ hI)) e
  | k + 1, i, s, hk, hi, st, T, q => by
    have hlt : i < n := by omega
    refine codeAny_builtin F.entry_set_update_loop ?_
    rw [Around.under_plainId F.plain_set_update_loop _]
    show wpAny _ A.in1 (pyNext (.ref I) >>= _) _ _ s
    refine wpAny_bind (W.item i s _ _ hlt st fun v h1 tk hP st1 hm => ?_)
    obtain ⟨z, u, hz, rfl⟩ := hv i v hP
    have T1 : TxSet w h1 c (zs.take i) := T.keep fun o e => hm c o (fun y => hc (List.mem_singleton.mp y ▸ hI)) e
    show wpAny _ A.in1 (holding [Value.str z u] (setAdd c (.str z u)) >>= _) _ _ _
    refine wpAny_bind (wpAny_holding ?_)
    unfold setAdd
    refine wpAny_holding ?_
    refine wpAny_bind ((strKind P w).pyHash (k := z) (isTx z u) ?_)
    refine tx_add (s := { s with heap := h1, toks := tk + 1 }) T1 (by rw [List.length_take]; omega) fun b h2 sb T2 => ?_
    rw [take_more hz] at T2
    have hx : ∀ b o, b ≠ c → h1.get? b = some o → h2.get? b = some o := fun b o hb e => by rw [sb.2 b hb]; exact e
    refine wpAny_pure ⟨plainId_quiet F.plain_set_update_loop _, tx_loop W hc hI hn hv hb k (i + 1) _ (by omega) hlt (W.frame _ h1 _ st1 fun b hb o e => hx b o (fun y => hc (y ▸ hb)) e) T2 fun h' tk' hm' T' => ?_⟩
    exact q h' tk' (fun b o h1 h2 e => hm' b o h1 h2 (hx b o h1 (hm b o (by rw [List.mem_singleton]; exact h2) e))) T'
end
section
variable {P : Program} {w : World} {A : Around} {E : Value → Shared → Prop} {s : Shared}
def setO0 (led : Bool) : Obj := { cls := .type "set", dict := none, data := .set #[] 0 (.fresh 0 0 led) }
theorem tx_fresh {h : Heap} (w : World) : TxSet w (h.push (setO0 (!w.params.followText "set-order"))) h.objs.size [] :=
  ⟨_, #[], 0, _, Heap.get?_push_size _ rfl, ⟨rfl, rfl, rfl⟩, rfl, (fun x hx => by simp at hx), (by simp), (fun z => by simp), Nat.le_refl _, (by rfl), List.Pairwise.nil, by
    show _ ∨ (!w.params.followText "set-order") = true
    cases w.params.followText "set-order"
    · exact .inr rfl
    · exact .inl rfl⟩
theorem sub_no (T U : String) (h : (isSubtype (.type T) (.type U) : Sem Bool) = pure false) : (isSubtype (.type T) (.type U) : Sem Bool) = pure false := h
theorem tup_set : (isSubtype (.type "tuple") (.type "set") : Sem Bool) = pure false := by rw [isSubtype_type]; kernel_rfl
theorem tup_fset : (isSubtype (.type "tuple") (.type "frozenset") : Sem Bool) = pure false := by rw [isSubtype_type]; kernel_rfl
theorem str_set : (isSubtype (.type "str") (.type "set") : Sem Bool) = pure false := by rw [isSubtype_type]; kernel_rfl
theorem str_fset : (isSubtype (.type "str") (.type "frozenset") : Sem Bool) = pure false := by rw [isSubtype_type]; kernel_rfl
/-- a row of texts that can be walked -/
structure RowOf (P : Program) (w : World) (h0 : Heap) (v : Value) (T : String) (io : Obj) (zs : List Str) : Prop where
  ty : ∀ s : Shared, (∀ b o, h0.get? b = some o → s.heap.get? b = some o) → s.TypeIs v T
  sub1 : (isSubtype (.type T) (.type "set") : Sem Bool) = pure false
  sub2 : (isSubtype (.type T) (.type "frozenset") : Sem Bool) = pure false
  ne : (Value.type T == Value.type "dict") = false
  free : io.isFreed = false
  iter : ∀ (A : Around) (E : Value → Shared → Prop) (s : Shared) (Q : Value → Shared → Prop), (∀ b o, h0.get? b = some o → s.heap.get? b = some o) → Q (.ref s.heap.objs.size) { s with heap := s.heap.push io } → wpAny (model P w) A (pyIter v) Q E s
  walk : ∀ (A : Around) (J : Addr) (h : Heap), A.handled = none → (∀ b o, h0.get? b = some o → h.get? b = some o) → h0.get? J = none → h.get? J = some io → ∃ fp n Pv St, Walks P w A J fp [J] n Pv St ∧ J ∈ fp ∧ (∀ b ∈ fp, b = J ∨ ∃ o, h0.get? b = some o) ∧ n = zs.length ∧ (∀ i u, Pv i u → ∃ z t, zs[i]? = some z ∧ u = Value.str z t) ∧ St 0 h
set_option maxHeartbeats 8000000 in
theorem call_set_tx {v : Value} {T : String} {io : Obj} {zs : List Str} {Q : Value → Shared → Prop} (hh : A.handled = none) (W : RowOf P w s.heap v T io zs) (hb : zs.length + 1 < scanBound)
    (k : ∀ h' tk, TxSet w h' s.heap.objs.size zs → (∀ b o, s.heap.get? b = some o → h'.get? b = some o) → Q (.ref s.heap.objs.size) { s with heap := h', toks := tk }) :
    wpAny (model P w) A (call (.type "set") [v]) Q E s := by
  obtain ⟨c0, tl0, hmro⟩ := F.called_set.mro
  have hmade := F.called_set.made; have hsub := F.called_set.sub
  refine wpAny_call (codeAny_of_tree ?_); show wpAny _ _ (callAny (.type "set") _) _ _ _
  refine wpAny_pure ⟨Code.quiet_builtin _ (by decide +kernel), codeAny_builtin F.entry_type_call ?_⟩; rw [Around.under_plain (weight_type_call_type "set" [v] []) rfl]
  have g1 := F.called_set.notType; have g2 := F.called_set.canCreate; have g3 := F.typeCall_set_1 v
  repeat (any_goals (first | assumption | wp_step))
  refine codeAny_mono (code_set_led1 v (E := E) (Q₁ := fun obj s1 => obj = .ref s.heap.objs.size ∧ s1 = { s with heap := s.heap.push (setO0 (!w.params.followText "set-order")) }) ⟨rfl, rfl⟩) fun r s1 hr => ?_
  cases r with
  | error e => exact hr
  | ok fl =>
    cases fl with
    | ret obj =>
      obtain ⟨rfl, rfl⟩ := hr
      have hS : (s.heap.push (setO0 (!w.params.followText "set-order"))).get? s.heap.objs.size = some (setO0 (!w.params.followText "set-order")) := Heap.get?_push_size _ rfl
      have hT : Shared.TypeIs { s with heap := s.heap.push (setO0 (!w.params.followText "set-order")) } (.ref s.heap.objs.size) "set" := ⟨_, hS, rfl⟩
      have g4 := F.called_set.init.lookup; have g5 := F.called_set.init.bind (.ref s.heap.objs.size)
      repeat (any_goals (first | assumption | wp_step))
      refine codeAny_mono (codeAny_call_builtin (R := wants (fun r s2 => r = .none ∧ ∃ h' tk, s2 = { s with heap := h', toks := tk } ∧ TxSet w h' s.heap.objs.size zs ∧ (∀ b o, s.heap.get? b = some o → h'.get? b = some o)) E) F.called_set.init.plain F.entry_set_init (check_set_init_1 hT ?_)) fun r2 s2 hr2 => ?_
      · have old : ∀ b o, s.heap.get? b = some o → (s.heap.push (setO0 (!w.params.followText "set-order"))).get? b = some o := fun b o e => Heap.get?_push_of_some _ e
        have hTv : Shared.TypeIs { s with heap := s.heap.push (setO0 (!w.params.followText "set-order")) } v T := W.ty _ old
        have u1 := W.sub1; have u2 := W.sub2; have u3 := W.ne
        unfold Builtin.«set.__init__» noKeywords Builtin.Frozenset.updateFrom; generalize hPI : pyIter = PI
        wp_walk
        subst hPI
        refine W.iter _ _ _ _ old ?_
        refine wpAny_bind (wpAny_runValue ?_); have hh3 : A.in1.in1.in1.handled = none := by simp [hh]
        have hz1 : (s.heap.push (setO0 (!w.params.followText "set-order"))).objs.size = s.heap.objs.size + 1 := Heap.size_push ..
        have hnew : ∀ b, s.heap.objs.size ≤ b → s.heap.get? b = none := fun b hb => by
          cases q : s.heap.get? b with
          | none => rfl
          | some o => exact absurd (Nat.lt_of_lt_of_le (Heap.lt_size q) hb) (Nat.lt_irrefl _)
        obtain ⟨fp, n, Pv, St, WK, hJ, hfp, hn, hv, st0⟩ := W.walk A.in1.in1.in1 (s.heap.push (setO0 (!w.params.followText "set-order"))).objs.size ((s.heap.push (setO0 (!w.params.followText "set-order"))).push io) hh3 (fun b o e => Heap.get?_push_of_some _ (old b o e)) (hnew _ (by rw [hz1]; exact Nat.le_succ _)) (Heap.get?_push_size _ W.free)
        have hc : s.heap.objs.size ∉ fp := fun m => by
          rcases hfp _ m with q | ⟨o, q⟩
          · rw [hz1] at q; exact absurd q (Nat.ne_of_lt (Nat.lt_succ_self _))
          · rw [hnew _ (Nat.le_refl _)] at q; cases q
        refine tx_loop WK hc hJ hn hv hb (n - 0) 0 _ rfl (Nat.zero_le _) st0 ((tx_fresh w).keep fun o e => Heap.get?_push_of_some _ e) fun h' tk hk T' => ?_
        refine wpAny_pure ?_
        show wpAny _ _ (ret Value.none) _ _ _
        refine wpAny_pure ⟨rfl, h', tk, rfl, T', fun b o e => ?_⟩
        have hlt := Heap.lt_size e
        exact hk b o (Nat.ne_of_lt hlt) (by rw [hz1]; exact Nat.ne_of_lt (Nat.lt_succ_of_lt hlt)) (Heap.get?_push_of_some _ (old b o e))
      · cases r2 with
        | error e => exact hr2
        | ok f2 =>
          cases f2 with
          | ret r =>
            obtain ⟨rfl, h', tk, rfl, T', hk'⟩ := hr2
            repeat (any_goals (first | assumption | wp_step))
            exact k _ _ T' hk'
          | _ => exact hr2.elim
    | _ => exact hr.elim
end
end DL
/-! sorted of a set of texts, by the heap. -/
namespace DL
open PySem PySem.Spec PyProof.Rows L2
section
variable {P : Program} {w : World} {A : Around} {E : Value → Shared → Prop} {s : Shared} {c : Addr} {M : List Str}
theorem strs_of : ∀ (l : List Value), (∀ v ∈ l, ∃ z u, v = Value.str z u) → ∃ zs, StrsAre l zs ∧ l.map (fun v => txE (0, v)) = zs
  | [], _ => ⟨[], .nil, rfl⟩
  | v :: l, h => by
    obtain ⟨z, u, rfl⟩ := h v (List.mem_cons_self ..)
    obtain ⟨zs, h1, h2⟩ := strs_of l fun v hv => h v (List.mem_cons_of_mem _ hv)
    exact ⟨z :: zs, .cons z u h1, by rw [List.map_cons, h2]; rfl⟩
/-- sorted(set of texts) -/
theorem sorted_tx {Q : Value → Shared → Prop} (T : TxSet w s.heap c M) (hh : A.handled = none) (hM : M.length < scanBound)
    (k : ∀ s' p (out : Array Value) (n : Nat) (zs : List Str), (∀ b o, s.heap.get? b = some o → s'.heap.get? b = some o) → s'.gens = s.gens → s'.os = s.os → s.heap.objs.size ≤ p →
      s'.heap.get? p = some (seqObj "list" out n) → StrsAre out.toList zs → sortedS zs = true → zs.Nodup → (∀ z, z ∈ zs ↔ z ∈ M) → zs.length ≤ M.length → Q (.ref p) s') :
    wpAny (model P w) A (call (.builtin "sorted") [.ref c]) Q E s := by
  obtain ⟨o, rows, ep, tb, g, ex, d, en, nd, mm, sz, ft, ri, ld⟩ := T
  have hb : rows.size < scanBound := Nat.lt_of_le_of_lt sz hM
  refine Calls.call_function_entry kind_sorted plain_sorted entry_sorted (args_sorted1 _) ?_; unfold Builtin.«sorted»
  refine wpAny_bind (m := checkCount "sorted" 1 1 _) (wpAny_pure ?_)
  refine wpAny_bind (collect_set (A := A.in1) hh ⟨o, g, ex.1, d⟩ ft hb ri ld fun s1 vs k1 hz g1 o1 pm => ?_)
  have hl : vs.length = rows.size := by rw [pm.length_eq, List.length_map, Array.length_toList]
  obtain ⟨ss, hS, hmap⟩ := strs_of vs fun v hv => by
    obtain ⟨x, hx, q⟩ := List.mem_map.mp (pm.mem_iff.mp hv)
    obtain ⟨z, u, h1, _⟩ := en x hx
    exact ⟨z, u, by rw [← q]; exact h1⟩
  have pk : ss.Perm (rows.toList.map txE) := by
    have q := pm.map fun v => txE (0, v)
    rw [hmap, List.map_map] at q
    exact q
  refine wpAny_bind (wpAny_newList ?_ (by rw [hl]; exact fits_of_scanBound hb))
  have hoL : (s1.heap.push (seqObj "list" vs.toArray 0)).get? s1.heap.objs.size = some (seqObj "list" vs.toArray 0) := Heap.get?_push_size _ rfl
  refine wpAny_bind (wpAny_holding (wpAny_call_entry slot_list_sort ⟨_, hoL, rfl⟩ entry_list_sort (list_sort_treeKAny strKind_oneLt hoL hS.keysOf (fun v1 v2 rest e => keyKind_strs (by rw [← e]; exact hS)) (by rw [hl]; exact fits_of_scanBound hb) fun st' a1 a2 => ⟨_, rfl, ?_⟩) (args_list_sort _)))
  obtain ⟨zs, z1, z2, z3⟩ := sorted_out_str hS a1 a2
  obtain ⟨n, hn⟩ := sortedHeap_at (vs := vs) (out := (arrOf st').map (·.2)) hoL
  have pz : zs.Perm (rows.toList.map txE) := z2.trans pk
  refine wpAny_pure ⟨_, rfl, k _ s1.heap.objs.size ((arrOf st').map (·.2)) n zs (fun b u e => ?_) g1 o1 hz hn z1 z3 (pz.nodup_iff.mpr nd) (fun z => by rw [pz.mem_iff, ← mm z]) ?_⟩
  · have q := k1 b u e
    have hlt := Heap.lt_size q
    show (sortedHeap (s1.heap.push (seqObj "list" vs.toArray 0)) s1.heap.objs.size vs _).get? b = some u
    rw [sortedHeap_old (Nat.ne_of_lt hlt) (by rw [size_push']; exact Nat.lt_succ_of_lt hlt)]
    exact Heap.get?_push_of_some _ q
  · rw [pz.length_eq, List.length_map, Array.length_toList]; exact sz
end
end DL
/-! sorted(set(e)) and len(set(e)) as one word each. -/
namespace DL
open PySem PySem.Spec PyProof.Rows L2
/-- the texts of a row -/
def textsOf : PD → Option (List Str)
  | .list ds => strsOf ds
  | .tuple ds => strsOf ds
  | .str x => some (x.cps.toList.map fun c => ⟨#[c]⟩)
  | _ => none
section
variable {X : Cx} {pins : List (Addr × Obj)} {σ : L2.St} {G H : Hp} {s : Shared}
theorem strs_at : ∀ {its : List Value} {zs : List Str}, StrsAre its zs → ∀ (i : Nat) (u : Value), its[i]? = some u → ∃ z t, zs[i]? = some z ∧ u = Value.str z t
  | _, _, .nil, i, u, h => by simp at h
  | _, _, .cons z t r, 0, u, h => ⟨z, t, rfl, by simpa using h.symm⟩
  | _, _, .cons z t r, i + 1, u, h => strs_at r i u (by simpa using h)
theorem rowOf {v : V} {u : Value} {d : PD} {zs : List Str} (I : Inv X pins σ H s) (e : Same G H) (hv : Vw X.K G H v d) (hu : RelV v u) (ht : textsOf d = some zs) : ∃ T io, RowOf X.prog X.w s.heap u T io zs := by
  match d, hv, ht with
  | .list ds, hv, ht =>
    obtain ⟨a, vs, rfl, hq, r⟩ := hv.list e
    have ht : strsOf ds = some zs := ht
    rw [strsOf_map ht] at r
    obtain rfl : u = Value.ref a := hu
    rw [r.strs] at hq
    obtain ⟨its, rv, pl, hz⟩ := I.list (SqL.of hq)
    have hS := rv.strs
    have hlen : its.toArray.size = zs.length := by rw [List.size_toArray, ← rv.length, List.length_map]
    have hl := pl.isList
    have hex : ∃ o, s.heap.get? a = some o := by obtain ⟨o, ho, _⟩ := id hl; exact ⟨o, ho⟩
    refine ⟨"list", { cls := .type "list_iterator", data := .fields #[.ref a, .int 0 0] }, ?_, by rw [isSubtype_type]; kernel_rfl, by rw [isSubtype_type]; kernel_rfl, by decide, rfl, ?_, ?_⟩
    · exact fun s' k => (hl.at fun o q => k a o q).typeIs
    · exact fun A E s' Q k h => wpAny_pyIter_list (hl.at fun o q => k a o q) h
    · intro A J h hh k hJ hio
      have hne : a ≠ J := fun q => by obtain ⟨o, ho⟩ := hex; rw [q, hJ] at ho; cases ho
      refine ⟨_, _, _, _, Walks.list hh J a hne its.toArray, by simp, fun b hb => ?_, hlen, fun i x hx => strs_at hS i x (by simpa using hx), ⟨⟨_, hio, rfl, rfl⟩, hl.at fun o q => k a o q⟩⟩
      rcases List.mem_cons.mp hb with q | q
      · exact .inl q
      · exact .inr (List.mem_singleton.mp q ▸ hex)
  | .tuple ds, hv, ht =>
    obtain ⟨a, vs, rfl, hq, r⟩ := hv.tup e
    have ht : strsOf ds = some zs := ht
    rw [strsOf_map ht] at r
    obtain rfl : u = Value.ref a := hu
    rw [r.strs] at hq
    obtain ⟨its, rv, pl, hz⟩ := I.tuple hq
    have hS := rv.strs
    have hlen : its.toArray.size = zs.length := by rw [List.size_toArray, ← rv.length, List.length_map]
    have hl : s.heap.IsTuple a its.toArray := pl
    have hex : ∃ o, s.heap.get? a = some o := by obtain ⟨o, ho, _⟩ := id hl; exact ⟨o, ho⟩
    refine ⟨"tuple", { cls := .type "tuple_iterator", data := .fields #[.ref a, .int 0 0] }, ?_, tup_set, tup_fset, by decide, rfl, ?_, ?_⟩
    · exact fun s' k => (hl.at fun o q => k a o q).typeIs
    · exact fun A E s' Q k h => wpAny_pyIter_tuple (hl.at fun o q => k a o q) h
    · intro A J h hh k hJ hio
      have hne : a ≠ J := fun q => by obtain ⟨o, ho⟩ := hex; rw [q, hJ] at ho; cases ho
      refine ⟨_, _, _, _, Walks.tuple hh J a hne its.toArray, by simp, fun b hb => ?_, hlen, fun i x hx => strs_at hS i x (by simpa using hx), ⟨⟨_, hio, rfl, rfl⟩, hl.at fun o q => k a o q⟩⟩
      rcases List.mem_cons.mp hb with q | q
      · exact .inl q
      · exact .inr (List.mem_singleton.mp q ▸ hex)
  | .str x, hv, ht =>
    obtain rfl := hv.str
    obtain ⟨t, rfl⟩ := hu
    have hz : x.cps.toList.map (fun c => (⟨#[c]⟩ : Str)) = zs := Option.some.inj ht
    have hlen : x.cps.size = zs.length := by rw [← hz, List.length_map, Array.length_toList]
    have hP : ∀ i v, SignAt x i v → ∃ z t, zs[i]? = some z ∧ v = Value.str z t := by
      rintro i v ⟨c, t, hc, rfl⟩
      exact ⟨⟨#[c]⟩, t, by rw [← hz, List.getElem?_map, Array.getElem?_toList, hc]; rfl, rfl⟩
    refine ⟨"str", { cls := .type (strIterType x), data := .fields #[.str x t, .int 0 0] }, ?_, str_set, str_fset, by decide, rfl, ?_, ?_⟩
    · exact fun s' _ => typeIs_str _ _ _
    · exact fun A E s' Q _ h => wpAny_pyIter_strU h
    · intro A J h hh k hJ hio
      cases ha : x.cps.all (· < 128) with
      | true =>
        have ei : strIterType x = "str_ascii_iterator" := by unfold strIterType; rw [if_pos ha]
        rw [ei] at hio
        exact ⟨_, _, _, _, Walks.strAscii hh J x t, by simp, fun b hb => .inl (List.mem_singleton.mp hb), hlen, hP, ⟨_, hio, rfl, rfl⟩⟩
      | false =>
        have ei : strIterType x = "str_iterator" := by unfold strIterType; rw [if_neg (by rw [ha]; decide)]
        rw [ei] at hio
        exact ⟨_, _, _, _, Walks.strWide hh J x t, by simp, fun b hb => .inl (List.mem_singleton.mp hb), hlen, hP, ⟨_, hio, rfl, rfl⟩⟩
end
end DL
/-! Rows of texts put in order, as plain functions; sorted(set(e)), len(set(e)), sorted(e). -/
namespace DL
open PySem PySem.Spec PyProof.Rows L2
def leX (x y : Str) : Bool := !ltCps y.cps.toList x.cps.toList
theorem leX_iff (x y : Str) : leX x y = true ↔ ¬ y.cps.toList < x.cps.toList := by
  unfold leX
  rw [ltCps_eq]
  simp
theorem leX_tot (x y : Str) : leX x y = true ∨ leX y x = true := by
  rw [leX_iff, leX_iff]
  by_cases h : x.cps.toList < y.cps.toList
  · exact .inl (List.lt_asymm h)
  · exact .inr h
theorem leX_trans {x y z : Str} (h1 : leX x y = true) (h2 : leX y z = true) : leX x z = true := by
  rw [leX_iff] at *
  exact List.not_lt.mpr (List.le_trans (List.not_lt.mp h1) (List.not_lt.mp h2))
theorem leX_anti {x y : Str} (h1 : leX x y = true) (h2 : leX y x = true) : x = y := by
  rw [leX_iff] at *
  have e := List.le_antisymm (List.not_lt.mp h1) (List.not_lt.mp h2)
  cases x; cases y
  simp only [Str.mk.injEq]
  exact Array.toList_inj.mp e
def insX (x : Str) : List Str → List Str
  | [] => [x]
  | y :: r => if leX x y = true then x :: y :: r else y :: insX x r
/-- in order -/
def sortX : List Str → List Str
  | [] => []
  | x :: r => insX x (sortX r)
theorem insX_perm (x : Str) : ∀ l : List Str, (insX x l).Perm (x :: l)
  | [] => List.Perm.refl _
  | y :: r => by
    unfold insX
    split
    · exact List.Perm.refl _
    · exact ((insX_perm x r).cons y).trans (List.Perm.swap x y r)
theorem sortX_perm : ∀ l : List Str, (sortX l).Perm l
  | [] => List.Perm.refl _
  | x :: r => (insX_perm x _).trans ((sortX_perm r).cons x)
theorem insX_pw {x : Str} : ∀ {l : List Str}, l.Pairwise (fun a b => leX a b = true) → (insX x l).Pairwise (fun a b => leX a b = true)
  | [], _ => List.pairwise_singleton ..
  | y :: r, h => by
    obtain ⟨h1, h2⟩ := List.pairwise_cons.mp h
    unfold insX
    by_cases hx : leX x y = true
    · rw [if_pos hx]
      refine List.pairwise_cons.mpr ⟨fun z hz => ?_, h⟩
      rcases List.mem_cons.mp hz with rfl | hz
      · exact hx
      · exact leX_trans hx (h1 z hz)
    · rw [if_neg hx]
      refine List.pairwise_cons.mpr ⟨fun z hz => ?_, insX_pw h2⟩
      rcases List.mem_cons.mp ((insX_perm x r).mem_iff.mp hz) with rfl | hz
      · exact (leX_tot z y).resolve_left hx
      · exact h1 z hz
theorem sortX_pw : ∀ l : List Str, (sortX l).Pairwise (fun a b => leX a b = true)
  | [] => List.Pairwise.nil
  | x :: r => insX_pw (sortX_pw r)
theorem pw_unique : ∀ {l m : List Str}, l.Perm m → l.Pairwise (fun a b => leX a b = true) → m.Pairwise (fun a b => leX a b = true) → l = m
  | [], m, p, _, _ => (List.nil_perm.mp p).symm
  | x :: l, [], p, _, _ => absurd p.length_eq (by simp)
  | x :: l, y :: m, p, hl, hm => by
    obtain ⟨h1, h2⟩ := List.pairwise_cons.mp hl
    obtain ⟨g1, g2⟩ := List.pairwise_cons.mp hm
    have e : x = y := by
      rcases List.mem_cons.mp (p.mem_iff.mp (List.mem_cons_self ..)) with q | q
      · exact q
      · rcases List.mem_cons.mp (p.mem_iff.mpr (List.mem_cons_self ..)) with q2 | q2
        · exact q2.symm
        · exact leX_anti (h1 y q2) (g1 x q)
    subst e
    rw [pw_unique ((List.perm_cons x).mp p) h2 g2]
theorem pw_of_rising : ∀ (x : Str) (l : List Str), risingS x l = true → (x :: l).Pairwise (fun a b => leX a b = true)
  | x, [], _ => List.pairwise_singleton ..
  | x, y :: l, h => by
    have h : (leX x y && risingS y l) = true := h
    rw [Bool.and_eq_true] at h
    have ih := pw_of_rising y l h.2
    refine List.pairwise_cons.mpr ⟨fun z hz => ?_, ih⟩
    rcases List.mem_cons.mp hz with rfl | hz
    · exact h.1
    · exact leX_trans h.1 ((List.pairwise_cons.mp ih).1 z hz)
theorem pw_of_sorted {l : List Str} (h : sortedS l = true) : l.Pairwise (fun a b => leX a b = true) := by
  match l, h with
  | [], _ => exact List.Pairwise.nil
  | x :: r, h => exact pw_of_rising x r h
theorem sorted_is {l m : List Str} (h : sortedS l = true) (p : l.Perm m) : l = sortX m := pw_unique (p.trans (sortX_perm m).symm) (pw_of_sorted h) (sortX_pw m)
/-- each once -/
def onceX : List Str → List Str
  | [] => []
  | x :: r => if x ∈ r then onceX r else x :: onceX r
theorem mem_once {z : Str} : ∀ {l : List Str}, z ∈ onceX l ↔ z ∈ l
  | [] => Iff.rfl
  | x :: r => by
    unfold onceX
    split
    · rename_i h
      rw [mem_once, List.mem_cons]
      exact ⟨.inr, fun q => q.elim (fun q => q ▸ h) id⟩
    · rw [List.mem_cons, List.mem_cons, mem_once]
theorem once_nodup : ∀ l : List Str, (onceX l).Nodup
  | [] => List.nodup_nil
  | x :: r => by
    unfold onceX
    split
    · exact once_nodup r
    · rename_i h
      exact List.nodup_cons.mpr ⟨fun q => h (mem_once.mp q), once_nodup r⟩
theorem set_is {l m : List Str} (h : sortedS l = true) (n : l.Nodup) (e : ∀ z, z ∈ l ↔ z ∈ m) : l = sortX (onceX m) :=
  sorted_is h ((List.perm_ext_iff_of_nodup n (once_nodup m)).mpr fun z => (e z).trans mem_once.symm)
theorem set_len {l m : List Str} (n : l.Nodup) (e : ∀ z, z ∈ l ↔ z ∈ m) : l.length = (onceX m).length :=
  ((List.perm_ext_iff_of_nodup n (once_nodup m)).mpr fun z => (e z).trans mem_once.symm).length_eq
/-! ### as words of the layer -/
def gSortSet (d : PD) : Option Out := (textsOf d).bind fun zs => if zs.length < 4000 then some (.nls ((sortX (onceX zs)).map .str)) else none
def gLenSet (d : PD) : Option Out := (textsOf d).bind fun zs => if zs.length < 4000 then some (.val (.int ((onceX zs).length : Int))) else none
theorem bnd4000 {n : Nat} (h : n < 4000) : n + 1 < scanBound := by unfold scanBound; omega
section
variable {X : Cx} {T : Tb} {W : WX} {a : Expr} {fa : EV}
/-- what is asked of the one value -/
def tOne (r : V → Hp → VK → Prop) (ta : TE) : TE := fun σ H Q => ta σ H fun x H1 => r x H1 Q
def rSortSet (K : PySem.W.Frag) : V → Hp → VK → Prop := fun x H Q => ∃ G d zs, Same G H ∧ Vw K G H x d ∧ textsOf d = some zs ∧ zs.length < 4000 ∧ ∀ p, H p = none → Q (.ref p) (upd H p (.lst ((sortX (onceX zs)).map V.str)))
def rLenSet (K : PySem.W.Frag) : V → Hp → VK → Prop := fun x H Q => ∃ G d zs, Same G H ∧ Vw K G H x d ∧ textsOf d = some zs ∧ zs.length < 4000 ∧ Q (.int ((onceX zs).length : Int)) H
theorem vals_strs : ∀ {l : List Value} {zs : List Str}, StrsAre l zs → Vals (zs.map V.str) l := fun h => vals_of_strs h
theorem pe_sortSet {ta : TE} {p p2 q pos : Pos} (hc : X.calm = true) (hg : Gl X "sorted") (hm : X.mg "sorted" = none) (hg2 : Gl X "set") (hm2 : X.mg "set" = none) (ha : PE X a ta)
    (na : starEach [a] X.env = (false, eval a X.env) :: starEach [] X.env := by rfl) : PE X (.Call (.Name "sorted" p) [.Call (.Name "set" p2) [a] [] q] [] pos) (tOne (rSortSet X.K) ta) := by
  refine ⟨fun pins s σ H Q I h => ?_⟩
  refine Call_ (ld_blt I hg hm PyProof.Rows.boot_sorted ?_)
  refine PyProof.Rows.callWith_builtin1 (PyProof.Rows.args_cons ?_ rfl) rfl rfl
  refine Call_ (ld_blt I hg2 hm2 PyProof.Rows.boot_set ?_)
  refine PyProof.Rows.callWith_type1 (PyProof.Rows.args_cons (thn (ha.run pins s σ H _ I h) fun v s1 ⟨x, H1, I1, r1, q1⟩ => PyProof.Rows.args_nil ?_) na) na rfl
  obtain ⟨G, d, zs, e, hv, ht, hl, q1⟩ := q1
  obtain ⟨TT, io, RW⟩ := rowOf I1 e hv r1 ht
  refine call_set_tx (I1.ok.hd hc) RW (bnd4000 hl) fun h' tk TS hk => ?_
  refine PyProof.Rows.args_nil ?_
  have I2 : Inv X pins σ H1 { s1 with heap := h', toks := tk } := I1.kept hk
  refine sorted_tx TS (I1.ok.hd hc) (by have := bnd4000 hl; omega) fun s2 p out n ys k2 g2 o2 hp hob hS hso hnd hmem hlen => ?_
  have ey := set_is hso hnd hmem
  subst ey
  have hn : H1 p = none := I2.hok.fresh hp
  have hz : ((sortX (onceX zs)).map V.str).length ≤ sizeLine := by
    rw [List.length_map]
    exact Nat.le_trans hlen (by show zs.length ≤ 16777216; omega)
  have J : Inv X pins σ (upd H1 p (.lst ((sortX (onceX zs)).map V.str))) { ({ s1 with heap := h', toks := tk } : Shared) with heap := s2.heap, gens := s2.gens, drawn := s2.drawn, toks := s2.toks } :=
    I2.call (ch := []) (Un.laid k2 hp hn) (I2.hok.laid k2 hp ⟨hz, out.toList, n, vals_of_strs hS, hob⟩) (by rw [g2]; exact I2.bare) (fun _ y => nomatch y)
  have e2 : s2 = { ({ s1 with heap := h', toks := tk } : Shared) with heap := s2.heap, gens := s2.gens, drawn := s2.drawn, toks := s2.toks } := by
    cases s2; cases s1; cases o2; rfl
  rw [e2]
  exact ⟨.ref p, _, J, rfl, q1 p hn⟩
theorem d_sortSet {p p2 q pos : Pos} (hc : X.calm = true) (hg : Gl X "sorted") (hm : X.mg "sorted" = none) (hg2 : Gl X "set") (hm2 : X.mg "set" = none) (ha : PE X a (tD X.K X.mg T W fa))
    (na : starEach [a] X.env = (false, eval a X.env) :: starEach [] X.env := by rfl) : PE X (.Call (.Name "sorted" p) [.Call (.Name "set" p2) [a] [] q] [] pos) (tD X.K X.mg T W (e1 gSortSet fa)) :=
  pe_imp (pe_sortSet hc hg hm hg2 hm2 ha na) fun σ H Q ⟨C, ρ, μ, G, α, R, h⟩ => by
    refine ⟨C, ρ, μ, G, α, R, (Post.bind h).mono fun ra μ1 H1 G1 α1 _ _ _ h1 va hva => ?_⟩
    obtain ⟨R1, s1, p1, q1⟩ := h1
    cases ea : look μ1 ra with
    | none => rw [ea] at q1; exact q1.elim
    | some da =>
      rw [ea] at q1
      have o := fin_post R1 q1
      obtain ⟨zs, ht, o⟩ := out_bind o
      obtain ⟨hl, o⟩ := out_if o
      refine ⟨G1, da, zs, R1.sub, look_ok R1 hva ea, ht, hl, fun pp hn => ?_⟩
      exact out_ls o (Reps.ofStrs _) pp hn
theorem pe_lenSet2 {ta : TE} {p p2 q pos : Pos} (hc : X.calm = true) (hg : Gl X "len") (hm : X.mg "len" = none) (hg2 : Gl X "set") (hm2 : X.mg "set" = none) (ha : PE X a ta)
    (na : starEach [a] X.env = (false, eval a X.env) :: starEach [] X.env := by rfl) : PE X (.Call (.Name "len" p) [.Call (.Name "set" p2) [a] [] q] [] pos) (tOne (rLenSet X.K) ta) := by
  refine ⟨fun pins s σ H Q I h => ?_⟩
  refine Call_ (ld_blt I hg hm PySem.boot_len ?_)
  refine PyProof.Rows.callWith_builtin1 (PyProof.Rows.args_cons ?_ rfl) rfl rfl
  refine Call_ (ld_blt I hg2 hm2 PyProof.Rows.boot_set ?_)
  refine PyProof.Rows.callWith_type1 (PyProof.Rows.args_cons (thn (ha.run pins s σ H _ I h) fun v s1 ⟨x, H1, I1, r1, q1⟩ => PyProof.Rows.args_nil ?_) na) na rfl
  obtain ⟨G, d, zs, e, hv, ht, hl, q1⟩ := q1
  obtain ⟨TT, io, RW⟩ := rowOf I1 e hv r1 ht
  refine call_set_tx (I1.ok.hd hc) RW (bnd4000 hl) fun h' tk TS hk => ?_
  refine PyProof.Rows.args_nil ?_
  have I2 : Inv X pins σ H1 { s1 with heap := h', toks := tk } := I1.kept hk
  obtain ⟨o, rows, ep, tb, g, ex, dd, en, nd, mm, sz, ft, ri, ld⟩ := TS
  have hsz : rows.size = (onceX zs).length := by
    rw [← set_len nd fun z => (mm z).symm, List.length_map, Array.length_toList]
  refine call_len_set g ex dd ft (by omega) ⟨.int ((onceX zs).length : Int), H1, I2.tok _, ⟨_, by rw [hsz]⟩, q1⟩
theorem d_lenSet {p p2 q pos : Pos} (hc : X.calm = true) (hg : Gl X "len") (hm : X.mg "len" = none) (hg2 : Gl X "set") (hm2 : X.mg "set" = none) (ha : PE X a (tD X.K X.mg T W fa))
    (na : starEach [a] X.env = (false, eval a X.env) :: starEach [] X.env := by rfl) : PE X (.Call (.Name "len" p) [.Call (.Name "set" p2) [a] [] q] [] pos) (tD X.K X.mg T W (e1 gLenSet fa)) :=
  pe_imp (pe_lenSet2 hc hg hm hg2 hm2 ha na) fun σ H Q ⟨C, ρ, μ, G, α, R, h⟩ => by
    refine ⟨C, ρ, μ, G, α, R, (Post.bind h).mono fun ra μ1 H1 G1 α1 _ _ _ h1 va hva => ?_⟩
    obtain ⟨R1, s1, p1, q1⟩ := h1
    cases ea : look μ1 ra with
    | none => rw [ea] at q1; exact q1.elim
    | some da =>
      rw [ea] at q1
      have o := fin_post R1 q1
      obtain ⟨zs, ht, o⟩ := out_bind o
      obtain ⟨hl, o⟩ := out_if o
      exact ⟨G1, da, zs, R1.sub, look_ok R1 hva ea, ht, hl, out_flat R1.sub o (.int _)⟩
end
end DL
/-! sorted of a list of texts or of whole numbers. -/
namespace DL
open PySem PySem.Spec PyProof.Rows L2
def insZ (x : Int) : List Int → List Int
  | [] => [x]
  | y :: r => if x ≤ y then x :: y :: r else y :: insZ x r
def sortZ : List Int → List Int
  | [] => []
  | x :: r => insZ x (sortZ r)
theorem insZ_perm (x : Int) : ∀ l : List Int, (insZ x l).Perm (x :: l)
  | [] => List.Perm.refl _
  | y :: r => by
    unfold insZ
    split
    · exact List.Perm.refl _
    · exact ((insZ_perm x r).cons y).trans (List.Perm.swap x y r)
theorem sortZ_perm : ∀ l : List Int, (sortZ l).Perm l
  | [] => List.Perm.refl _
  | x :: r => (insZ_perm x _).trans ((sortZ_perm r).cons x)
theorem insZ_pw {x : Int} : ∀ {l : List Int}, l.Pairwise (· ≤ ·) → (insZ x l).Pairwise (· ≤ ·)
  | [], _ => List.pairwise_singleton ..
  | y :: r, h => by
    obtain ⟨h1, h2⟩ := List.pairwise_cons.mp h
    unfold insZ
    by_cases hx : x ≤ y
    · rw [if_pos hx]
      refine List.pairwise_cons.mpr ⟨fun z hz => ?_, h⟩
      rcases List.mem_cons.mp hz with rfl | hz
      · exact hx
      · exact Int.le_trans hx (h1 z hz)
    · rw [if_neg hx]
      refine List.pairwise_cons.mpr ⟨fun z hz => ?_, insZ_pw h2⟩
      rcases List.mem_cons.mp ((insZ_perm x r).mem_iff.mp hz) with rfl | hz
      · omega
      · exact h1 z hz
theorem sortZ_pw : ∀ l : List Int, (sortZ l).Pairwise (· ≤ ·)
  | [] => List.Pairwise.nil
  | x :: r => insZ_pw (sortZ_pw r)
theorem pwZ_unique : ∀ {l m : List Int}, l.Perm m → l.Pairwise (· ≤ ·) → m.Pairwise (· ≤ ·) → l = m
  | [], m, p, _, _ => (List.nil_perm.mp p).symm
  | x :: l, [], p, _, _ => absurd p.length_eq (by simp)
  | x :: l, y :: m, p, hl, hm => by
    obtain ⟨h1, h2⟩ := List.pairwise_cons.mp hl
    obtain ⟨g1, g2⟩ := List.pairwise_cons.mp hm
    have e : x = y := by
      rcases List.mem_cons.mp (p.mem_iff.mp (List.mem_cons_self ..)) with q | q
      · exact q
      · rcases List.mem_cons.mp (p.mem_iff.mpr (List.mem_cons_self ..)) with q2 | q2
        · exact q2.symm
        · have := h1 y q2; have := g1 x q; omega
    subst e
    rw [pwZ_unique ((List.perm_cons x).mp p) h2 g2]
theorem sortZ_is {l m : List Int} (h : l.Pairwise (· ≤ ·)) (p : l.Perm m) : l = sortZ m := pwZ_unique (p.trans (sortZ_perm m).symm) h (sortZ_pw m)
def rowSorted (ds : List PD) : Option Out := match intsOf ds with
  | some ns => some (.nls ((sortZ ns).map .int))
  | none => (strsOf ds).bind fun zs => if zs.length ≤ 16777216 then some (.nls ((sortX zs).map .str)) else none
def cSorted : List PD → Option Out
  | [.list ds] => rowSorted ds
  | _ => none
section
variable {X : Cx}
def rSortX (K : PySem.W.Frag) : List V → Hp → VK → Prop := fun vs H Q => ∃ (a : Addr) (zs : List Str), vs = [V.ref a] ∧ SqL K H a (zs.map V.str) ∧ zs.length ≤ 16777216 ∧ ∀ p, H p = none → Q (.ref p) (upd H p (.lst ((sortX zs).map V.str)))
theorem cr_sortX : CallR X (.builtin "sorted") (rSortX X.K) := by
  intro pins s σ H vs us Q I r h
  obtain ⟨a, zs, rfl, hs, hz, q⟩ := h
  obtain ⟨its, rv, hl, _⟩ := I.list hs
  rw [Vals.ref1 r]
  have hlen := rv.length
  rw [List.length_map] at hlen
  refine sorted_strsAny hl.isList rv.strs (by rw [← hlen]; exact hz) fun out ys h1 h2 h3 => ?_
  obtain rfl := sorted_is h3 h2
  obtain ⟨ep, he⟩ := PyProof.Rows.sortedAll_at s.heap its out
  have hn : ((sortX zs).map V.str).length ≤ sizeLine := by rw [List.length_map, h2.length_eq]; exact hz
  exact ⟨.ref _, upd H (s.heap.objs.size + 1) (.lst ((sortX zs).map V.str)), I.laid (t' := s.toks) (fun _ _ => PyProof.Rows.sortedAll_old) (Nat.le_succ _) ⟨hn, out.toList, ep, vals_of_strs h1, he⟩, rfl, q _ (I.hok.fresh (Nat.le_succ _))⟩
theorem c_sorted : CallD X (.builtin "sorted") cSorted := ⟨_, cr_sortedI.or cr_sortX, fun G H xs ds Q s hx q => by
  match ds, hx, q with
  | [.list es], hx, q =>
    obtain ⟨v, rfl, hv⟩ := hx.one
    obtain ⟨p, vs, rfl, hq, r⟩ := hv.list s
    have q : OutPost X.K H G Q (match intsOf es with
      | some ns => some (.nls ((sortZ ns).map .int))
      | none => (strsOf es).bind fun zs => if zs.length ≤ 16777216 then some (.nls ((sortX zs).map .str)) else none) := q
    cases ei : intsOf es with
    | some ns =>
      rw [ei] at q
      rw [intsOf_map ei] at r
      refine .inl ⟨p, ns, rfl, by rw [← r.ints]; exact .of hq, fun ms pp h1 h2 hn => ?_⟩
      obtain rfl := sortZ_is h2 h1
      exact out_ls q (Reps.ofInts _) pp hn
    | none =>
      rw [ei] at q
      obtain ⟨zs, ht, q⟩ := out_bind q
      obtain ⟨hl, q⟩ := out_if q
      rw [strsOf_map ht] at r
      exact .inr ⟨p, zs, rfl, by rw [← r.strs]; exact .of hq, hl, fun pp hn => out_ls q (Reps.ofStrs _) pp hn⟩⟩
end
end DL
/-! x, y, z = a, b, c. -/
namespace DL
open PySem PySem.Spec PyProof.Rows L2
def sPar3 (i j l : Nat) (fs : AV) : SV := fun ρ μ => (fs ρ μ).st ρ fun rs μ' => match rs with
  | [a, b, c] => .nx (((ρ.set i (some a)).set j (some b)).set l (some c)) μ'
  | _ => .no
section
variable {X : Cx} {T : Tb} {W : WX} {pos : Pos}
theorem d_par3 {i j l : Nat} {x y z : Str} {a b c : Expr} {fs : AV} {px py pz pt : Pos} {kt k2 pt2} (hc : X.calm = true) (hN : X.N.Nodup) (hi : X.N[i]? = some x) (hj : X.N[j]? = some y) (hl : X.N[l]? = some z) (d1 : i ≠ j) (d2 : i ≠ l) (d3 : j ≠ l)
    (hx : X.env.scope.names.lookup x = some .local) (hy : X.env.scope.names.lookup y = some .local) (hz : X.env.scope.names.lookup z = some .local) (ha : PA X [a, b, c] (tDA X.K X.mg T W fs))
    (hw : swappedStores [.Tuple [.Name x px, .Name y py, .Name z pz] kt pt] (.Tuple [a, b, c] k2 pt2) X.env = pure (some [x, y, z]))
    (hs : swapsWithSole [.Tuple [.Name x px, .Name y py, .Name z pz] kt pt] (.Tuple [a, b, c] k2 pt2) pos.line X.env = pure false := by rfl) :
    PS X (.Assign [.Tuple [.Name x px, .Name y py, .Name z pz] kt pt] (.Tuple [a, b, c] k2 pt2) pos) (tDS X.K X.mg T W (sPar3 i j l fs)) :=
  ps_imp (ps_par3 hc hN hi hj hl d1 d2 d3 hx hy hz ha hw hs) fun D σ H ⟨C, ρ, μ, G, α, R, q⟩ => ⟨C, ρ, μ, G, α, R, (Rs.post q).mono fun rs μ1 H1 G1 α1 _ _ _ h1 vs hvs => by
    obtain ⟨R1, s1, q1⟩ := h1
    cases hvs with
    | nil => exact q1.elim
    | cons r1 t1 => cases t1 with
      | nil => exact q1.elim
      | cons r2 t2 => cases t2 with
        | nil => exact q1.elim
        | cons r3 t3 => cases t3 with
          | cons r4 t4 => exact q1.elim
          | nil => exact ⟨_, _, _, rfl, q1 _ H1 G1 α1 (((R1.set r1).set r2).set r3) (Same.refl _)⟩⟩
end
/-! ### less and more, of whole numbers or of texts -/
def gA (f : Int → Int → Bool) (g : List Nat → List Nat → Bool) : PD → PD → Option Out
  | .int i, .int j => some (.val (.bool (f i j)))
  | .str x, .str y => some (.val (.bool (g x.cps.toList y.cps.toList)))
  | _, _ => none
def gLtA := gA (fun i j => decide (i < j)) fun x y => decide (x < y)
def gLeA := gA (fun i j => decide (i ≤ j)) fun x y => !decide (y < x)
def gGtA := gA (fun i j => decide (j < i)) fun x y => decide (y < x)
def gGeA := gA (fun i j => decide (j ≤ i)) fun x y => !decide (x < y)
section
variable {X : Cx}
theorem gA_read {K : PySem.W.Frag} {G H : Hp} {x y : V} {dx dy : PD} {Q : VK} {f : Int → Int → Bool} {g : List Nat → List Nat → Bool} (s : Same G H) (hx : Vw K G H x dx) (hy : Vw K G H y dy) (q : OutPost K H G Q (gA f g dx dy)) :
    (∃ i j, x = .int i ∧ y = .int j ∧ Q (.bl (f i j)) H) ∨ (∃ i j : Str, x = .str i ∧ y = .str j ∧ Q (.bl (g i.cps.toList j.cps.toList)) H) := by
  cases dx with
  | int i => cases dy with
    | int j => exact .inl ⟨i, j, hx.int, hy.int, out_flat s q (.bl _)⟩
    | _ => exact q.elim
  | str i => cases dy with
    | str j => exact .inr ⟨i, j, hx.str, hy.str, out_flat s q (.bl _)⟩
    | _ => exact q.elim
  | _ => cases dy <;> exact q.elim
theorem o_ltA : Op2 X (compareOp .Lt) gLtA := ⟨_, op_lt.or op_lt_str, fun G H x y dx dy Q s hx hy q => gA_read s hx hy q⟩
theorem o_leA : Op2 X (compareOp .LtE) gLeA := ⟨_, op_le.or op_le_str, fun G H x y dx dy Q s hx hy q => gA_read s hx hy q⟩
theorem o_gtA : Op2 X (compareOp .Gt) gGtA := ⟨_, op_gt.or op_gt_str, fun G H x y dx dy Q s hx hy q => gA_read s hx hy q⟩
theorem o_geA : Op2 X (compareOp .GtE) gGeA := ⟨_, op_ge.or op_ge_str, fun G H x y dx dy Q s hx hy q => gA_read s hx hy q⟩
end
end DL
/-! The data layer, twelfth part: what is written of the defs, own errors, the law's end. -/
namespace DL
open PySem PySem.Spec PyProof.Rows L2
theorem room_eq {k : Nat} {A : Around} (r : Room k A) : A.units + 64 < cLine := by have := r.un; omega
/-- a def that is kept -/
def DefOk (P : Program) (w : World) (K : PySem.W.Frag) (mg : Str → Option Value) (base : Heap) (T : Tb) (x : Str) (k n : Nat) (F : FV) : Prop :=
  ∃ f fd ps, mg x = some (.ref f) ∧ PySem.W.keepIn K (.ref f) = true ∧ Binds K fd ps [] ∧ FnOk P w K mg base (L2.CX P w) k f fd ps (spF K mg T n F)
/-- a def as the top has written it -/
def FunAt (K : PySem.W.Frag) (mg : Str → Option Value) (x : Str) (st : Stmt) : Prop := ∃ f fd, L2.Fun K x x st f fd ∧ mg x = some (.ref f)
/-- .. that makes lambdas: its code object stands at c -/
def FunAtL (K : PySem.W.Frag) (mg : Str → Option Value) (x : Str) (st : Stmt) (c : Addr) : Prop :=
  ∃ f oc od osl kV doc pm an ct, K.lookup f = some ⟨oc, od, .func (PySem.W.fnOf x x (defArgs st) (defBody st) (defScope st) .none kV doc pm an (.ref c) ct), osl⟩ ∧ PySem.W.codeIn K (.ref c) x = true ∧ PySem.W.keepIn K (.ref f) = true ∧ mg x = some (.ref f)
theorem FunAt.mk {K : PySem.W.Frag} {mg : Str → Option Value} {h : Heap} {x : Str} {st : Stmt} {f : Addr} {oc : Value} {od an : Option Addr} {osl : Array (Option Value)} {kV doc pm cdv ct : Value} (X : K.In h) (G : h.Ns mainGlobals mg) (a : PySem.W.nsIn K mainGlobals x = some (some (.ref f)))
    (l : K.lookup f = some ⟨oc, od, .func (PySem.W.fnOf x x (defArgs st) (defBody st) (defScope st) .none kV doc pm an cdv ct), osl⟩) (c : PySem.W.codeIn K cdv x = true) (k : PySem.W.keepIn K (.ref f) = true) : FunAt K mg x st := ⟨f, _, fun_mk l c k, PySem.W.mg_of X G a⟩
theorem FunAtL.mk {K : PySem.W.Frag} {mg : Str → Option Value} {h : Heap} {x : Str} {st : Stmt} {f c : Addr} {oc : Value} {od an : Option Addr} {osl : Array (Option Value)} {kV doc pm ct : Value} (X : K.In h) (G : h.Ns mainGlobals mg) (a : PySem.W.nsIn K mainGlobals x = some (some (.ref f)))
    (l : K.lookup f = some ⟨oc, od, .func (PySem.W.fnOf x x (defArgs st) (defBody st) (defScope st) .none kV doc pm an (.ref c) ct), osl⟩) (cd : PySem.W.codeIn K (.ref c) x = true) (k : PySem.W.keepIn K (.ref f) = true) : FunAtL K mg x st c :=
  ⟨f, oc, od, osl, kV, doc, pm, an, ct, l, cd, k, PySem.W.mg_of X G a⟩
section
variable {P : Program} {w : World} {K : PySem.W.Frag} {mg : Str → Option Value} {base : Heap} {T : Tb} {x : Str} {st : Stmt} {N ps : List Str} {k n : Nat} {g : SV}
theorem FunAt.ok (h : FunAt K mg x st) (S : FnScope N ps (defScope st)) (hn : ps.length = n)
    (hb : ∀ (kV doc pm : Value) (an : Option Addr) (cdv ct : Value) (us : List Value), us.length = ps.length → bindArgs (PySem.W.fnOf x x (defArgs st) (defBody st) (defScope st) .none kV doc pm an cdv ct) ⟨us, []⟩ = pure (ps.zip us))
    (hbody : ∀ (f : Addr) (cdv : Value) (A : Around) (outer : List Env) (s : Shared) (H : Hp) (E : XK), Room k (A.deeper (envOfC x (defScope st) s.heap.objs.size f cdv)) →
      PSs (cxOf (L2.CX P w) P w K mg base N x (defScope st) f cdv A outer s H E) (defBody st) (tDS K mg T (fun cls d _ H => E cls d H) g)) : DefOk P w K mg base T x (k + 1) n (runF N.length g) := by
  obtain ⟨f, fd, F, hm⟩ := h
  exact ⟨f, fd, ps, hm, F.kp, F.binds hb, d_fun F S hn fun cdv A outer s H E hr => hbody f cdv A outer s H E hr⟩
theorem FunAtL.ok {c : Addr} (h : FunAtL K mg x st c) (S : FnScope N ps (defScope st)) (hn : ps.length = n)
    (hb : ∀ (kV doc pm : Value) (an : Option Addr) (cdv ct : Value) (us : List Value), us.length = ps.length → bindArgs (PySem.W.fnOf x x (defArgs st) (defBody st) (defScope st) .none kV doc pm an cdv ct) ⟨us, []⟩ = pure (ps.zip us))
    (hbody : ∀ (f : Addr) (A : Around) (outer : List Env) (s : Shared) (H : Hp) (E : XK), Room k (A.deeper (envOfC x (defScope st) s.heap.objs.size f (.ref c))) →
      PSs (cxOf (L2.CX P w) P w K mg base N x (defScope st) f (.ref c) A outer s H E) (defBody st) (tDS K mg T (fun cls d _ H => E cls d H) g)) : DefOk P w K mg base T x (k + 1) n (runF N.length g) := by
  obtain ⟨f, oc, od, osl, kV, doc, pm, an, ct, lk, hcd, kp, hm⟩ := h
  exact ⟨f, _, ps, hm, kp, .all (hb kV doc pm an (.ref c) ct), fn_of lk hcd S (fun vs H Q E h => h.1.trans hn.symm) fun A outer s H vs Q E hr h => ⟨_, hbody f A outer s H E hr, run_ok h⟩⟩
/-- nothing is promised of what was not run -/
theorem DefOk.zero {F : FV} (h : FunAt K mg x st) (S : FnScope N ps (defScope st)) (hn : ps.length = n)
    (hb : ∀ (kV doc pm : Value) (an : Option Addr) (cdv ct : Value) (us : List Value), us.length = ps.length → bindArgs (PySem.W.fnOf x x (defArgs st) (defBody st) (defScope st) .none kV doc pm an cdv ct) ⟨us, []⟩ = pure (ps.zip us))
    (h0 : ∀ as, F as = .no) : DefOk P w K mg base T x k n F := by
  obtain ⟨f, fd, F', hm⟩ := h
  refine ⟨f, fd, ps, hm, F'.kp, F'.binds hb, ⟨fun vs H Q E h => h.1.trans hn.symm, fun A outer s H args us vs Q E hr he hb hv hs => ?_⟩⟩
  obtain ⟨_, _, G, as, P', _, _, _, _, q⟩ := hs
  rw [h0 as] at q
  exact q.elim
end
section
variable {X : Cx} {T : Tb} {W : WX} {pos : Pos}
theorem d_call {k j n : Nat} {F : FV} {x : Str} {p : Pos} {e : Expr} {es : List Expr} {fs : AV} (bs : List Bool) (hF : DefOk X.prog X.w X.K X.mg X.base T x k n F) (hr : Room j X.A) (hk : k ≤ j) (hg : Gl X x)
    (tk : Takes X W) (ha : PA X (e :: es) (tDA X.K X.mg T W fs)) (hdb : (x == ("__debug__" : Str)) = false := by decide) (he : starEach (e :: es) X.env = (false, eval e X.env) :: starEach es X.env := by rfl) (hpl : (backTo pos (starEach es X.env)).any (·.1) = false := by rfl) :
    PE X (.Call (.Name x p) (e :: es) [] pos) (tD X.K X.mg T W (eDef F bs n fs)) := by
  obtain ⟨f, fd, ps, hm, kp, hb, FF⟩ := hF
  exact d_def bs FF (hr.mono hk) hg hm kp hb tk ha hdb he hpl
/-- a module's constant text, number -/
theorem d_gS {x i : Str} (hg : Gl X x) (h : ∃ t, X.mg x = some (.str i t)) (hd : (x == ("__debug__" : Str)) = false := by decide) : PE X (.Name x pos) (tD X.K X.mg T W (eC (.str i))) := by
  obtain ⟨t, h⟩ := h
  exact d_glob (v := .str i) hg h ⟨t, rfl⟩ (fun _ => .str i) hd
theorem d_gI {x : Str} {i : Int} (hg : Gl X x) (h : ∃ t, X.mg x = some (.int i t)) (hd : (x == ("__debug__" : Str)) = false := by decide) : PE X (.Name x pos) (tD X.K X.mg T W (eC (.int i))) := by
  obtain ⟨t, h⟩ := h
  exact d_glob (v := .int i) hg h ⟨t, rfl⟩ (fun _ => .int i) hd
/-- {} -/
theorem d_dic : PE X (.Dict [] [] pos) (tD X.K X.mg T W (eC (.dict []))) := pe_imp pe_dnewK fun σ H Q ⟨C, ρ, μ, G, α, R, q⟩ p hp => by
  have g := Grow.new (o := .dK []) R.sub hp
  exact q _ _ α (R.grow g) g.g (List.prefix_refl _) _ (.dic upd_same)
/-- xs[::-1] of a list -/
def eRevL (f : EV) : EV := fun ρ μ => (f ρ μ).bind fun r μ1 => match look μ1 r with
  | some (.list ds) => fin (some (.nls ds.reverse)) μ1
  | _ => .no
theorem d_revL {e : Expr} {f : EV} {k : Nat} {p1 p2 p3 : Pos} (h : PE X e (tD X.K X.mg T W f)) : PE X (.Subscript e (.Slice none none (some (.UnaryOp .USub (.Constant (.int 1) k p1) p2)) p3) pos) (tD X.K X.mg T W (eRevL f)) :=
  pe_imp (pe_revL h) fun σ H Q ⟨C, ρ, μ, G, α, R, q⟩ => by
    refine ⟨C, ρ, μ, G, α, R, (Post.bind q).mono fun ra μ1 H1 G1 α1 _ _ _ h1 va hva => ?_⟩
    obtain ⟨R1, s1, p1, q1⟩ := h1
    cases ea : look μ1 ra with
    | none => rw [ea] at q1; exact q1.elim
    | some d =>
      rw [ea] at q1
      cases d with
      | list ds =>
        obtain ⟨a, vs, rfl, hq, r⟩ := (look_ok R1 hva ea).list R1.sub
        exact ⟨a, vs, rfl, .of hq, out_ls (fin_post (mg := X.mg) (W := W) (o := some (.nls ds.reverse)) R1 q1) r.reverse⟩
      | _ => exact q1.elim
end
/-- == of scalars, where no room is told of -/
def gEqS : PD → PD → Option Out := fun d e => if (flatD d && flatD e && scal (toV d) (toV e)) = true then some (.val (.bool (decide (toV d = toV e)))) else none
theorem o_eqS {X : Cx} : Op2 X (compareOp .Eq) gEqS := ⟨_, op_eq, fun G H x y dx dy Q s hx hy q => by
  obtain ⟨c, q⟩ := out_if (c := (flatD dx && flatD dy && scal (toV dx) (toV dy)) = true) q
  simp only [Bool.and_eq_true] at c
  rw [(hx.flat c.1.1).1, (hy.flat c.1.2).1]
  exact ⟨c.2, out_flat s q (.bl _)⟩⟩
/-! ### own errors -/
/-- an own class of errors -/
structure ErrAt (K : PySem.W.Frag) (mg : Str → Option Value) (x : Str) : Prop where
  ex : ∃ (C : Addr), mg x = some (.ref C) ∧ PySem.W.keepIn K (.ref C) = true ∧ (∃ bmB newId initId B, ExcBaseFacts B newId initId bmB ∧ PySem.W.excIn K C bmB newId = true) ∧ PySem.W.subIn K (.ref C) (.type "BaseException") = some true ∧ PySem.W.typeIn K (.ref C) = some (.type "type")
theorem ErrAt.mk' {K : PySem.W.Frag} {mg : Str → Option Value} {h : Heap} {x : Str} {C : Addr} {bmB : List Value} {newId initId B : String} (X : K.In h) (G : h.Ns mainGlobals mg) (F : ExcBaseFacts B newId initId bmB) (a : PySem.W.nsIn K mainGlobals x = some (some (.ref C)))
    (k : PySem.W.keepIn K (.ref C) = true) (q : PySem.W.excIn K C bmB newId = true) (s : PySem.W.subIn K (.ref C) (.type "BaseException") = some true) (t : PySem.W.typeIn K (.ref C) = some (.type "type")) : ErrAt K mg x :=
  ⟨C, PySem.W.mg_of X G a, k, ⟨bmB, newId, initId, B, F, q⟩, s, t⟩
section
variable {X : Cx} {T : Tb} {W : WX} {pos : Pos}
theorem d_raise {x : Str} {p p2 : Pos} (hc : X.calm = true) (tk : Takes X W) (hE : ErrAt X.K X.mg x) (hg : Gl X x) (hdb : (x == ("__debug__" : Str)) = false := by decide) :
    PS X (.Raise (some (.Call (.Name x p) [] [] p2)) none pos) (tDS X.K X.mg T W (sRaise x)) := by
  obtain ⟨C, gC, kC, ⟨bmB, newId, initId, B, F, q⟩, s, t⟩ := hE.ex
  exact d_raise0 hc tk F q gC kC (raises_own s t) hg hdb
end
/-- what isinstance says of an error of the class x -/
def ExcAt (K : PySem.W.Frag) (mg : Str → Option Value) (x : Str) : Prop := ∀ D, mg x = some (.ref D) → ExcC K D
def IsAt (K : PySem.W.Frag) (mg : Str → Option Value) (x y : Str) (b : Bool) : Prop := ∀ D E, mg x = some (.ref D) → mg y = some (.ref E) → PySem.W.kitOne K (.ref D) (.ref E) = some b
def IsTyAt (K : PySem.W.Frag) (mg : Str → Option Value) (x : Str) (ty : String) (b : Bool) : Prop := ∀ D, mg x = some (.ref D) → PySem.W.kitOne K (.ref D) (.type ty) = some b
def ExmAt (K : PySem.W.Frag) (mg : Str → Option Value) (x y : Str) : Prop := ∀ D E, mg x = some (.ref D) → mg y = some (.ref E) → PySem.W.exmOne K (.ref D) (.ref E) = some true
section
variable {X : Cx} {T : Tb} {W : WX} {pos : Pos}
/-- isinstance(error, own class) -/
theorem d_isO {a D E : Addr} {oe : Obj} {pn : List (Addr × Obj)} {n x : Str} {p p1 p2 : Pos} {b : Bool} (i : Nat) (CC : ExcC X.K D) (hz : Zc (.ref D) none oe) (hf : ∃ vs, oe.data = .fields vs) (hkit : PySem.W.kitOne X.K (.ref D) (.ref E) = some b) (hE : X.mg x = some (.ref E)) (hx : Gl X x)
    (hg : Gl X "isinstance") (hm : X.mg "isinstance" = none) (hN : X.N[i]? = some n) (hv : Vis X.env.scope n) (hd : (n == ("__debug__" : Str)) = false := by decide) (hcd : (n == ("__classdict__" : Str)) = false := by decide) (hdx : (x == ("__debug__" : Str)) = false := by decide)
    (hs : starEach [.Name n p1, .Name x p2] X.env = (false, eval (.Name n p1) X.env) :: starEach [.Name x p2] X.env := by rfl) (hs2 : starEach [.Name x p2] X.env = (false, eval (.Name x p2) X.env) :: starEach [] X.env := by rfl) (hpl : (backTo pos (starEach [.Name x p2] X.env)).any (·.1) = false := by rfl) :
    PE (X.suite a ((a, oe) :: pn)) (.Call (.Name "isinstance" p) [.Name n p1, .Name x p2] [] pos) (tD X.K X.mg T W (eIsE i a b)) :=
  d_isE (c := .ref E) (cv := .ref E) CC hz hf (fun u r => r) hkit hN hv (pe_glob (X := X.suite a ((a, oe) :: pn)) hx hE rfl hdx) hg hm hd hcd hs hs2 hpl
/-- isinstance(error, a built-in class) -/
theorem d_isB {a D : Addr} {oe : Obj} {pn : List (Addr × Obj)} {n x : Str} {ty : String} {p p1 p2 : Pos} {b : Bool} (i : Nat) (CC : ExcC X.K D) (hz : Zc (.ref D) none oe) (hf : ∃ vs, oe.data = .fields vs) (hkit : PySem.W.kitOne X.K (.ref D) (.type ty) = some b) (hE : X.mg x = none) (hbx : bootBuiltins x = some (.type ty)) (hx : Gl X x)
    (hg : Gl X "isinstance") (hm : X.mg "isinstance" = none) (hN : X.N[i]? = some n) (hv : Vis X.env.scope n) (hd : (n == ("__debug__" : Str)) = false := by decide) (hcd : (n == ("__classdict__" : Str)) = false := by decide) (hnx : x ≠ "__name__" := by decide) (hdx : (x == ("__debug__" : Str)) = false := by decide)
    (hs : starEach [.Name n p1, .Name x p2] X.env = (false, eval (.Name n p1) X.env) :: starEach [.Name x p2] X.env := by rfl) (hs2 : starEach [.Name x p2] X.env = (false, eval (.Name x p2) X.env) :: starEach [] X.env := by rfl) (hpl : (backTo pos (starEach [.Name x p2] X.env)).any (·.1) = false := by rfl) :
    PE (X.suite a ((a, oe) :: pn)) (.Call (.Name "isinstance" p) [.Name n p1, .Name x p2] [] pos) (tD X.K X.mg T W (eIsE i a b)) :=
  d_isE (c := .ty ty) (cv := .type ty) CC hz hf (fun u r => r) hkit hN hv (pe_bltn (X := X.suite a ((a, oe) :: pn)) hx hE hbx rfl hnx hdx) hg hm hd hcd hs hs2 hpl
theorem hpre0 {X : Cx} {T : Tb} {Ng : List Str} {x : Str} {sg : Scope} {g : Addr} {cdg : Value} : ∀ (s : Shared) (H : Hp) (u : TS) (rest : List Stmt), PSs (hCx X Ng x sg g cdg s H) rest u → PSs (hCx X Ng x sg g cdg s H) ([] ++ rest) (tSeq (tDS X.K X.mg T W0 sNext) u) :=
  fun s H u rest h => pss_imp h fun D σ H ⟨C, ρ, μ, G, α, R, q⟩ => q σ H G α R (Same.refl _)
theorem hpre1 {X : Cx} {T : Tb} {Ng : List Str} {x : Str} {sg : Scope} {g : Addr} {cdg : Value} {st : Stmt} {gp : SV} (h1 : ∀ (s : Shared) (H : Hp), PS (hCx X Ng x sg g cdg s H) st (tDS X.K X.mg T W0 gp)) :
    ∀ (s : Shared) (H : Hp) (u : TS) (rest : List Stmt), PSs (hCx X Ng x sg g cdg s H) rest u → PSs (hCx X Ng x sg g cdg s H) ([st] ++ rest) (tSeq (tDS X.K X.mg T W0 gp) u) :=
  fun s H u rest h => pss_cons (h1 s H) h
end
/-! ### the law's end -/
/-- the script as the law gets it -/
def scrD (ns : List Int) : PD := .dict [(.none, .list (ns.map .int))]
theorem law_sp {K : PySem.W.Frag} {mg : Str → Option Value} {T : Tb} {F : FV} {H : Hp} {a : Addr} {ns : List Int} (hF : F [.d (scrD ns)] = .ok (.d (.bool true)) []) (hT : ∀ p ∈ T, H p.1 = some (.tbl #[])) (hS : SqL K H a (ns.map V.int)) :
    spF K mg T 1 F [.ref a] H (fun v _ => v = .bl true) fun _ _ _ => False := by
  have ht : LamX.Tabs T H := fun p hp => LamX.TabS.nil (hT p hp)
  have fin : ∀ G : Hp, NoTb G → Same G H → SqL K G a (ns.map V.int) → spF K mg T 1 F [.ref a] H (fun v _ => v = .bl true) fun _ _ _ => False := fun G ng sg q => by
    refine ⟨rfl, ht, G, [.d (scrD ns)], [], ng, sg, .d (.scr q (Reps.ofInts ns)) .nil, List.nodup_nil, ?_⟩
    rw [hF]
    intro H' G' v f ho hr
    have hr : Rep K G' v (.bool true) := hr
    cases hr
    rfl
  have one : ∀ o, H a = some o → (∀ ps, o ≠ .tbl ps) → NoTb (fun b => if b = a then H b else none) ∧ Same (fun b => if b = a then H b else none) H := fun o e n => by
    refine ⟨fun b ps z => ?_, fun b u z => ?_⟩
    · have z : (if b = a then H b else none) = some (.tbl ps) := z
      by_cases hb : b = a
      · rw [if_pos hb, hb, e] at z
        exact n ps (Option.some.inj z)
      · rw [if_neg hb] at z
        cases z
    · have z : (if b = a then H b else none) = some u := z
      by_cases hb : b = a
      · rw [if_pos hb] at z; exact z
      · rw [if_neg hb] at z; cases z
  rcases hS with (h | ⟨o, h⟩) | h
  · obtain ⟨n, s⟩ := one _ h (fun _ z => by cases z)
    exact fin _ n s (.inl (.inl ((if_pos rfl).trans h)))
  · obtain ⟨n, s⟩ := one _ h (fun _ z => by cases z)
    exact fin _ n s (.inl (.inr ⟨o, (if_pos rfl).trans h⟩))
  · exact fin (fun _ => none) (fun _ _ z => by cases z) (fun _ _ z => by cases z) (.inr h)
end DL
/-! The data layer, thirteenth part: a lambda with one parameter of a number's default, called without arguments. -/
namespace DL
open PySem PySem.Spec PyProof.Rows L2 LamX
abbrev qL (X : Cx) : Str := X.env.qual ++ "<lambda>"
abbrev clL (X : Cx) (sc : Scope) : List (Str × Addr) := cloFrom X.env.cells sc.names []
abbrev objD (X : Cx) (ps : Arguments) (b : Expr) (sc : Scope) (dV doc pm : Value) (c' : Addr) (ct : Value) : Obj := PySem.W.kdv_obj "<lambda>" (qL X) ps (.expr b) sc (clL X sc) dV doc pm c' ct
/-- what the making leaves -/
def MadeD (X : Cx) (T : Tb) (H : Hp) (ps : Arguments) (b : Expr) (sc : Scope) (i : Int) (f c' : Addr) (H1 : Hp) (s' : Shared) (pins : List (Addr × Obj)) (σ : L2.St) : Prop :=
  ∃ (pm ct doc : Value) (t0 : Addr) (tk : Tok), Inv X pins σ H1 s' ∧ ExtN H H1 ∧ Tabs T H1 ∧ s'.heap.get? f = some (objD X ps b sc (.ref t0) doc pm c' ct) ∧ (H1 f = none ∧ f ∉ frs X.stack) ∧ s'.heap.get? t0 = some (PySem.W.kdv_tup [.int i tk]) ∧ (H1 t0 = none ∧ t0 ∉ frs X.stack) ∧ H1 c' = some (CodeO c' (qL X))
section
variable {X : Cx} {pins : List (Addr × Obj)} {σ : L2.St} {H : Hp} {s : Shared} {T : Tb} {c P : Addr} {ps : Arguments} {b : Expr} {sc : Scope} {pos : Pos} {i : Int}
theorem Inv.notFr (I : Inv X pins σ H s) {f : Addr} (hf : s.heap.objs.size ≤ f) : f ∉ frs X.stack := fun hm => by
  rcases List.mem_cons.mp (I.stkSub f hm) with rfl | hm
  · exact Nat.lt_irrefl _ (Nat.lt_of_lt_of_le I.lt hf)
  · exact I.nofs hf hm
/-- the tail of the making, the defaults' tuple at t0 -/
theorem tailD {Q : Value → Shared → Prop} {E : Value → Shared → Prop} {A : Around} {t0 : Addr} {tk : Tok} (I : Inv X pins σ H s) (TB : TabB X.base X.mg c P) (hcode : X.env.code = .ref c) (hm : (P, qL X) ∈ T) (hu : ∀ p ∈ T, p.1 = P → p.2 = qL X) (hT : Tabs T H)
    (hfree : ∀ y ∈ sc.names, y.2 = .free → ∃ c, X.env.cells.lookup y.1 = some c) (h0 : s.heap.get? t0 = some (PySem.W.kdv_tup [.int i tk])) (n0 : H t0 = none) (m0 : t0 ∉ frs X.stack)
    (h : ∀ f c' H1 s', MadeD X T H ps b sc i f c' H1 s' pins σ → Q (.ref f) s') : wpAny (model X.prog X.w) A (makeTail "<lambda>" (qL X) ps (.expr b) sc X.env (.ref t0) .none none pos pos.line) Q E s := by
  obtain ⟨tb, hP, htr, hin⟩ := hT _ hm
  have hPs : s.heap.get? P = some { cls := .none, data := .fields tb } := I.hok P _ hP
  have hBP : s.heap.BuiltinsAt X.mg P := TB.bm.keeps I.bk
  have ne0 : t0 ≠ P := fun z => by
    rw [z, hP] at n0
    cases n0
  cases hc : codeAmong pos tb.toList with
  | some cv =>
    obtain ⟨c', rfl, hco⟩ := hin pos cv hc
    refine PySem.W.kdv_makeTailHit (mg := X.mg) (c := c) (P := P) (ps := tb) (closure_ok hfree) I.ok.glob (I.mod.glob.keeps I.bk) hcode (TB.code.keeps I.bk) hPs htr hc hBP fun ct doc h' tk' hx hsz => ?_
    have keep : ∀ a o, s.heap.get? a = some o → (h'.push (objD X ps b sc (.ref t0) doc ((X.mg "__name__").getD .none) c' ct)).get? a = some o := fun a o e => Heap.get?_push_of_some _ (hx a o e)
    exact h _ c' H _ ⟨_, ct, doc, t0, tk, I.kept keep, ExtN.refl H, hT, Heap.get?_push_size _ rfl, ⟨I.hok.fresh hsz, Inv.notFr I hsz⟩, keep _ _ h0, ⟨n0, m0⟩, hco⟩
  | none =>
    refine PySem.W.kdv_makeTail (mg := X.mg) (c := c) (P := P) (ps := tb) (closure_ok hfree) I.ok.glob (I.mod.glob.keeps I.bk) hcode (TB.code.keeps I.bk) hPs htr hc TB.gP hBP fun c' ct doc h' tk' hx hge hlt hrec htb => ?_
    obtain ⟨c2, oc, vs, t, ec, hoc, hd, hv⟩ := hrec
    cases ec
    have hsz : s.heap.objs.size ≤ h'.objs.size := Nat.le_trans hge (Nat.le_of_lt hlt)
    have nC : H c' = none := I.hok.fresh hge
    have nCP : P ≠ c' := ne_of_none hP nC
    let h2 := h'.push (objD X ps b sc (.ref t0) doc ((X.mg "__name__").getD .none) c' ct)
    have up : ∀ a o, h'.get? a = some o → h2.get? a = some o := fun a o e => Heap.get?_push_of_some _ e
    have J := inv_table (t' := tk') (more := #[rawInt pos.line, rawInt pos.col, .ref c']) (h' := h2) I hP (fun a o hb e => up _ _ (hx a o hb e)) (up _ _ htb) hge ⟨oc, vs, t, up _ _ hoc, hd, hv⟩
    have at_ : ∀ a, a ≠ P → a ≠ c' → upd (upd H P (.tbl (tb ++ #[rawInt pos.line, rawInt pos.col, .ref c']))) c' (CodeO c' (qL X)) a = H a := fun a z1 z2 => by rw [upd_ne z2, upd_ne z1]
    have ext : ExtN H (upd (upd H P (.tbl (tb ++ #[rawInt pos.line, rawInt pos.col, .ref c']))) c' (CodeO c' (qL X))) := fun a o e n => by
      rw [at_ a (fun z => n tb (Option.some.inj (e.symm.trans (z ▸ hP)))) (ne_of_none e nC)]
      exact e
    have tl : (tb ++ #[rawInt pos.line, rawInt pos.col, .ref c']).toList = tb.toList ++ [rawInt pos.line, rawInt pos.col, .ref c'] := by simp
    have nf : ∀ a, H a = none → a ≠ c' → upd (upd H P (.tbl (tb ++ #[rawInt pos.line, rawInt pos.col, .ref c']))) c' (CodeO c' (qL X)) a = none := fun a e z => by
      rw [at_ a (fun y => by rw [y, hP] at e; cases e) z]
      exact e
    have n0c : t0 ≠ c' := fun z => by
      have := Heap.lt_size h0
      rw [z] at this
      exact absurd this (Nat.not_lt.mpr hge)
    refine h h'.objs.size c' _ _ ⟨_, ct, doc, t0, tk, J, ext, fun p hp => ?_, Heap.get?_push_size _ rfl, ⟨nf _ (I.hok.fresh hsz) (Nat.ne_of_gt hlt), Inv.notFr I hsz⟩, up _ _ (hx t0 _ ne0 h0), ⟨nf _ n0 n0c, m0⟩, upd_same⟩
    by_cases hb : p.1 = P
    · rw [hu p hp hb, hb]
      refine ⟨_, by rw [upd_ne nCP, upd_same], by rw [tl]; exact PySem.TriplesOk_snoc _ _ _ _ htr, fun pp cv hcv => ?_⟩
      rw [tl] at hcv
      rcases among_app _ htr hcv with z | z
      · obtain ⟨c0, e1, e2⟩ := hin pp cv z
        exact ⟨c0, e1, ext _ _ e2 codeO_ne⟩
      · exact ⟨c', z, upd_same⟩
    · obtain ⟨tp, a1, a2, a3⟩ := hT p hp
      refine ⟨tp, by rw [at_ _ hb (ne_of_none a1 nC)]; exact a1, a2, fun pp cv hcv => ?_⟩
      obtain ⟨c0, e1, e2⟩ := a3 pp cv hcv
      exact ⟨c0, e1, ext _ _ e2 codeO_ne⟩
theorem makeD {Q : Value → Shared → Prop} {j : Nat} {dp : Pos} (I : Inv X pins σ H s) (TB : TabB X.base X.mg c P) (hcode : X.env.code = .ref c) (hm : (P, qL X) ∈ T) (hu : ∀ p ∈ T, p.1 = P → p.2 = qL X) (hT : Tabs T H)
    (hfree : ∀ y ∈ sc.names, y.2 = .free → ∃ c, X.env.cells.lookup y.1 = some c) (hd : ps.defaults = [.Constant (.int i) j dp]) (hk : ps.kw_defaults = [])
    (h : ∀ f c' H1 s', MadeD X T H ps b sc i f c' H1 s' pins σ → Q (.ref f) s') : wpAny (model X.prog X.w) X.A (eval (.Lambda ps b sc pos) X.env) Q X.xe s := by
  refine PySem.W.kdv_lam (by rw [hd]; rfl) hk ?_
  rw [hd]
  refine PySem.W.kdv_all1 (thn ((pe_int (X := X) (i := i) (pos := dp)).run pins s σ H (fun v H1 => v = .int i ∧ H1 = H) I ⟨rfl, rfl⟩) fun u s1 hh => PySem.W.kdv_all0 ?_)
  obtain ⟨v, H1, I1, r, rfl, rfl⟩ := hh
  obtain ⟨tk, rfl⟩ := r
  rw [makeFunction_eq]
  simp only [List.zip_nil_right, List.filterMap_nil, List.isEmpty_nil, List.isEmpty_cons, Bool.false_eq_true, if_true, if_false, pure_bind]
  refine wpAny_bind (wpAny_newTextTuple ?_)
  exact tailD (I1.kept (t' := s1.toks) fun a o e => Heap.get?_push_of_some _ e) TB hcode hm hu hT hfree (Heap.get?_push_size _ rfl) (I1.hok.fresh (Nat.le_refl _)) (Inv.notFr I1 (Nat.le_refl _)) h
end
/-! ### the lambda's body -/
structure LamSD (N : List Str) (sc scope : Scope) : Prop where
  kind : scope.kind = .function
  co : scope.isCoroutine = false
  gen : scope.isGenerator = false
  cell : ∀ y ∈ scope.names, y.2 ≠ .cell
  own : ∀ y ∈ scope.names, y.2 = .local → y.1 ∉ N
  free : ∀ y ∈ scope.names, y.2 = .free → sc.names.lookup y.1 = some .cell ∨ sc.names.lookup y.1 = some .free
def lamSDB (N : List Str) (sc scope : Scope) : Bool :=
  decide (scope.kind = .function) && !scope.isCoroutine && !scope.isGenerator && scope.names.all fun y => !decide (y.2 = .cell) && (!decide (y.2 = .local) || decide (y.1 ∉ N)) && (!decide (y.2 = .free) || decide (sc.names.lookup y.1 = some .cell) || decide (sc.names.lookup y.1 = some .free))
theorem lamSD_by {N : List Str} {sc scope : Scope} (h : lamSDB N sc scope = true) : LamSD N sc scope := by
  unfold lamSDB at h
  simp only [Bool.and_eq_true, Bool.or_eq_true, Bool.not_eq_true', decide_eq_true_eq, decide_eq_false_iff_not, List.all_eq_true] at h
  obtain ⟨⟨⟨k, a⟩, g⟩, al⟩ := h
  refine ⟨k, a, g, fun y hy => (al y hy).1.1, fun y hy e => ?_, fun y hy e => ?_⟩
  · rcases (al y hy).1.2 with z | z
    · exact absurd e z
    · exact z
  · rcases (al y hy).2 with (z | z) | z
    · exact absurd e z
    · exact .inl z
    · exact .inr z
theorem LamSD.has {X : Cx} {scope : Scope} (L : LamSD X.N X.env.scope scope) (ok : X.Ok) : ∀ y ∈ scope.names, y.2 = .free → ∃ c, X.env.cells.lookup y.1 = some c := fun y hy e => (L.free y hy e).elim (fun k => ok.has _ (.inl k)) fun k => ok.has _ (.inr k)
section
variable {X : Cx} {pins : List (Addr × Obj)} {σ : L2.St} {H HZ : Hp} {s s1 : Shared}
theorem startD {A : Around} {outer : List Env} {E : XK} {scope : Scope} {f c' : Addr} {h₁ : Heap} {tk : Nat} {bs : List (Str × Value)} (I : Inv X pins σ H s) (L : LamSD X.N X.env.scope scope) (e0 : Env0 X.prog X.w X.K X.mg X.base A outer s1 HZ) (hd : A.handled = none)
    (un : Un (frs X.stack) [] H HZ s.heap s1.heap) (hns : h₁.Ns s1.heap.objs.size fun y => bs.reverse.lookup y) (kp : ∀ b o, s1.heap.get? b = some o → h₁.get? b = some o) : Inv (lamCx X A outer s1 HZ E scope f c') [] σ HZ { s1 with heap := h₁, toks := tk } := by
  have have_ := L.has I.ok
  -- the captured names are the maker's
  have sub : ∀ {y a}, (clL X scope).lookup y = some a → X.env.cells.lookup y = some a := fun {y a} e => by
    rcases cloFrom_mem (PySem.mem_of_lookup e) with z | ⟨z1, z2⟩
    · cases z
    · obtain ⟨a1, e1⟩ := have_ _ z1 rfl
      have e1 : X.env.cells.lookup y = some a1 := e1
      have : a = a1 := by rw [z2, e1]; rfl
      rw [this]
      exact e1
  have got : ∀ {y}, scope.names.lookup y = some .free → ∃ a, (clL X scope).lookup y = some a := fun {y} hl => mem_lookup (cloFrom_has (cells := X.env.cells) (acc := []) (show (y, NameKind.free) ∈ scope.names from PySem.mem_of_lookup hl))
  have ck : ∀ {a : Addr} {v : Option Value}, H a = none → s.heap.IsCell a v → h₁.IsCell a v := fun {a v} n ⟨o, ho, hd⟩ => by
    obtain ⟨sl, q⟩ := un.any ho n (by simp)
    exact ⟨_, kp _ _ q, hd⟩
  have nx : ∀ b : Addr, b ∉ (lamCx X A outer s1 HZ E scope f c').ex := fun b z => absurd (show b ∈ ([] : List Addr) from z) (by simp)
  constructor
  · refine ⟨e0.mod, L.kind, rfl, rfl, Nat.le_refl _, fun y z a e1 e2 => I.ok.inj y z a (sub e1) (sub e2), fun y hy => ?_, fun y a z _ => ?_, fun _ => hd, Around.frames_deeper e0.frames, .inr ⟨rfl, rfl⟩, fun b z => absurd z (nx b), e0.bs, e0.bsz, fun b _ _ => nx b, fun b z => absurd z (nx b), e0.funs, e0.frf⟩
    · have hy : scope.names.lookup y = some .cell ∨ scope.names.lookup y = some .free := hy
      rcases hy with hy | hy
      · exact absurd rfl (L.cell _ (PySem.mem_of_lookup hy))
      · exact got hy
    · have z : false = true := z
      cases z
  · rfl
  · exact e0.bare
  · exact Un.kept kp
  · refine ⟨_, hns, fun i y v e1 e2 e3 => ?_⟩
    have e3 : Vis scope y := e3
    rcases e3 with k | k | k
    · exact absurd (List.mem_of_getElem? e1) (L.own _ (PySem.mem_of_lookup k) rfl)
    · exact absurd rfl (L.cell _ (PySem.mem_of_lookup k))
    · obtain ⟨m, hn, hl⟩ := I.loc
      have hf := L.free _ (PySem.mem_of_lookup k) rfl
      obtain ⟨w', r, q⟩ := hl i y v e1 e2 (hf.elim (fun k => .inr (.inl k)) fun k => .inr (.inr k))
      obtain ⟨a2, e4⟩ := got k
      have e5 := sub e4
      refine ⟨w', r, .inr ⟨.inr k, a2, e4, ?_⟩⟩
      rcases q with ⟨k', _⟩ | ⟨_, a3, e', z⟩
      · have k' : X.env.scope.names.lookup y = some .local := k'
        rcases hf with k2 | k2 <;> (have k2 : X.env.scope.names.lookup y = _ := k2; rw [k2] at k'; cases k')
      · rw [e5] at e'
        cases e'
        exact ck (I.freeC y _ e5) z
  · intro y a e
    obtain ⟨w', z⟩ := I.cell y a (sub e)
    exact ⟨w', ck (I.freeC y a (sub e)) z⟩
  · exact e0.hok.fresh (Nat.le_refl _)
  · intro y a e
    obtain ⟨v, o, ho, hd⟩ := I.cell y a (sub e)
    exact un.free a o ho (I.freeC y a (sub e)) (by simp)
  · exact fun q hq => absurd (show q ∈ ([] : List (Addr × Obj)) ++ [] from hq) (by simp)
  · exact e0.hok.kept kp
  · exact I.len
/-- call() in the def that got it -/
theorem actD {T : Tb} {Hm : Hp} {CXg : CXT} {Eg : XK} {Ng : List Str} {qg : Str} {sg : Scope} {g f c' : Addr} {cdg : Value} {ps : Arguments} {body : Expr} {scope : Scope} {k i : Nat} {di : Int} {a y0 : Str} {pn : List (Addr × Obj)} {xe : Value → Shared → Prop} {W : WX} {E : XK} {tb : TE} {p1 p2 : Pos}
    (M : MadeD X T Hm ps body scope di f c' H s pins σ) (L : LamSD X.N X.env.scope scope) (hy0 : scope.names.lookup y0 = some .local)
    (hbind : ∀ (q : Str) (cl : List (Str × Addr)) (t0 : Addr) (doc pm cv ct : Value), ∃ k : Option (Array Value) → Sem (List (Str × Value)), bindArgs (PySem.W.kdv_fn "<lambda>" q ps (.expr body) scope cl (.ref t0) doc pm cv ct) ⟨[], []⟩ = seqItems? (.ref t0) >>= k ∧ ∀ v, k (some #[v]) = pure [(y0, v)])
    (tk : Takes ((cxOf CXg X.prog X.w X.K X.mg X.base Ng qg sg g cdg X.A X.stack s H Eg).tr pn xe) W) (hW : ∀ cls d σ' H', E cls d H' → W cls d σ' H') (hr : Room (k + 1) (X.A.deeper (envOfC qg sg s.heap.objs.size g cdg)))
    (hbody : ∀ (A : Around) (outer : List Env) (s : Shared) (H : Hp), Room k (A.deeper (lamEnv X scope s.heap.objs.size f c')) → PE (lamCx X A outer s H E scope f c') body tb)
    (hN : Ng[i]? = some a) (hv : Vis sg a) (hd : (a == ("__debug__" : Str)) = false := by decide) (hcd : (a == ("__classdict__" : Str)) = false := by decide) :
    PE ((cxOf CXg X.prog X.w X.K X.mg X.base Ng qg sg g cdg X.A X.stack s H Eg).tr pn xe) (.Call (.Name a p1) [] [] p2) (fun σZ HZ Q => σZ[i]? = some (some (.ref f)) ∧ HZ c' = some (CodeO c' (qL X)) ∧ tb σ HZ Q) := by
  obtain ⟨pm, ct, doc, t0, tk0, I, _, _, hf, ⟨hfn, hfr⟩, h0, ⟨n0, m0⟩, _⟩ := M
  refine ⟨fun pinsZ sZ σZ HZ Q IZ ⟨hs, hc, ht⟩ => ?_⟩
  refine wpAny_Call_Name_kw (thn ((pe_var (pos := p1) (i := i) hN hv hd hcd).run pinsZ sZ σZ HZ (fun v H1 => v = .ref f ∧ H1 = HZ) IZ ⟨.ref f, hs, rfl, rfl⟩) fun u s1 hh => ?_)
  obtain ⟨v, H1, I1, r1, rfl, rfl⟩ := hh
  obtain rfl : u = Value.ref f := r1
  have nil : ∀ z : Addr, z ∉ ([] : List Addr) := fun z => by simp
  have of1 := I1.base.keep f _ hf hfn hfr (nil f)
  have ot1 := I1.base.keep t0 _ h0 n0 m0 (nil t0)
  refine PySem.W.callWith_F0 ⟨_, _, _, _, of1⟩ ?_
  obtain ⟨⟨oc, vs, t, hoc, hdc, hvc⟩, _, _⟩ := I1.hok c' _ hc
  have rc : codeAny (model X.prog X.w) (X.A.deeper (envOfC qg sg s.heap.objs.size g cdg)) (.call (.ref f) ⟨[], []⟩) (CR (L2.CX X.prog X.w) (envOfC qg sg s.heap.objs.size g cdg :: X.stack) X.prog X.w H1 s1 Q E) s1 := by
    refine PySem.W.kla_callFunE hr.depth of1 rfl L.co L.gen rfl ⟨c', oc, vs, t, rfl, hoc, hdc, hvc⟩ ?_
    obtain ⟨kk, hb1, hb2⟩ := hbind (qL X) (clL X scope) t0 doc pm (.ref c') ct
    refine BindsTo.of_defaults (binds := [(y0, .int di tk0)]) (k := kk) rfl ot1 rfl hb1 (hb2 _) _ _ _ _ ?_
    refine wpAny_newFunctionEnv L.cell (fun z hz => by rw [List.mem_singleton.mp hz]; exact hy0) (fun h₁ hns hsb => ⟨I1.nolimit.fresh _ hsb, ?_⟩) L.kind
    show codeAny _ _ (.expr body (lamEnv X scope s1.heap.objs.size f c')) _ _
    have J := startD (A := X.A.deeper (envOfC qg sg s.heap.objs.size g cdg)) (outer := envOfC qg sg s.heap.objs.size g cdg :: X.stack) (E := E) (f := f) (c' := c') (tk := s1.toks + ([(y0, Value.int di tk0)] : List (Str × Value)).length) I L I1.env0 hr.hd I1.base hns
      (fun b o e => hsb.extBut b o (Nat.ne_of_lt (Heap.lt_size e)) (Heap.get?_push_of_some _ e))
    refine PySem.W.kla_codeExpr (wpAny_mono ((hbody _ _ s1 H1 (hr.deeper _)).run [] _ _ H1 Q J ht) (fun v s' ⟨w', H', J', rv, q⟩ => ⟨w', H', J'.os, J'.bare, J'.base, J'.hok, rv, q⟩) fun e s' hq => hq)
  refine wpAny_call (codeAny_mono rc fun r s' hq => ?_)
  cases r with
  | error e => exact passes_call tk hW pinsZ σZ H1 s1 e s' I1 hq
  | ok fl =>
    cases fl with
    | ret u => exact I1.after hq
    | next => exact False.elim hq
    | brk => exact False.elim hq
    | cont => exact False.elim hq
end
section
variable {X : Cx} {T : Tb} {W : WX}
/-- x(lambda y=0: body), x a def that calls it within a try -/
theorem d_lamD {x a y0 : Str} {g c P : Addr} {k j : Nat} {di : Int} {dp : Pos} {pg : Arguments} {bg : List Stmt} {sg : Scope} {dV kV doc pm cdv ct oc : Value} {an od : Option Addr} {osl : Array (Option Value)} {Ng : List Str} {es : Ex → Bool} {hn : HN} {hv : Oc → Option PD}
    {params : Arguments} {body : Expr} {scope : Scope} {fe : EV} {p lpos pos : Pos} (hg : Gl X x) (hm : X.mg x = some (.ref g)) (hk : PySem.W.keepIn X.K (.ref g) = true)
    (lk : X.K.lookup g = some ⟨oc, od, .func (PySem.W.fnOf x x pg bg sg dV kV doc pm an cdv ct), osl⟩) (hcg : PySem.W.codeIn X.K cdv x = true) (hb : L2.Binds X.K (PySem.W.fnOf x x pg bg sg dV kV doc pm an cdv ct) [a] []) (Sg : FnScope Ng [a] sg) (hNg : Ng[0]? = some a) (hva : Vis sg a)
    (hG : LamX.GivesTo X Ng x sg g cdv bg a (X.env.qual ++ "<lambda>") (TTH X.K X.mg T es hn)) (hhv : ∀ f a o y, hv o = some y → hn f a o = some y)
    (TB : LamX.TabB X.base X.mg c P) (hcode : X.env.code = .ref c) (hmT : (P, X.env.qual ++ "<lambda>") ∈ T) (hu : ∀ p ∈ T, p.1 = P → p.2 = X.env.qual ++ "<lambda>") (hr : Room (k + 2) X.A) (L : LamSD X.N X.env.scope scope) (hdef : params.defaults = [.Constant (.int di) j dp]) (hkw : params.kw_defaults = []) (hy0 : scope.names.lookup y0 = some .local)
    (hbind : ∀ (q : Str) (cl : List (Str × Addr)) (t0 : Addr) (doc pm cv ct : Value), ∃ k : Option (Array Value) → Sem (List (Str × Value)), bindArgs (PySem.W.kdv_fn "<lambda>" q params (.expr body) scope cl (.ref t0) doc pm cv ct) ⟨[], []⟩ = seqItems? (.ref t0) >>= k ∧ ∀ v, k (some #[v]) = pure [(y0, v)])
    (hbody : ∀ (A : Around) (outer : List Env) (s : Shared) (H : Hp) (E : XK) (f c' : Addr), Room k (A.deeper (LamX.lamEnv X scope s.heap.objs.size f c')) → PE (LamX.lamCx X A outer s H E scope f c') body (tD X.K X.mg T (fun cls d _ H => E cls d H) fe))
    (hdb : (x == ("__debug__" : Str)) = false := by decide) (hd : (a == ("__debug__" : Str)) = false := by decide) (hcd : (a == ("__classdict__" : Str)) = false := by decide) :
    PE X (.Call (.Name x p) [.Lambda params body scope lpos] [] pos) (tD X.K X.mg T W (eLam hv es fe)) := by
  have key : PE X (.Call (.Name x p) [.Lambda params body scope lpos] [] pos) (tLam T (TTH X.K X.mg T es hn) fun E => tD X.K X.mg T (fun cls d _ H => E cls d H) fe) := by
    refine ⟨fun pins s σ H Q I ⟨hT, h⟩ => ?_⟩
    refine wpAny_Call_Name_kw (ld_glob I hg hm ?_ hdb)
    refine PySem.W.callWith_K (h₀ := X.base) I.ok.mod.kin hk ?_ (by rfl) (by rfl)
    show wpAny _ _ (spliced ((false, eval (.Lambda params body scope lpos) X.env) :: backTo pos (starEach [] X.env))) _ _ s
    refine Calls.spliced_cons (makeD (T := T) (b := body) (sc := scope) I TB hcode hmT hu hT (L.has I.ok) hdef hkw fun f c' H1 s' M => ?_)
    have M' := M
    obtain ⟨_, _, _, _, _, I1, eN, T1, _, _, _, _, hco⟩ := M'
    refine Calls.spliced_nil ⟨I1.kIn, ?_⟩
    have rc : codeAny (model X.prog X.w) X.A (.call (.ref g) ⟨[.ref f], []⟩) (CR C8.CX0 X.stack X.prog X.w H1 s' Q C8.E0) s' := by
      refine run_ofS (N := Ng) (ps := [a]) (us := [.ref f]) (vs := [.ref f]) lk hcg Sg hr I1.env0 (hb s' [.ref f] I1.kIn rfl) (.cons rfl .nil) rfl fun hr' => ?_
      obtain ⟨t', ht', hq'⟩ := hG f c' s' H1 Q (fun E H' Q' => tD X.K X.mg T (fun cls d _ H => E cls d H) fe σ H' Q') (fun W pn xe E p1 p2 tk hW => actD (i := 0) M L hy0 hbind tk hW hr' (fun A outer s H hr2 => hbody A outer s H E f c' hr2) hNg hva hd hcd) hco (h H1 eN T1)
      exact ⟨t', ht'.nox, hq'⟩
    refine wpAny_call (codeAny_mono rc fun r s2 hq => ?_)
    cases r with
    | error e => exact (show False from hq).elim
    | ok fl =>
      cases fl with
      | ret u => exact I1.after hq
      | next => exact False.elim hq
      | brk => exact False.elim hq
      | cont => exact False.elim hq
  exact pe_imp key fun σ H Q h => lam_read hhv h
end
end DL
/-! The data layer, fourteenth part: lambdas over what the top has written. -/
namespace DL
open PySem PySem.Spec PyProof.Rows L2
theorem esN_mem {l : List Str} {e : Ex} (h : esN l e = true) : e.name ∈ l ∧ e.fs = [] := by
  unfold esN at h
  rw [Bool.and_eq_true] at h
  exact ⟨of_decide_eq_true h.1, List.isEmpty_iff.mp h.2⟩
theorem su_start {mg : Str → Option Value} {l : List Str} {e : Ex} {cls : Value} {d : Option Addr} (he : esN l e = true) (hx : ∃ H', ExOk mg e cls d H') : ∃ D, mg e.name = some (.ref D) ∧ cls = .ref D ∧ d = none := by
  obtain ⟨H', c, h1, h2, h3⟩ := hx
  rw [(esN_mem he).2] at h3
  exact ⟨c, h1, h2, h3⟩
theorem exm_mem {K : PySem.W.Frag} {mg : Str → Option Value} {l : List Str} {y : Str} {CE : Addr} (h : ∀ x ∈ l, ExmAt K mg x y) (hE : mg y = some (.ref CE)) : ∀ e, esN l e = true → ∀ c, mg e.name = some (.ref c) → PySem.W.exmOne K (.ref c) (.ref CE) = some true :=
  fun e he c hc => h e.name (esN_mem he).1 c CE hc hE
section
variable {X : Cx} {T : Tb} {W : WX}
theorem d_lamA {x a : Str} {st : Stmt} {c P : Addr} {k : Nat} {Ng : List Str} {es : Ex → Bool} {hn : HN} {hv : Oc → Option PD} {params : Arguments} {body : Expr} {scope : Scope} {fe : EV} {p lpos pos : Pos} (hH : FunAt X.K X.mg x st)
    (hb : ∀ (kV doc pm : Value) (an : Option Addr) (cdv ct : Value) (us : List Value), us.length = [a].length → bindArgs (PySem.W.fnOf x x (defArgs st) (defBody st) (defScope st) .none kV doc pm an cdv ct) ⟨us, []⟩ = pure ([a].zip us))
    (hg : Gl X x) (Sg : FnScope Ng [a] (defScope st)) (hNg : Ng[0]? = some a) (hva : Vis (defScope st) a) (hG : ∀ (g : Addr) (cdv : Value), LamX.GivesTo X Ng x (defScope st) g cdv (defBody st) a (X.env.qual ++ "<lambda>") (TTH X.K X.mg T es hn)) (hhv : ∀ f a o y, hv o = some y → hn f a o = some y)
    (TB : LamX.TabB X.base X.mg c P) (hcode : X.env.code = .ref c) (hmT : (P, X.env.qual ++ "<lambda>") ∈ T) (hu : ∀ p ∈ T, p.1 = P → p.2 = X.env.qual ++ "<lambda>") (hr : Room (k + 2) X.A) (L : LamX.LamS X.env.scope scope) (hdef : defaultsOf params X.env = ([], []))
    (hbind : ∀ (q : Str) (cl : List (Str × Addr)) (pm cv ctv : Value), bindArgs (PySem.W.kla_fn "<lambda>" q params body scope cl pm cv ctv) ⟨[], []⟩ = pure [])
    (hbody : ∀ (A : Around) (outer : List Env) (s : Shared) (H : Hp) (E : XK) (f c' : Addr), Room k (A.deeper (LamX.lamEnv X scope s.heap.objs.size f c')) → PE (LamX.lamCx X A outer s H E scope f c') body (tD X.K X.mg T (fun cls d _ H => E cls d H) fe))
    (hdb : (x == ("__debug__" : Str)) = false := by decide) (hd : (a == ("__debug__" : Str)) = false := by decide) (hcd : (a == ("__classdict__" : Str)) = false := by decide) :
    PE X (.Call (.Name x p) [.Lambda params body scope lpos] [] pos) (tD X.K X.mg T W (eLam hv es fe)) := by
  obtain ⟨g, fd, F, hm⟩ := hH
  have hk := F.kp
  have B := F.binds hb
  obtain ⟨oc, od, kV, doc, pm, an, cdv, ct, osl, rfl, lk, hcd'⟩ := F.ex
  exact d_lam hg hm hk lk hcd' B Sg hNg hva (hG g cdv) hhv TB hcode hmT hu hr L hdef hbind hbody hdb hd hcd
theorem d_lamDA {x a y0 : Str} {st : Stmt} {c P : Addr} {k j : Nat} {di : Int} {dp : Pos} {Ng : List Str} {es : Ex → Bool} {hn : HN} {hv : Oc → Option PD} {params : Arguments} {body : Expr} {scope : Scope} {fe : EV} {p lpos pos : Pos} (hH : FunAt X.K X.mg x st)
    (hb : ∀ (kV doc pm : Value) (an : Option Addr) (cdv ct : Value) (us : List Value), us.length = [a].length → bindArgs (PySem.W.fnOf x x (defArgs st) (defBody st) (defScope st) .none kV doc pm an cdv ct) ⟨us, []⟩ = pure ([a].zip us))
    (hg : Gl X x) (Sg : FnScope Ng [a] (defScope st)) (hNg : Ng[0]? = some a) (hva : Vis (defScope st) a) (hG : ∀ (g : Addr) (cdv : Value), LamX.GivesTo X Ng x (defScope st) g cdv (defBody st) a (X.env.qual ++ "<lambda>") (TTH X.K X.mg T es hn)) (hhv : ∀ f a o y, hv o = some y → hn f a o = some y)
    (TB : LamX.TabB X.base X.mg c P) (hcode : X.env.code = .ref c) (hmT : (P, X.env.qual ++ "<lambda>") ∈ T) (hu : ∀ p ∈ T, p.1 = P → p.2 = X.env.qual ++ "<lambda>") (hr : Room (k + 2) X.A) (L : LamSD X.N X.env.scope scope) (hdef : params.defaults = [.Constant (.int di) j dp]) (hkw : params.kw_defaults = []) (hy0 : scope.names.lookup y0 = some .local)
    (hbind : ∀ (q : Str) (cl : List (Str × Addr)) (t0 : Addr) (doc pm cv ct : Value), ∃ k : Option (Array Value) → Sem (List (Str × Value)), bindArgs (PySem.W.kdv_fn "<lambda>" q params (.expr body) scope cl (.ref t0) doc pm cv ct) ⟨[], []⟩ = seqItems? (.ref t0) >>= k ∧ ∀ v, k (some #[v]) = pure [(y0, v)])
    (hbody : ∀ (A : Around) (outer : List Env) (s : Shared) (H : Hp) (E : XK) (f c' : Addr), Room k (A.deeper (LamX.lamEnv X scope s.heap.objs.size f c')) → PE (LamX.lamCx X A outer s H E scope f c') body (tD X.K X.mg T (fun cls d _ H => E cls d H) fe))
    (hdb : (x == ("__debug__" : Str)) = false := by decide) (hd : (a == ("__debug__" : Str)) = false := by decide) (hcd : (a == ("__classdict__" : Str)) = false := by decide) :
    PE X (.Call (.Name x p) [.Lambda params body scope lpos] [] pos) (tD X.K X.mg T W (eLam hv es fe)) := by
  obtain ⟨g, fd, F, hm⟩ := hH
  have hk := F.kp
  have B := F.binds hb
  obtain ⟨oc, od, kV, doc, pm, an, cdv, ct, osl, rfl, lk, hcd'⟩ := F.ex
  exact d_lamD hg hm hk lk hcd' B Sg hNg hva (hG g cdv) hhv TB hcode hmT hu hr L hdef hkw hy0 hbind hbody hdb hd hcd
end
end DL
/-! The law itself as a maker of lambdas. -/
namespace DL
open PySem PySem.Spec PyProof.Rows L2
section
variable {P : Program} {w : World} {K : PySem.W.Frag} {mg : Str → Option Value} {base : Heap} {T : Tb} {x : Str} {st : Stmt} {N ps : List Str} {k n : Nat} {g : SV}
theorem d_funL {f c : Addr} {oc : Value} {od an : Option Addr} {osl : Array (Option Value)} {kV doc pm ct : Value} (lk : K.lookup f = some ⟨oc, od, .func (PySem.W.fnOf x x (defArgs st) (defBody st) (defScope st) .none kV doc pm an (.ref c) ct), osl⟩) (hcd : PySem.W.codeIn K (.ref c) x = true)
    (S : FnScope N ps (defScope st)) (hn : ps.length = n)
    (hbody : ∀ (A : Around) (outer : List Env) (s : Shared) (H : Hp) (E : XK), Room k (A.deeper (envOfC x (defScope st) s.heap.objs.size f (.ref c))) →
      PSs (cxOf (L2.CX P w) P w K mg base N x (defScope st) f (.ref c) A outer s H E) (defBody st) (tDS K mg T (fun cls d _ H => E cls d H) g)) :
    FnOk P w K mg base (L2.CX P w) (k + 1) f (PySem.W.fnOf x x (defArgs st) (defBody st) (defScope st) .none kV doc pm an (.ref c) ct) ps (spF K mg T n (runF N.length g)) :=
  fn_of lk hcd S (fun vs H Q E h => h.1.trans hn.symm) fun A outer s H vs Q E hr h => ⟨_, hbody A outer s H E hr, run_ok h⟩
end
end DL
/-! Comprehensions with two walks. -/
namespace DL
open PySem PySem.Spec PyProof.Rows L2
def compL2 (tg : RV → Rho → Option Rho) (tt : TV) (fi1 : IV) (tg1 : RV → Rho → Option Rho) (tt1 : TV) (te : EV) (vs vs1 : List Nat) (k : Nat) : List PD → Rho → Mu → Rs Unit
  | [], _, μ => .ok () μ
  | d :: r, ρ, μ => match tg (.dt d) (wipeR ρ vs) with
    | none => .no
    | some ρ1 => (tt ρ1 μ).noer.bind fun b μ1 => if b = true then (fi1 ρ1 μ1).noer.bind fun items μ2 => (compL tg1 tt1 te vs1 k items ρ1 μ2).noer.bind fun _ μ3 => compL2 tg tt fi1 tg1 tt1 te vs vs1 k r ρ μ3
      else compL2 tg tt fi1 tg1 tt1 te vs vs1 k r ρ μ1
def eComp2 (fi : IV) (tg : RV → Rho → Option Rho) (tt : TV) (fi1 : IV) (tg1 : RV → Rho → Option Rho) (tt1 : TV) (te : EV) (vs vs1 : List Nat) : EV := fun ρ μ => (fi ρ μ).bind fun items μ1 => (compL2 tg tt fi1 tg1 tt1 te vs vs1 μ1.length items ρ (μ1 ++ [.ls true []])).bind fun _ μ2 => .ok (.ob μ1.length) μ2
theorem Post.noer' {β : Type} {K : PySem.W.Frag} {mg : Str → Option Value} {W : WX} {T : Tb} {C : Ent} {ρ : Rho} {σ : L2.St} {G : Hp} {α : List Addr} {P : β → Mu → Hp → Hp → List Addr → Prop} {x : Rs β} (h : Post K mg T W C ρ σ G α P x.noer) : Post K mg T W0 C ρ σ G α P x := Post.noer h
/-- the inner walk, as data -/
theorem comp_inner {K : PySem.W.Frag} {mg : Str → Option Value} {T : Tb} {C : Ent} {ρ : Rho} {μ0 : Mu} {σ : L2.St} {H0 G : Hp} {α : List Addr} {tg : RV → Rho → Option Rho} {tt : TV} {te : EV} {vs L : List Nat} {k : Nat} {D : Addr} {items : List PD} {J : It} {Nx : Hp → Prop} (hL : ∀ i ∈ L, i ∈ vs)
    (R : Rl K T C ρ μ0 σ H0 G α) (hk : α[k]? = some D) (hJ : ItOk K G items J)
    (q : Post K mg T W0 C ρ σ G α (fun _ _ H' _ _ => Nx H') (compL tg tt te vs k items ρ μ0)) :
    ∃ W : Nat → Nat → Hp → Prop, (∃ m, W 0 m H0) ∧ ∀ i m H, W i m H →
      (J.stop i H ∧ Nx H) ∨ (J.go i H ∧ ∃ Nx1 : Hp → Prop, (∀ H', Nx1 H' → ∃ m', m' < m ∧ W (i + 1) m' H') ∧ ∀ x H', J.yld i H x H' → tDG K T L tg x (L2.wipe σ vs) H' fun σ3 H5 => L2.wipe σ3 vs = L2.wipe σ vs ∧ tDT K mg T W0 tt σ3 H5 fun b H6 =>
        if b = true then tD K mg T W0 te σ3 H6 fun y H7 => ∃ acc, H7 D = some (.lst acc) ∧ acc.length < sizeLine ∧ Nx1 (upd H7 D (.lst (acc ++ [y]))) else Nx1 H6) := by
  refine ⟨fun i m H => m = items.length - i ∧ i ≤ items.length ∧ ∃ μ G' α', Rl K T C ρ μ σ H G' α' ∧ Same G G' ∧ α <+: α' ∧
      Post K mg T W0 C ρ σ G' α' (fun _ _ H' _ _ => Nx H') (compL tg tt te vs k (items.drop i) ρ μ),
    ⟨items.length, by simp, Nat.zero_le _, μ0, G, α, R, Same.refl _, List.prefix_refl _, q⟩, ?_⟩
  rintro i m H2 ⟨rfl, hi, μ2, G2, α2, R2', s2, p2, q2⟩
  have hk2 : α2[k]? = some D := by
    obtain ⟨t, rfl⟩ := p2
    rw [List.getElem?_append_left (List.getElem?_eq_some_iff.mp hk).1]
    exact hk
  obtain ⟨j1, j2, j3⟩ := hJ i H2 G2 s2 R2'.sub
  by_cases hlt : i < items.length
  · refine .inr ⟨j1 hlt, fun H' => i + 1 ≤ items.length ∧ ∃ μ G' α', Rl K T C ρ μ σ H' G' α' ∧ Same G G' ∧ α <+: α' ∧
      Post K mg T W0 C ρ σ G' α' (fun _ _ H' _ _ => Nx H') (compL tg tt te vs k (items.drop (i + 1)) ρ μ), fun H' h => ⟨items.length - (i + 1), by omega, rfl, h⟩, fun x H3 hy => ?_⟩
    have hd : items[i]? = some items[i] := List.getElem?_eq_getElem hlt
    obtain ⟨G3, g3, r3⟩ := j3 _ hd x H3 hy
    have R3 := R2'.grow g3
    rw [List.drop_eq_getElem_cons hlt] at q2
    have q2 := q2.base g3.g (List.prefix_refl _)
    have q2 : Post K mg T W0 C ρ σ G3 α2 _ (match tg (.dt items[i]) (wipeR ρ vs) with
      | none => .no
      | some ρ1 => (tt ρ1 μ2).noer.bind fun b μ1' => if b = true then (te ρ1 μ1').noer.bind fun y μ2 => (frz y μ2).bind fun d μ3 => match snocAt k d μ3 with
          | some μ4 => compL tg tt te vs k (items.drop (i + 1)) ρ μ4
          | none => .no
        else compL tg tt te vs k (items.drop (i + 1)) ρ μ1') := q2
    cases et : tg (.dt items[i]) (wipeR ρ vs) with
    | none => rw [et] at q2; exact q2.elim
    | some ρ3 =>
      rw [et] at q2
      refine ⟨C, wipeR ρ vs, μ2, G3, α2, .dt items[i], ρ3, R3.wipe vs, r3, et, fun σ' R' hl hj => ⟨?_, ?_⟩⟩
      · have e1 : L2.wipe σ' vs = L2.wipe (L2.wipe σ vs) vs := wipe_ext vs hl fun j hjv => hj j fun z => hjv (hL j z)
        rw [e1]
        refine wipe_ext vs (wipe_length σ vs) fun j hj => wipe_out hj
      · refine comp_turn R3 R' hk2 q2 _ fun μ' H' G' α' R4 s4 p4 q4 => ?_
        exact ⟨hlt, μ', G', α', R4, (s2.trans g3.g).trans s4, p2.trans p4, q4⟩
  · have e : i = items.length := by omega
    subst e
    rw [List.drop_length] at q2
    exact .inl ⟨j2 rfl, q2 H2 G2 α2 R2' (Same.refl _) (List.prefix_refl _)⟩
/-- one turn of the outer walk, as data -/
theorem comp2_turn {K : PySem.W.Frag} {mg : Str → Option Value} {T : Tb} {W : WX} {C : Ent} {ρ ρ1 : Rho} {μ : Mu} {σ σ2 : L2.St} {H G : Hp} {α : List Addr} {tt : TV} {fi1 : IV} {tg1 : RV → Rho → Option Rho} {tt1 : TV} {te : EV} {vs1 L1 : List Nat} {k : Nat} {D : Addr} {P : Unit → Mu → Hp → Hp → List Addr → Prop} {K2 : Rho → Mu → Rs Unit} (hL1 : ∀ i ∈ L1, i ∈ vs1)
    (R : Rl K T C ρ μ σ H G α) (R2 : Rl K T C ρ1 μ σ2 H G α) (hk : α[k]? = some D)
    (q : Post K mg T W C ρ σ G α P ((tt ρ1 μ).noer.bind fun b μ1 => if b = true then (fi1 ρ1 μ1).noer.bind fun items μ2 => (compL tg1 tt1 te vs1 k items ρ1 μ2).noer.bind fun _ μ3 => K2 ρ μ3
      else K2 ρ μ1)) (Nx : Hp → Prop)
    (hNx : ∀ μ' H' G' α', Rl K T C ρ μ' σ H' G' α' → Same G G' → α <+: α' → Post K mg T W C ρ σ G' α' P (K2 ρ μ') → Nx H') :
    tDT K mg T W0 tt σ2 H fun b H3 => if b = true then tDI K mg T W0 fi1 σ2 H3 fun J1 H4 => ∃ W1 : Nat → Nat → Hp → Prop, (∃ m, W1 0 m H4) ∧ ∀ j k H, W1 j k H →
      (J1.stop j H ∧ Nx H) ∨ (J1.go j H ∧ ∃ Nx1 : Hp → Prop, (∀ H', Nx1 H' → ∃ k', k' < k ∧ W1 (j + 1) k' H') ∧ ∀ x H', J1.yld j H x H' → tDG K T L1 tg1 x (L2.wipe σ2 vs1) H' fun σ3 H5 => L2.wipe σ3 vs1 = L2.wipe σ2 vs1 ∧ tDT K mg T W0 tt1 σ3 H5 fun b H6 =>
        if b = true then tD K mg T W0 te σ3 H6 fun y H7 => ∃ acc, H7 D = some (.lst acc) ∧ acc.length < sizeLine ∧ Nx1 (upd H7 D (.lst (acc ++ [y]))) else Nx1 H6) else Nx H3 := by
  refine ⟨C, ρ1, μ, G, α, R2, ?_⟩
  refine Post.at (Post.bind q) (fun μ1 H1 G1 α1 R1 s p => R.back R1 s p) fun b μ1 H1 G1 α1 R1 s p h1 => ?_
  obtain ⟨Ro, _, _, q1⟩ := h1
  cases b with
  | false =>
    rw [if_neg Bool.false_ne_true] at q1 ⊢
    exact hNx μ1 H1 G1 α1 Ro s p q1
  | true =>
    rw [if_pos rfl] at q1 ⊢
    refine ⟨C, ρ1, μ1, G1, α1, R1, ?_⟩
    refine Post.at (Post.bind q1) (fun μ2 H2 G2 α2 R2' s2 p2 => Ro.back R2' s2 p2) fun items μ2 H2 G2 α2 R2' s2 p2 h2 J hJ => ?_
    obtain ⟨Ro2, _, _, q2⟩ := h2
    have hk2 : α2[k]? = some D := by
      obtain ⟨t, rfl⟩ := p.trans p2
      rw [List.getElem?_append_left (List.getElem?_eq_some_iff.mp hk).1]
      exact hk
    refine comp_inner hL1 R2' hk2 hJ ?_
    exact Post.at (Post.bind q2) (fun μ3 H3 G3 α3 R3' s3 p3 => Ro2.back R3' s3 p3) fun _ μ3 H3 G3 α3 R3' s3 p3 h3 => hNx μ3 H3 G3 α3 h3.1 ((s.trans s2).trans s3) ((p.trans p2).trans p3) h3.2.2.2
theorem comp2_read {K : PySem.W.Frag} {mg : Str → Option Value} {T : Tb} {W : WX} {C : Ent} {ρ : Rho} {μ : Mu} {σ : L2.St} {H G : Hp} {α : List Addr} {fi fi1 : IV} {tg tg1 : RV → Rho → Option Rho} {tt tt1 : TV} {te : EV} {vs L vs1 L1 : List Nat} {Q : VK} (hL : ∀ i ∈ L, i ∈ vs) (hL1 : ∀ i ∈ L1, i ∈ vs1) (R : Rl K T C ρ μ σ H G α)
    (q : Post K mg T W C ρ σ G α (fun r _ H' G' α' => ∀ v, RvOk K G' α' r v → Q v H') (eComp2 fi tg tt fi1 tg1 tt1 te vs vs1 ρ μ)) : tLc2 (tDI K mg T W fi) (tDG K T L tg) (tDT K mg T W0 tt) (tDI K mg T W0 fi1) (tDG K T L1 tg1) (tDT K mg T W0 tt1) (tD K mg T W0 te) vs vs1 σ H Q := by
  refine ⟨C, ρ, μ, G, α, R, (Post.bind q).mono fun items μ1 H1 G1 α1 _ _ _ h1 J hJ D hD => ?_⟩
  obtain ⟨R1, s1, p1, q1⟩ := h1
  have hg : G1 D = none := R1.sub.free hD
  have R2 : Rl K T C ρ (μ1 ++ [.ls true []]) σ (upd H1 D (.lst [])) G1 (α1 ++ [D]) := R1.alloc hD (m := .ls true []) ⟨hg, [], upd_same, .nil⟩ rfl
  have hk0 : (α1 ++ [D])[μ1.length]? = some D := by
    rw [← R1.al]
    exact get_last α1 D
  refine ⟨fun i m H => m = items.length - i ∧ i ≤ items.length ∧ ∃ μ G' α', Rl K T C ρ μ σ H G' α' ∧ Same G1 G' ∧ (α1 ++ [D]) <+: α' ∧
      Post K mg T W C ρ σ G' α' (fun r _ H' G' α' => ∀ v, RvOk K G' α' r v → Q v H') ((compL2 tg tt fi1 tg1 tt1 te vs vs1 μ1.length (items.drop i) ρ μ).bind fun _ μ2 => .ok (.ob μ1.length) μ2),
    ⟨items.length, by simp, Nat.zero_le _, μ1 ++ [.ls true []], G1, α1 ++ [D], R2, Same.refl _, List.prefix_refl _, q1.base (Same.refl _) (List.prefix_append _ _)⟩, ?_⟩
  rintro i m H2 ⟨rfl, hi, μ2, G2, α2, R2', s2, p2, q2⟩
  have hk2 : α2[μ1.length]? = some D := by
    obtain ⟨t, rfl⟩ := p2
    rw [List.getElem?_append_left (List.getElem?_eq_some_iff.mp hk0).1]
    exact hk0
  obtain ⟨j1, j2, j3⟩ := hJ i H2 G2 s2 R2'.sub
  by_cases hlt : i < items.length
  · refine .inr ⟨j1 hlt, fun H' => i + 1 ≤ items.length ∧ ∃ μ G' α', Rl K T C ρ μ σ H' G' α' ∧ Same G1 G' ∧ (α1 ++ [D]) <+: α' ∧
      Post K mg T W C ρ σ G' α' (fun r _ H' G' α' => ∀ v, RvOk K G' α' r v → Q v H') ((compL2 tg tt fi1 tg1 tt1 te vs vs1 μ1.length (items.drop (i + 1)) ρ μ).bind fun _ μ2 => .ok (.ob μ1.length) μ2), fun H' h => ⟨items.length - (i + 1), by omega, rfl, h⟩, fun x H3 hy => ?_⟩
    have hd : items[i]? = some items[i] := List.getElem?_eq_getElem hlt
    obtain ⟨G3, g3, r3⟩ := j3 _ hd x H3 hy
    have R3 := R2'.grow g3
    rw [List.drop_eq_getElem_cons hlt] at q2
    have q2 := q2.base g3.g (List.prefix_refl _)
    have q2 := Post.bind q2
    have q2 : Post K mg T W C ρ σ G3 α2 _ (match tg (.dt items[i]) (wipeR ρ vs) with
      | none => .no
      | some ρ1 => (tt ρ1 μ2).noer.bind fun b μ1' => if b = true then (fi1 ρ1 μ1').noer.bind fun its μ2 => (compL tg1 tt1 te vs1 μ1.length its ρ1 μ2).noer.bind fun _ μ3 => compL2 tg tt fi1 tg1 tt1 te vs vs1 μ1.length (items.drop (i + 1)) ρ μ3
        else compL2 tg tt fi1 tg1 tt1 te vs vs1 μ1.length (items.drop (i + 1)) ρ μ1') := q2
    cases et : tg (.dt items[i]) (wipeR ρ vs) with
    | none => rw [et] at q2; exact q2.elim
    | some ρ3 =>
      rw [et] at q2
      refine ⟨C, wipeR ρ vs, μ2, G3, α2, .dt items[i], ρ3, R3.wipe vs, r3, et, fun σ' R' hl hj => ⟨?_, ?_⟩⟩
      · have e1 : L2.wipe σ' vs = L2.wipe (L2.wipe σ vs) vs := wipe_ext vs hl fun j hjv => hj j fun z => hjv (hL j z)
        rw [e1]
        refine wipe_ext vs (wipe_length σ vs) fun j hj => wipe_out hj
      · refine comp2_turn (K2 := fun ρ μ => compL2 tg tt fi1 tg1 tt1 te vs vs1 μ1.length (items.drop (i + 1)) ρ μ) hL1 R3 R' hk2 q2 _ fun μ' H' G' α' R4 s4 p4 q4 => ?_
        refine ⟨hlt, μ', G', α', R4, (s2.trans g3.g).trans s4, p2.trans p4, ?_⟩
        cases ec : compL2 tg tt fi1 tg1 tt1 te vs vs1 μ1.length (items.drop (i + 1)) ρ μ' with
        | ok b μ5 =>
          have q4 : Post K mg T W C ρ σ G' α' _ (compL2 tg tt fi1 tg1 tt1 te vs vs1 μ1.length (items.drop (i + 1)) ρ μ') := q4
          rw [ec] at q4
          show Post K mg T W C ρ σ G' α' _ (Rs.ok (RV.ob μ1.length) μ5 : Rs RV)
          intro H5 G5 α5 R5 s5 p5
          obtain ⟨_, _, _, z⟩ := q4 H5 G5 α5 R5 s5 p5
          exact z H5 G5 α5 R5 (Same.refl _) (List.prefix_refl _)
        | er e μ5 =>
          have q4 : Post K mg T W C ρ σ G' α' _ (compL2 tg tt fi1 tg1 tt1 te vs vs1 μ1.length (items.drop (i + 1)) ρ μ') := q4
          rw [ec] at q4; exact q4
        | no =>
          have q4 : Post K mg T W C ρ σ G' α' _ (compL2 tg tt fi1 tg1 tt1 te vs vs1 μ1.length (items.drop (i + 1)) ρ μ') := q4
          rw [ec] at q4; exact q4
  · have e : i = items.length := by omega
    subst e
    rw [List.drop_length] at q2
    exact .inl ⟨j2 rfl, q2 H2 G2 α2 R2' (Same.refl _) (List.prefix_refl _) _ ⟨D, hk2, rfl⟩⟩
section
variable {X : Cx} {T : Tb} {W : WX}
theorem d_comp2 {elt tg iter tg1 iter1 : Expr} {ifs ifs1 : List Expr} {scope : Scope} {own : List (Str × Nat)} {pos : Pos} {fi fi1 : IV} {L L1 vs1 : List Nat} {t t1 : RV → Rho → Option Rho} {tt tt1 : TV} {te : EV} (hc : X.calm = true) (hN : X.N.Nodup) (hi : PI X tg iter (tDI X.K X.mg T W fi)) (ok : BlkOk X.N X.env.scope scope own)
    (hg : ∀ (s : Shared) (H : Hp) (C : Addr) (cl : List (Str × Addr)) (fp : List Addr), PG (X.blk s H scope (compEnvC scope cl C X.env) fp) tg (tDG X.K T L t)) (ht : ∀ (s : Shared) (H : Hp) (C : Addr) (cl : List (Str × Addr)) (fp : List Addr), PTs (X.blk s H scope (compEnvC scope cl C X.env) fp) ifs (tDT X.K X.mg T W0 tt))
    (hi1 : ∀ (s : Shared) (H : Hp) (C : Addr) (cl : List (Str × Addr)) (fp : List Addr), PI (X.blk s H scope (compEnvC scope cl C X.env) fp) tg1 iter1 (tDI X.K X.mg T W0 fi1))
    (hg1 : ∀ (s : Shared) (H : Hp) (C : Addr) (cl : List (Str × Addr)) (fp : List Addr), PG (X.blk s H scope (compEnvC scope cl C X.env) fp) tg1 (tDG X.K T L1 t1)) (ht1 : ∀ (s : Shared) (H : Hp) (C : Addr) (cl : List (Str × Addr)) (fp : List Addr), PTs (X.blk s H scope (compEnvC scope cl C X.env) fp) ifs1 (tDT X.K X.mg T W0 tt1))
    (he : ∀ (s : Shared) (H : Hp) (C : Addr) (cl : List (Str × Addr)) (fp : List Addr), PE (X.blk s H scope (compEnvC scope cl C X.env) fp) elt (tD X.K X.mg T W0 te)) (hs : ∀ x, foldedSetIterable iter X.env x = pure x := by intro _; rfl) (hs1 : ∀ env x, foldedSetIterable iter1 env x = pure x := by intro _ _; rfl) (hv : ∀ i ∈ vs1, i ∈ own.map (·.2) := by decide) (hL : ∀ i ∈ L, i ∈ own.map (·.2) := by decide) (hL1 : ∀ i ∈ L1, i ∈ vs1 := by decide) :
    PE X (.ListComp elt [⟨tg, iter, ifs, 0⟩, ⟨tg1, iter1, ifs1, 0⟩] scope pos) (tD X.K X.mg T W (eComp2 fi t tt fi1 t1 tt1 te (own.map (·.2)) vs1)) :=
  pe_imp (pe_lc2 hc hN hi ok hv hg ht hi1 hg1 ht1 he hs hs1) fun σ H Q ⟨C, ρ, μ, G, α, R, q⟩ => comp2_read hL hL1 R q
theorem d_setComp2 {i : Nat} {y : Str} {py : Pos} {elt tg iter tg1 iter1 : Expr} {ifs ifs1 : List Expr} {scope : Scope} {own : List (Str × Nat)} {pos spos : Pos} {fi fi1 : IV} {L L1 vs1 : List Nat} {t t1 : RV → Rho → Option Rho} {tt tt1 : TV} {te : EV} (hc : X.calm = true) (hN : X.N.Nodup) (hy : X.N[i]? = some y) (hyl : X.env.scope.names.lookup y = some .local)
    (hsw : swapsWith (.ListComp elt [⟨tg, iter, ifs, 0⟩, ⟨tg1, iter1, ifs1, 0⟩] scope pos) (some (.Name y py)) spos.line X.env = pure true) (hi : PI X tg iter (tDI X.K X.mg T W fi)) (ok : BlkOk X.N X.env.scope scope own)
    (hg : ∀ (s : Shared) (H : Hp) (C : Addr) (cl : List (Str × Addr)) (fp : List Addr), PG (X.blk s H scope (compEnvC scope cl C X.env) fp) tg (tDG X.K T L t)) (ht : ∀ (s : Shared) (H : Hp) (C : Addr) (cl : List (Str × Addr)) (fp : List Addr), PTs (X.blk s H scope (compEnvC scope cl C X.env) fp) ifs (tDT X.K X.mg T W0 tt))
    (hi1 : ∀ (s : Shared) (H : Hp) (C : Addr) (cl : List (Str × Addr)) (fp : List Addr), PI (X.blk s H scope (compEnvC scope cl C X.env) fp) tg1 iter1 (tDI X.K X.mg T W0 fi1))
    (hg1 : ∀ (s : Shared) (H : Hp) (C : Addr) (cl : List (Str × Addr)) (fp : List Addr), PG (X.blk s H scope (compEnvC scope cl C X.env) fp) tg1 (tDG X.K T L1 t1)) (ht1 : ∀ (s : Shared) (H : Hp) (C : Addr) (cl : List (Str × Addr)) (fp : List Addr), PTs (X.blk s H scope (compEnvC scope cl C X.env) fp) ifs1 (tDT X.K X.mg T W0 tt1))
    (he : ∀ (s : Shared) (H : Hp) (C : Addr) (cl : List (Str × Addr)) (fp : List Addr), PE (X.blk s H scope (compEnvC scope cl C X.env) fp) elt (tD X.K X.mg T W0 te)) (hs : ∀ x, foldedSetIterable iter X.env x = pure x := by intro _; rfl) (hs1 : ∀ env x, foldedSetIterable iter1 env x = pure x := by intro _ _; rfl) (hv : ∀ i ∈ vs1, i ∈ own.map (·.2) := by decide) (hL : ∀ i ∈ L, i ∈ own.map (·.2) := by decide) (hL1 : ∀ i ∈ L1, i ∈ vs1 := by decide) :
    PS X (.Assign [.Name y py] (.ListComp elt [⟨tg, iter, ifs, 0⟩, ⟨tg1, iter1, ifs1, 0⟩] scope pos) spos) (tDS X.K X.mg T W (sSet i (eComp2 fi t tt fi1 t1 tt1 te (own.map (·.2)) vs1))) :=
  ps_imp (ps_setLc2 hc hN hy hyl hsw hi ok hv hg ht hi1 hg1 ht1 he hs hs1) fun D σ H ⟨C, ρ, μ, G, α, R, q⟩ =>
    comp2_read hL hL1 R ((Rs.post q).mono fun r μ1 H1 G1 α1 _ _ _ h1 v hv => h1.2.2 _ H1 G1 α1 (h1.1.set hv) (Same.refl _))
end
end DL
/-! The data layer, last part: what the top has written of classes. -/
namespace DL
open PySem PySem.Spec PyProof.Rows L2
section
variable {K : PySem.W.Frag} {mg : Str → Option Value} {h : Heap} {x y : Str} {C D : Addr}
theorem ExcAt.mk (X : K.In h) (G : h.Ns mainGlobals mg) (a : PySem.W.nsIn K mainGlobals x = some (some (.ref C))) (e : ExcC K C) : ExcAt K mg x := fun D hD => by
  cases hD.symm.trans (PySem.W.mg_of X G a)
  exact e
theorem IsAt.mk {b : Bool} (X : K.In h) (G : h.Ns mainGlobals mg) (a : PySem.W.nsIn K mainGlobals x = some (some (.ref C))) (a2 : PySem.W.nsIn K mainGlobals y = some (some (.ref D))) (e : PySem.W.kitOne K (.ref C) (.ref D) = some b) : IsAt K mg x y b := fun D' E' hD hE => by
  cases hD.symm.trans (PySem.W.mg_of X G a)
  cases hE.symm.trans (PySem.W.mg_of X G a2)
  exact e
theorem IsTyAt.mk {b : Bool} {ty : String} (X : K.In h) (G : h.Ns mainGlobals mg) (a : PySem.W.nsIn K mainGlobals x = some (some (.ref C))) (e : PySem.W.kitOne K (.ref C) (.type ty) = some b) : IsTyAt K mg x ty b := fun D' hD => by
  cases hD.symm.trans (PySem.W.mg_of X G a)
  exact e
theorem ExmAt.mk (X : K.In h) (G : h.Ns mainGlobals mg) (a : PySem.W.nsIn K mainGlobals x = some (some (.ref C))) (a2 : PySem.W.nsIn K mainGlobals y = some (some (.ref D))) (e : PySem.W.exmOne K (.ref C) (.ref D) = some true) : ExmAt K mg x y := fun D' E' hD hE => by
  cases hD.symm.trans (PySem.W.mg_of X G a)
  cases hE.symm.trans (PySem.W.mg_of X G a2)
  exact e
end
theorem cx_none {P : Program} : ∀ (w : World) (H : Hp) (s : Shared) (e : Value) (s' : Shared), L2.CX P w [] H s (fun _ _ _ => False) e s' → False := fun w H s e s' ⟨_, _, _, _, _, _, _, _, _, _, _, _, z⟩ => z
end DL
/-! The data layer, for plain laws: the evaluators' rules, one by one, and a tactic that goes by them. -/
namespace DL
open PySem PySem.Spec PyProof.Rows L2
section
variable {ρ ρ1 ρ2 : Rho} {μ μ1 μ2 μ3 : Mu} {f fa fb fc fo : EV} {fs : AV} {d x y z : PD} {r ra rb rc ro : RV} {rs rs' : List RV} {ds es : List PD} {o : Out} {R : Rs RV} {i j n k : Nat} {b c : Bool}
theorem r_C : eC d ρ μ = .ok (.dt d) μ := rfl
theorem r_V (h : ρ[i]? = some (some r)) : eV i ρ μ = .ok r μ := by unfold eV; rw [h]
theorem r_1 {g : PD → Option Out} (ha : fa ρ μ = .ok ra μ1) (hx : look μ1 ra = some x) (hg : g x = some o) (hf : fin (some o) μ1 = R) : e1 g fa ρ μ = R := by
  unfold e1; rw [ha]; show (match look μ1 ra with | some x => fin (g x) μ1 | _ => Rs.no) = R; rw [hx]; show fin (g x) μ1 = R; rw [hg]; exact hf
theorem r_2 {g : PD → PD → Option Out} (ha : fa ρ μ = .ok ra μ1) (hb : fb ρ μ1 = .ok rb μ2) (hx : look μ2 ra = some x) (hy : look μ2 rb = some y) (hg : g x y = some o) (hf : fin (some o) μ2 = R) : e2 g fa fb ρ μ = R := by
  unfold e2; rw [ha]; show (fb ρ μ1).bind _ = R; rw [hb]; show (match look μ2 ra, look μ2 rb with | some x, some y => fin (g x y) μ2 | _, _ => Rs.no) = R; rw [hx, hy]; show fin (g x y) μ2 = R; rw [hg]; exact hf
theorem r_aN : aN ρ μ = .ok [] μ := rfl
theorem r_aC (ha : fa ρ μ = .ok r μ1) (hs : fs ρ μ1 = .ok rs μ2) : aC fa fs ρ μ = .ok (r :: rs) μ2 := by unfold aC; rw [ha]; show (fs ρ μ1).bind _ = _; rw [hs]; rfl
theorem r_Call {g : List PD → Option Out} (hs : fs ρ μ = .ok rs μ1) (hl : looks μ1 rs = some ds) (hg : g ds = some o) (hf : fin (some o) μ1 = R) : eCall g fs ρ μ = R := by
  unfold eCall; rw [hs]; show (match looks μ1 rs with | some ds => fin (g ds) μ1 | none => Rs.no) = R; rw [hl]; show fin (g ds) μ1 = R; rw [hg]; exact hf
theorem r_Tup (hs : fs ρ μ = .ok rs μ1) (hz : frzs rs μ1 = .ok ds μ2) (hl : line ds.length = true) : eTup fs ρ μ = .ok (.dt (.tuple ds)) μ2 := by
  unfold eTup; rw [hs]; show (frzs rs μ1).bind _ = _; rw [hz]; exact if_pos hl
theorem r_Lst (hs : fs ρ μ = .ok rs μ1) (hz : frzs rs μ1 = .ok ds μ2) (hl : line ds.length = true) : eLst fs ρ μ = .ok (.ob μ2.length) (μ2 ++ [.ls true ds]) := by
  unfold eLst; rw [hs]; show (frzs rs μ1).bind _ = _; rw [hz]; exact if_pos hl
theorem r_o0 : oE none ρ μ = .ok none μ := rfl
theorem r_o1 {i : Int} (h : f ρ μ = .ok (.dt (.int i)) μ1) : oE (some f) ρ μ = .ok (some i) μ1 := by unfold oE; show (f ρ μ).bind _ = _; rw [h]; rfl
theorem r_Sl {g : PD → Option Int → Option Int → Option Out} {lo hi : Option EV} {l u : Option Int} (ha : fa ρ μ = .ok ra μ1) (hl : oE lo ρ μ1 = .ok l μ2) (hh : oE hi ρ μ2 = .ok u μ3) (hx : look μ3 ra = some x) (hg : g x l u = some o) (hf : fin (some o) μ3 = R) : eSl g fa lo hi ρ μ = R := by
  unfold eSl; rw [ha]; show (oE lo ρ μ1).bind _ = R; rw [hl]; show (oE hi ρ μ2).bind _ = R; rw [hh]; show (match look μ3 ra with | some x => fin (g x l u) μ3 | none => Rs.no) = R; rw [hx]; show fin (g x l u) μ3 = R; rw [hg]; exact hf
theorem r_RevL (ha : fa ρ μ = .ok ra μ1) (hx : look μ1 ra = some (.list ds)) (hf : fin (some (.nls ds.reverse)) μ1 = R) : eRevL fa ρ μ = R := by
  unfold eRevL; rw [ha]; show (match look μ1 ra with | some (.list ds) => fin (some (.nls ds.reverse)) μ1 | _ => Rs.no) = R; rw [hx]; exact hf
theorem r_MtT {t : Ty} {g : PD → List PD → Option Out} (ho : fo ρ μ = .ok ro μ1) (ht : (look μ1 ro).map tyOf = some t) (hs : fs ρ μ1 = .ok rs μ2) (hx : look μ2 ro = some x) (hl : looks μ2 rs = some ds) (hg : g x ds = some o) (hf : fin (some o) μ2 = R) : eMtT t g fo fs ρ μ = R := by
  unfold eMtT; rw [ho]; show (if (look μ1 ro).map tyOf = some t then _ else _) = R; rw [if_pos ht, hs]; show (match look μ2 ro, looks μ2 rs with | some x, some ds => fin (g x ds) μ2 | _, _ => Rs.no) = R; rw [hx, hl]; show fin (g x ds) μ2 = R; rw [hg]; exact hf
theorem r_MtT0 {t : Ty} {g : PD → List PD → Option Out} (ho : fo ρ μ = .ok ro μ1) (hx : look μ1 ro = some x) (ht : tyOf x = t) (hg : g x [] = some o) (hf : fin (some o) μ1 = R) : eMtT0 t g fo ρ μ = R := by
  unfold eMtT0; rw [ho]; show (match look μ1 ro with | some x => if tyOf x = t then fin (g x []) μ1 else .no | none => Rs.no) = R; rw [hx]; show (if tyOf x = t then _ else _) = R; rw [if_pos ht, hg]; exact hf
theorem r_mf {g : List PD → List PD → Option (PD × List PD)} {w : Bool} {ds' : List PD} (h1 : obAt μ ro = some (k, w, ds)) (h2 : g ds es = some (d, ds')) : mutFin g ro es μ = .ok (.dt d) (μ.set k (.ls w ds')) := by
  unfold mutFin; rw [h1]; show (match g ds es with | some (d, ds') => Rs.ok (RV.dt d) (μ.set k (.ls w ds')) | none => Rs.no) = _; rw [h2]
theorem r_Mut {g : List PD → List PD → Option (PD × List PD)} {p : Nat × Bool × List PD} {w : Bool} {ds' : List PD} (ho : fo ρ μ = .ok ro μ1) (hp : obAt μ1 ro = some p) (hs : fs ρ μ1 = .ok rs μ2) (hz : frzs rs μ2 = .ok es μ3) (h1 : obAt μ3 ro = some (k, w, ds)) (h2 : g ds es = some (d, ds')) : eMut g fo fs ρ μ = .ok (.dt d) (μ3.set k (.ls w ds')) := by
  unfold eMut; rw [ho]; show (match obAt μ1 ro with | some _ => (fs ρ μ1).bind (fun as μ2 => (frzs as μ2).bind fun es μ3 => mutFin g ro es μ3) | none => Rs.no) = _; rw [hp]; show (fs ρ μ1).bind _ = _; rw [hs]; show (frzs rs μ2).bind _ = _; rw [hz]; exact r_mf h1 h2
theorem r_Mut0 {g : List PD → List PD → Option (PD × List PD)} {w : Bool} {ds' : List PD} (ho : fo ρ μ = .ok ro μ1) (h1 : obAt μ1 ro = some (k, w, ds)) (h2 : g ds [] = some (d, ds')) : eMut0 g fo ρ μ = .ok (.dt d) (μ1.set k (.ls w ds')) := by
  unfold eMut0; rw [ho]; exact r_mf h1 h2
/-- what a call's end is for the caller -/
def defR (ks : List Nat) (μ : Mu) : Rf → Rs RV
  | .ok (.d d) ms => .ok (.dt d) (giveBack ks ms μ)
  | .ok (.o m) ms => .ok (.ob μ.length) (giveBack ks ms μ ++ [m])
  | .er e ms => .er e (giveBack ks ms μ)
  | .no => .no
theorem r_Def {F : FV} {bs : List Bool} {as : List Arg} {ks : List Nat} {rf : Rf} (hs : fs ρ μ = .ok rs μ1) (hn : rs.length = n) (hz : frzM bs rs μ1 = .ok rs' μ2) (hl : lend μ2 rs' = some (as, ks)) (hd : ks.Nodup) (hF : F as = rf) (hR : defR ks μ2 rf = R) : eDef F bs n fs ρ μ = R := by
  unfold eDef; rw [hs]; show (if rs.length = n then _ else _) = R; rw [if_pos hn, hz]; show callFin F μ2 (lend μ2 rs') = R; rw [hl]; show (if ks.Nodup then _ else _) = R; rw [if_pos hd, hF, ← hR]; cases rf with
  | ok r ms => cases r <;> rfl
  | _ => rfl
theorem r_tOf (h : f ρ μ = .ok r μ1) (hb : boolOf (look μ1 r) = some b) : tOf f ρ μ = .ok b μ1 := by unfold tOf; rw [h]; show (match boolOf (look μ1 r) with | some b => Rs.ok b μ1 | none => Rs.no) = _; rw [hb]
theorem r_tAnd {f g : TV} {R : Rs Bool} (hf : f ρ μ = .ok c μ1) (h : (if c = true then g ρ μ1 else .ok false μ1) = R) : tAndD f g ρ μ = R := by unfold tAndD; rw [hf]; exact h
theorem r_tOr {f g : TV} {R : Rs Bool} (hf : f ρ μ = .ok c μ1) (h : (if c = true then .ok true μ1 else g ρ μ1) = R) : tOrD f g ρ μ = R := by unfold tOrD; rw [hf]; exact h
theorem r_tNot {f : TV} (hf : f ρ μ = .ok c μ1) : tNotD f ρ μ = .ok (!c) μ1 := by unfold tNotD; rw [hf]; rfl
theorem r_tYes : tYesD ρ μ = .ok true μ := rfl
theorem r_If {t : TV} {f g : EV} (ht : t ρ μ = .ok c μ1) (h : (if c = true then f ρ μ1 else g ρ μ1) = R) : eIf t f g ρ μ = R := by unfold eIf; rw [ht]; exact h
theorem r_And {f g : EV} (hf : f ρ μ = .ok r μ1) (hb : boolOf (look μ1 r) = some b) (h : (if b = true then g ρ μ1 else .ok (.dt (.bool false)) μ1) = R) : eAnd f g ρ μ = R := by
  unfold eAnd; rw [hf]; show (match boolOf (look μ1 r) with | some true => g ρ μ1 | some false => Rs.ok (.dt (.bool false)) μ1 | none => Rs.no) = R; rw [hb]; cases b <;> exact h
theorem r_Or {f g : EV} (hf : f ρ μ = .ok r μ1) (hb : boolOf (look μ1 r) = some b) (h : (if b = true then .ok (.dt (.bool true)) μ1 else g ρ μ1) = R) : eOr f g ρ μ = R := by
  unfold eOr; rw [hf]; show (match boolOf (look μ1 r) with | some false => g ρ μ1 | some true => Rs.ok (.dt (.bool true)) μ1 | none => Rs.no) = R; rw [hb]; cases b <;> exact h
theorem r_Not {f : EV} (hf : f ρ μ = .ok r μ1) (hb : boolOf (look μ1 r) = some b) : eNot f ρ μ = .ok (.dt (.bool (!b))) μ1 := by
  unfold eNot; rw [hf]; show (match boolOf (look μ1 r) with | some b => Rs.ok (RV.dt (.bool (!b))) μ1 | none => Rs.no) = _; rw [hb]
def chK (g' : PD → PD → Option Out) (fc : EV) (rb : RV) (ρ : Rho) (μ2 : Mu) : Rs RV := (fc ρ μ2).bind fun rc μ3 => match look μ3 rb, look μ3 rc with
  | some y', some z => fin (g' y' z) μ3
  | _, _ => .no
theorem r_chK {g' : PD → PD → Option Out} (hc : fc ρ μ = .ok rc μ1) (hy : look μ1 rb = some y) (hz : look μ1 rc = some z) (hg : g' y z = some o) (hf : fin (some o) μ1 = R) : chK g' fc rb ρ μ = R := by
  unfold chK; rw [hc]; show (match look μ1 rb, look μ1 rc with | some y', some z => fin (g' y' z) μ1 | _, _ => Rs.no) = R; rw [hy, hz]; show fin (g' y z) μ1 = R; rw [hg]; exact hf
theorem r_Chain {g g' : PD → PD → Option Out} (ha : fa ρ μ = .ok ra μ1) (hb : fb ρ μ1 = .ok rb μ2) (hx : look μ2 ra = some x) (hy : look μ2 rb = some y) (hg : g x y = some (.val (.bool b))) (h : (if b = true then chK g' fc rb ρ μ2 else .ok (.dt (.bool false)) μ2) = R) : eChain g g' fa fb fc ρ μ = R := by
  unfold eChain; rw [ha]; show (fb ρ μ1).bind _ = R; rw [hb]
  show (match look μ2 ra, look μ2 rb with | some x, some y => (match g x y with | some (.val (.bool true)) => chK g' fc rb ρ μ2 | some (.val (.bool false)) => Rs.ok (.dt (.bool false)) μ2 | _ => Rs.no) | _, _ => Rs.no) = R
  rw [hx, hy]; show (match g x y with | some (.val (.bool true)) => chK g' fc rb ρ μ2 | some (.val (.bool false)) => Rs.ok (.dt (.bool false)) μ2 | _ => Rs.no) = R; rw [hg]; cases b <;> exact h
theorem r_Lam {hv : Oc → Option PD} {es : Ex → Bool} {fe : EV} (h : fe ρ μ = .ok (.dt d) μ1) (hh : hv (.ok d) = some x) : eLam hv es fe ρ μ = .ok (.dt x) μ1 := by unfold eLam; rw [h]; show hvR (hv (.ok d)) μ1 = _; rw [hh]; rfl
theorem r_LamE {hv : Oc → Option PD} {es : Ex → Bool} {fe : EV} {e : Ex} (h : fe ρ μ = .er e μ1) (he : es e = true) (hh : hv (.er e) = some x) : eLam hv es fe ρ μ = .ok (.dt x) μ1 := by unfold eLam; rw [h]; show (if es e = true then hvR (hv (.er e)) μ1 else .no) = _; rw [if_pos he, hh]; rfl
theorem r_F (ha : fa ρ μ = .ok r μ1) (hz : frz r μ1 = .ok d μ2) : eF fa ρ μ = .ok (.dt d) μ2 := by unfold eF; rw [ha]; show (frz r μ1).bind _ = _; rw [hz]; rfl
theorem r_FE {e : Ex} (ha : fa ρ μ = .er e μ1) : eF fa ρ μ = .er e μ1 := by unfold eF; rw [ha]; rfl
theorem r_isE {a : Addr} (h : ρ[i]? = some (some (.un (.ref a)))) : eIsE i a b ρ μ = .ok (.dt (.bool b)) μ := by unfold eIsE; rw [h]; exact if_pos rfl
end
section
variable {ρ ρ1 ρ2 : Rho} {μ μ1 μ2 μ3 μ4 μ5 : Mu} {f fo fi fe : EV} {fs : AV} {d x y z : PD} {r rv ro ri : RV} {rs : List RV} {ds items : List PD} {S s : So} {g h : SV} {i j n : Nat} {b c : Bool}
def seqK (h : SV) : So → So
  | .nx ρ μ => h ρ μ
  | x => x
theorem r_Seq (hg : g ρ μ = s) (hs : seqK h s = S) : sSeq g h ρ μ = S := by unfold sSeq; rw [hg, ← hs]; cases s <;> rfl
theorem r_nx (hh : h ρ μ = S) : seqK h (.nx ρ μ) = S := hh
theorem r_rt : seqK h (.rt r μ) = .rt r μ := rfl
theorem r_er {e : Ex} : seqK h (.er e ρ μ) = .er e ρ μ := rfl
theorem r_bk : seqK h (.bk ρ μ) = .bk ρ μ := rfl
theorem r_ct : seqK h (.ct ρ μ) = .ct ρ μ := rfl
theorem r_Next : sNext ρ μ = .nx ρ μ := rfl
theorem r_RetN : sRetN ρ μ = .rt (.dt .none) μ := rfl
theorem r_Brk : sBrk ρ μ = .bk ρ μ := rfl
theorem r_Cnt : sCnt ρ μ = .ct ρ μ := rfl
theorem r_Raise {x : Str} : sRaise x ρ μ = .er ⟨x, []⟩ ρ μ := rfl
theorem r_Drop (hf : f ρ μ = .ok r μ1) : sDrop f ρ μ = .nx ρ μ1 := by unfold sDrop; rw [hf]; rfl
theorem r_DropE {e : Ex} (hf : f ρ μ = .er e μ1) : sDrop f ρ μ = .er e ρ μ1 := by unfold sDrop; rw [hf]; rfl
theorem r_Set (hf : f ρ μ = .ok r μ1) : sSet i f ρ μ = .nx (ρ.set i (some r)) μ1 := by unfold sSet; rw [hf]; rfl
theorem r_Ret (hf : f ρ μ = .ok r μ1) : sRet f ρ μ = .rt r μ1 := by unfold sRet; rw [hf]; rfl
theorem r_sIf {t : TV} (ht : t ρ μ = .ok c μ1) (hh : (if c = true then g ρ μ1 else h ρ μ1) = S) : sIf t g h ρ μ = S := by unfold sIf; rw [ht]; exact hh
theorem r_Par {a b : RV} (hs : fs ρ μ = .ok [a, b] μ1) : sPar i j fs ρ μ = .nx ((ρ.set i (some a)).set j (some b)) μ1 := by unfold sPar; rw [hs]; rfl
theorem r_Asg {tg : RV → Rho → Option Rho} (hf : f ρ μ = .ok r μ1) (ht : tg r ρ = some ρ1) : sAsg f tg ρ μ = .nx ρ1 μ1 := by unfold sAsg; rw [hf]; show (match tg r ρ with | some ρ' => So.nx ρ' μ1 | none => So.no) = _; rw [ht]
theorem r_Store (he : fe ρ μ = .ok rv μ1) (ho : fo ρ μ1 = .ok ro μ2) (hi : fi ρ μ2 = .ok ri μ3) (hz : frz rv μ3 = .ok d μ4) (hs : storeAt ro ri d μ4 = some μ5) : sStore fo fi fe ρ μ = .nx ρ μ5 := by
  unfold sStore; rw [he]; show (fo ρ μ1).st ρ _ = _; rw [ho]; show (fi ρ μ2).st ρ _ = _; rw [hi]; show (frz rv μ3).st ρ _ = _; rw [hz]; show (match storeAt ro ri d μ4 with | some μ5 => So.nx ρ μ5 | none => So.no) = _; rw [hs]
theorem r_For {fi : IV} {tg : RV → Rho → Option Rho} (hi : fi ρ μ = .ok items μ1) (hl : forL tg g items ρ μ1 = S) : sFor fi tg g ρ μ = S := by unfold sFor; rw [hi]; exact hl
theorem r_E (hf : f ρ μ = .ok r μ1) (hz : frz r μ1 = .ok d μ2) (hi : itemsOf d = some ds) : iE f ρ μ = .ok ds μ2 := by unfold iE; rw [hf]; show (frz r μ1).bind _ = _; rw [hz]; show (match itemsOf d with | some ds => Rs.ok ds μ2 | none => Rs.no) = _; rw [hi]
theorem r_R1 {j : Int} (hs : fs ρ μ = .ok [.dt (.int j)] μ1) (hj : small62 j = true) : iR1 fs ρ μ = .ok (rangeL 0 j.toNat) μ1 := by unfold iR1; rw [hs]; exact if_pos hj
theorem r_R2 {i j : Int} (hs : fs ρ μ = .ok [.dt (.int i), .dt (.int j)] μ1) (hj : (small62 i && small62 j) = true) : iR2 fs ρ μ = .ok (rangeL i (j - i).toNat) μ1 := by unfold iR2; rw [hs]; exact if_pos hj
theorem r_R3 {i j c : Int} (hs : fs ρ μ = .ok [.dt (.int i), .dt (.int j), .dt (.int c)] μ1) (hj : (decide (c ≠ 0) && decide (c.natAbs < 1073741824) && Builtin.Range.small i j c && decide (0 ≤ Builtin.Range.rangeSize i j c)) = true) : iR3 fs ρ μ = .ok (rangeCL i c (Builtin.Range.rangeSize i j c).toNat) μ1 := by unfold iR3; rw [hs]; exact if_pos hj
theorem r_Zip {xs ys : List PD} (hs : fs ρ μ = .ok rs μ1) (hz : frzs rs μ1 = .ok [x, y] μ2) (hx : itemsOf x = some xs) (hy : itemsOf y = some ys) : iZipD fs ρ μ = .ok (zipD xs ys) μ2 := by
  unfold iZipD; rw [hs]; show (frzs rs μ1).bind _ = _; rw [hz]; show (match itemsOf x, itemsOf y with | some xs, some ys => Rs.ok (zipD xs ys) μ2 | _, _ => Rs.no) = _; rw [hx, hy]
theorem r_Comp {it : IV} {tg : RV → Rho → Option Rho} {tt : TV} {te : EV} {vs : List Nat} (hi : it ρ μ = .ok items μ1) (hc : compL tg tt te vs μ1.length items ρ (μ1 ++ [.ls true []]) = .ok () μ2) : eComp it tg tt te vs ρ μ = .ok (.ob μ1.length) μ2 := by unfold eComp; rw [hi]; show (compL _ _ _ _ _ _ _ _).bind _ = _; rw [hc]; rfl
theorem r_run {as : List Arg} {R : Rf} (hg : g (pad n (entR 0 as)) (entM as) = S) (he : endF (entM as).length S = R) : runF n g as = R := by unfold runF; rw [hg]; exact he
end
/-! ### the plain operations -/
theorem o2_mulR {i j : Int} (h1 : -(2 ^ 64) < j) (h2 : j < 2 ^ 64) : gMul (.int i) (.int j) = some (.val (.int (i * j))) := if_pos (by unfold mulOkI; simp; omega)
theorem o2_mulL {i j : Int} (h1 : -(2 ^ 64) < i) (h2 : i < 2 ^ 64) : gMul (.int i) (.int j) = some (.val (.int (i * j))) := if_pos (by unfold mulOkI; simp; omega)
theorem o2_mod {i j : Int} (h : 0 < j) : gMod (.int i) (.int j) = some (.val (.int (i % j))) := if_pos h
theorem o2_fdiv {i j : Int} (h : 0 < j) (h2 : j < 2 ^ 60) : gFdiv (.int i) (.int j) = some (.val (.int (i / j))) := if_pos ⟨h, by
  have h3 : j.natAbs < 2 ^ 60 := by omega
  have h4 : j.natAbs ≠ 0 := by omega
  exact Nat.lt_trans ((Nat.log2_lt h4).2 h3) (by decide)⟩
theorem ix_mid {ds : List PD} {i : Nat} {x : PD} (h : ds[i]? = some x) : atI ds (i : Int) = some x := by
  obtain ⟨h1, h2⟩ := List.getElem?_eq_some_iff.mp h
  unfold atI ixN
  rw [if_pos (Int.natCast_nonneg i), if_pos (by exact_mod_cast h1)]
  exact h
theorem o2_ixL {ds : List PD} {i : Nat} {x : PD} (h : ds[i]? = some x) : gIx (.list ds) (.int (i : Int)) = some (.val x) := by
  show (atI ds (i : Int)).map _ = _
  rw [ix_mid h]; rfl
theorem o2_ixT {ds : List PD} {i : Nat} {x : PD} (h : ds[i]? = some x) : gIx (.tuple ds) (.int (i : Int)) = some (.val x) := by
  show (atI ds (i : Int)).map _ = _
  rw [ix_mid h]; rfl
theorem r_ift {α : Type} {c : Prop} [Decidable c] {a b s : α} (h : c) (e : a = s) : (if c then a else b) = s := (if_pos h).trans e
theorem r_iff {α : Type} {c : Prop} [Decidable c] {a b s : α} (h : ¬ c) (e : b = s) : (if c then a else b) = s := (if_neg h).trans e
theorem o2_eqI {i j : Int} : gEq (.int i) (.int j) = some (.val (.bool (decide (i = j)))) := by
  show some (Out.val (.bool (i == j))) = _
  rfl
theorem o2_neI {i j : Int} : gNe (.int i) (.int j) = some (.val (.bool (!decide (i = j)))) := by
  show some (Out.val (.bool (!(i == j)))) = _
  rfl
theorem o2_eqS {i j : Str} (hi : PyData.strOk i = true) (hj : PyData.strOk j = true) : gEq (.str i) (.str j) = some (.val (.bool (decide (i = j)))) := by
  have e : (noDict (.str i) && noDict (.str j) && SeqAt.shaped (.str i) && SeqAt.shaped (.str j)) = true := by
    unfold SeqAt.shaped PyData.canLay0 PyData.depth
    rw [hi, hj]
    rfl
  exact if_pos e
theorem o2_neS {i j : Str} (hi : PyData.strOk i = true) (hj : PyData.strOk j = true) : gNe (.str i) (.str j) = some (.val (.bool (!decide (i = j)))) := by
  have e : (noDict (.str i) && noDict (.str j) && SeqAt.shaped (.str i) && SeqAt.shaped (.str j)) = true := by
    unfold SeqAt.shaped PyData.canLay0 PyData.depth
    rw [hi, hj]
    rfl
  exact if_pos e
theorem r_runE {g : SV} {n : Nat} {as : List Arg} {ρ : Rho} {μ : Mu} {S : So} {R : Rf} (h1 : pad n (entR 0 as) = ρ) (h2 : entM as = μ) (hg : g ρ μ = S) (he : endF μ.length S = R) : runF n g as = R := by subst h1 h2; exact r_run hg he
theorem o2_mulM {x m j : Int} (h0 : 0 < m) (h : m < 2 ^ 64) : gMul (.int (x % m)) (.int j) = some (.val (.int (x % m * j))) := by
  have h1 := Int.emod_nonneg x (b := m) (by omega)
  have h2 := Int.emod_lt_of_pos x h0
  exact o2_mulL (by omega) (by omega)
theorem o2_ixZ {ds : List PD} {i : Int} {x : PD} (h0 : 0 ≤ i) (h : ds[i.toNat]? = some x) : gIx (.list ds) (.int i) = some (.val x) := by
  have e := o2_ixL h
  rwa [Int.toNat_of_nonneg h0] at e
theorem nodup1 {a : Nat} : List.Nodup [a] := by simp
end DL
/-! The data layer, for plain laws: texts as lists of their signs. -/
namespace DL
open PySem PySem.Spec PyProof.Rows L2
def ofL (l : List Nat) : Str := ⟨l.toArray⟩
theorem ofL_len (l : List Nat) : (ofL l).length = l.length := by simp [ofL, Str.length]
theorem ofL_add (l m : List Nat) : ofL l ++ ofL m = ofL (l ++ m) := by
  show (⟨l.toArray ++ m.toArray⟩ : Str) = ⟨(l ++ m).toArray⟩
  rw [List.append_toArray]
theorem ofL_inj {l m : List Nat} : ofL l = ofL m ↔ l = m := by
  constructor
  · intro h
    have h := congrArg (fun x : Str => x.cps.toList) h
    simpa [ofL] using h
  · intro h; rw [h]
theorem ofL_ok {l : List Nat} (h : ∀ c ∈ l, c < 1114112) : PyData.strOk (ofL l) = true := by
  unfold PyData.strOk ofL
  rw [Array.all_eq_true']
  intro c hc
  simpa using h c (by simpa using hc)
theorem x_addS {l m : List Nat} (h : l.length + m.length ≤ sizeLine) : gAdd (.str (ofL l)) (.str (ofL m)) = some (.val (.str (ofL (l ++ m)))) := by
  show (if (ofL l).length + (ofL m).length ≤ sizeLine then some (Out.val (.str (ofL l ++ ofL m))) else none) = _
  rw [ofL_len, ofL_len, if_pos h, ofL_add]
theorem foldl_rep (c : Nat) : ∀ (n : Nat) (a : Array Nat), (List.replicate n (#[c] : Array Nat)).foldl (fun x1 x2 => x1 ++ x2) a = a ++ (List.replicate n c).toArray
  | 0, a => by simp
  | n + 1, a => by
    rw [List.replicate_succ, List.foldl_cons, foldl_rep c n, List.replicate_succ, Array.append_assoc]
    congr 1
    apply Array.ext'
    simp
theorem mul_one (c : Nat) (n : Int) : Txt.mul (ofL [c]) n = ofL (List.replicate n.toNat c) := by
  unfold Txt.mul
  by_cases h : n < 1
  · rw [if_pos h]
    have e : n.toNat = 0 := by omega
    rw [e]
    rfl
  · rw [if_neg h]
    by_cases h1 : n = 1
    · subst h1
      rfl
    · have e : (n == 1 || (ofL [c]).length == 0) = false := by
        rw [ofL_len]
        simp [h1]
      rw [e]
      show (⟨(List.replicate n.toNat #[c]).foldl (fun x1 x2 => x1 ++ x2) #[]⟩ : Str) = _
      rw [foldl_rep]
      simp [ofL]
theorem x_mulS {c : Nat} {n : Int} (h0 : -1000 ≤ n) (h : n ≤ 1000) : gMul (.str (ofL [c])) (.int n) = some (.val (.str (ofL (List.replicate n.toNat c)))) := by
  have e : mulOkB (ofL [c]) n = true := by
    unfold mulOkB
    rw [ofL_len]
    have h3 : n.toNat ≤ 1000 := by omega
    have h4 : [c].length * n.toNat ≤ sizeLine := by
      show 1 * n.toNat ≤ 16777216
      omega
    simp only [h4, decide_true, Bool.and_true, Bool.and_eq_true, decide_eq_true_eq]
    omega
  show (if mulOkB (ofL [c]) n = true then some (Out.val (.str (Txt.mul (ofL [c]) n))) else none) = _
  rw [if_pos e, mul_one]
theorem x_lenS {l : List Nat} (h : l.length ≤ sizeLine) : lenD (.str (ofL l)) = some l.length := by
  show (if (ofL l).length ≤ sizeLine then some (ofL l).length else none) = _
  rw [ofL_len, if_pos h]
theorem x_cLenS {l : List Nat} (h : l.length ≤ sizeLine) : cLen [.str (ofL l)] = some (.val (.int (l.length : Int))) := by
  show (lenD (.str (ofL l))).map _ = _
  rw [x_lenS h]; rfl
theorem x_ixS {l : List Nat} {i c : Nat} (h : l[i]? = some c) (hl : l.length ≤ sizeLine) : gIx (.str (ofL l)) (.int (i : Int)) = some (.val (.str (ofL [c]))) := by
  obtain ⟨h1, h2⟩ := List.getElem?_eq_some_iff.mp h
  show (if (ofL l).length ≤ sizeLine then (atI (ofL l).cps.toList (i : Int)).map (fun c => PyData.str ⟨#[c]⟩) else none).map Out.val = _
  rw [ofL_len, if_pos hl]
  have e : atI (ofL l).cps.toList (i : Int) = some c := by
    show atI l (i : Int) = some c
    unfold atI ixN
    rw [if_pos (Int.natCast_nonneg i), if_pos (by exact_mod_cast h1)]
    exact h
  rw [e]; rfl
theorem x_eqS {l m : List Nat} (hl : ∀ c ∈ l, c < 1114112) (hm : ∀ c ∈ m, c < 1114112) : gEq (.str (ofL l)) (.str (ofL m)) = some (.val (.bool (decide (l = m)))) := by
  rw [o2_eqS (ofL_ok hl) (ofL_ok hm)]
  simp only [ofL_inj]
theorem x_neS {l m : List Nat} (hl : ∀ c ∈ l, c < 1114112) (hm : ∀ c ∈ m, c < 1114112) : gNe (.str (ofL l)) (.str (ofL m)) = some (.val (.bool (!decide (l = m)))) := by
  rw [o2_neS (ofL_ok hl) (ofL_ok hm)]
  simp only [ofL_inj]
theorem x_itemsS (l : List Nat) : itemsOf (.str (ofL l)) = some (l.map fun c => .str (ofL [c])) := by
  show some (strL (ofL l)) = _
  unfold strL ofL
  simp
end DL
/-! The pure layer, first part: names over plain values; what that says of the data layer's states. -/
namespace DL
open PySem PySem.Spec PyProof.Rows L2
/-- what a name holds: data, a list that may still be changed (own or lent) -/
inductive Cell where
  | d (x : PD)
  | l (w : Bool) (ds : List PD)
abbrev Env := List (Option Cell)
/-- what an expression gives: data, a new list, what a name holds -/
inductive Val where
  | d (x : PD)
  | t (ds : List PD)
  | v (i : Nat)
inductive Pr (β : Type) where
  | ok (b : β) (e : Env)
  | er (x : Ex) (e : Env)
  | no
def Pr.bind {β γ : Type} (x : Pr β) (k : β → Env → Pr γ) : Pr γ := match x with
  | .ok b e => k b e
  | .er x e => .er x e
  | .no => .no
def Cell.pd : Cell → PD
  | .d x => x
  | .l _ ds => .list ds
def lookV (env : Env) : Val → Option PD
  | .d x => some x
  | .t ds => some (.list ds)
  | .v i => match env[i]? with
    | some (some c) => some c.pd
    | _ => none
def looksV (env : Env) : List Val → Option (List PD)
  | [] => some []
  | v :: vs => match lookV env v, looksV env vs with
    | some d, some ds => some (d :: ds)
    | _, _ => none
def Live (env : Env) (i : Nat) : Prop := ∃ w ds, env[i]? = some (some (.l w ds))
def Has (env : Env) (i : Nat) : Prop := ∃ c, env[i]? = some (some c)
def NotLive (env : Env) (ρ : Rho) (k : Nat) : Prop := ∀ i, Live env i → ρ[i]? ≠ some (some (.ob k))
def Free (env : Env) (ρ : Rho) (k : Nat) : Prop := ∀ i, Has env i → ρ[i]? ≠ some (some (.ob k))
def Dt (μ : Mu) (x : PD) (r : RV) : Prop := r = .dt x ∨ ∃ k ds, r = .ob k ∧ x = .list ds ∧ (μ[k]? = some (.fz ds) ∨ μ[k]? = some (.ls true ds))
structure Enc (Z : Nat → Option Nat) (env : Env) (ρ : Rho) (μ : Mu) : Prop where
  len : env.length = ρ.length
  d : ∀ (i : Nat) (x : PD), env[i]? = some (some (.d x)) → ∃ r, ρ[i]? = some (some r) ∧ Dt μ x r
  l : ∀ (i : Nat) (w : Bool) (ds : List PD), env[i]? = some (some (.l w ds)) → ∃ k : Nat, ρ[i]? = some (some (.ob k)) ∧ μ[k]? = some (.ls w ds)
  u : ∀ i j k : Nat, Live env i → Has env j → ρ[i]? = some (some (.ob k)) → ρ[j]? = some (some (.ob k)) → i = j
  z : ∀ (i : Nat) (ds : List PD) (k : Nat), env[i]? = some (some (.l false ds)) → ρ[i]? = some (some (.ob k)) → Z i = some k
/-- what an expression leaves as it was; the first n objects stood ahead of it -/
structure Kp (n : Nat) (env : Env) (ρ : Rho) (μ : Mu) (env' : Env) (μ' : Mu) : Prop where
  le : μ.length ≤ μ'.length
  fr : ∀ k : Nat, k < n → Free env ρ k → μ'[k]? = μ[k]?
  nl : ∀ (k : Nat) (ds : List PD), NotLive env ρ k → ¬ Free env ρ k → (μ[k]? = some (.fz ds) → μ'[k]? = some (.fz ds)) ∧ (μ[k]? = some (.ls true ds) → μ'[k]? = some (.fz ds) ∨ μ'[k]? = some (.ls true ds))
  len : env'.length = env.length
  has : ∀ i, Has env i ↔ Has env' i
  live : ∀ i, Live env' i → Live env i
def VEnc (n : Nat) (env : Env) (ρ : Rho) (μ : Mu) : Val → RV → Prop
  | .d x, r => Dt μ x r ∧ ∀ k, r = .ob k → NotLive env ρ k ∧ (Free env ρ k → n ≤ k)
  | .t ds, r => ∃ k, r = .ob k ∧ μ[k]? = some (.ls true ds) ∧ Free env ρ k ∧ n ≤ k
  | .v i, r => ρ[i]? = some (some r) ∧ Has env i
/-- values one behind another: the objects of each were there ahead of the next one's -/
inductive VsEnc (env : Env) (ρ : Rho) (μ : Mu) : Nat → List Val → List RV → Prop
  | nil {n : Nat} : VsEnc env ρ μ n [] []
  | cons {n n' : Nat} {v : Val} {r : RV} {vs : List Val} {rs : List RV} : VEnc n env ρ μ v r → n ≤ n' → (∀ k, r = .ob k → k < n') → VsEnc env ρ μ n' vs rs → VsEnc env ρ μ n (v :: vs) (r :: rs)
section
variable {n : Nat} {Z : Nat → Option Nat} {env env1 env2 : Env} {ρ : Rho} {μ μ1 μ2 : Mu}
theorem Live.has {i : Nat} (h : Live env i) : Has env i := by obtain ⟨w, ds, h⟩ := h; exact ⟨_, h⟩
theorem Free.nl {k : Nat} (h : Free env ρ k) : NotLive env ρ k := fun i hi => h i hi.has
theorem get_lt {α : Type} {l : List α} {k : Nat} {x : α} (h : l[k]? = some x) : k < l.length := (List.getElem?_eq_some_iff.mp h).1
theorem Kp.refl : Kp n env ρ μ env μ := ⟨Nat.le_refl _, fun _ _ _ => rfl, fun _ _ _ _ => ⟨fun h => h, fun h => .inr h⟩, rfl, fun _ => Iff.rfl, fun _ h => h⟩
theorem Kp.free' (k1 : Kp n env ρ μ env1 μ1) {k : Nat} (h : Free env1 ρ k) : Free env ρ k := fun i hi => h i ((k1.has i).mp hi)
theorem Kp.free (k1 : Kp n env ρ μ env1 μ1) {k : Nat} (h : Free env ρ k) : Free env1 ρ k := fun i hi => h i ((k1.has i).mpr hi)
theorem Kp.notLive (k1 : Kp n env ρ μ env1 μ1) {k : Nat} (h : NotLive env ρ k) : NotLive env1 ρ k := fun i hi => h i (k1.live i hi)
theorem Kp.trans (k1 : Kp n env ρ μ env1 μ1) (k2 : Kp n env1 ρ μ1 env2 μ2) : Kp n env ρ μ env2 μ2 where
  le := Nat.le_trans k1.le k2.le
  fr := fun k hk h => (k2.fr k hk (k1.free h)).trans (k1.fr k hk h)
  nl := fun k ds h hf => by
    obtain ⟨a1, b1⟩ := k1.nl k ds h hf
    obtain ⟨a2, b2⟩ := k2.nl k ds (k1.notLive h) (fun f => hf (k1.free' f))
    refine ⟨fun e => a2 (a1 e), fun e => ?_⟩
    rcases b1 e with e | e
    · exact .inl (a2 e)
    · exact b2 e
  len := k2.len.trans k1.len
  has := fun i => (k1.has i).trans (k2.has i)
  live := fun i h => k1.live i (k2.live i h)
theorem Kp.dt (k1 : Kp μ.length env ρ μ env1 μ1) {x : PD} {r : RV} (h : Dt μ x r) (hn : ∀ k, r = .ob k → NotLive env ρ k) : Dt μ1 x r := by
  rcases h with h | ⟨k, ds, hr, hx, h⟩
  · exact .inl h
  · refine .inr ⟨k, ds, hr, hx, ?_⟩
    by_cases hf : Free env ρ k
    · have hk : k < μ.length := by rcases h with h | h <;> exact get_lt h
      rw [k1.fr k hk hf]
      exact h
    · obtain ⟨a, b⟩ := k1.nl k ds (hn k hr) hf
      rcases h with h | h
      · exact .inl (a h)
      · exact b h
theorem Kp.v (k1 : Kp μ.length env ρ μ env1 μ1) {v : Val} {r : RV} (h : VEnc n env ρ μ v r) : VEnc n env1 ρ μ1 v r := by
  cases v with
  | d x => exact ⟨k1.dt h.1 fun k hk => (h.2 k hk).1, fun k hk => ⟨k1.notLive (h.2 k hk).1, fun f => (h.2 k hk).2 (k1.free' f)⟩⟩
  | t ds =>
    obtain ⟨k, e, hm, hf, hn⟩ := h
    exact ⟨k, e, (k1.fr k (get_lt hm) hf).trans hm, k1.free hf, hn⟩
  | v i => exact ⟨h.1, (k1.has i).mp h.2⟩
theorem Kp.vs (k1 : Kp μ.length env ρ μ env1 μ1) {vs : List Val} {rs : List RV} (h : VsEnc env ρ μ n vs rs) : VsEnc env1 ρ μ1 n vs rs := by
  induction h with
  | nil => exact .nil
  | cons a b c _ ih => exact .cons (k1.v a) b c ih
theorem Kp.base {n' : Nat} (k1 : Kp n' env ρ μ env1 μ1) (h : n ≤ n') : Kp n env ρ μ env1 μ1 := ⟨k1.le, fun k hk => k1.fr k (Nat.lt_of_lt_of_le hk h), k1.nl, k1.len, k1.has, k1.live⟩
theorem VEnc.base {n' : Nat} {v : Val} {r : RV} (h : VEnc n' env ρ μ v r) (hn : n ≤ n') : VEnc n env ρ μ v r := by
  cases v with
  | t ds => obtain ⟨k, a, b, c, d⟩ := h; exact ⟨k, a, b, c, Nat.le_trans hn d⟩
  | d x => exact ⟨h.1, fun k hk => ⟨(h.2 k hk).1, fun f => Nat.le_trans hn ((h.2 k hk).2 f)⟩⟩
  | v i => exact h
theorem VsEnc.base {n' : Nat} {vs : List Val} {rs : List RV} (h : VsEnc env ρ μ n' vs rs) (hn : n ≤ n') : VsEnc env ρ μ n vs rs := by
  cases h with
  | nil => exact .nil
  | cons a b c d => exact .cons (a.base hn) (Nat.le_trans hn b) c d
theorem VEnc.lt {v : Val} {r : RV} (E : Enc Z env ρ μ) (h : VEnc n env ρ μ v r) {k : Nat} (hr : r = .ob k) : k < μ.length := by
  subst hr
  cases v with
  | d x =>
    rcases h.1 with h | ⟨j, ds, e, _, h⟩
    · cases h
    · cases e
      rcases h with h | h <;> exact get_lt h
  | t ds => obtain ⟨j, e, h, _⟩ := h; cases e; exact get_lt h
  | v i =>
    obtain ⟨hr, c, hc⟩ := h
    cases c with
    | d x =>
      obtain ⟨r', h1, h2⟩ := E.d i x hc
      rw [hr] at h1
      cases h1
      rcases h2 with h2 | ⟨j, ds, e, _, h2⟩
      · cases h2
      · cases e
        rcases h2 with h2 | h2 <;> exact get_lt h2
    | l w ds =>
      obtain ⟨j, h1, h2⟩ := E.l i w ds hc
      rw [hr] at h1
      cases h1
      exact get_lt h2
theorem Enc.nl_of (E : Enc Z env ρ μ) {i : Nat} {x : PD} (h : env[i]? = some (some (.d x))) {k : Nat} (hr : ρ[i]? = some (some (.ob k))) : NotLive env ρ k := fun j hj e => by
  have := E.u j i k hj ⟨_, h⟩ e hr
  subst this
  obtain ⟨w, ds, hj⟩ := hj
  rw [h] at hj
  cases hj
theorem look_dt {x : PD} {r : RV} (h : Dt μ x r) : look μ r = some x := by
  rcases h with rfl | ⟨k, ds, rfl, rfl, h | h⟩
  · rfl
  · show (μ[k]?).bind Ob.data = _; rw [h]; rfl
  · show (μ[k]?).bind Ob.data = _; rw [h]; rfl
theorem Enc.look (E : Enc Z env ρ μ) {v : Val} {r : RV} {x : PD} (h : VEnc n env ρ μ v r) (e : lookV env v = some x) : DL.look μ r = some x := by
  cases v with
  | d y => cases e; exact look_dt h.1
  | t ds =>
    cases e
    obtain ⟨k, rfl, hm, _, _⟩ := h
    show (μ[k]?).bind Ob.data = _; rw [hm]; rfl
  | v i =>
    obtain ⟨hr, c, hc⟩ := h
    have e : (match env[i]? with | some (some c) => some c.pd | _ => none) = some x := e
    rw [hc] at e
    cases e
    cases c with
    | d y =>
      obtain ⟨r', h1, h2⟩ := E.d i y hc
      rw [hr] at h1
      cases h1
      exact look_dt h2
    | l w ds =>
      obtain ⟨k, h1, h2⟩ := E.l i w ds hc
      rw [hr] at h1
      cases h1
      show (μ[k]?).bind Ob.data = _; rw [h2]; rfl
theorem Enc.looks (E : Enc Z env ρ μ) {vs : List Val} {rs : List RV} (h : VsEnc env ρ μ n vs rs) : ∀ {ds : List PD}, looksV env vs = some ds → DL.looks μ rs = some ds := by
  induction h with
  | nil => intro ds e; cases e; rfl
  | @cons n n' v r vs rs a _ _ _ ih =>
    intro ds e
    unfold looksV at e
    cases h1 : lookV env v with
    | none => rw [h1] at e; cases e
    | some d =>
      cases h2 : looksV env vs with
      | none => rw [h1, h2] at e; cases e
      | some es =>
        rw [h1, h2] at e
        cases e
        unfold DL.looks
        rw [E.look a h1, ih h2]
end
/-! ### expressions side by side -/
section
variable {β γ β' γ' : Type} (Z : Nat → Option Nat) (V : γ → β → Env → Mu → Prop) (n : Nat) (env : Env) (ρ : Rho) (μ : Mu)
def SimR (x : Rs β) : Pr γ → Prop
  | .ok b env' => ∃ r μ', x = .ok r μ' ∧ Enc Z env' ρ μ' ∧ Kp n env ρ μ env' μ' ∧ V b r env' μ'
  | .er e env' => ∃ μ', x = .er e μ' ∧ Enc Z env' ρ μ' ∧ Kp n env ρ μ env' μ'
  | .no => True
end
section
variable {β γ β' γ' : Type} {n n' : Nat} {Z : Nat → Option Nat} {V : γ → β → Env → Mu → Prop} {V' : γ' → β' → Env → Mu → Prop} {env env1 : Env} {ρ : Rho} {μ μ1 : Mu}
theorem SimR.kp {x : Rs β} {p : Pr γ} (h : SimR Z V n env1 ρ μ1 x p) (k1 : Kp n env ρ μ env1 μ1) : SimR Z V n env ρ μ x p := by
  cases p with
  | ok b e => obtain ⟨r, m, h1, h2, h3, h4⟩ := h; exact ⟨r, m, h1, h2, k1.trans h3, h4⟩
  | er x e => obtain ⟨m, h1, h2, h3⟩ := h; exact ⟨m, h1, h2, k1.trans h3⟩
  | no => trivial
/-- one behind another: n' objects stood ahead of the first, n ahead of all -/
theorem SimR.bind {x : Rs β} {p : Pr γ} {kx : β → Mu → Rs β'} {kp : γ → Env → Pr γ'} (h : SimR Z V n' env ρ μ x p) (hn : n ≤ n') (hk : ∀ b r env' μ', Enc Z env' ρ μ' → Kp n' env ρ μ env' μ' → V b r env' μ' → SimR Z V' n env' ρ μ' (kx r μ') (kp b env')) :
    SimR Z V' n env ρ μ (x.bind kx) (p.bind kp) := by
  cases p with
  | ok b e => obtain ⟨r, m, rfl, h2, h3, h4⟩ := h; exact (hk b r e m h2 h3 h4).kp (h3.base hn)
  | er y e => obtain ⟨m, rfl, h2, h3⟩ := h; exact ⟨m, rfl, h2, h3.base hn⟩
  | no => trivial
theorem SimR.pure {b : γ} {r : β} (E : Enc Z env ρ μ) (h : V b r env μ) : SimR Z V n env ρ μ (.ok r μ) (.ok b env) := ⟨r, μ, rfl, E, .refl, h⟩
end
abbrev PEV := Env → Pr Val
abbrev PTV := Env → Pr Bool
abbrev PAV := Env → Pr (List Val)
abbrev PIV := Env → Pr (List PD)
abbrev VE (ρ : Rho) (n : Nat) : Val → RV → Env → Mu → Prop := fun v r e m => VEnc n e ρ m v r
abbrev VA (ρ : Rho) (n : Nat) : List Val → List RV → Env → Mu → Prop := fun v r e m => VsEnc e ρ m n v r
abbrev VQ {β : Type} : β → β → Env → Mu → Prop := fun v r _ _ => r = v
section
variable (Z : Nat → Option Nat)
def SimE (f : EV) (p : PEV) : Prop := ∀ (n : Nat) (env : Env) (ρ : Rho) (μ : Mu), n ≤ μ.length → Enc Z env ρ μ → SimR Z (VE ρ n) n env ρ μ (f ρ μ) (p env)
def SimA (f : AV) (p : PAV) : Prop := ∀ (n : Nat) (env : Env) (ρ : Rho) (μ : Mu), n ≤ μ.length → Enc Z env ρ μ → SimR Z (VA ρ n) n env ρ μ (f ρ μ) (p env)
def SimT (f : TV) (p : PTV) : Prop := ∀ (n : Nat) (env : Env) (ρ : Rho) (μ : Mu), n ≤ μ.length → Enc Z env ρ μ → SimR Z VQ n env ρ μ (f ρ μ) (p env)
def SimI (f : IV) (p : PIV) : Prop := ∀ (n : Nat) (env : Env) (ρ : Rho) (μ : Mu), n ≤ μ.length → Enc Z env ρ μ → SimR Z VQ n env ρ μ (f ρ μ) (p env)
end
/-! ### what an operation gives -/
def pfin (o : Option Out) (env : Env) : Pr Val := match o with
  | some (.val d) => .ok (.d d) env
  | some (.nls ds) => .ok (.t ds) env
  | none => .no
section
variable {n : Nat} {Z : Nat → Option Nat} {env : Env} {ρ : Rho} {μ μ1 : Mu}
theorem Dt.mono {x : PD} {r : RV} (h : Dt μ x r) (hm : ∀ (k : Nat) (m : Ob), μ[k]? = some m → μ1[k]? = some m) : Dt μ1 x r := by
  rcases h with h | ⟨k, ds, hr, hx, h⟩
  · exact .inl h
  · exact .inr ⟨k, ds, hr, hx, h.imp (hm _ _) (hm _ _)⟩
theorem Enc.mono (E : Enc Z env ρ μ) (hm : ∀ (k : Nat) (m : Ob), μ[k]? = some m → μ1[k]? = some m) : Enc Z env ρ μ1 where
  len := E.len
  d := fun i x h => by obtain ⟨r, h1, h2⟩ := E.d i x h; exact ⟨r, h1, h2.mono hm⟩
  l := fun i w ds h => by obtain ⟨k, h1, h2⟩ := E.l i w ds h; exact ⟨k, h1, hm _ _ h2⟩
  u := E.u
  z := E.z
theorem get_app {α : Type} {l t : List α} {k : Nat} {x : α} (h : l[k]? = some x) : (l ++ t)[k]? = some x := by rw [List.getElem?_append_left (get_lt h)]; exact h
theorem Kp.app {m : Mu} (hn : n ≤ μ.length) : Kp n env ρ μ env (μ ++ m) where
  le := by rw [List.length_append]; omega
  fr := fun k hk _ => List.getElem?_append_left (Nat.lt_of_lt_of_le hk hn)
  nl := fun k ds _ _ => ⟨fun h => get_app h, fun h => .inr (get_app h)⟩
  len := rfl
  has := fun _ => Iff.rfl
  live := fun _ h => h
theorem Enc.lt (E : Enc Z env ρ μ) {i k : Nat} (h : Has env i) (hr : ρ[i]? = some (some (.ob k))) : k < μ.length := by
  obtain ⟨c, hc⟩ := h
  cases c with
  | d x =>
    obtain ⟨r, h1, h2⟩ := E.d i x hc
    rw [hr] at h1
    cases h1
    rcases h2 with h2 | ⟨k', ds, e, _, h2⟩
    · cases h2
    · cases e
      rcases h2 with h2 | h2 <;> exact get_lt h2
  | l w ds =>
    obtain ⟨k', h1, h2⟩ := E.l i w ds hc
    rw [hr] at h1
    cases h1
    exact get_lt h2
theorem Enc.new (E : Enc Z env ρ μ) : Free env ρ μ.length := fun i h hr => Nat.lt_irrefl _ (E.lt h hr)
theorem sim_fin (hn : n ≤ μ.length) (E : Enc Z env ρ μ) (o : Option Out) : SimR Z (VE ρ n) n env ρ μ (fin o μ) (pfin o env) := by
  cases o with
  | none => trivial
  | some o =>
    cases o with
    | val d => exact .pure E ⟨.inl rfl, fun k h => by cases h⟩
    | nls ds => exact ⟨.ob μ.length, μ ++ [.ls true ds], rfl, E.mono fun k m h => get_app h, .app hn, μ.length, rfl, get_last _ _, E.new, hn⟩
end
/-! ### plain expressions -/
def pC (d : PD) : PEV := fun env => .ok (.d d) env
def pV (i : Nat) : PEV := fun env => match env[i]? with
  | some (some (.d x)) => .ok (.d x) env
  | some (some (.l _ _)) => .ok (.v i) env
  | _ => .no
def p2 (g : PD → PD → Option Out) (pa pb : PEV) : PEV := fun env => (pa env).bind fun a env1 => (pb env1).bind fun b env2 => match lookV env2 a, lookV env2 b with
  | some x, some y => pfin (g x y) env2
  | _, _ => .no
def p1 (g : PD → Option Out) (pa : PEV) : PEV := fun env => (pa env).bind fun a env1 => match lookV env1 a with
  | some x => pfin (g x) env1
  | _ => .no
def pN : PAV := fun env => .ok [] env
def pCons (pa : PEV) (ps : PAV) : PAV := fun env => (pa env).bind fun a env1 => (ps env1).bind fun as env2 => .ok (a :: as) env2
def pCall (g : List PD → Option Out) (ps : PAV) : PEV := fun env => (ps env).bind fun as env1 => match looksV env1 as with
  | some ds => pfin (g ds) env1
  | none => .no
section
variable {Z : Nat → Option Nat} {f fa fb fc fo : EV} {fs : AV} {pa pb pc po : PEV} {ps : PAV}
theorem m_C (d : PD) : SimE Z (eC d) (pC d) := fun n env ρ μ hn E => .pure E ⟨.inl rfl, fun k h => by cases h⟩
theorem m_V (i : Nat) : SimE Z (eV i) (pV i) := fun n env ρ μ hn E => by
  unfold pV eV
  match h : env[i]? with
  | some (some (.d x)) =>
    obtain ⟨r, h1, h2⟩ := E.d i x h
    simp only [h1]
    exact .pure E ⟨h2, fun k hk => ⟨E.nl_of h (hk ▸ h1), fun f => absurd (hk ▸ h1) (f i ⟨_, h⟩)⟩⟩
  | some (some (.l w ds)) =>
    obtain ⟨k, h1, h2⟩ := E.l i w ds h
    simp only [h1]
    exact .pure E ⟨h1, _, h⟩
  | some none => trivial
  | none => trivial
theorem m_2 (g : PD → PD → Option Out) (ha : SimE Z fa pa) (hb : SimE Z fb pb) : SimE Z (e2 g fa fb) (p2 g pa pb) := fun n env ρ μ hn E =>
  (ha n env ρ μ hn E).bind (Nat.le_refl _) fun a ra env1 μ1 E1 k1 va => (hb μ1.length env1 ρ μ1 (Nat.le_refl _) E1).bind (Nat.le_trans hn k1.le) fun b rb env2 μ2 E2 k2 vb => by
    have va := k2.v va
    cases h1 : lookV env2 a with
    | none => trivial
    | some x =>
      cases h2 : lookV env2 b with
      | none => trivial
      | some y =>
        simp only [E2.look va h1, E2.look vb h2]
        exact sim_fin (Nat.le_trans hn (Nat.le_trans k1.le k2.le)) E2 _
theorem m_1 (g : PD → Option Out) (ha : SimE Z fa pa) : SimE Z (e1 g fa) (p1 g pa) := fun n env ρ μ hn E =>
  (ha n env ρ μ hn E).bind (Nat.le_refl _) fun a ra env1 μ1 E1 k1 va => by
    cases h1 : lookV env1 a with
    | none => trivial
    | some x =>
      simp only [E1.look va h1]
      exact sim_fin (Nat.le_trans hn k1.le) E1 _
theorem m_N : SimA Z aN pN := fun n env ρ μ hn E => .pure E .nil
theorem m_Cons (ha : SimE Z fa pa) (hs : SimA Z fs ps) : SimA Z (aC fa fs) (pCons pa ps) := fun n env ρ μ hn E =>
  (ha n env ρ μ hn E).bind (Nat.le_refl _) fun a ra env1 μ1 E1 k1 va => (hs μ1.length env1 ρ μ1 (Nat.le_refl _) E1).bind (Nat.le_trans hn k1.le) fun as rs env2 μ2 E2 k2 vs => .pure E2 (.cons (k2.v va) (Nat.le_trans hn k1.le) (fun k hk => va.lt E1 hk) vs)
theorem m_Call (g : List PD → Option Out) (hs : SimA Z fs ps) : SimE Z (eCall g fs) (pCall g ps) := fun n env ρ μ hn E =>
  (hs n env ρ μ hn E).bind (Nat.le_refl _) fun as rs env1 μ1 E1 k1 vs => by
    cases h1 : looksV env1 as with
    | none => trivial
    | some ds =>
      simp only [E1.looks vs h1]
      exact sim_fin (Nat.le_trans hn k1.le) E1 _
end
/-! ### data let go -/
def pfrz : Val → Env → Pr PD
  | .d x, env => .ok x env
  | .t ds, env => .ok (.list ds) env
  | .v i, env => match env[i]? with
    | some (some (.d x)) => .ok x env
    | some (some (.l true ds)) => .ok (.list ds) (env.set i (some (.d (.list ds))))
    | _ => .no
def pfrzs : List Val → Env → Pr (List PD)
  | [], env => .ok [] env
  | v :: vs, env => (pfrz v env).bind fun d env1 => (pfrzs vs env1).bind fun ds env2 => .ok (d :: ds) env2
section
variable {n : Nat} {Z : Nat → Option Nat} {env : Env} {ρ : Rho} {μ : Mu}
theorem has_set {i : Nat} {c : Cell} (h : Has env i) (j : Nat) : Has env j ↔ Has (env.set i (some c)) j := by
  obtain ⟨c0, h0⟩ := h
  by_cases hj : i = j
  · subst hj
    exact ⟨fun _ => ⟨c, List.getElem?_set_self (get_lt h0)⟩, fun _ => ⟨c0, h0⟩⟩
  · unfold Has
    rw [List.getElem?_set_ne hj]
theorem live_set_d {i : Nat} {x : PD} {j : Nat} (h : Live (env.set i (some (.d x))) j) : Live env j ∧ j ≠ i := by
  obtain ⟨w, ds, h⟩ := h
  by_cases hj : i = j
  · subst hj
    by_cases hl : i < env.length
    · rw [List.getElem?_set_self hl] at h
      cases h
    · rw [List.getElem?_eq_none (by rw [List.length_set]; omega)] at h
      cases h
  · rw [List.getElem?_set_ne hj] at h
    exact ⟨⟨w, ds, h⟩, Ne.symm hj⟩
/-- a name's own list is let go, softly -/
theorem Enc.soft (E : Enc Z env ρ μ) {i : Nat} {ds : List PD} (h : env[i]? = some (some (.l true ds))) : Enc Z (env.set i (some (.d (.list ds)))) ρ μ := by
  obtain ⟨k, hr, hm⟩ := E.l i true ds h
  refine ⟨by rw [List.length_set]; exact E.len, fun j x hj => ?_, fun j w es hj => ?_, fun a b q ha hb h1 h2 => ?_, fun j es q hj hq => ?_⟩
  · by_cases e : i = j
    · subst e
      rw [List.getElem?_set_self (get_lt h)] at hj
      cases hj
      exact ⟨.ob k, hr, .inr ⟨k, ds, rfl, rfl, .inr hm⟩⟩
    · rw [List.getElem?_set_ne e] at hj
      exact E.d j x hj
  · have := live_set_d ⟨w, es, hj⟩
    rw [List.getElem?_set_ne (Ne.symm this.2)] at hj
    exact E.l j w es hj
  · exact E.u a b q (live_set_d ha).1 ((has_set ⟨_, h⟩ b).mpr hb) h1 h2
  · have := live_set_d ⟨false, es, hj⟩
    rw [List.getElem?_set_ne (Ne.symm this.2)] at hj
    exact E.z j es q hj hq
theorem Kp.soft {i : Nat} {ds : List PD} (h : env[i]? = some (some (.l true ds))) : Kp n env ρ μ (env.set i (some (.d (.list ds)))) μ where
  le := Nat.le_refl _
  fr := fun _ _ _ => rfl
  nl := fun _ _ _ _ => ⟨fun h => h, fun h => .inr h⟩
  len := List.length_set
  has := has_set ⟨_, h⟩
  live := fun _ h => (live_set_d h).1
/-- an own list is frozen -/
theorem get_set {α : Type} {l : List α} {k j : Nat} {x y : α} (h : l[j]? = some y) : (l.set k x)[j]? = some (if k = j then x else y) := by
  by_cases e : k = j
  · subst e; rw [List.getElem?_set_self (get_lt h), if_pos rfl]
  · rw [List.getElem?_set_ne e, if_neg e]; exact h
theorem Dt.hard {k : Nat} {ds : List PD} (hm : μ[k]? = some (.ls true ds)) {x : PD} {r : RV} (h : Dt μ x r) : Dt (μ.set k (.fz ds)) x r := by
  rcases h with h | ⟨j, es, hr, hx, h⟩
  · exact .inl h
  · refine .inr ⟨j, es, hr, hx, ?_⟩
    by_cases e : k = j
    · subst e
      rcases h with h | h
      · rw [hm] at h; cases h
      · rw [hm] at h; cases h
        exact .inl (List.getElem?_set_self (get_lt hm))
    · rw [List.getElem?_set_ne e]; exact h
theorem Enc.hard (E : Enc Z env ρ μ) {k : Nat} {ds : List PD} (hm : μ[k]? = some (.ls true ds)) (hn : NotLive env ρ k) : Enc Z env ρ (μ.set k (.fz ds)) where
  len := E.len
  d := fun i x h => by obtain ⟨r, h1, h2⟩ := E.d i x h; exact ⟨r, h1, h2.hard hm⟩
  l := fun i w es h => by
    obtain ⟨j, h1, h2⟩ := E.l i w es h
    refine ⟨j, h1, ?_⟩
    rw [List.getElem?_set_ne (fun e : k = j => hn i ⟨w, es, h⟩ (by rw [e]; exact h1))]
    exact h2
  u := E.u
  z := E.z
theorem Kp.hard {k : Nat} {ds : List PD} (hm : μ[k]? = some (.ls true ds)) (hn : Free env ρ k → n ≤ k) : Kp n env ρ μ env (μ.set k (.fz ds)) where
  le := by rw [List.length_set]; exact Nat.le_refl _
  fr := fun j hj hf => List.getElem?_set_ne (fun e => by subst e; exact Nat.not_lt.mpr (hn hf) hj)
  nl := fun j es _ _ => by
    by_cases e : k = j
    · subst e
      constructor
      · intro h; rw [hm] at h; cases h
      · intro h; rw [hm] at h; cases h; exact .inl (List.getElem?_set_self (get_lt hm))
    · rw [List.getElem?_set_ne e]; exact ⟨fun h => h, fun h => .inr h⟩
  len := rfl
  has := fun _ => Iff.rfl
  live := fun _ h => h
end
end DL
/-! The pure layer, second part: data let go, tests, slices, methods, walks. -/
namespace DL
open PySem PySem.Spec PyProof.Rows L2
/-- all objects stay, but that of a value may be frozen -/
def Fzd (μ μ1 : Mu) (r : RV) : Prop := ∀ k : Nat, μ1[k]? = μ[k]? ∨ ∃ ds, μ[k]? = some (.ls true ds) ∧ μ1[k]? = some (.fz ds) ∧ r = .ob k
section
variable {n : Nat} {Z : Nat → Option Nat} {env env1 : Env} {ρ : Rho} {μ μ1 : Mu}
theorem Fzd.refl {r : RV} : Fzd μ μ r := fun _ => .inl rfl
theorem Fzd.dt {r s : RV} {x : PD} (f : Fzd μ μ1 r) (h : Dt μ x s) : Dt μ1 x s := by
  rcases h with h | ⟨k, ds, hr, hx, h⟩
  · exact .inl h
  · refine .inr ⟨k, ds, hr, hx, ?_⟩
    rcases f k with e | ⟨es, e1, e2, _⟩
    · rw [e]; exact h
    · rw [e1] at h
      rcases h with h | h
      · cases h
      · cases h; exact .inl e2
/-- an own list of a value is frozen -/
theorem sim_frzOb (E : Enc Z env ρ μ) {k : Nat} {ds : List PD} (hm : μ[k]? = some (.fz ds) ∨ μ[k]? = some (.ls true ds)) (hn : NotLive env ρ k) (hf : Free env ρ k → n ≤ k) :
    ∃ μ', frz (.ob k) μ = .ok (.list ds) μ' ∧ Enc Z env ρ μ' ∧ Kp n env ρ μ env μ' ∧ Fzd μ μ' (.ob k) := by
  unfold frz
  rcases hm with hm | hm
  · exact ⟨μ, by show frzAt k μ μ[k]? = _; rw [hm]; rfl, E, .refl, .refl⟩
  · refine ⟨μ.set k (.fz ds), by show frzAt k μ μ[k]? = _; rw [hm]; rfl, E.hard hm hn, .hard hm hf, fun j => ?_⟩
    by_cases e : k = j
    · subst e; exact .inr ⟨ds, hm, List.getElem?_set_self (get_lt hm), rfl⟩
    · exact .inl (List.getElem?_set_ne e)
abbrev VF (μ : Mu) (r0 : RV) : PD → PD → Env → Mu → Prop := fun v r _ m => r = v ∧ Fzd μ m r0
theorem sim_frzDt (E : Enc Z env ρ μ) {x : PD} {r : RV} (h : Dt μ x r) (hn : ∀ k, r = .ob k → NotLive env ρ k ∧ (Free env ρ k → n ≤ k)) : SimR Z (VF μ r) n env ρ μ (frz r μ) (.ok x env) := by
  rcases h with rfl | ⟨k, ds, rfl, rfl, h⟩
  · exact .pure E ⟨rfl, .refl⟩
  · obtain ⟨μ', e, E', k', f⟩ := sim_frzOb E h (hn k rfl).1 (hn k rfl).2
    exact ⟨_, μ', e, E', k', rfl, f⟩
theorem sim_frz (E : Enc Z env ρ μ) {v : Val} {r : RV} (h : VEnc n env ρ μ v r) : SimR Z (VF μ r) n env ρ μ (frz r μ) (pfrz v env) := by
  cases v with
  | d x => exact sim_frzDt E h.1 h.2
  | t ds =>
    obtain ⟨k, rfl, hm, hf, hn⟩ := h
    obtain ⟨μ', e, E', k', f⟩ := sim_frzOb E (.inr hm) hf.nl fun _ => hn
    exact ⟨_, μ', e, E', k', rfl, f⟩
  | v i =>
    obtain ⟨hr, _⟩ := h
    show SimR Z (VF μ r) n env ρ μ (frz r μ) (match env[i]? with
      | some (some (.d x)) => .ok x env
      | some (some (.l true ds)) => .ok (.list ds) (env.set i (some (.d (.list ds))))
      | _ => .no)
    match h : env[i]? with
    | some (some (.d x)) =>
      obtain ⟨r', h1, h2⟩ := E.d i x h
      rw [hr] at h1
      cases h1
      exact sim_frzDt E h2 fun k hk => ⟨E.nl_of h (hk ▸ hr), fun f => absurd (hk ▸ hr) (f i ⟨_, h⟩)⟩
    | some (some (.l true ds)) =>
      obtain ⟨k, h1, h2⟩ := E.l i true ds h
      rw [hr] at h1
      cases h1
      have E1 := E.soft h
      have k1 : Kp n env ρ μ _ μ := Kp.soft h
      have hi : (env.set i (some (.d (.list ds))))[i]? = some (some (.d (.list ds))) := List.getElem?_set_self (get_lt h)
      obtain ⟨μ', e, E', k', f⟩ := sim_frzOb (n := n) E1 (.inr h2) (E1.nl_of hi hr) fun f => absurd hr (f i ⟨_, hi⟩)
      exact ⟨_, μ', e, E', k1.trans k', rfl, f⟩
    | some (some (.l false ds)) => trivial
    | some none => trivial
    | none => trivial
/-- the values behind one that is let go -/
theorem VsEnc.fzd {r : RV} {n' : Nat} (k1 : Kp n env ρ μ env1 μ1) (f : Fzd μ μ1 r) (hr : ∀ k, r = .ob k → k < n') {m : Nat} (hm : n' ≤ m) {vs : List Val} {rs : List RV} (h : VsEnc env ρ μ m vs rs) : VsEnc env1 ρ μ1 m vs rs := by
  induction h with
  | nil => exact .nil
  | @cons n0 n1 v s vs rs a b c _ ih =>
    refine .cons ?_ b c (ih (Nat.le_trans hm b))
    cases v with
    | d x => exact ⟨f.dt a.1, fun k hk => ⟨k1.notLive (a.2 k hk).1, fun q => (a.2 k hk).2 (k1.free' q)⟩⟩
    | v i => exact ⟨a.1, (k1.has i).mp a.2⟩
    | t ds =>
      obtain ⟨k, e, q, hf, hn⟩ := a
      refine ⟨k, e, ?_, k1.free hf, hn⟩
      rcases f k with e' | ⟨es, _, _, er⟩
      · rw [e']; exact q
      · have := hr k er; omega
theorem sim_frzs : ∀ {vs : List Val} {rs : List RV} {n : Nat} {env : Env} {μ : Mu}, Enc Z env ρ μ → VsEnc env ρ μ n vs rs → SimR Z VQ n env ρ μ (frzs rs μ) (pfrzs vs env)
  | _, _, n, env, μ, E, .nil => .pure E rfl
  | _, _, n, env, μ, E, .cons (v := v) (r := r) (vs := vs) (rs := rs) (n' := n') hv hn hr hs =>
    (sim_frz E hv).bind (Nat.le_refl _) fun d d' env1 μ1 E1 k1 e => (sim_frzs E1 (hs.fzd k1 e.2 hr (Nat.le_refl _))).bind hn fun ds ds' env2 μ2 E2 k2 e2 => by
      obtain ⟨rfl, _⟩ := e
      subst e2
      exact .pure E2 rfl
theorem Enc.setFree (E : Enc Z env ρ μ) {k : Nat} {m : Ob} (hf : Free env ρ k) : Enc Z env ρ (μ.set k m) where
  len := E.len
  d := fun i x h => by
    obtain ⟨r, h1, h2⟩ := E.d i x h
    refine ⟨r, h1, ?_⟩
    rcases h2 with h2 | ⟨j, ds, hr, hx, h2⟩
    · exact .inl h2
    · refine .inr ⟨j, ds, hr, hx, ?_⟩
      rw [List.getElem?_set_ne (fun e : k = j => hf i ⟨_, h⟩ (by rw [h1, hr, e]))]
      exact h2
  l := fun i w es h => by
    obtain ⟨j, h1, h2⟩ := E.l i w es h
    refine ⟨j, h1, ?_⟩
    rw [List.getElem?_set_ne (fun e : k = j => hf i ⟨_, h⟩ (by rw [e]; exact h1))]
    exact h2
  u := E.u
  z := E.z
theorem Kp.setFree {k : Nat} {m : Ob} (hf : Free env ρ k) (hn : n ≤ k) : Kp n env ρ μ env (μ.set k m) where
  le := by rw [List.length_set]; exact Nat.le_refl _
  fr := fun j hj _ => List.getElem?_set_ne (fun e => by omega)
  nl := fun j es _ hj => by
    rw [List.getElem?_set_ne (fun e : k = j => hj (by rw [← e]; exact hf))]
    exact ⟨fun h => h, fun h => .inr h⟩
  len := rfl
  has := fun _ => Iff.rfl
  live := fun _ h => h
end
def pTup (ps : PAV) : PEV := fun env => (ps env).bind fun as env1 => (pfrzs as env1).bind fun ds env2 => if line ds.length then .ok (.d (.tuple ds)) env2 else .no
def pLst (ps : PAV) : PEV := fun env => (ps env).bind fun as env1 => (pfrzs as env1).bind fun ds env2 => if line ds.length then .ok (.t ds) env2 else .no
def pF (pa : PEV) : PEV := fun env => (pa env).bind fun a env1 => (pfrz a env1).bind fun d env2 => .ok (.d d) env2
def ptOf (p : PEV) : PTV := fun env => (p env).bind fun r env1 => match boolOf (lookV env1 r) with
  | some b => .ok b env1
  | none => .no
def ptAnd (f g : PTV) : PTV := fun env => (f env).bind fun c env1 => if c = true then g env1 else .ok false env1
def ptOr (f g : PTV) : PTV := fun env => (f env).bind fun c env1 => if c = true then .ok true env1 else g env1
def ptNot (f : PTV) : PTV := fun env => (f env).bind fun c env1 => .ok (!c) env1
def pIf (t : PTV) (f g : PEV) : PEV := fun env => (t env).bind fun c env1 => if c = true then f env1 else g env1
def pAnd (f g : PEV) : PEV := fun env => (f env).bind fun r env1 => match boolOf (lookV env1 r) with
  | some true => g env1
  | some false => .ok (.d (.bool false)) env1
  | none => .no
def pOr (f g : PEV) : PEV := fun env => (f env).bind fun r env1 => match boolOf (lookV env1 r) with
  | some false => g env1
  | some true => .ok (.d (.bool true)) env1
  | none => .no
def pNot (f : PEV) : PEV := fun env => (f env).bind fun r env1 => match boolOf (lookV env1 r) with
  | some b => .ok (.d (.bool (!b))) env1
  | none => .no
def pChain (g g' : PD → PD → Option Out) (pa pb pc : PEV) : PEV := fun env => (pa env).bind fun a env1 => (pb env1).bind fun b env2 => match lookV env2 a, lookV env2 b with
  | some x, some y => (match g x y with
    | some (.val (.bool true)) => (pc env2).bind fun c env3 => match lookV env3 b, lookV env3 c with
      | some y', some z => pfin (g' y' z) env3
      | _, _ => .no
    | some (.val (.bool false)) => .ok (.d (.bool false)) env2
    | _ => .no)
  | _, _ => .no
def pO (po : Option PEV) : Env → Pr (Option Int) := fun env => match po with
  | none => .ok none env
  | some p => (p env).bind fun r env1 => match r with
    | .d (.int i) => .ok (some i) env1
    | _ => .no
def pSl (g : PD → Option Int → Option Int → Option Out) (pa : PEV) (lo hi : Option PEV) : PEV := fun env => (pa env).bind fun a env1 => (pO lo env1).bind fun l env2 => (pO hi env2).bind fun u env3 => match lookV env3 a with
  | some x => pfin (g x l u) env3
  | none => .no
def pRevL (p : PEV) : PEV := fun env => (p env).bind fun r env1 => match lookV env1 r with
  | some (.list ds) => pfin (some (.nls ds.reverse)) env1
  | _ => .no
def pMtT (t : Ty) (g : PD → List PD → Option Out) (po : PEV) (ps : PAV) : PEV := fun env => (po env).bind fun o env1 => match lookV env1 o with
  | some x0 => if tyOf x0 = t then (ps env1).bind fun as env2 => match lookV env2 o, looksV env2 as with
      | some x, some ds => pfin (g x ds) env2
      | _, _ => .no
    else .no
  | none => .no
def pMtT0 (t : Ty) (g : PD → List PD → Option Out) (po : PEV) : PEV := fun env => (po env).bind fun o env1 => match lookV env1 o with
  | some x => if tyOf x = t then pfin (g x []) env1 else .no
  | none => .no
section
variable {Z : Nat → Option Nat} {f g fa fb fc fo : EV} {fs : AV} {pa pb pc po p q : PEV} {ps : PAV} {t t' : TV} {pt pt' : PTV}
theorem m_Tup (hs : SimA Z fs ps) : SimE Z (eTup fs) (pTup ps) := fun n env ρ μ hn E =>
  (hs n env ρ μ hn E).bind (Nat.le_refl _) fun as rs env1 μ1 E1 k1 vs => (sim_frzs E1 vs).bind (Nat.le_refl _) fun ds ds' env2 μ2 E2 k2 e => by
    subst e
    by_cases h : line ds'.length = true
    · rw [if_pos h, if_pos h]; exact .pure E2 ⟨.inl rfl, fun k h => by cases h⟩
    · rw [if_neg h, if_neg h]; trivial
theorem m_Lst (hs : SimA Z fs ps) : SimE Z (eLst fs) (pLst ps) := fun n env ρ μ hn E =>
  (hs n env ρ μ hn E).bind (Nat.le_refl _) fun as rs env1 μ1 E1 k1 vs => (sim_frzs E1 vs).bind (Nat.le_refl _) fun ds ds' env2 μ2 E2 k2 e => by
    subst e
    by_cases h : line ds'.length = true
    · rw [if_pos h, if_pos h]; exact sim_fin (Nat.le_trans hn (Nat.le_trans k1.le k2.le)) E2 (some (.nls ds'))
    · rw [if_neg h, if_neg h]; trivial
theorem m_F (ha : SimE Z fa pa) : SimE Z (eF fa) (pF pa) := fun n env ρ μ hn E =>
  (ha n env ρ μ hn E).bind (Nat.le_refl _) fun a ra env1 μ1 E1 k1 va => (sim_frz E1 va).bind (Nat.le_refl _) fun d d' env2 μ2 E2 k2 e => by
    obtain ⟨rfl, _⟩ := e
    exact .pure E2 ⟨.inl rfl, fun k h => by cases h⟩
theorem m_tOf (ha : SimE Z f p) : SimT Z (tOf f) (ptOf p) := fun n env ρ μ hn E =>
  (ha n env ρ μ hn E).bind (Nat.le_refl _) fun a ra env1 μ1 E1 k1 va => by
    cases h1 : lookV env1 a with
    | none => trivial
    | some x =>
      simp only [E1.look va h1]
      cases boolOf (some x) with
      | none => trivial
      | some b => exact .pure E1 rfl
theorem m_tAnd (h1 : SimT Z t pt) (h2 : SimT Z t' pt') : SimT Z (tAndD t t') (ptAnd pt pt') := fun n env ρ μ hn E =>
  (h1 n env ρ μ hn E).bind (Nat.le_refl _) fun b b' env1 μ1 E1 k1 e => by
    subst e
    cases b' with
    | true => exact h2 n env1 ρ μ1 (Nat.le_trans hn k1.le) E1
    | false => exact .pure E1 rfl
theorem m_tOr (h1 : SimT Z t pt) (h2 : SimT Z t' pt') : SimT Z (tOrD t t') (ptOr pt pt') := fun n env ρ μ hn E =>
  (h1 n env ρ μ hn E).bind (Nat.le_refl _) fun b b' env1 μ1 E1 k1 e => by
    subst e
    cases b' with
    | false => exact h2 n env1 ρ μ1 (Nat.le_trans hn k1.le) E1
    | true => exact .pure E1 rfl
theorem m_tNot (h1 : SimT Z t pt) : SimT Z (tNotD t) (ptNot pt) := fun n env ρ μ hn E =>
  (h1 n env ρ μ hn E).bind (Nat.le_refl _) fun b b' env1 μ1 E1 k1 e => by subst e; exact .pure E1 rfl
theorem m_tYes : SimT Z tYesD (fun env => .ok true env) := fun n env ρ μ hn E => .pure E rfl
theorem m_If (h1 : SimT Z t pt) (hf : SimE Z f p) (hg : SimE Z g q) : SimE Z (eIf t f g) (pIf pt p q) := fun n env ρ μ hn E =>
  (h1 n env ρ μ hn E).bind (Nat.le_refl _) fun b b' env1 μ1 E1 k1 e => by
    subst e
    cases b' with
    | true => exact hf n env1 ρ μ1 (Nat.le_trans hn k1.le) E1
    | false => exact hg n env1 ρ μ1 (Nat.le_trans hn k1.le) E1
theorem m_And (hf : SimE Z f p) (hg : SimE Z g q) : SimE Z (eAnd f g) (pAnd p q) := fun n env ρ μ hn E =>
  (hf n env ρ μ hn E).bind (Nat.le_refl _) fun a ra env1 μ1 E1 k1 va => by
    cases h1 : lookV env1 a with
    | none => trivial
    | some x =>
      simp only [E1.look va h1]
      cases boolOf (some x) with
      | none => trivial
      | some b => cases b with
        | true => exact hg n env1 ρ μ1 (Nat.le_trans hn k1.le) E1
        | false => exact .pure E1 ⟨.inl rfl, fun k h => by cases h⟩
theorem m_Or (hf : SimE Z f p) (hg : SimE Z g q) : SimE Z (eOr f g) (pOr p q) := fun n env ρ μ hn E =>
  (hf n env ρ μ hn E).bind (Nat.le_refl _) fun a ra env1 μ1 E1 k1 va => by
    cases h1 : lookV env1 a with
    | none => trivial
    | some x =>
      simp only [E1.look va h1]
      cases boolOf (some x) with
      | none => trivial
      | some b => cases b with
        | false => exact hg n env1 ρ μ1 (Nat.le_trans hn k1.le) E1
        | true => exact .pure E1 ⟨.inl rfl, fun k h => by cases h⟩
theorem m_Not (hf : SimE Z f p) : SimE Z (eNot f) (pNot p) := fun n env ρ μ hn E =>
  (hf n env ρ μ hn E).bind (Nat.le_refl _) fun a ra env1 μ1 E1 k1 va => by
    cases h1 : lookV env1 a with
    | none => trivial
    | some x =>
      simp only [E1.look va h1]
      cases boolOf (some x) with
      | none => trivial
      | some b => exact .pure E1 ⟨.inl rfl, fun k h => by cases h⟩
theorem m_Chain (g g' : PD → PD → Option Out) (ha : SimE Z fa pa) (hb : SimE Z fb pb) (hc : SimE Z fc pc) : SimE Z (eChain g g' fa fb fc) (pChain g g' pa pb pc) := fun n env ρ μ hn E =>
  (ha n env ρ μ hn E).bind (Nat.le_refl _) fun a ra env1 μ1 E1 k1 va => (hb μ1.length env1 ρ μ1 (Nat.le_refl _) E1).bind (Nat.le_trans hn k1.le) fun b rb env2 μ2 E2 k2 vb => by
    have va := k2.v va
    have hn2 := Nat.le_trans hn (Nat.le_trans k1.le k2.le)
    cases h1 : lookV env2 a with
    | none => trivial
    | some x =>
      cases h2 : lookV env2 b with
      | none => trivial
      | some y =>
        simp only [E2.look va h1, E2.look vb h2]
        match h : g x y with
        | some (.val (.bool true)) =>
          refine (hc μ2.length env2 ρ μ2 (Nat.le_refl _) E2).bind hn2 fun c rc env3 μ3 E3 k3 vc => ?_
          have vb := k3.v vb
          cases h3 : lookV env3 b with
          | none => trivial
          | some y' =>
            cases h4 : lookV env3 c with
            | none => trivial
            | some z =>
              simp only [E3.look vb h3, E3.look vc h4]
              exact sim_fin (Nat.le_trans hn2 k3.le) E3 _
        | some (.val (.bool false)) => exact .pure E2 ⟨.inl rfl, fun k h => by cases h⟩
        | some (.val .none) => trivial
        | some (.val (.int _)) => trivial
        | some (.val (.str _)) => trivial
        | some (.val (.list _)) => trivial
        | some (.val (.tuple _)) => trivial
        | some (.val (.dict _)) => trivial
        | some (.nls _) => trivial
        | none => trivial
abbrev SimO (Z : Nat → Option Nat) (f : Rho → Mu → Rs (Option Int)) (p : Env → Pr (Option Int)) : Prop := ∀ (n : Nat) (env : Env) (ρ : Rho) (μ : Mu), n ≤ μ.length → Enc Z env ρ μ → SimR Z VQ n env ρ μ (f ρ μ) (p env)
theorem m_o0 : SimO Z (oE none) (pO none) := fun n env ρ μ hn E => .pure E rfl
theorem m_o1 (h : SimE Z f p) : SimO Z (oE (some f)) (pO (some p)) := fun n env ρ μ hn E =>
  (h n env ρ μ hn E).bind (Nat.le_refl _) fun a ra env1 μ1 E1 k1 va => by
    match a, va with
    | .d (.int i), va =>
      rcases va.1 with rfl | ⟨_, _, _, h, _⟩
      · exact .pure E1 rfl
      · cases h
    | .d .none, _ => trivial
    | .d (.bool _), _ => trivial
    | .d (.str _), _ => trivial
    | .d (.list _), _ => trivial
    | .d (.tuple _), _ => trivial
    | .d (.dict _), _ => trivial
    | .t _, _ => trivial
    | .v _, _ => trivial
theorem m_Sl (g : PD → Option Int → Option Int → Option Out) {lo hi : Option EV} {plo phi : Option PEV} (ha : SimE Z fa pa) (hl : SimO Z (oE lo) (pO plo)) (hh : SimO Z (oE hi) (pO phi)) : SimE Z (eSl g fa lo hi) (pSl g pa plo phi) := fun n env ρ μ hn E =>
  (ha n env ρ μ hn E).bind (Nat.le_refl _) fun a ra env1 μ1 E1 k1 va => (hl μ1.length env1 ρ μ1 (Nat.le_refl _) E1).bind (Nat.le_trans hn k1.le) fun l l' env2 μ2 E2 k2 e2 => (hh μ2.length env2 ρ μ2 (Nat.le_refl _) E2).bind (Nat.le_trans hn (Nat.le_trans k1.le k2.le)) fun u u' env3 μ3 E3 k3 e3 => by
    subst e2 e3
    have va := k3.v (k2.v va)
    cases h1 : lookV env3 a with
    | none => trivial
    | some x =>
      simp only [E3.look va h1]
      exact sim_fin (Nat.le_trans hn (Nat.le_trans k1.le (Nat.le_trans k2.le k3.le))) E3 _
theorem m_RevL (ha : SimE Z f p) : SimE Z (eRevL f) (pRevL p) := fun n env ρ μ hn E =>
  (ha n env ρ μ hn E).bind (Nat.le_refl _) fun a ra env1 μ1 E1 k1 va => by
    cases h1 : lookV env1 a with
    | none => trivial
    | some x =>
      simp only [E1.look va h1]
      cases x with
      | list ds => exact sim_fin (Nat.le_trans hn k1.le) E1 _
      | _ => trivial
theorem m_MtT (t : Ty) (g : PD → List PD → Option Out) (ho : SimE Z fo po) (hs : SimA Z fs ps) : SimE Z (eMtT t g fo fs) (pMtT t g po ps) := fun n env ρ μ hn E =>
  (ho n env ρ μ hn E).bind (Nat.le_refl _) fun a ra env1 μ1 E1 k1 va => by
    cases h1 : lookV env1 a with
    | none => trivial
    | some x =>
      simp only [E1.look va h1, Option.map_some]
      by_cases ht : tyOf x = t
      · rw [if_pos ht, if_pos (congrArg some ht)]
        refine (hs μ1.length env1 ρ μ1 (Nat.le_refl _) E1).bind (Nat.le_trans hn k1.le) fun as rs env2 μ2 E2 k2 vs => ?_
        have va := k2.v va
        cases h2 : lookV env2 a with
        | none => trivial
        | some y =>
          cases h3 : looksV env2 as with
          | none => trivial
          | some ds =>
            simp only [E2.look va h2, E2.looks vs h3]
            exact sim_fin (Nat.le_trans hn (Nat.le_trans k1.le k2.le)) E2 _
      · rw [if_neg ht, if_neg (fun h => ht (Option.some.inj h))]; trivial
theorem m_MtT0 (t : Ty) (g : PD → List PD → Option Out) (ho : SimE Z fo po) : SimE Z (eMtT0 t g fo) (pMtT0 t g po) := fun n env ρ μ hn E =>
  (ho n env ρ μ hn E).bind (Nat.le_refl _) fun a ra env1 μ1 E1 k1 va => by
    cases h1 : lookV env1 a with
    | none => trivial
    | some x =>
      simp only [E1.look va h1]
      by_cases ht : tyOf x = t
      · rw [if_pos ht, if_pos ht]; exact sim_fin (Nat.le_trans hn k1.le) E1 _
      · rw [if_neg ht, if_neg ht]; trivial
end
/-! ### a list is changed -/
def pmutFin (g : List PD → List PD → Option (PD × List PD)) (i : Nat) (es : List PD) (env : Env) : Pr Val := match env[i]? with
  | some (some (.l w ds)) => (match g ds es with
    | some (d, ds') => .ok (.d d) (env.set i (some (.l w ds')))
    | none => .no)
  | _ => .no
def pMut (g : List PD → List PD → Option (PD × List PD)) (i : Nat) (ps : PAV) : PEV := fun env => (ps env).bind fun as env2 => (pfrzs as env2).bind fun es env3 => pmutFin g i es env3
def pMut0 (g : List PD → List PD → Option (PD × List PD)) (i : Nat) : PEV := fun env => pmutFin g i [] env
section
variable {n : Nat} {Z : Nat → Option Nat} {env : Env} {ρ : Rho} {μ : Mu}
/-- a name's list gets other items -/
theorem Enc.put (E : Enc Z env ρ μ) {i k : Nat} {w : Bool} {ds ds' : List PD} (h : env[i]? = some (some (.l w ds))) (hr : ρ[i]? = some (some (.ob k))) : Enc Z (env.set i (some (.l w ds'))) ρ (μ.set k (.ls w ds')) := by
  have hk : μ[k]? = some (.ls w ds) := by
    obtain ⟨k', h1, h2⟩ := E.l i w ds h
    rw [hr] at h1
    cases h1
    exact h2
  have live : ∀ j, Live (env.set i (some (.l w ds'))) j ↔ Live env j := fun j => by
    by_cases e : i = j
    · subst e
      exact ⟨fun _ => ⟨w, ds, h⟩, fun _ => ⟨w, ds', List.getElem?_set_self (get_lt h)⟩⟩
    · unfold Live; rw [List.getElem?_set_ne e]
  have has : ∀ j, Has (env.set i (some (.l w ds'))) j ↔ Has env j := fun j => (has_set ⟨_, h⟩ j).symm
  refine ⟨by rw [List.length_set]; exact E.len, fun j x hj => ?_, fun j w' es hj => ?_, fun a b q ha hb h1 h2 => E.u a b q ((live a).mp ha) ((has b).mp hb) h1 h2, fun j es q hj hq => ?_⟩
  · by_cases e : i = j
    · subst e; rw [List.getElem?_set_self (get_lt h)] at hj; cases hj
    · rw [List.getElem?_set_ne e] at hj
      obtain ⟨r, h1, h2⟩ := E.d j x hj
      refine ⟨r, h1, ?_⟩
      rcases h2 with h2 | ⟨q, es, hq, hx, h2⟩
      · exact .inl h2
      · refine .inr ⟨q, es, hq, hx, ?_⟩
        rw [List.getElem?_set_ne (fun z : k = q => e (E.u i j k ⟨w, ds, h⟩ ⟨_, hj⟩ hr (by rw [h1, hq, z])))]
        exact h2
  · by_cases e : i = j
    · subst e
      rw [List.getElem?_set_self (get_lt h)] at hj
      cases hj
      exact ⟨k, hr, List.getElem?_set_self (get_lt hk)⟩
    · rw [List.getElem?_set_ne e] at hj
      obtain ⟨q, h1, h2⟩ := E.l j w' es hj
      refine ⟨q, h1, ?_⟩
      rw [List.getElem?_set_ne (fun z : k = q => e (E.u i j k ⟨w, ds, h⟩ ⟨_, hj⟩ hr (by rw [z]; exact h1)))]
      exact h2
  · by_cases e : i = j
    · subst e
      rw [List.getElem?_set_self (get_lt h)] at hj
      cases hj
      exact E.z i ds q h hq
    · rw [List.getElem?_set_ne e] at hj
      exact E.z j es q hj hq
theorem Kp.put {i k : Nat} {w : Bool} {ds ds' : List PD} (h : env[i]? = some (some (.l w ds))) (hr : ρ[i]? = some (some (.ob k))) : Kp n env ρ μ (env.set i (some (.l w ds'))) (μ.set k (.ls w ds')) where
  le := by rw [List.length_set]; exact Nat.le_refl _
  fr := fun j _ hf => List.getElem?_set_ne (fun e => hf i ⟨_, h⟩ (by rw [← e]; exact hr))
  nl := fun j es hj _ => by
    rw [List.getElem?_set_ne (fun e => hj i ⟨w, ds, h⟩ (by rw [← e]; exact hr))]
    exact ⟨fun h => h, fun h => .inr h⟩
  len := List.length_set
  has := has_set ⟨_, h⟩
  live := fun j hj => by
    by_cases e : i = j
    · subst e; exact ⟨w, ds, h⟩
    · unfold Live at hj; rw [List.getElem?_set_ne e] at hj; exact hj
theorem sim_mutFin (E : Enc Z env ρ μ) (g : List PD → List PD → Option (PD × List PD)) {i : Nat} {r : RV} (hr : ρ[i]? = some (some r)) (es : List PD) : SimR Z (VE ρ n) n env ρ μ (mutFin g r es μ) (pmutFin g i es env) := by
  unfold pmutFin mutFin
  match h : env[i]? with
  | some (some (.l w ds)) =>
    obtain ⟨k, h1, h2⟩ := E.l i w ds h
    rw [hr] at h1
    cases h1
    have e : obAt μ (.ob k) = some (k, w, ds) := by
      show (match μ[k]? with | some (.ls o ds) => some (k, o, ds) | _ => none) = _
      rw [h2]
    simp only [e]
    match g ds es with
    | some (d, ds') => exact ⟨_, _, rfl, E.put h hr, .put h hr, .inl rfl, fun k h => by cases h⟩
    | none => trivial
  | some (some (.d x)) => trivial
  | some none => trivial
  | none => trivial
end
section
variable {Z : Nat → Option Nat} {fs : AV} {ps : PAV}
theorem m_Mut0 (g : List PD → List PD → Option (PD × List PD)) (i : Nat) : SimE Z (eMut0 g (eV i)) (pMut0 g i) := fun n env ρ μ hn E => by
  unfold eMut0 pMut0 eV
  match h : ρ[i]? with
  | some (some r) => exact sim_mutFin E g h []
  | some none =>
    unfold pmutFin
    match h2 : env[i]? with
    | some (some (.l w ds)) =>
      obtain ⟨k, h1, _⟩ := E.l i w ds h2
      rw [h] at h1; cases h1
    | some (some (.d x)) => trivial
    | some none => trivial
    | none => trivial
  | none =>
    unfold pmutFin
    match h2 : env[i]? with
    | some (some (.l w ds)) =>
      obtain ⟨k, h1, _⟩ := E.l i w ds h2
      rw [h] at h1; cases h1
    | some (some (.d x)) => trivial
    | some none => trivial
    | none => trivial
/-- what is asked for: a list at the name ahead of the arguments -/
def pMutW (g : List PD → List PD → Option (PD × List PD)) (i : Nat) (ps : PAV) : PEV := fun env => match env[i]? with
  | some (some (.l _ _)) => pMut g i ps env
  | _ => .no
theorem m_Mut (g : List PD → List PD → Option (PD × List PD)) (i : Nat) (hs : SimA Z fs ps) : SimE Z (eMut g (eV i) fs) (pMutW g i ps) := fun n env ρ μ hn E => by
  unfold pMutW
  match h : env[i]? with
  | some (some (.l w ds)) =>
    obtain ⟨k, h1, h2⟩ := E.l i w ds h
    unfold eMut eV pMut
    simp only [h1]
    have e : obAt μ (.ob k) = some (k, w, ds) := by
      show (match μ[k]? with | some (.ls o ds) => some (k, o, ds) | _ => none) = _
      rw [h2]
    show SimR Z (VE ρ n) n env ρ μ (match obAt μ (.ob k) with
      | some _ => (fs ρ μ).bind fun as μ2 => (frzs as μ2).bind fun es μ3 => mutFin g (.ob k) es μ3
      | none => .no) _
    simp only [e]
    exact (hs n env ρ μ hn E).bind (Nat.le_refl _) fun as rs env1 μ1 E1 k1 vs => (sim_frzs E1 vs).bind (Nat.le_refl _) fun es es' env2 μ2 E2 k2 e => by
      subst e
      exact sim_mutFin E2 g h1 _
  | some (some (.d x)) => trivial
  | some none => trivial
  | none => trivial
end
/-! ### what is walked -/
def pE (p : PEV) : PIV := fun env => (p env).bind fun r env1 => (pfrz r env1).bind fun d env2 => match itemsOf d with
  | some ds => .ok ds env2
  | none => .no
def intsV : List Val → Option (List Int)
  | [] => some []
  | .d (.int i) :: vs => (intsV vs).map (i :: ·)
  | _ => none
def pR1 (ps : PAV) : PIV := fun env => (ps env).bind fun vs env1 => match intsV vs with
  | some [j] => if small62 j = true then .ok (rangeL 0 j.toNat) env1 else .no
  | _ => .no
def pR2 (ps : PAV) : PIV := fun env => (ps env).bind fun vs env1 => match intsV vs with
  | some [i, j] => if (small62 i && small62 j) = true then .ok (rangeL i (j - i).toNat) env1 else .no
  | _ => .no
def pR3 (ps : PAV) : PIV := fun env => (ps env).bind fun vs env1 => match intsV vs with
  | some [i, j, c] => if (decide (c ≠ 0) && decide (c.natAbs < 1073741824) && Builtin.Range.small i j c && decide (0 ≤ Builtin.Range.rangeSize i j c)) = true then .ok (rangeCL i c (Builtin.Range.rangeSize i j c).toNat) env1 else .no
  | _ => .no
def pZip (ps : PAV) : PIV := fun env => (ps env).bind fun vs env1 => (pfrzs vs env1).bind fun ds env2 => match ds with
  | [x, y] => (match itemsOf x, itemsOf y with
    | some xs, some ys => .ok (zipD xs ys) env2
    | _, _ => .no)
  | _ => .no
def pEnum (ps : PAV) : PIV := fun env => (ps env).bind fun vs env1 => (pfrzs vs env1).bind fun ds env2 => match ds with
  | [x] => (match itemsOf x with
    | some xs => .ok (enumD 0 xs) env2
    | none => .no)
  | _ => .no
section
variable {Z : Nat → Option Nat} {f : EV} {p : PEV} {fs : AV} {ps : PAV} {env : Env} {ρ : Rho} {μ : Mu}
theorem ints_enc {m : Nat} {vs : List Val} {rs : List RV} (h : VsEnc env ρ μ m vs rs) : ∀ {is : List Int}, intsV vs = some is → rs = is.map fun i => .dt (.int i) := by
  induction h with
  | nil => intro is e; cases e; rfl
  | @cons n n' v r vs rs a _ _ _ ih =>
    intro is e
    match v, a, e with
    | .d (.int i), a, e =>
      have e : (intsV vs).map (i :: ·) = some is := e
      cases h : intsV vs with
      | none => rw [h] at e; cases e
      | some js =>
        rw [h] at e
        cases e
        rcases a.1 with rfl | ⟨_, _, _, h, _⟩
        · rw [ih h]; rfl
        · cases h
theorem m_E (ha : SimE Z f p) : SimI Z (iE f) (pE p) := fun n env ρ μ hn E =>
  (ha n env ρ μ hn E).bind (Nat.le_refl _) fun a ra env1 μ1 E1 k1 va => (sim_frz E1 va).bind (Nat.le_refl _) fun d d' env2 μ2 E2 k2 e => by
    obtain ⟨rfl, _⟩ := e
    cases h : itemsOf d' with
    | none => trivial
    | some ds => exact .pure E2 rfl
theorem m_R1 (hs : SimA Z fs ps) : SimI Z (iR1 fs) (pR1 ps) := fun n env ρ μ hn E =>
  (hs n env ρ μ hn E).bind (Nat.le_refl _) fun vs rs env1 μ1 E1 k1 h => by
    match e : intsV vs with
    | some [j] =>
      rw [ints_enc h e]
      show SimR _ _ _ _ _ _ (if small62 j = true then _ else _) (if small62 j = true then _ else _)
      by_cases c : small62 j = true
      · rw [if_pos c, if_pos c]; exact .pure E1 rfl
      · rw [if_neg c, if_neg c]; trivial
    | some [] => trivial
    | some (_ :: _ :: _) => trivial
    | none => trivial
theorem m_R2 (hs : SimA Z fs ps) : SimI Z (iR2 fs) (pR2 ps) := fun n env ρ μ hn E =>
  (hs n env ρ μ hn E).bind (Nat.le_refl _) fun vs rs env1 μ1 E1 k1 h => by
    match e : intsV vs with
    | some [i, j] =>
      rw [ints_enc h e]
      show SimR _ _ _ _ _ _ (if (small62 i && small62 j) = true then _ else _) (if (small62 i && small62 j) = true then _ else _)
      by_cases c : (small62 i && small62 j) = true
      · rw [if_pos c, if_pos c]; exact .pure E1 rfl
      · rw [if_neg c, if_neg c]; trivial
    | some [] => trivial
    | some [_] => trivial
    | some (_ :: _ :: _ :: _) => trivial
    | none => trivial
theorem m_R3 (hs : SimA Z fs ps) : SimI Z (iR3 fs) (pR3 ps) := fun n env ρ μ hn E =>
  (hs n env ρ μ hn E).bind (Nat.le_refl _) fun vs rs env1 μ1 E1 k1 h => by
    match e : intsV vs with
    | some [i, j, c] =>
      rw [ints_enc h e]
      show SimR _ _ _ _ _ _ (if (decide (c ≠ 0) && decide (c.natAbs < 1073741824) && Builtin.Range.small i j c && decide (0 ≤ Builtin.Range.rangeSize i j c)) = true then _ else _) (if (decide (c ≠ 0) && decide (c.natAbs < 1073741824) && Builtin.Range.small i j c && decide (0 ≤ Builtin.Range.rangeSize i j c)) = true then _ else _)
      by_cases q : (decide (c ≠ 0) && decide (c.natAbs < 1073741824) && Builtin.Range.small i j c && decide (0 ≤ Builtin.Range.rangeSize i j c)) = true
      · rw [if_pos q, if_pos q]; exact .pure E1 rfl
      · rw [if_neg q, if_neg q]; trivial
    | some [] => trivial
    | some [_] => trivial
    | some [_, _] => trivial
    | some (_ :: _ :: _ :: _ :: _) => trivial
    | none => trivial
theorem m_Zip (hs : SimA Z fs ps) : SimI Z (iZipD fs) (pZip ps) := fun n env ρ μ hn E =>
  (hs n env ρ μ hn E).bind (Nat.le_refl _) fun vs rs env1 μ1 E1 k1 h => (sim_frzs E1 h).bind (Nat.le_refl _) fun ds ds' env2 μ2 E2 k2 e => by
    subst e
    match ds' with
    | [x, y] =>
      show SimR _ _ _ _ _ _ (match itemsOf x, itemsOf y with | some xs, some ys => Rs.ok (zipD xs ys) μ2 | _, _ => Rs.no) (match itemsOf x, itemsOf y with | some xs, some ys => Pr.ok (zipD xs ys) env2 | _, _ => Pr.no)
      cases itemsOf x with
      | none => trivial
      | some xs => cases itemsOf y with
        | none => trivial
        | some ys => exact .pure E2 rfl
    | [] => trivial
    | [_] => trivial
    | _ :: _ :: _ :: _ => trivial
theorem m_Enum (hs : SimA Z fs ps) : SimI Z (iEnumD fs) (pEnum ps) := fun n env ρ μ hn E =>
  (hs n env ρ μ hn E).bind (Nat.le_refl _) fun vs rs env1 μ1 E1 k1 h => (sim_frzs E1 h).bind (Nat.le_refl _) fun ds ds' env2 μ2 E2 k2 e => by
    subst e
    match ds' with
    | [x] =>
      show SimR _ _ _ _ _ _ (match itemsOf x with | some xs => Rs.ok (enumD 0 xs) μ2 | none => Rs.no) (match itemsOf x with | some xs => Pr.ok (enumD 0 xs) env2 | none => Pr.no)
      cases itemsOf x with
      | none => trivial
      | some xs => exact .pure E2 rfl
    | [] => trivial
    | _ :: _ :: _ => trivial
end
end DL
/-! The pure layer, third part: targets, comprehensions, statements. -/
namespace DL
open PySem PySem.Spec PyProof.Rows L2
/-! ### targets -/
/-- other data at some names, all else as before -/
structure Shd (vs : List Nat) (env : Env) (ρ : Rho) (env1 : Env) (ρ1 : Rho) : Prop where
  l1 : env1.length = env.length
  l2 : ρ1.length = ρ.length
  o : ∀ i, i ∉ vs → env1[i]? = env[i]? ∧ ρ1[i]? = ρ[i]?
  n : ∀ i, i ∈ vs → ∀ c, env1[i]? = some (some c) → ∃ x, c = .d x ∧ ρ1[i]? = some (some (.dt x))
abbrev PGV := PD → Env → Option Env
def SimG (tg : RV → Rho → Option Rho) (p : PGV) (vs : List Nat) : Prop := ∀ d env env1 ρ, env.length = ρ.length → p d env = some env1 → ∃ ρ1, tg (.dt d) ρ = some ρ1 ∧ Shd vs env ρ env1 ρ1
def SimGs (tg : List PD → Rho → Option Rho) (p : List PD → Env → Option Env) (vs : List Nat) : Prop := ∀ ds env env1 ρ, env.length = ρ.length → p ds env = some env1 → ∃ ρ1, tg ds ρ = some ρ1 ∧ Shd vs env ρ env1 ρ1
def pgN (i : Nat) : PGV := fun d env => some (env.set i (some (.d d)))
def pgT (n : Nat) (ts : List PD → Env → Option Env) : PGV := fun d env => match d with
  | .tuple ds => if ds.length = n then ts ds env else none
  | _ => none
def pgN0 : List PD → Env → Option Env := fun ds env => match ds with
  | [] => some env
  | _ => none
def pgCn (t : PGV) (ts : List PD → Env → Option Env) : List PD → Env → Option Env := fun ds env => match ds with
  | d :: r => (t d env).bind (ts r)
  | [] => none
section
variable {env env1 env2 : Env} {ρ ρ1 ρ2 : Rho} {vs ws : List Nat}
theorem Shd.trans (a : Shd vs env ρ env1 ρ1) (b : Shd ws env1 ρ1 env2 ρ2) : Shd (vs ++ ws) env ρ env2 ρ2 where
  l1 := b.l1.trans a.l1
  l2 := b.l2.trans a.l2
  o := fun i h => by
    rw [List.mem_append, not_or] at h
    exact ⟨(b.o i h.2).1.trans (a.o i h.1).1, (b.o i h.2).2.trans (a.o i h.1).2⟩
  n := fun i h c hc => by
    by_cases hw : i ∈ ws
    · exact b.n i hw c hc
    · rw [(b.o i hw).1] at hc
      rw [(b.o i hw).2]
      exact a.n i ((List.mem_append.mp h).resolve_right hw) c hc
theorem mg_N (i : Nat) : SimG (gN i) (pgN i) [i] := fun d env env1 ρ hl h => by
  cases h
  refine ⟨_, rfl, List.length_set, List.length_set, fun j hj => ?_, fun j hj c hc => ?_⟩
  · rw [List.mem_singleton] at hj
    exact ⟨List.getElem?_set_ne (Ne.symm hj), List.getElem?_set_ne (Ne.symm hj)⟩
  · rw [List.mem_singleton] at hj
    subst hj
    by_cases h : j < env.length
    · rw [List.getElem?_set_self h] at hc
      cases hc
      exact ⟨d, rfl, List.getElem?_set_self (hl ▸ h)⟩
    · rw [List.getElem?_eq_none (by rw [List.length_set]; omega)] at hc
      cases hc
theorem mg_T {n : Nat} {t : List PD → Rho → Option Rho} {p : List PD → Env → Option Env} (h : SimGs t p vs) : SimG (gT n t) (pgT n p) vs := fun d env env1 ρ hl e => by
  match d, e with
  | .tuple ds, e =>
    have e : (if ds.length = n then p ds env else none) = some env1 := e
    by_cases hn : ds.length = n
    · rw [if_pos hn] at e
      obtain ⟨ρ1, h1, h2⟩ := h ds env env1 ρ hl e
      exact ⟨ρ1, by show (if ds.length = n then t ds ρ else none) = _; rw [if_pos hn]; exact h1, h2⟩
    · rw [if_neg hn] at e; cases e
theorem mg_N0 : SimGs gN0 pgN0 [] := fun ds env env1 ρ hl e => by
  match ds, e with
  | [], e => cases e; exact ⟨ρ, rfl, rfl, rfl, fun _ _ => ⟨rfl, rfl⟩, fun i h => by cases h⟩
theorem mg_Cn {t : RV → Rho → Option Rho} {p : PGV} {ts : List PD → Rho → Option Rho} {ps : List PD → Env → Option Env} (h1 : SimG t p vs) (h2 : SimGs ts ps ws) : SimGs (gCn t ts) (pgCn p ps) (vs ++ ws) := fun ds env env1 ρ hl e => by
  match ds, e with
  | d :: r, e =>
    have e : (p d env).bind (ps r) = some env1 := e
    cases h : p d env with
    | none => rw [h] at e; cases e
    | some env2 =>
      rw [h] at e
      obtain ⟨ρ2, a1, a2⟩ := h1 d env env2 ρ hl h
      obtain ⟨ρ1, b1, b2⟩ := h2 r env2 env1 ρ2 (by rw [a2.l1, a2.l2, hl]) e
      exact ⟨ρ1, by show (t (.dt d) ρ).bind (ts r) = _; rw [a1]; exact b1, a2.trans b2⟩
end
/-! ### comprehensions -/
def wipeE (env : Env) : List Nat → Env
  | [] => env
  | v :: vs => (wipeE env vs).set v none
def restE (env0 : Env) : List Nat → Env → Env
  | [], env => env
  | v :: vs, env => match env0[v]? with
    | some c => (restE env0 vs env).set v c
    | none => restE env0 vs env
def Pr.noer {β : Type} : Pr β → Pr β
  | .er _ _ => .no
  | x => x
def pcompL (tg : PGV) (tt : PTV) (te : PEV) (vs : List Nat) : List PD → List PD → Env → Pr (List PD)
  | [], acc, env => .ok acc env
  | d :: r, acc, env => match tg d (wipeE env vs) with
    | none => .no
    | some env1 => (tt env1).noer.bind fun b env2 => if b = true then (te env2).noer.bind fun y env3 => (pfrz y env3).bind fun x env4 => if acc.length < sizeLine then pcompL tg tt te vs r (acc ++ [x]) (restE env vs env4) else .no
      else pcompL tg tt te vs r acc (restE env vs env2)
def pComp (fi : PIV) (tg : PGV) (tt : PTV) (te : PEV) (vs : List Nat) : PEV := fun env => (fi env).bind fun items env1 => (pcompL tg tt te vs items [] env1).bind fun ds env2 => .ok (.t ds) env2
section
variable {n : Nat} {Z : Nat → Option Nat} {env env1 env2 : Env} {ρ ρ1 : Rho} {μ μ1 : Mu} {vs : List Nat}
theorem wipeE_length : ∀ vs : List Nat, (wipeE env vs).length = env.length
  | [] => rfl
  | v :: vs => by show ((wipeE env vs).set v none).length = _; rw [List.length_set, wipeE_length vs]
theorem wipe_shd (hl : env.length = ρ.length) : ∀ vs : List Nat, Shd vs env ρ (wipeE env vs) (wipeR ρ vs)
  | [] => ⟨rfl, rfl, fun _ _ => ⟨rfl, rfl⟩, fun i h => by cases h⟩
  | v :: vs => by
    have ih := wipe_shd hl vs
    refine ⟨wipeE_length _, wipeR_length _ _, fun i h => ?_, fun i h c hc => ?_⟩
    · rw [List.mem_cons, not_or] at h
      show ((wipeE env vs).set v none)[i]? = _ ∧ ((wipeR ρ vs).set v none)[i]? = _
      rw [List.getElem?_set_ne (Ne.symm h.1), List.getElem?_set_ne (Ne.symm h.1)]
      exact ih.o i h.2
    · have hc : ((wipeE env vs).set v none)[i]? = some (some c) := hc
      show ∃ x, c = .d x ∧ ((wipeR ρ vs).set v none)[i]? = some (some (.dt x))
      by_cases e : v = i
      · subst e
        by_cases hi : v < (wipeE env vs).length
        · rw [List.getElem?_set_self hi] at hc; cases hc
        · rw [List.getElem?_eq_none (by rw [List.length_set]; omega)] at hc; cases hc
      · rw [List.getElem?_set_ne e] at hc ⊢
        exact ih.n i ((List.mem_cons.mp h).resolve_left (Ne.symm e)) c hc
theorem restE_length (env0 : Env) : ∀ (vs : List Nat) (e : Env), (restE env0 vs e).length = e.length
  | [], _ => rfl
  | v :: vs, e => by
    unfold restE
    cases env0[v]? with
    | none => exact restE_length env0 vs e
    | some c => show ((restE env0 vs e).set v c).length = _; rw [List.length_set, restE_length env0 vs e]
theorem restE_get (env0 : Env) : ∀ (vs : List Nat) (e : Env), e.length = env0.length → ∀ i, (restE env0 vs e)[i]? = if i ∈ vs then env0[i]? else e[i]?
  | [], e, _, i => by rw [if_neg (List.not_mem_nil)]; rfl
  | v :: vs, e, hl, i => by
    have ih := restE_get env0 vs e hl i
    have hln := restE_length env0 vs e
    unfold restE
    by_cases e1 : v = i
    · subst e1
      rw [if_pos (List.mem_cons_self ..)]
      cases h : env0[v]? with
      | none =>
        show (restE env0 vs e)[v]? = none
        have := List.getElem?_eq_none_iff.mp h
        exact List.getElem?_eq_none (by omega)
      | some c =>
        show ((restE env0 vs e).set v c)[v]? = some c
        exact List.getElem?_set_self (by have := get_lt h; omega)
    · have hm : i ∈ v :: vs ↔ i ∈ vs := by rw [List.mem_cons]; exact ⟨fun h => h.resolve_left (Ne.symm e1), .inr⟩
      simp only [hm]
      cases h : env0[v]? with
      | none => exact ih
      | some c =>
        show ((restE env0 vs e).set v c)[i]? = _
        rw [List.getElem?_set_ne e1]
        exact ih
theorem Shd.enc (E : Enc Z env ρ μ) (s : Shd vs env ρ env1 ρ1) : Enc Z env1 ρ1 μ := by
  have hd : ∀ i, i ∈ vs → ¬ Live env1 i := fun i hi ⟨w, ds, h⟩ => by
    obtain ⟨x, e, _⟩ := s.n i hi _ h
    cases e
  refine ⟨by rw [s.l1, s.l2]; exact E.len, fun i x h => ?_, fun i w ds h => ?_, fun i j k hi hj h1 h2 => ?_, fun i ds k h hk => ?_⟩
  · by_cases hv : i ∈ vs
    · obtain ⟨y, e, h1⟩ := s.n i hv _ h
      cases e
      exact ⟨_, h1, .inl rfl⟩
    · rw [(s.o i hv).1] at h
      rw [(s.o i hv).2]
      exact E.d i x h
  · have hv : i ∉ vs := fun hv => hd i hv ⟨w, ds, h⟩
    rw [(s.o i hv).1] at h
    rw [(s.o i hv).2]
    exact E.l i w ds h
  · have hv : i ∉ vs := fun hv => hd i hv hi
    have hw : j ∉ vs := fun hw => by
      obtain ⟨c, hc⟩ := hj
      obtain ⟨x, _, e⟩ := s.n j hw c hc
      rw [e] at h2
      cases h2
    unfold Live at hi
    unfold Has at hj
    rw [(s.o i hv).1] at hi
    rw [(s.o j hw).1] at hj
    rw [(s.o i hv).2] at h1
    rw [(s.o j hw).2] at h2
    exact E.u i j k hi hj h1 h2
  · have hv : i ∉ vs := fun hv => hd i hv ⟨_, _, h⟩
    rw [(s.o i hv).1] at h
    rw [(s.o i hv).2] at hk
    exact E.z i ds k h hk
/-- some object of a shaded frame's is one of the frame's -/
theorem Shd.ob (s : Shd vs env ρ env1 ρ1) {i k : Nat} (h : Has env1 i) (hr : ρ1[i]? = some (some (.ob k))) : i ∉ vs ∧ Has env i ∧ ρ[i]? = some (some (.ob k)) := by
  have hv : i ∉ vs := fun hv => by
    obtain ⟨c, hc⟩ := h
    obtain ⟨x, _, e⟩ := s.n i hv c hc
    rw [e] at hr
    cases hr
  unfold Has at h
  rw [(s.o i hv).1] at h
  rw [(s.o i hv).2] at hr
  exact ⟨hv, h, hr⟩
theorem Shd.free (s : Shd vs env ρ env1 ρ1) {k : Nat} (h : Free env ρ k) : Free env1 ρ1 k := fun i hi hr => h i (s.ob hi hr).2.1 (s.ob hi hr).2.2
theorem Shd.notLive (s : Shd vs env ρ env1 ρ1) {k : Nat} (h : NotLive env ρ k) : NotLive env1 ρ1 k := fun i hi hr => by
  obtain ⟨hv, _, h2⟩ := s.ob hi.has hr
  refine h i ?_ h2
  unfold Live at hi ⊢
  rw [(s.o i hv).1] at hi
  exact hi
/-- behind a comprehension's turn the names are as before -/
theorem Shd.back (E : Enc Z env ρ μ) (s : Shd vs env ρ env1 ρ1) (E2 : Enc Z env2 ρ1 μ1) (k : Kp μ.length env1 ρ1 μ env2 μ1) : Enc Z (restE env vs env2) ρ μ1 ∧ Kp μ.length env ρ μ (restE env vs env2) μ1 := by
  have hlen : env2.length = env.length := k.len.trans s.l1
  have hg := restE_get env vs env2 hlen
  have hin : ∀ i, i ∈ vs → (restE env vs env2)[i]? = env[i]? := fun i h => by rw [hg, if_pos h]
  have hout : ∀ i, i ∉ vs → (restE env vs env2)[i]? = env2[i]? := fun i h => by rw [hg, if_neg h]
  have hlo : ∀ i, i ∉ vs → Live (restE env vs env2) i → Live env i := fun i h hl => by
    unfold Live at hl; rw [hout i h] at hl
    have := k.live i hl
    unfold Live at this ⊢; rw [(s.o i h).1] at this; exact this
  have hho : ∀ i, i ∉ vs → (Has (restE env vs env2) i ↔ Has env i) := fun i h => by
    have := k.has i
    unfold Has at this ⊢
    rw [hout i h, ← this, (s.o i h).1]
  have hhi : ∀ i, i ∈ vs → (Has (restE env vs env2) i ↔ Has env i) := fun i h => by unfold Has; rw [hin i h]
  have hh : ∀ i, Has (restE env vs env2) i ↔ Has env i := fun i => by
    by_cases h : i ∈ vs
    · exact hhi i h
    · exact hho i h
  have hl : ∀ i, Live (restE env vs env2) i → Live env i := fun i h => by
    by_cases hv : i ∈ vs
    · unfold Live at h ⊢; rw [hin i hv] at h; exact h
    · exact hlo i hv h
  have kp : ∀ (j : Nat) (ds : List PD), NotLive env ρ j → (μ[j]? = some (.fz ds) → μ1[j]? = some (.fz ds)) ∧ (μ[j]? = some (.ls true ds) → μ1[j]? = some (.fz ds) ∨ μ1[j]? = some (.ls true ds)) := fun j ds hn => by
    by_cases hf : Free env1 ρ1 j
    · refine ⟨fun h => ?_, fun h => ?_⟩
      · rw [k.fr j (get_lt h) hf]; exact h
      · rw [k.fr j (get_lt h) hf]; exact .inr h
    · exact k.nl j ds (s.notLive hn) hf
  have dt : ∀ (i : Nat) (x : PD) (r : RV), env[i]? = some (some (.d x)) → ρ[i]? = some (some r) → Dt μ x r → Dt μ1 x r := fun i x r hi hr hd => by
    rcases hd with hd | ⟨j, ds, e, hx, hd⟩
    · exact .inl hd
    · refine .inr ⟨j, ds, e, hx, ?_⟩
      obtain ⟨a, b⟩ := kp j ds (E.nl_of hi (e ▸ hr))
      rcases hd with hd | hd
      · exact .inl (a hd)
      · exact b hd
  refine ⟨⟨by rw [restE_length, hlen]; exact E.len, fun i x h => ?_, fun i w ds h => ?_, fun i j q hi hj h1 h2 => E.u i j q (hl i hi) ((hh j).mp hj) h1 h2, fun i ds q h hq => ?_⟩, ⟨k.le, fun j hj hf => k.fr j hj (s.free hf), fun j ds hn _ => kp j ds hn, by rw [restE_length, hlen], fun i => (hh i).symm, hl⟩⟩
  · by_cases hv : i ∈ vs
    · rw [hin i hv] at h
      obtain ⟨r, h1, h2⟩ := E.d i x h
      exact ⟨r, h1, dt i x r h h1 h2⟩
    · rw [hout i hv] at h
      obtain ⟨r, h1, h2⟩ := E2.d i x h
      rw [(s.o i hv).2] at h1
      exact ⟨r, h1, h2⟩
  · by_cases hv : i ∈ vs
    · rw [hin i hv] at h
      obtain ⟨q, h1, h2⟩ := E.l i w ds h
      refine ⟨q, h1, ?_⟩
      rw [k.fr q (get_lt h2) (fun j hj hr => ?_)]
      · exact h2
      · obtain ⟨hw, hj2, hr2⟩ := s.ob hj hr
        have := E.u i j q ⟨w, ds, h⟩ hj2 h1 hr2
        exact hw (this ▸ hv)
    · rw [hout i hv] at h
      obtain ⟨q, h1, h2⟩ := E2.l i w ds h
      rw [(s.o i hv).2] at h1
      exact ⟨q, h1, h2⟩
  · by_cases hv : i ∈ vs
    · rw [hin i hv] at h; exact E.z i ds q h hq
    · rw [hout i hv] at h
      refine E2.z i ds q h ?_
      rw [(s.o i hv).2]; exact hq
theorem SimR.noer {β γ : Type} {V : γ → β → Env → Mu → Prop} {x : Rs β} {p : Pr γ} (h : SimR Z V n env ρ μ x p) : SimR Z V n env ρ μ x.noer p.noer := by
  cases p with
  | ok b e => obtain ⟨r, m, rfl, h2⟩ := h; exact ⟨r, m, rfl, h2⟩
  | er y e => trivial
  | no => trivial
theorem sim_compL {tg : RV → Rho → Option Rho} {ptg : PGV} {tt : TV} {ptt : PTV} {te : EV} {pte : PEV} {L : List Nat} (hg : SimG tg ptg L) (ht : SimT Z tt ptt) (he : SimE Z te pte) (hL : ∀ i ∈ L, i ∈ vs) {k : Nat} :
    ∀ (items acc : List PD) (env : Env) (μ : Mu), n ≤ k → Enc Z env ρ μ → μ[k]? = some (.ls true acc) → Free env ρ k →
      SimR Z (fun ds _ e m => m[k]? = some (.ls true ds) ∧ Free e ρ k) n env ρ μ (compL tg tt te vs k items ρ μ) (pcompL ptg ptt pte vs items acc env)
  | [], acc, env, μ, hn, E, hk, hf => .pure E ⟨hk, hf⟩
  | d :: r, acc, env, μ, hn, E, hk, hf => by
    unfold compL pcompL
    have s0 := wipe_shd (vs := vs) E.len
    cases hp : ptg d (wipeE env vs) with
    | none => trivial
    | some env1 =>
      obtain ⟨ρ1, e1, s1⟩ := hg d _ env1 (wipeR ρ vs) (by rw [s0.l1, s0.l2]; exact E.len) hp
      have s : Shd vs env ρ env1 ρ1 := by
        have s2 := s0.trans s1
        refine ⟨s2.l1, s2.l2, fun i h => s2.o i (fun z => ?_), fun i h => s2.n i (List.mem_append.mpr (.inl h))⟩
        rcases List.mem_append.mp z with z | z
        · exact h z
        · exact h (hL i z)
      simp only [e1]
      have E1 := s.enc E
      have hkl : k < μ.length := get_lt hk
      have hnl : n ≤ μ.length := by omega
      -- the test
      have a := (ht μ.length env1 ρ1 μ (Nat.le_refl _) E1).noer
      cases hpt : (ptt env1).noer with
      | no => trivial
      | er x e =>
        cases hq : ptt env1 with
        | er x e => rw [hq] at hpt; cases hpt
        | ok b e => rw [hq] at hpt; cases hpt
        | no => rw [hq] at hpt; cases hpt
      | ok b env2 =>
        rw [hpt] at a
        obtain ⟨b', μ2, ex, E2, k2, rfl⟩ := a
        rw [ex]
        show SimR _ _ _ _ _ _ (if b' = true then _ else _) (if b' = true then _ else _)
        have hk2 : μ2[k]? = some (.ls true acc) := (k2.fr k hkl (s.free hf)).trans hk
        cases b' with
        | false =>
          rw [if_neg (by simp), if_neg (by simp)]
          obtain ⟨E3, k3⟩ := s.back E E2 k2
          exact (sim_compL hg ht he hL r acc _ μ2 hn E3 hk2 (k3.free hf)).kp (k3.base hnl)
        | true =>
          rw [if_pos rfl, if_pos rfl]
          have b1 := (he μ2.length env2 ρ1 μ2 (Nat.le_refl _) E2).noer
          cases hpe : (pte env2).noer with
          | no => trivial
          | er x e =>
            cases hq : pte env2 with
            | er x e => rw [hq] at hpe; cases hpe
            | ok b e => rw [hq] at hpe; cases hpe
            | no => rw [hq] at hpe; cases hpe
          | ok y env3 =>
            rw [hpe] at b1
            obtain ⟨ry, μ3, ey, E3, k3, vy⟩ := b1
            rw [ey]
            show SimR _ _ _ _ _ _ ((frz ry μ3).bind _) ((pfrz y env3).bind _)
            have c1 := sim_frz E3 vy
            have hk3 : μ3[k]? = some (.ls true acc) := (k3.fr k (get_lt hk2) (k2.free (s.free hf))).trans hk2
            have hf3 : Free env3 ρ1 k := k3.free (k2.free (s.free hf))
            have hry : ry ≠ .ob k := fun z => by
              subst z
              cases y with
              | d x =>
                have := (vy.2 k rfl).2 hf3
                have := get_lt hk2
                omega
              | t ds =>
                obtain ⟨j, e, _, _, hj⟩ := vy
                cases e
                have := get_lt hk2
                omega
              | v i => exact hf3 i vy.2 vy.1
            cases hpf : pfrz y env3 with
            | no => trivial
            | er x e => rw [hpf] at c1; obtain ⟨m, em, _⟩ := c1; exact (by
                rw [em]
                obtain ⟨m', h1, h2, h3⟩ : ∃ m', frz ry μ3 = .er x m' ∧ Enc Z e ρ1 m' ∧ Kp μ2.length env3 ρ1 μ3 e m' := ⟨m, em, by assumption⟩
                exfalso
                unfold frz at em
                cases ry with
                | dt d => cases em
                | ob j =>
                  have em : frzAt j μ3 μ3[j]? = .er x m := em
                  unfold frzAt at em
                  split at em <;> cases em
                | un u => cases em)
            | ok x env4 =>
              rw [hpf] at c1
              obtain ⟨x', μ4, ex4, E4, k4, rfl, fz⟩ := c1
              rw [ex4]
              show SimR _ _ _ _ _ _ (match snocAt k x' μ4 with | some μ5 => compL tg tt te vs k r ρ μ5 | none => Rs.no) (if acc.length < sizeLine then _ else _)
              have hk4 : μ4[k]? = some (.ls true acc) := by
                rcases fz k with e | ⟨_, _, _, e⟩
                · rw [e]; exact hk3
                · exact absurd e hry
              have hsn : snocAt k x' μ4 = if acc.length < sizeLine then some (μ4.set k (.ls true (acc ++ [x']))) else none := by
                unfold snocAt; rw [hk4]
              by_cases hz : acc.length < sizeLine
              · rw [if_pos hz] at hsn ⊢
                rw [hsn]
                have kk : Kp μ.length env1 ρ1 μ env4 μ4 := k2.trans ((k3.base k2.le).trans (k4.base k2.le))
                obtain ⟨E5, k5⟩ := s.back E E4 kk
                have hf5 := k5.free hf
                refine ((sim_compL hg ht he hL r (acc ++ [x']) _ (μ4.set k (.ls true (acc ++ [x']))) hn (E5.setFree hf5) (List.getElem?_set_self (get_lt hk4)) hf5).kp ((k5.base hnl).trans (Kp.setFree hf5 hn)))
              · rw [if_neg hz]; trivial
theorem m_Comp {fi : IV} {pfi : PIV} {tg : RV → Rho → Option Rho} {ptg : PGV} {tt : TV} {ptt : PTV} {te : EV} {pte : PEV} {L : List Nat} (hi : SimI Z fi pfi) (hg : SimG tg ptg L) (ht : SimT Z tt ptt) (he : SimE Z te pte) (hL : ∀ i ∈ L, i ∈ vs) : SimE Z (eComp fi tg tt te vs) (pComp pfi ptg ptt pte vs) := fun n env ρ μ hn E =>
  (hi n env ρ μ hn E).bind (Nat.le_refl _) fun items items' env1 μ1 E1 k1 e => by
    subst e
    have hn1 := Nat.le_trans hn k1.le
    have E2 : Enc Z env1 ρ (μ1 ++ [.ls true []]) := E1.mono fun k m h => get_app h
    have a := sim_compL (n := n) (ρ := ρ) hg ht he hL items' [] env1 (μ1 ++ [.ls true []]) hn1 E2 (get_last _ _) (fun i h hr => E1.new i h hr)
    refine SimR.kp (SimR.bind a (Nat.le_refl _) fun ds u env2 μ2 E3 k3 v => ?_) (.app hn1)
    exact .pure E3 ⟨μ1.length, rfl, v.1, v.2, hn1⟩
end
end DL
/-! The pure layer, fourth part: calls of defs, statements, defs. -/
namespace DL
open PySem PySem.Spec PyProof.Rows L2
/-! ### calls of defs -/
inductive Pq where
  | ok (c : Cell) (ms : List (List PD))
  | er (e : Ex) (ms : List (List PD))
  | no
abbrev PFV := List Cell → Pq
def toArg : Cell → Arg
  | .d x => .d x
  | .l _ ds => .b (.ls false ds)
def RetS : Cell → Ret → Prop
  | .d x, R => R = .d x ∨ ∃ ds, x = .list ds ∧ R = .o (.ls true ds)
  | .l w ds, R => w = true ∧ R = .o (.ls true ds)
def QEnc (R : Rf) : Pq → Prop
  | .ok c ms => ∃ r, R = .ok r (ms.map (Ob.ls false)) ∧ RetS c r
  | .er e ms => R = .er e (ms.map (Ob.ls false))
  | .no => True
def SimF (F : FV) (q : PFV) : Prop := ∀ cs, QEnc (F (cs.map toArg)) (q cs)
inductive PArg where
  | d (x : PD)
  | s (i : Nat)
def pfrzM : List Bool → List Val → Env → Pr (List PArg)
  | true :: bs, v :: vs, env => (pfrzM bs vs env).bind fun as env1 => match v with
    | .v i => .ok (.s i :: as) env1
    | _ => .no
  | false :: bs, v :: vs, env => (pfrz v env).bind fun d env1 => (pfrzM bs vs env1).bind fun as env2 => .ok (.d d :: as) env2
  | _, [], env => .ok [] env
  | [], _ :: _, _ => .no
def pcells (env : Env) : List PArg → Option (List Cell)
  | [] => some []
  | .d x :: as => (pcells env as).map (.d x :: ·)
  | .s i :: as => match env[i]? with
    | some (some (.l w ds)) => (pcells env as).map (.l w ds :: ·)
    | _ => none
def pslots : List PArg → List Nat
  | [] => []
  | .d _ :: as => pslots as
  | .s i :: as => i :: pslots as
def putBack : List Nat → List (List PD) → Env → Env
  | i :: is, ds :: dss, env => match env[i]? with
    | some (some (.l w _)) => putBack is dss (env.set i (some (.l w ds)))
    | _ => putBack is dss env
  | _, _, env => env
def pqFin (is : List Nat) (env : Env) : Pq → Pr Val
  | .ok (.d x) ms => .ok (.d x) (putBack is ms env)
  | .ok (.l _ ds) ms => .ok (.t ds) (putBack is ms env)
  | .er e ms => .er e (putBack is ms env)
  | .no => .no
def pcallFin (q : PFV) (as : List PArg) (env : Env) : Pr Val := match pcells env as with
  | none => .no
  | some cs => if (pslots as).Nodup then pqFin (pslots as) env (q cs) else .no
def pDef (q : PFV) (bs : List Bool) (nn : Nat) (ps : PAV) : PEV := fun env => (ps env).bind fun vs env1 => if vs.length = nn then (pfrzM bs vs env1).bind fun as env2 => pcallFin q as env2 else .no
inductive AEnc (ρ : Rho) : List PArg → List RV → Prop
  | nil : AEnc ρ [] []
  | d {x : PD} {as : List PArg} {rs : List RV} : AEnc ρ as rs → AEnc ρ (.d x :: as) (.dt x :: rs)
  | s {i : Nat} {r : RV} {as : List PArg} {rs : List RV} : ρ[i]? = some (some r) → AEnc ρ as rs → AEnc ρ (.s i :: as) (r :: rs)
inductive KEnc (ρ : Rho) : List Nat → List Nat → Prop
  | nil : KEnc ρ [] []
  | cons {i k : Nat} {is ks : List Nat} : ρ[i]? = some (some (.ob k)) → KEnc ρ is ks → KEnc ρ (i :: is) (k :: ks)
section
variable {n : Nat} {Z : Nat → Option Nat} {env env1 : Env} {ρ : Rho} {μ : Mu}
theorem VsEnc.length {vs : List Val} {rs : List RV} (h : VsEnc env ρ μ n vs rs) : vs.length = rs.length := by
  induction h with
  | nil => rfl
  | cons _ _ _ _ ih => rw [List.length_cons, List.length_cons, ih]
theorem frz_noer {r : RV} {e : Ex} {m : Mu} (h : frz r μ = .er e m) : False := by
  unfold frz at h
  cases r with
  | dt d => cases h
  | ob j =>
    have h : frzAt j μ μ[j]? = .er e m := h
    unfold frzAt at h
    split at h <;> cases h
  | un u => cases h
theorem sim_frzM : ∀ {bs : List Bool} {vs : List Val} {rs : List RV} {n : Nat} {env : Env} {μ : Mu}, Enc Z env ρ μ → VsEnc env ρ μ n vs rs → SimR Z (fun as rs' _ _ => AEnc ρ as rs') n env ρ μ (frzM bs rs μ) (pfrzM bs vs env)
  | bs, _, _, n, env, μ, E, .nil => by
    have e : frzM bs [] μ = .ok [] μ := by cases bs with | nil => rfl | cons b bs => cases b <;> rfl
    have e2 : pfrzM bs [] env = .ok [] env := by cases bs with | nil => rfl | cons b bs => cases b <;> rfl
    rw [e, e2]
    exact .pure E .nil
  | [], _, _, n, env, μ, E, .cons _ _ _ _ => trivial
  | true :: bs, _, _, n, env, μ, E, .cons (v := v) (r := r) hv hn hr hs =>
    (sim_frzM (bs := bs) E hs).bind hn fun as rs' env1 μ1 E1 k1 a => by
      cases v with
      | v i => exact .pure E1 (.s hv.1 a)
      | d x => trivial
      | t ds => trivial
  | false :: bs, _, _, n, env, μ, E, .cons (v := v) (r := r) hv hn hr hs =>
    (sim_frz E hv).bind (Nat.le_refl _) fun d d' env1 μ1 E1 k1 e => (sim_frzM (bs := bs) E1 (hs.fzd k1 e.2 hr (Nat.le_refl _))).bind hn fun as rs' env2 μ2 E2 k2 a => by
      obtain ⟨rfl, _⟩ := e
      exact .pure E2 (.d a)
theorem lend_sim (E : Enc Z env ρ μ) : ∀ {as : List PArg} {rs : List RV} {cs : List Cell}, AEnc ρ as rs → pcells env as = some cs → ∃ ks, lend μ rs = some (cs.map toArg, ks) ∧ KEnc ρ (pslots as) ks
  | _, _, cs, .nil, e => by cases e; exact ⟨[], rfl, .nil⟩
  | _, _, cs, .d (x := x) (as := as) (rs := rs) h, e => by
    have e : (pcells env as).map (Cell.d x :: ·) = some cs := e
    cases h1 : pcells env as with
    | none => rw [h1] at e; cases e
    | some cs' =>
      rw [h1] at e
      cases e
      obtain ⟨ks, h2, h3⟩ := lend_sim E h h1
      exact ⟨ks, by show (lend μ rs).map _ = _; rw [h2]; rfl, h3⟩
  | _, _, cs, .s (i := i) (r := r) (as := as) (rs := rs) hr h, e => by
    have e : (match env[i]? with | some (some (.l w ds)) => (pcells env as).map (Cell.l w ds :: ·) | _ => none) = some cs := e
    match hi : env[i]?, e with
    | some (some (.l w ds)), e =>
      obtain ⟨k, h1, h2⟩ := E.l i w ds hi
      rw [hr] at h1
      cases h1
      cases h3 : pcells env as with
      | none => rw [h3] at e; cases e
      | some cs' =>
        rw [h3] at e
        cases e
        obtain ⟨ks, h4, h5⟩ := lend_sim E h h3
        refine ⟨k :: ks, ?_, .cons hr h5⟩
        show (match μ[k]? with | some m => if m.own = none then none else (lend μ rs).map fun (p : List Arg × List Nat) => (Arg.b (m.with false) :: p.1, k :: p.2) | none => none) = _
        rw [h2]
        show (if (Ob.ls w ds).own = none then none else (lend μ rs).map fun (p : List Arg × List Nat) => (Arg.b ((Ob.ls w ds).with false) :: p.1, k :: p.2)) = _
        rw [if_neg (by intro z; cases z), h4]
        rfl
    | some (some (.d x)), e => cases e
    | some none, e => cases e
    | none, e => cases e
/-- all lent names hold lists -/
def AllLive (env : Env) (is : List Nat) : Prop := ∀ i ∈ is, Live env i
theorem pcells_live : ∀ {as : List PArg} {cs : List Cell}, pcells env as = some cs → AllLive env (pslots as)
  | [], cs, e => fun i h => by cases h
  | .d x :: as, cs, e => by
    have e : (pcells env as).map (Cell.d x :: ·) = some cs := e
    cases h1 : pcells env as with
    | none => rw [h1] at e; cases e
    | some cs' => exact fun i hi => pcells_live (as := as) h1 i hi
  | .s i :: as, cs, e => by
    have e : (match env[i]? with | some (some (.l w ds)) => (pcells env as).map (Cell.l w ds :: ·) | _ => none) = some cs := e
    match hi : env[i]?, e with
    | some (some (.l w ds)), e =>
      cases h3 : pcells env as with
      | none => rw [h3] at e; cases e
      | some cs' =>
        intro j hj
        rcases List.mem_cons.mp hj with rfl | hj
        · exact ⟨w, ds, hi⟩
        · exact pcells_live h3 j hj
    | some (some (.d x)), e => cases e
    | some none, e => cases e
    | none, e => cases e
theorem KEnc.nodup (E : Enc Z env ρ μ) : ∀ {is ks : List Nat}, KEnc ρ is ks → AllLive env is → is.Nodup → ks.Nodup
  | _, _, .nil, _, _ => List.nodup_nil
  | _, _, .cons (i := i) (k := k) (is := is) (ks := ks) h t, hl, hn => by
    rw [List.nodup_cons] at hn ⊢
    refine ⟨fun hk => ?_, KEnc.nodup E t (fun j hj => hl j (List.mem_cons_of_mem _ hj)) hn.2⟩
    have : ∀ {is ks : List Nat}, KEnc ρ is ks → k ∈ ks → ∃ j ∈ is, ρ[j]? = some (some (.ob k)) := by
      intro is ks h hk
      induction h with
      | nil => cases hk
      | cons a _ ih =>
        rcases List.mem_cons.mp hk with rfl | hk
        · exact ⟨_, List.mem_cons_self .., a⟩
        · obtain ⟨j, h1, h2⟩ := ih hk
          exact ⟨j, List.mem_cons_of_mem _ h1, h2⟩
    obtain ⟨j, hj, hr⟩ := this t hk
    have := E.u i j k (hl i (List.mem_cons_self ..)) (hl j (List.mem_cons_of_mem _ hj)).has h hr
    exact hn.1 (this ▸ hj)
theorem sim_giveBack : ∀ {is ks : List Nat} {dss : List (List PD)} {env : Env} {μ : Mu}, Enc Z env ρ μ → KEnc ρ is ks → AllLive env is → Enc Z (putBack is dss env) ρ (giveBack ks (dss.map (Ob.ls false)) μ) ∧ Kp n env ρ μ (putBack is dss env) (giveBack ks (dss.map (Ob.ls false)) μ)
  | _, _, dss, env, μ, E, .nil, _ => by
    have e1 : putBack [] dss env = env := by cases dss <;> rfl
    have e2 : giveBack [] (dss.map (Ob.ls false)) μ = μ := by cases dss <;> rfl
    rw [e1, e2]; exact ⟨E, .refl⟩
  | _, _, [], env, μ, E, .cons _ _, _ => ⟨E, .refl⟩
  | _, _, ds :: dss, env, μ, E, .cons (i := i) (k := k) (is := is) (ks := ks) h t, hl => by
    obtain ⟨w, ds0, hi⟩ := hl i (List.mem_cons_self ..)
    obtain ⟨k', h1, h2⟩ := E.l i w ds0 hi
    rw [h] at h1
    cases h1
    have E1 := E.put (ds' := ds) hi h
    have k1 : Kp n env ρ μ _ _ := Kp.put (ds' := ds) hi h
    have e1 : putBack (i :: is) (ds :: dss) env = putBack is dss (env.set i (some (.l w ds))) := by
      show (match env[i]? with | some (some (.l w _)) => putBack is dss (env.set i (some (.l w ds))) | _ => putBack is dss env) = _
      rw [hi]
    have e2 : giveBack (k :: ks) ((ds :: dss).map (Ob.ls false)) μ = giveBack ks (dss.map (Ob.ls false)) (μ.set k (.ls w ds)) := by
      show (match μ[k]? with | some m0 => giveBack ks (dss.map (Ob.ls false)) (μ.set k ((Ob.ls false ds).with (m0.own == some true))) | none => giveBack ks (dss.map (Ob.ls false)) μ) = _
      rw [h2]
      cases w <;> rfl
    rw [e1, e2]
    obtain ⟨a, b⟩ := sim_giveBack (dss := dss) E1 t (fun j hj => by
      obtain ⟨w', ds', hj'⟩ := hl j (List.mem_cons_of_mem _ hj)
      by_cases e : i = j
      · subst e; exact ⟨w, ds, List.getElem?_set_self (get_lt hi)⟩
      · exact ⟨w', ds', by rw [List.getElem?_set_ne e]; exact hj'⟩)
    exact ⟨a, k1.trans b⟩
theorem m_Def {F : FV} {q : PFV} {bs : List Bool} {nn : Nat} {fs : AV} {ps : PAV} (hF : SimF F q) (hs : SimA Z fs ps) : SimE Z (eDef F bs nn fs) (pDef q bs nn ps) := fun n env ρ μ hn E =>
  (hs n env ρ μ hn E).bind (Nat.le_refl _) fun vs rs env1 μ1 E1 k1 hv => by
    by_cases hl : vs.length = nn
    · rw [if_pos hl, if_pos (hv.length ▸ hl)]
      refine (sim_frzM E1 hv).bind (Nat.le_refl _) fun as rs' env2 μ2 E2 k2 a => ?_
      unfold pcallFin
      cases hc : pcells env2 as with
      | none => trivial
      | some cs =>
        obtain ⟨ks, h1, h2⟩ := lend_sim E2 a hc
        rw [h1]
        show SimR _ _ _ _ _ _ (if ks.Nodup then _ else _) (if (pslots as).Nodup then _ else _)
        by_cases hd : (pslots as).Nodup
        · have hll := pcells_live hc
          rw [if_pos hd, if_pos (KEnc.nodup E2 h2 hll hd)]
          have hq := hF cs
          cases hqc : q cs with
          | no => trivial
          | er e ms =>
            rw [hqc] at hq
            have hq : F (cs.map toArg) = .er e (ms.map (Ob.ls false)) := hq
            rw [hq]
            obtain ⟨E3, k3⟩ := sim_giveBack (n := n) (dss := ms) E2 h2 hll
            exact ⟨_, rfl, E3, k3⟩
          | ok c ms =>
            rw [hqc] at hq
            obtain ⟨r, hr, hc⟩ := hq
            rw [hr]
            obtain ⟨E3, k3⟩ := sim_giveBack (n := n) (dss := ms) E2 h2 hll
            have hlen := giveBack_length ks (ms.map (Ob.ls false)) μ2
            have hnl : n ≤ (giveBack ks (ms.map (Ob.ls false)) μ2).length := by rw [hlen]; exact Nat.le_trans hn (Nat.le_trans k1.le k2.le)
            have fresh : ∀ ds : List PD, Enc Z (putBack (pslots as) ms env2) ρ (giveBack ks (ms.map (Ob.ls false)) μ2 ++ [.ls true ds]) ∧ (giveBack ks (ms.map (Ob.ls false)) μ2 ++ [Ob.ls true ds])[μ2.length]? = some (.ls true ds) ∧ Free (putBack (pslots as) ms env2) ρ μ2.length := fun ds => by
              refine ⟨E3.mono fun k m h => get_app h, ?_, ?_⟩
              · rw [← hlen]; exact get_last _ _
              · rw [← hlen]; exact E3.new
            cases c with
            | d x =>
              rcases hc with rfl | ⟨ds, rfl, rfl⟩
              · exact ⟨.dt x, _, rfl, E3, k3, .inl rfl, fun k h => by cases h⟩
              · obtain ⟨f1, f2, f3⟩ := fresh ds
                refine ⟨.ob μ2.length, _, rfl, f1, k3.trans (.app hnl), .inr ⟨_, ds, rfl, rfl, .inr f2⟩, fun k h => ?_⟩
                cases h
                exact ⟨f3.nl, fun _ => Nat.le_trans hn (Nat.le_trans k1.le k2.le)⟩
            | l w ds =>
              obtain ⟨rfl, rfl⟩ := hc
              obtain ⟨f1, f2, f3⟩ := fresh ds
              exact ⟨.ob μ2.length, _, rfl, f1, k3.trans (.app hnl), _, rfl, f2, f3, Nat.le_trans hn (Nat.le_trans k1.le k2.le)⟩
        · rw [if_neg hd]; trivial
    · rw [if_neg hl, if_neg (fun h => hl (hv.length ▸ h))]; trivial
end
/-! ### a call handed on -/
def phv (o : Option PD) (env : Env) : Pr Val := match o with
  | some x => .ok (.d x) env
  | none => .no
def pLam (hv : Oc → Option PD) (es : Ex → Bool) (pa : PEV) : PEV := fun env => match (pa env).bind pfrz with
  | .ok d env1 => phv (hv (.ok d)) env1
  | .er e env1 => if es e = true then phv (hv (.er e)) env1 else .no
  | .no => .no
theorem m_Lam {Z : Nat → Option Nat} (hv : Oc → Option PD) (es : Ex → Bool) {fa : EV} {pa : PEV} (ha : SimE Z fa pa) : SimE Z (eLam hv es (eF fa)) (pLam hv es pa) := fun n env ρ μ hn E => by
  have a : SimR Z VQ n env ρ μ ((fa ρ μ).bind frz) ((pa env).bind pfrz) := (ha n env ρ μ hn E).bind (Nat.le_refl _) fun v r env1 μ1 E1 k1 va => by
    have b := sim_frz E1 va
    cases h : pfrz v env1 with
    | ok d e => rw [h] at b; obtain ⟨r', m, h1, h2, h3, h4⟩ := b; exact ⟨r', m, h1, h2, h3, h4.1⟩
    | er x e => rw [h] at b; exact b
    | no => trivial
  have e : eF fa ρ μ = ((fa ρ μ).bind frz).bind fun d μ2 => .ok (.dt d) μ2 := by
    unfold eF
    cases fa ρ μ <;> rfl
  unfold eLam pLam
  rw [e]
  cases h : (pa env).bind pfrz with
  | ok d env1 =>
    rw [h] at a
    obtain ⟨r, m, h1, h2, h3, h4⟩ := a
    subst h4
    rw [h1]
    show SimR _ _ _ _ _ _ (hvR (hv (.ok r)) m) (phv (hv (.ok r)) env1)
    cases hv (.ok r) with
    | none => trivial
    | some x => exact ⟨_, m, rfl, h2, h3, .inl rfl, fun k h => by cases h⟩
  | er x env1 =>
    rw [h] at a
    obtain ⟨m, h1, h2, h3⟩ := a
    rw [h1]
    show SimR _ _ _ _ _ _ (if es x = true then hvR (hv (.er x)) m else .no) (if es x = true then phv (hv (.er x)) env1 else .no)
    by_cases he : es x = true
    · rw [if_pos he, if_pos he]
      cases hv (.er x) with
      | none => trivial
      | some y => exact ⟨_, m, rfl, h2, h3, .inl rfl, fun k h => by cases h⟩
    · rw [if_neg he, if_neg he]; trivial
  | no => trivial
end DL
/-! The pure layer, fifth part: statements, defs. -/
namespace DL
open PySem PySem.Spec PyProof.Rows L2
inductive Ps where
  | nx (e : Env)
  | rt (c : Cell) (e : Env)
  | bk (e : Env)
  | ct (e : Env)
  | er (x : Ex) (e : Env)
  | no
abbrev PSV := Env → Ps
def SSim (Z : Nat → Option Nat) (s : So) : Ps → Prop
  | .nx e => ∃ ρ μ, s = .nx ρ μ ∧ Enc Z e ρ μ
  | .rt c e => ∃ r μ ρ, s = .rt r μ ∧ Enc Z e ρ μ ∧ ∃ R, retV r μ = some R ∧ RetS c R
  | .bk e => ∃ ρ μ, s = .bk ρ μ ∧ Enc Z e ρ μ
  | .ct e => ∃ ρ μ, s = .ct ρ μ ∧ Enc Z e ρ μ
  | .er x e => ∃ ρ μ, s = .er x ρ μ ∧ Enc Z e ρ μ
  | .no => True
def SimS (Z : Nat → Option Nat) (g : SV) (p : PSV) : Prop := ∀ env ρ μ, Enc Z env ρ μ → SSim Z (g ρ μ) (p env)
def Pr.st {β : Type} (x : Pr β) (k : β → Env → Ps) : Ps := match x with
  | .ok b e => k b e
  | .er x e => .er x e
  | .no => .no
theorem SSim.st {β γ : Type} {Z : Nat → Option Nat} {V : γ → β → Env → Mu → Prop} {n : Nat} {env : Env} {ρ : Rho} {μ : Mu} {x : Rs β} {p : Pr γ} {kx : β → Mu → So} {kp : γ → Env → Ps} (h : SimR Z V n env ρ μ x p) (hk : ∀ b r env' μ', Enc Z env' ρ μ' → Kp n env ρ μ env' μ' → V b r env' μ' → SSim Z (kx r μ') (kp b env')) : SSim Z (x.st ρ kx) (p.st kp) := by
  cases p with
  | ok b e => obtain ⟨r, m, rfl, h2, h3, h4⟩ := h; exact hk b r e m h2 h3 h4
  | er y e => obtain ⟨m, rfl, h2, h3⟩ := h; exact ⟨ρ, m, rfl, h2⟩
  | no => trivial
/-! ### a name gets a value -/
def takeC : Val → Env → Option (Cell × Env)
  | .d x, env => some (.d x, env)
  | .t ds, env => some (.l true ds, env)
  | .v i, env => match env[i]? with
    | some (some (.d x)) => some (.d x, env)
    | some (some (.l true ds)) => some (.d (.list ds), env.set i (some (.d (.list ds))))
    | _ => none
def pset (i : Nat) (v : Val) (env : Env) : Ps := match takeC v env with
  | some (c, env1) => .nx (env1.set i (some c))
  | none => .no
def CFor (env : Env) (ρ : Rho) (μ : Mu) : Cell → RV → Prop
  | .d x, r => Dt μ x r ∧ ∀ k, r = .ob k → NotLive env ρ k
  | .l w ds, r => w = true ∧ ∃ k, r = .ob k ∧ μ[k]? = some (.ls true ds) ∧ Free env ρ k
section
variable {n : Nat} {Z : Nat → Option Nat} {env env1 : Env} {ρ : Rho} {μ : Mu}
theorem take_sim (E : Enc Z env ρ μ) {v : Val} {r : RV} (h : VEnc n env ρ μ v r) {c : Cell} (e : takeC v env = some (c, env1)) : Enc Z env1 ρ μ ∧ CFor env1 ρ μ c r ∧ (∀ i, Has env i ↔ Has env1 i) ∧ (∀ i, Live env1 i → Live env i) := by
  cases v with
  | d x => cases e; exact ⟨E, ⟨h.1, fun k hk => (h.2 k hk).1⟩, fun _ => Iff.rfl, fun _ h => h⟩
  | t ds =>
    cases e
    obtain ⟨k, a, b, c, _⟩ := h
    exact ⟨E, ⟨rfl, k, a, b, c⟩, fun _ => Iff.rfl, fun _ h => h⟩
  | v i =>
    have e : (match env[i]? with | some (some (.d x)) => some (Cell.d x, env) | some (some (.l true ds)) => some (.d (.list ds), env.set i (some (.d (.list ds)))) | _ => none) = some (c, env1) := e
    match hi : env[i]?, e with
    | some (some (.d x)), e =>
      cases e
      obtain ⟨r', h1, h2⟩ := E.d i x hi
      rw [h.1] at h1
      cases h1
      exact ⟨E, ⟨h2, fun k hk => E.nl_of hi (hk ▸ h.1)⟩, fun _ => Iff.rfl, fun _ h => h⟩
    | some (some (.l true ds)), e =>
      cases e
      obtain ⟨k, h1, h2⟩ := E.l i true ds hi
      rw [h.1] at h1
      cases h1
      have E1 := E.soft hi
      have hi1 : (env.set i (some (.d (.list ds))))[i]? = some (some (.d (.list ds))) := List.getElem?_set_self (get_lt hi)
      exact ⟨E1, ⟨.inr ⟨k, ds, rfl, rfl, .inr h2⟩, fun k' hk => by cases hk; exact E1.nl_of hi1 h.1⟩, has_set ⟨_, hi⟩, fun j hj => (live_set_d hj).1⟩
    | some (some (.l false ds)), e => cases e
    | some none, e => cases e
    | none, e => cases e
theorem Enc.slot (E : Enc Z env ρ μ) {c : Cell} {r : RV} (h : CFor env ρ μ c r) (i : Nat) : Enc Z (env.set i (some c)) (ρ.set i (some r)) μ := by
  by_cases hi : i < env.length
  · have hi2 : i < ρ.length := by rw [← E.len]; exact hi
    have eq1 : (env.set i (some c))[i]? = some (some c) := List.getElem?_set_self hi
    have eq2 : (ρ.set i (some r))[i]? = some (some r) := List.getElem?_set_self hi2
    have live : ∀ a, Live (env.set i (some c)) a → a ≠ i → Live env a := fun a ha e => by
      unfold Live at ha ⊢; rw [List.getElem?_set_ne (Ne.symm e)] at ha; exact ha
    have has : ∀ a, Has (env.set i (some c)) a → a ≠ i → Has env a := fun a ha e => by
      unfold Has at ha ⊢; rw [List.getElem?_set_ne (Ne.symm e)] at ha; exact ha
    refine ⟨by rw [List.length_set, List.length_set]; exact E.len, fun j x hj => ?_, fun j w ds hj => ?_, fun a b k ha hb h1 h2 => ?_, fun j ds k hj hk => ?_⟩
    · by_cases e : i = j
      · subst e
        rw [eq1] at hj
        cases hj
        exact ⟨r, eq2, h.1⟩
      · rw [List.getElem?_set_ne e] at hj ⊢
        exact E.d j x hj
    · by_cases e : i = j
      · subst e
        rw [eq1] at hj
        cases hj
        obtain ⟨rfl, k, rfl, hm, _⟩ := h
        exact ⟨k, eq2, hm⟩
      · rw [List.getElem?_set_ne e] at hj ⊢
        exact E.l j w ds hj
    · by_cases ea : a = i
      · by_cases eb : b = i
        · rw [ea, eb]
        · subst ea
          rw [eq2] at h1
          cases h1
          rw [List.getElem?_set_ne (Ne.symm eb)] at h2
          obtain ⟨w, ds, hw⟩ := ha
          rw [eq1] at hw
          cases hw
          obtain ⟨rfl, k', e, hm, hf⟩ := h
          cases e
          exact absurd h2 (hf b (has b hb eb))
      · have ha' := live a ha ea
        rw [List.getElem?_set_ne (Ne.symm ea)] at h1
        by_cases eb : b = i
        · subst eb
          rw [eq2] at h2
          cases h2
          cases c with
          | d x => exact absurd h1 (h.2 k rfl a ha')
          | l w ds =>
            obtain ⟨rfl, k', e, hm, hf⟩ := h
            cases e
            exact absurd h1 (hf a ha'.has)
        · rw [List.getElem?_set_ne (Ne.symm eb)] at h2
          exact E.u a b k ha' (has b hb eb) h1 h2
    · by_cases e : i = j
      · subst e
        rw [eq1] at hj
        cases hj
        cases h.1
      · rw [List.getElem?_set_ne e] at hj hk
        exact E.z j ds k hj hk
  · rw [List.set_eq_of_length_le (by omega), List.set_eq_of_length_le (by rw [← E.len]; omega)]
    exact E
theorem sim_pset (E : Enc Z env ρ μ) {v : Val} {r : RV} (h : VEnc n env ρ μ v r) (i : Nat) : SSim Z (.nx (ρ.set i (some r)) μ) (pset i v env) := by
  unfold pset
  cases e : takeC v env with
  | none => trivial
  | some p =>
    obtain ⟨c, env1⟩ := p
    obtain ⟨E1, hc, _, _⟩ := take_sim E h e
    exact ⟨_, _, rfl, E1.slot hc i⟩
end
def psSeq (g h : PSV) : PSV := fun env => match g env with
  | .nx e => h e
  | x => x
def psNext : PSV := fun env => .nx env
def psDrop (p : PEV) : PSV := fun env => (p env).st fun _ e => .nx e
def psSet (i : Nat) (p : PEV) : PSV := fun env => (p env).st fun v e => pset i v e
def retC : Val → Env → Option Cell
  | .d x, _ => some (.d x)
  | .t ds, _ => some (.l true ds)
  | .v i, env => match env[i]? with
    | some (some (.d x)) => some (.d x)
    | some (some (.l true ds)) => some (.l true ds)
    | _ => none
def psRet (p : PEV) : PSV := fun env => (p env).st fun v e => match retC v e with
  | some c => .rt c e
  | none => .no
def psRetN : PSV := fun env => .rt (.d .none) env
def psIf (t : PTV) (g h : PSV) : PSV := fun env => (t env).st fun b e => if b = true then g e else h e
def psBrk : PSV := fun env => .bk env
def psCnt : PSV := fun env => .ct env
def psPar (i j : Nat) (ps : PAV) : PSV := fun env => (ps env).st fun vs e => match vs with
  | [a, b] => (match takeC a e with
    | some (ca, e1) => (match takeC b e1 with
      | some (cb, e2) => .nx ((e2.set i (some ca)).set j (some cb))
      | none => .no)
    | none => .no)
  | _ => .no
def psAug (i : Nat) (g : PD → PD → Option Out) (p : PEV) : PSV := fun env => match env[i]? with
  | some (some _) => (p env).st fun b e => match lookV e (.v i), lookV e b with
    | some x, some y => (pfin (g x y) e).st fun z e2 => pset i z e2
    | _, _ => .no
  | _ => .no
def psAsg (p : PEV) (tg : PGV) : PSV := fun env => (p env).st fun v e => match v with
  | .d (.tuple ds) => (match tg (.tuple ds) e with
    | some e1 => .nx e1
    | none => .no)
  | _ => .no
def psRaise (x : Str) : PSV := fun env => .er ⟨x, []⟩ env
def psStore (i : Nat) (pi pe : PEV) : PSV := fun env => (pe env).st fun v e1 => match e1[i]? with
  | some (some (.l _ _)) => (pi e1).st fun iv e2 => (match iv with
    | .d (.int q) => (pfrz v e2).st fun d e3 => match e3[i]? with
      | some (some (.l w ds)) => (match ixN ds.length q with
        | some j => .nx (e3.set i (some (.l w (ds.set j d))))
        | none => .no)
      | _ => .no
    | _ => .no)
  | _ => .no
def pforL (tg : PGV) (body : PSV) : List PD → PSV
  | [], env => .nx env
  | d :: r, env => match tg d env with
    | none => .no
    | some env1 => match body env1 with
      | .nx e => pforL tg body r e
      | .ct e => pforL tg body r e
      | .bk e => .nx e
      | x => x
def psFor (fi : PIV) (tg : PGV) (body : PSV) : PSV := fun env => (fi env).st fun items e => pforL tg body items e
def pwhL (t : PTV) (body : PSV) : Nat → PSV
  | 0, _ => .no
  | n + 1, env => (t env).st fun b e => if b = true then match body e with
      | .nx e2 => pwhL t body n e2
      | .ct e2 => pwhL t body n e2
      | .bk e2 => .nx e2
      | x => x
    else .nx e
section
variable {Z : Nat → Option Nat} {f fi fe : EV} {p pi pe : PEV} {g h : SV} {pg ph : PSV} {t : TV} {pt : PTV} {fs : AV} {ps : PAV}
theorem ms_Seq (h1 : SimS Z g pg) (h2 : SimS Z h ph) : SimS Z (sSeq g h) (psSeq pg ph) := fun env ρ μ E => by
  have a := h1 env ρ μ E
  unfold psSeq sSeq
  cases hp : pg env with
  | nx e => rw [hp] at a; obtain ⟨ρ', μ', e1, E'⟩ := a; rw [e1]; exact h2 e ρ' μ' E'
  | rt c e => rw [hp] at a; obtain ⟨r, μ', ρ', e1, E', x⟩ := a; rw [e1]; exact ⟨r, μ', ρ', rfl, E', x⟩
  | bk e => rw [hp] at a; obtain ⟨ρ', μ', e1, E'⟩ := a; rw [e1]; exact ⟨ρ', μ', rfl, E'⟩
  | ct e => rw [hp] at a; obtain ⟨ρ', μ', e1, E'⟩ := a; rw [e1]; exact ⟨ρ', μ', rfl, E'⟩
  | er x e => rw [hp] at a; obtain ⟨ρ', μ', e1, E'⟩ := a; rw [e1]; exact ⟨ρ', μ', rfl, E'⟩
  | no => trivial
theorem ms_Next : SimS Z sNext psNext := fun env ρ μ E => ⟨ρ, μ, rfl, E⟩
theorem ms_Drop (hf : SimE Z f p) : SimS Z (sDrop f) (psDrop p) := fun env ρ μ E => SSim.st (hf μ.length env ρ μ (Nat.le_refl _) E) fun v r env1 μ1 E1 k1 hv => ⟨ρ, μ1, rfl, E1⟩
theorem ms_Set (i : Nat) (hf : SimE Z f p) : SimS Z (sSet i f) (psSet i p) := fun env ρ μ E => SSim.st (hf μ.length env ρ μ (Nat.le_refl _) E) fun v r env1 μ1 E1 k1 hv => sim_pset E1 hv i
theorem ret_sim {n : Nat} {env : Env} {ρ : Rho} {μ : Mu} (E : Enc Z env ρ μ) {v : Val} {r : RV} (h : VEnc n env ρ μ v r) {c : Cell} (e : retC v env = some c) : ∃ R, retV r μ = some R ∧ RetS c R := by
  have dt : ∀ {x : PD} {r : RV}, Dt μ x r → ∃ R, retV r μ = some R ∧ RetS (.d x) R := fun {x r} h => by
    rcases h with rfl | ⟨k, ds, rfl, rfl, h | h⟩
    · exact ⟨_, rfl, .inl rfl⟩
    · exact ⟨.d (.list ds), by show (match μ[k]? with | some (.fz ds) => some (Ret.d (.list ds)) | some m => if m.own = some true then some (Ret.o m) else none | none => none) = _; rw [h], .inl rfl⟩
    · exact ⟨.o (.ls true ds), by show (match μ[k]? with | some (.fz ds) => some (Ret.d (.list ds)) | some m => if m.own = some true then some (Ret.o m) else none | none => none) = _; rw [h]; rfl, .inr ⟨ds, rfl, rfl⟩⟩
  have ls : ∀ {k : Nat} {ds : List PD}, μ[k]? = some (.ls true ds) → ∃ R, retV (.ob k) μ = some R ∧ RetS (.l true ds) R := fun {k ds} h => ⟨.o (.ls true ds), by show (match μ[k]? with | some (.fz ds) => some (Ret.d (.list ds)) | some m => if m.own = some true then some (Ret.o m) else none | none => none) = _; rw [h]; rfl, rfl, rfl⟩
  cases v with
  | d x => cases e; exact dt h.1
  | t ds => cases e; obtain ⟨k, rfl, hm, _⟩ := h; exact ls hm
  | v i =>
    have e : (match env[i]? with | some (some (.d x)) => some (Cell.d x) | some (some (.l true ds)) => some (.l true ds) | _ => none) = some c := e
    match hi : env[i]?, e with
    | some (some (.d x)), e =>
      cases e
      obtain ⟨r', h1, h2⟩ := E.d i x hi
      rw [h.1] at h1
      cases h1
      exact dt h2
    | some (some (.l true ds)), e =>
      cases e
      obtain ⟨k, h1, h2⟩ := E.l i true ds hi
      rw [h.1] at h1
      cases h1
      exact ls h2
    | some (some (.l false ds)), e => cases e
    | some none, e => cases e
    | none, e => cases e
theorem ms_Ret (hf : SimE Z f p) : SimS Z (sRet f) (psRet p) := fun env ρ μ E => SSim.st (hf μ.length env ρ μ (Nat.le_refl _) E) fun v r env1 μ1 E1 k1 hv => by
  cases e : retC v env1 with
  | none => trivial
  | some c => exact ⟨r, μ1, ρ, rfl, E1, ret_sim E1 hv e⟩
theorem ms_RetN : SimS Z sRetN psRetN := fun env ρ μ E => ⟨_, μ, ρ, rfl, E, _, rfl, .inl rfl⟩
theorem ms_If (ht : SimT Z t pt) (h1 : SimS Z g pg) (h2 : SimS Z h ph) : SimS Z (sIf t g h) (psIf pt pg ph) := fun env ρ μ E => SSim.st (ht μ.length env ρ μ (Nat.le_refl _) E) fun b b' env1 μ1 E1 k1 e => by
  subst e
  cases b' with
  | true => exact h1 env1 ρ μ1 E1
  | false => exact h2 env1 ρ μ1 E1
theorem ms_Brk : SimS Z sBrk psBrk := fun env ρ μ E => ⟨ρ, μ, rfl, E⟩
theorem ms_Cnt : SimS Z sCnt psCnt := fun env ρ μ E => ⟨ρ, μ, rfl, E⟩
theorem ms_Raise (x : Str) : SimS Z (sRaise x) (psRaise x) := fun env ρ μ E => ⟨ρ, μ, rfl, E⟩
theorem ms_Par (i j : Nat) (hs : SimA Z fs ps) : SimS Z (sPar i j fs) (psPar i j ps) := fun env ρ μ E => SSim.st (hs μ.length env ρ μ (Nat.le_refl _) E) fun vs rs env1 μ1 E1 k1 hv => by
  match vs, rs, hv with
  | [], _, .nil => trivial
  | [_], _, .cons _ _ _ .nil => trivial
  | [a, b], [ra, rb], .cons (n' := n') ha hn hr (.cons hb _ _ .nil) =>
    show SSim Z (.nx ((ρ.set i (some ra)).set j (some rb)) μ1) (match takeC a env1 with | some (ca, e1) => (match takeC b e1 with | some (cb, e2) => .nx ((e2.set i (some ca)).set j (some cb)) | none => .no) | none => .no)
    cases e1 : takeC a env1 with
    | none => trivial
    | some z1 =>
      obtain ⟨ca, env2⟩ := z1
      obtain ⟨E2, c2, h2, l2⟩ := take_sim E1 ha e1
      have hb2 : VEnc n' env2 ρ μ1 b rb := by
        cases b with
        | d x => exact ⟨hb.1, fun k hk => ⟨fun i hi => (hb.2 k hk).1 i (l2 i hi), fun f => (hb.2 k hk).2 fun i hi => f i ((h2 i).mp hi)⟩⟩
        | t ds => obtain ⟨k, q1, q2, q3, q4⟩ := hb; exact ⟨k, q1, q2, fun i hi => q3 i ((h2 i).mpr hi), q4⟩
        | v m => exact ⟨hb.1, (h2 m).mp hb.2⟩
      show SSim Z _ (match takeC b env2 with | some (cb, e2) => .nx ((e2.set i (some ca)).set j (some cb)) | none => .no)
      cases e2 : takeC b env2 with
      | none => trivial
      | some z2 =>
        obtain ⟨cb, env3⟩ := z2
        obtain ⟨E3, c3, h3, l3⟩ := take_sim E2 hb2 e2
        -- what the first value is stays
        have ca3 : CFor env3 ρ μ1 ca ra := by
          cases ca with
          | d x => exact ⟨c2.1, fun k hk q hq => c2.2 k hk q (l3 q hq)⟩
          | l w ds => obtain ⟨e, k, q1, q2, q3⟩ := c2; exact ⟨e, k, q1, q2, fun q hq => q3 q ((h3 q).mpr hq)⟩
        have E4 := E3.slot ca3 i
        refine ⟨_, _, rfl, E4.slot ?_ j⟩
        -- the second value beside the first
        have apart : ∀ k, rb = .ob k → ra = .ob k → (∃ w ds, ca = .l w ds) ∨ (∃ w ds, cb = .l w ds) → False := fun k eb ea hh => by
          subst ea eb
          have hk := hr k rfl
          rcases hh with ⟨w, ds, rfl⟩ | ⟨w, ds, rfl⟩
          · obtain ⟨_, k', ek, _, hf⟩ := c2
            cases ek
            cases b with
            | d x => have := (hb2.2 k rfl).2 hf; omega
            | t ds => obtain ⟨k'', e, _, _, hj⟩ := hb2; cases e; omega
            | v m => exact hf m hb2.2 hb2.1
          · cases b with
            | d x => cases e2
            | t ds' => obtain ⟨k'', e, _, _, hj⟩ := hb2; cases e; omega
            | v m =>
              have e2 : (match env2[m]? with | some (some (.d x)) => some (Cell.d x, env2) | some (some (.l true ds)) => some (.d (.list ds), env2.set m (some (.d (.list ds)))) | _ => none) = some (.l w ds, env3) := e2
              match hm : env2[m]?, e2 with
              | some (some (.d x)), e2 => cases e2
              | some (some (.l true es)), e2 => cases e2
              | some (some (.l false es)), e2 => cases e2
              | some none, e2 => cases e2
              | none, e2 => cases e2
        have old : ∀ q k, (ρ.set i (some ra))[q]? = some (some (.ob k)) → q ≠ i → ρ[q]? = some (some (.ob k)) := fun q k hq hne => by
          rw [List.getElem?_set_ne (Ne.symm hne)] at hq; exact hq
        have at_i : ∀ k, (ρ.set i (some ra))[i]? = some (some (.ob k)) → i < env3.length → ra = .ob k := fun k hq hl => by
          rw [List.getElem?_set_self (by rw [← E3.len]; exact hl)] at hq
          exact Option.some.inj (Option.some.inj hq)
        cases cb with
        | d x =>
          refine ⟨c3.1, fun k hk q hq hr2 => ?_⟩
          by_cases hqi : q = i
          · subst hqi
            obtain ⟨w, ds, hq⟩ := hq
            have hl : q < env3.length := by have := get_lt hq; rw [List.length_set] at this; exact this
            rw [List.getElem?_set_self hl] at hq
            have hq := Option.some.inj (Option.some.inj hq)
            exact apart k hk (at_i k hr2 hl) (.inl ⟨w, ds, hq⟩)
          · refine c3.2 k hk q ?_ (old q k hr2 hqi)
            unfold Live at hq ⊢; rw [List.getElem?_set_ne (Ne.symm hqi)] at hq; exact hq
        | l w ds =>
          obtain ⟨e, k, q1, q2, q3⟩ := c3
          refine ⟨e, k, q1, q2, fun q hq hr2 => ?_⟩
          by_cases hqi : q = i
          · subst hqi
            obtain ⟨c', hq⟩ := hq
            have hl : q < env3.length := by have := get_lt hq; rw [List.length_set] at this; exact this
            exact apart k q1 (at_i k hr2 hl) (.inr ⟨w, ds, rfl⟩)
          · refine q3 q ?_ (old q k hr2 hqi)
            unfold Has at hq ⊢; rw [List.getElem?_set_ne (Ne.symm hqi)] at hq; exact hq
  | _ :: _ :: _ :: _, _, .cons _ _ _ (.cons _ _ _ (.cons _ _ _ _)) => trivial
theorem ms_Aug (i : Nat) (gg : PD → PD → Option Out) (hf : SimE Z f p) : SimS Z (sAug i gg f) (psAug i gg p) := fun env ρ μ E => by
  unfold psAug sAug
  match hi : env[i]? with
  | none => trivial
  | some none => trivial
  | some (some c0) =>
    have hr : ∃ r, ρ[i]? = some (some r) := by
      cases c0 with
      | d x => obtain ⟨r, h, _⟩ := E.d i x hi; exact ⟨r, h⟩
      | l w ds => obtain ⟨k, h, _⟩ := E.l i w ds hi; exact ⟨_, h⟩
    obtain ⟨r, hr⟩ := hr
    simp only [hr]
    refine SSim.st (hf μ.length env ρ μ (Nat.le_refl _) E) fun b rb env1 μ1 E1 k1 vb => ?_
    have va : VEnc μ.length env1 ρ μ1 (.v i) r := ⟨hr, (k1.has i).mp ⟨_, hi⟩⟩
    cases h1 : lookV env1 (.v i) with
    | none => trivial
    | some x =>
      cases h2 : lookV env1 b with
      | none => trivial
      | some y =>
        simp only [E1.look va h1, E1.look vb h2]
        exact SSim.st (sim_fin k1.le E1 (gg x y)) fun z rz env2 μ2 E2 k2 vz => sim_pset E2 vz i
theorem ms_Asg {tg : RV → Rho → Option Rho} {ptg : PGV} {vs : List Nat} (hf : SimE Z f p) (hg : SimG tg ptg vs) : SimS Z (sAsg f tg) (psAsg p ptg) := fun env ρ μ E => SSim.st (hf μ.length env ρ μ (Nat.le_refl _) E) fun v r env1 μ1 E1 k1 hv => by
  match v, hv with
  | .d (.tuple ds), hv =>
    have er : r = .dt (.tuple ds) := by
      rcases hv.1 with h | ⟨_, _, _, h, _⟩
      · exact h
      · cases h
    subst er
    show SSim Z (match tg (.dt (.tuple ds)) ρ with | some ρ' => .nx ρ' μ1 | none => .no) (match ptg (.tuple ds) env1 with | some e1 => .nx e1 | none => .no)
    cases hp : ptg (.tuple ds) env1 with
    | none => trivial
    | some env2 =>
      obtain ⟨ρ2, e, s⟩ := hg _ env1 env2 ρ E1.len hp
      rw [e]
      exact ⟨ρ2, μ1, rfl, s.enc E1⟩
  | .d .none, _ => trivial
  | .d (.bool _), _ => trivial
  | .d (.int _), _ => trivial
  | .d (.str _), _ => trivial
  | .d (.list _), _ => trivial
  | .d (.dict _), _ => trivial
  | .t _, _ => trivial
  | .v _, _ => trivial
theorem ms_Store (i : Nat) (hi : SimE Z fi pi) (he : SimE Z fe pe) : SimS Z (sStore (eV i) fi fe) (psStore i pi pe) := fun env ρ μ E => by
  refine SSim.st (he μ.length env ρ μ (Nat.le_refl _) E) fun v rv env1 μ1 E1 k1 hv => ?_
  match h1 : env1[i]? with
  | none => trivial
  | some none => trivial
  | some (some (.d x)) => trivial
  | some (some (.l w ds)) =>
    obtain ⟨k, hr, hm⟩ := E1.l i w ds h1
    have ev : eV i ρ μ1 = .ok (.ob k) μ1 := by unfold eV; rw [hr]
    rw [ev]
    show SSim Z ((fi ρ μ1).st ρ _) ((pi env1).st _)
    refine SSim.st (hi μ1.length env1 ρ μ1 (Nat.le_refl _) E1) fun iv ri env2 μ2 E2 k2 hiv => ?_
    have hv2 := k2.v hv
    match iv, hiv with
    | .d (.int q), hiv =>
      have er : ri = .dt (.int q) := by
        rcases hiv.1 with h | ⟨_, _, _, h, _⟩
        · exact h
        · cases h
      subst er
      refine SSim.st (sim_frz (n := μ.length) E2 hv2) fun d d' env3 μ3 E3 k3 e => ?_
      obtain ⟨rfl, _⟩ := e
      match h3 : env3[i]? with
      | none => trivial
      | some none => trivial
      | some (some (.d x)) => trivial
      | some (some (.l w' es)) =>
        obtain ⟨k', hr', hm'⟩ := E3.l i w' es h3
        rw [hr] at hr'
        cases hr'
        show SSim Z (match storeAt (.ob k) (.dt (.int q)) d' μ3 with | some μ5 => .nx ρ μ5 | none => .no) (match ixN es.length q with | some j => .nx (env3.set i (some (.l w' (es.set j d')))) | none => .no)
        have hst : storeAt (.ob k) (.dt (.int q)) d' μ3 = (ixN es.length q).map fun j => μ3.set k (.ls w' (es.set j d')) := by
          have ho : obAt μ3 (.ob k) = some (k, w', es) := by
            show (match μ3[k]? with | some (.ls o ds) => some (k, o, ds) | _ => none) = _
            rw [hm']
          unfold storeAt
          rw [ho]
        rw [hst]
        cases ixN es.length q with
        | none => trivial
        | some j => exact ⟨ρ, _, rfl, E3.put h3 hr⟩
    | .d .none, _ => trivial
    | .d (.bool _), _ => trivial
    | .d (.str _), _ => trivial
    | .d (.list _), _ => trivial
    | .d (.tuple _), _ => trivial
    | .d (.dict _), _ => trivial
    | .t _, _ => trivial
    | .v _, _ => trivial
theorem sim_forL {tg : RV → Rho → Option Rho} {ptg : PGV} {vs : List Nat} (hg : SimG tg ptg vs) (hb : SimS Z g pg) : ∀ (items : List PD) (env : Env) (ρ : Rho) (μ : Mu), Enc Z env ρ μ → SSim Z (forL tg g items ρ μ) (pforL ptg pg items env)
  | [], env, ρ, μ, E => ⟨ρ, μ, rfl, E⟩
  | d :: r, env, ρ, μ, E => by
    unfold forL pforL
    cases hp : ptg d env with
    | none => trivial
    | some env1 =>
      obtain ⟨ρ1, e, s⟩ := hg d env env1 ρ E.len hp
      rw [e]
      have a := hb env1 ρ1 μ (s.enc E)
      show SSim Z (match g ρ1 μ with | .nx ρ2 μ2 => forL tg g r ρ2 μ2 | .ct ρ2 μ2 => forL tg g r ρ2 μ2 | .bk ρ2 μ2 => So.nx ρ2 μ2 | x => x) (match pg env1 with | .nx e => pforL ptg pg r e | .ct e => pforL ptg pg r e | .bk e => .nx e | x => x)
      cases hq : pg env1 with
      | nx e => rw [hq] at a; obtain ⟨ρ', μ', e1, E'⟩ := a; rw [e1]; exact sim_forL hg hb r e ρ' μ' E'
      | ct e => rw [hq] at a; obtain ⟨ρ', μ', e1, E'⟩ := a; rw [e1]; exact sim_forL hg hb r e ρ' μ' E'
      | bk e => rw [hq] at a; obtain ⟨ρ', μ', e1, E'⟩ := a; rw [e1]; exact ⟨ρ', μ', rfl, E'⟩
      | rt c e => rw [hq] at a; obtain ⟨x, μ', ρ', e1, E', y⟩ := a; rw [e1]; exact ⟨x, μ', ρ', rfl, E', y⟩
      | er x e => rw [hq] at a; obtain ⟨ρ', μ', e1, E'⟩ := a; rw [e1]; exact ⟨ρ', μ', rfl, E'⟩
      | no => trivial
theorem ms_For {fi : IV} {pfi : PIV} {tg : RV → Rho → Option Rho} {ptg : PGV} {vs : List Nat} (hi : SimI Z fi pfi) (hg : SimG tg ptg vs) (hb : SimS Z g pg) : SimS Z (sFor fi tg g) (psFor pfi ptg pg) := fun env ρ μ E => SSim.st (hi μ.length env ρ μ (Nat.le_refl _) E) fun items items' env1 μ1 E1 k1 e => by
  subst e
  exact sim_forL hg hb items' env1 ρ μ1 E1
theorem ms_While (n : Nat) (ht : SimT Z t pt) (hb : SimS Z g pg) : SimS Z (sWhile n t g) (pwhL pt pg n) := by
  induction n with
  | zero => intro env ρ μ E; trivial
  | succ n ih =>
    intro env ρ μ E
    show SSim Z (whL t g (n + 1) ρ μ) (pwhL pt pg (n + 1) env)
    unfold whL pwhL
    refine SSim.st (ht μ.length env ρ μ (Nat.le_refl _) E) fun b b' env1 μ1 E1 k1 e => ?_
    subst e
    cases b' with
    | false => exact ⟨ρ, μ1, rfl, E1⟩
    | true =>
      rw [if_pos rfl, if_pos rfl]
      have a := hb env1 ρ μ1 E1
      cases hq : pg env1 with
      | nx e => rw [hq] at a; obtain ⟨ρ', μ', e1, E'⟩ := a; rw [e1]; exact ih e ρ' μ' E'
      | ct e => rw [hq] at a; obtain ⟨ρ', μ', e1, E'⟩ := a; rw [e1]; exact ih e ρ' μ' E'
      | bk e => rw [hq] at a; obtain ⟨ρ', μ', e1, E'⟩ := a; rw [e1]; exact ⟨ρ', μ', rfl, E'⟩
      | rt c e => rw [hq] at a; obtain ⟨x, μ', ρ', e1, E', y⟩ := a; rw [e1]; exact ⟨x, μ', ρ', rfl, E', y⟩
      | er x e => rw [hq] at a; obtain ⟨ρ', μ', e1, E'⟩ := a; rw [e1]; exact ⟨ρ', μ', rfl, E'⟩
      | no => trivial
end
end DL
/-! The pure layer, sixth part: defs. -/
namespace DL
open PySem PySem.Spec PyProof.Rows L2
/-- a def's names at its entry -/
def lentC : Cell → Cell
  | .d x => .d x
  | .l _ ds => .l false ds
def ppad (n : Nat) (cs : List Cell) : Env := (cs.map fun c => some (lentC c)) ++ List.replicate (n - cs.length) none
/-- the places of the lists lent -/
def lentIx : Nat → List Cell → List Nat
  | _, [] => []
  | i, .d _ :: cs => lentIx (i + 1) cs
  | i, .l _ _ :: cs => i :: lentIx (i + 1) cs
def lentDs (env : Env) : List Nat → Option (List (List PD))
  | [] => some []
  | i :: is => match env[i]? with
    | some (some (.l false ds)) => (lentDs env is).map (ds :: ·)
    | _ => none
def pms (k : List (List PD) → Pq) : Option (List (List PD)) → Pq
  | some ms => k ms
  | none => .no
def pend (L : List Nat) : Ps → Pq
  | .nx e => pms (.ok (.d .none)) (lentDs e L)
  | .rt c e => pms (.ok c) (lentDs e L)
  | .er x e => pms (.er x) (lentDs e L)
  | _ => .no
def prun (n : Nat) (p : PSV) : PFV := fun cs => pend (lentIx 0 cs) (p (ppad n cs))
/-- the place of a lent name's object -/
def zpos : List Cell → Nat → Nat → Option Nat
  | [], _, _ => none
  | .d _ :: _, _, 0 => none
  | .l _ _ :: _, k, 0 => some k
  | .d _ :: cs, k, i + 1 => zpos cs k i
  | .l _ _ :: cs, k, i + 1 => zpos cs (k + 1) i
theorem ent_get : ∀ (cs : List Cell) (k i : Nat) (c : Cell), cs[i]? = some c → (entR k (cs.map toArg))[i]? = some (match c with | .d x => some (.dt x) | .l _ _ => (zpos cs k i).map .ob)
  | .d x :: cs, k, 0, c, h => by cases h; rfl
  | .l w ds :: cs, k, 0, c, h => by cases h; rfl
  | .d x :: cs, k, i + 1, c, h => by
    have h : cs[i]? = some c := by simpa using h
    have := ent_get cs k i c h
    show (entR k (cs.map toArg))[i]? = _
    rw [this]
    cases c <;> rfl
  | .l w ds :: cs, k, i + 1, c, h => by
    have h : cs[i]? = some c := by simpa using h
    have := ent_get cs (k + 1) i c h
    show (entR (k + 1) (cs.map toArg))[i]? = _
    rw [this]
    cases c <;> rfl
theorem zpos_l : ∀ (cs : List Cell) (k i : Nat) (w : Bool) (ds : List PD), cs[i]? = some (.l w ds) → ∃ j, zpos cs k i = some (k + j) ∧ (entM (cs.map toArg))[j]? = some (.ls false ds)
  | .d x :: cs, k, 0, w, ds, h => by cases h
  | .l w ds :: cs, k, 0, _, _, h => by cases h; exact ⟨0, rfl, rfl⟩
  | .d x :: cs, k, i + 1, w, ds, h => zpos_l cs k i w ds (by simpa using h)
  | .l w' ds' :: cs, k, i + 1, w, ds, h => by
    obtain ⟨j, h1, h2⟩ := zpos_l cs (k + 1) i w ds (by simpa using h)
    exact ⟨j + 1, by show zpos cs (k + 1) i = _; rw [h1]; congr 1; omega, h2⟩
theorem zpos_inj : ∀ (cs : List Cell) (k i i' p : Nat), zpos cs k i = some p → zpos cs k i' = some p → k ≤ p ∧ i = i'
  | [], _, _, _, _, h, _ => by cases h
  | .d x :: cs, k, 0, _, p, h, _ => by cases h
  | .d x :: cs, k, i + 1, 0, p, _, h => by cases h
  | .d x :: cs, k, i + 1, i' + 1, p, h, h' => by
    obtain ⟨a, b⟩ := zpos_inj cs k i i' p h h'
    exact ⟨a, by rw [b]⟩
  | .l w ds :: cs, k, 0, 0, p, h, _ => by cases h; exact ⟨Nat.le_refl _, rfl⟩
  | .l w ds :: cs, k, 0, i' + 1, p, h, h' => by
    cases h
    have h' : zpos cs (k + 1) i' = some k := h'
    have := (zpos_inj cs (k + 1) i' i' k h' h').1
    omega
  | .l w ds :: cs, k, i + 1, 0, p, h, h' => by
    cases h'
    have h : zpos cs (k + 1) i = some k := h
    have := (zpos_inj cs (k + 1) i i k h h).1
    omega
  | .l w ds :: cs, k, i + 1, i' + 1, p, h, h' => by
    obtain ⟨a, b⟩ := zpos_inj cs (k + 1) i i' p h h'
    exact ⟨by omega, by rw [b]⟩
theorem ppad_get {n : Nat} {cs : List Cell} {i : Nat} {c : Cell} (h : (ppad n cs)[i]? = some (some c)) : ∃ c', cs[i]? = some c' ∧ c = lentC c' := by
  unfold ppad at h
  by_cases hi : i < cs.length
  · rw [List.getElem?_append_left (by rw [List.length_map]; exact hi), List.getElem?_map] at h
    cases e : cs[i]? with
    | none => rw [e] at h; cases h
    | some c' => rw [e] at h; cases h; exact ⟨c', rfl, rfl⟩
  · rw [List.getElem?_append_right (by rw [List.length_map]; omega)] at h
    rw [List.getElem?_replicate] at h
    split at h <;> cases h
theorem ppd_get {n k : Nat} {cs : List Cell} {i : Nat} (hi : i < cs.length) : (pad n (entR k (cs.map toArg)))[i]? = (entR k (cs.map toArg))[i]? := by
  unfold pad
  exact List.getElem?_append_left (by rw [entR_length, List.length_map]; exact hi)
theorem enc_ent (n : Nat) (cs : List Cell) : Enc (zpos cs 0) (ppad n cs) (pad n (entR 0 (cs.map toArg))) (entM (cs.map toArg)) := by
  have hl : ∀ (i : Nat) (w : Bool) (ds : List PD), (ppad n cs)[i]? = some (some (.l w ds)) → w = false ∧ ∃ j, zpos cs 0 i = some j ∧ (entM (cs.map toArg))[j]? = some (.ls false ds) ∧ (pad n (entR 0 (cs.map toArg)))[i]? = some (some (.ob j)) := fun i w ds h => by
    obtain ⟨c', h1, h2⟩ := ppad_get h
    cases c' with
    | d x => cases h2
    | l w' ds' =>
      cases h2
      obtain ⟨j, h3, h4⟩ := zpos_l cs 0 i w' ds h1
      rw [Nat.zero_add] at h3
      refine ⟨rfl, j, h3, h4, ?_⟩
      rw [ppd_get (get_lt h1), ent_get cs 0 i _ h1, h3]
      rfl
  have hob : ∀ i k, Has (ppad n cs) i → (pad n (entR 0 (cs.map toArg)))[i]? = some (some (.ob k)) → zpos cs 0 i = some k := fun i k ⟨c, h⟩ hr => by
    obtain ⟨c', h1, h2⟩ := ppad_get h
    rw [ppd_get (get_lt h1), ent_get cs 0 i _ h1] at hr
    cases c' with
    | d x => cases hr
    | l w ds =>
      have hr : some ((zpos cs 0 i).map RV.ob) = some (some (.ob k)) := hr
      cases e : zpos cs 0 i with
      | none => rw [e] at hr; cases hr
      | some j => rw [e] at hr; cases hr; rfl
  refine ⟨?_, fun i x h => ?_, fun i w ds h => ?_, fun i j k hi hj h1 h2 => ?_, fun i ds k h hk => ?_⟩
  · unfold ppad pad
    rw [List.length_append, List.length_append, List.length_map, List.length_replicate, List.length_replicate, entR_length, List.length_map]
  · obtain ⟨c', h1, h2⟩ := ppad_get h
    cases c' with
    | l w ds => cases h2
    | d y =>
      cases h2
      refine ⟨.dt x, ?_, .inl rfl⟩
      rw [ppd_get (get_lt h1), ent_get cs 0 i _ h1]
  · obtain ⟨rfl, j, _, h2, h3⟩ := hl i w ds h
    exact ⟨j, h3, h2⟩
  · exact (zpos_inj cs 0 i j k (hob i k hi.has h1) (hob j k hj h2)).2
  · exact hob i k ⟨_, h⟩ hk
theorem lents_of : ∀ (dss : List (List PD)) (μ : Mu), (∀ (j : Nat) (ds : List PD), dss[j]? = some ds → μ[j]? = some (Ob.ls false ds)) → lents dss.length μ = some (dss.map (Ob.ls false))
  | [], _, _ => by cases ‹Mu› <;> rfl
  | ds :: dss, [], h => by have := h 0 ds rfl; cases this
  | ds :: dss, m :: μ, h => by
    have h0 := h 0 ds rfl
    have h0 : some m = some (.ls false ds) := h0
    cases h0
    show (if (Ob.ls false ds).own = some false then (lents dss.length μ).map (Ob.ls false ds :: ·) else none) = _
    rw [if_pos (show (Ob.ls false ds).own = some false from rfl), lents_of dss μ fun j es hj => h (j + 1) es hj]
    rfl
theorem lentIx_ok : ∀ (cs : List Cell) (i0 k0 : Nat) (j : Nat) (i : Nat), (lentIx i0 cs)[j]? = some i → i0 ≤ i ∧ zpos cs k0 (i - i0) = some (k0 + j)
  | [], _, _, _, _, h => by cases h
  | .d x :: cs, i0, k0, j, i, h => by
    obtain ⟨a, b⟩ := lentIx_ok cs (i0 + 1) k0 j i h
    refine ⟨by omega, ?_⟩
    have : i - i0 = (i - (i0 + 1)) + 1 := by omega
    rw [this]
    exact b
  | .l w ds :: cs, i0, k0, 0, i, h => by
    have h : some i0 = some i := h
    cases h
    exact ⟨Nat.le_refl _, by rw [Nat.sub_self]; rfl⟩
  | .l w ds :: cs, i0, k0, j + 1, i, h => by
    obtain ⟨a, b⟩ := lentIx_ok cs (i0 + 1) (k0 + 1) j i h
    refine ⟨by omega, ?_⟩
    have : i - i0 = (i - (i0 + 1)) + 1 := by omega
    rw [this]
    show zpos cs (k0 + 1) (i - (i0 + 1)) = _
    rw [b]
    congr 1
    omega
theorem lentIx_length : ∀ (cs : List Cell) (i0 : Nat), (lentIx i0 cs).length = (entM (cs.map toArg)).length
  | [], _ => rfl
  | .d x :: cs, i0 => lentIx_length cs (i0 + 1)
  | .l w ds :: cs, i0 => by show _ + 1 = _ + 1; rw [lentIx_length cs (i0 + 1)]
theorem lentDs_get {env : Env} : ∀ {is : List Nat} {dss : List (List PD)}, lentDs env is = some dss → dss.length = is.length ∧ ∀ (j : Nat) (ds : List PD), dss[j]? = some ds → ∃ i : Nat, is[j]? = some i ∧ env[i]? = some (some (.l false ds))
  | [], dss, e => by cases e; exact ⟨rfl, fun j ds h => by cases h⟩
  | i :: is, dss, e => by
    have e : (match env[i]? with | some (some (.l false ds)) => (lentDs env is).map (ds :: ·) | _ => none) = some dss := e
    match hi : env[i]?, e with
    | some (some (.l false es)), e =>
      cases h : lentDs env is with
      | none => rw [h] at e; cases e
      | some dss' =>
        rw [h] at e
        cases e
        obtain ⟨a, b⟩ := lentDs_get h
        refine ⟨by rw [List.length_cons, List.length_cons, a], fun j ds hj => ?_⟩
        cases j with
        | zero => cases hj; exact ⟨i, rfl, hi⟩
        | succ j => exact b j ds hj
    | some (some (.l true es)), e => cases e
    | some (some (.d x)), e => cases e
    | some none, e => cases e
    | none, e => cases e
theorem lents_sim {cs : List Cell} {env : Env} {ρ : Rho} {μ : Mu} (E : Enc (zpos cs 0) env ρ μ) {ms : List (List PD)} (e : lentDs env (lentIx 0 cs) = some ms) : lents (entM (cs.map toArg)).length μ = some (ms.map (Ob.ls false)) := by
  obtain ⟨h1, h2⟩ := lentDs_get e
  rw [← lentIx_length cs 0, ← h1]
  refine lents_of ms μ fun j ds hj => ?_
  obtain ⟨i, h3, h4⟩ := h2 j ds hj
  obtain ⟨k, h5, h6⟩ := E.l i false ds h4
  have h7 := E.z i ds k h4 h5
  have h8 := (lentIx_ok cs 0 0 j i h3).2
  rw [Nat.sub_zero, h7, Nat.zero_add] at h8
  cases h8
  exact h6
theorem simF_run {n : Nat} {g : SV} {p : PSV} (h : ∀ Z, SimS Z g p) : SimF (runF n g) (prun n p) := fun cs => by
  have a := h (zpos cs 0) _ _ _ (enc_ent n cs)
  show QEnc (endF (entM (cs.map toArg)).length (g (pad n (entR 0 (cs.map toArg))) (entM (cs.map toArg)))) (pend (lentIx 0 cs) (p (ppad n cs)))
  cases hp : p (ppad n cs) with
  | nx e =>
    rw [hp] at a
    obtain ⟨ρ, μ, e1, E⟩ := a
    rw [e1]
    show QEnc _ (pms _ (lentDs e (lentIx 0 cs)))
    cases hm : lentDs e (lentIx 0 cs) with
    | none => trivial
    | some ms =>
      refine ⟨.d .none, ?_, .inl rfl⟩
      show retF _ _ _ = _
      unfold retF
      rw [lents_sim E hm]
      rfl
  | rt c e =>
    rw [hp] at a
    obtain ⟨r, μ, ρ, e1, E, R, h1, h2⟩ := a
    rw [e1]
    show QEnc _ (pms _ (lentDs e (lentIx 0 cs)))
    cases hm : lentDs e (lentIx 0 cs) with
    | none => trivial
    | some ms =>
      refine ⟨R, ?_, h2⟩
      show retF _ _ _ = _
      unfold retF
      rw [lents_sim E hm, h1]
  | er x e =>
    rw [hp] at a
    obtain ⟨ρ, μ, e1, E⟩ := a
    rw [e1]
    show QEnc _ (pms _ (lentDs e (lentIx 0 cs)))
    cases hm : lentDs e (lentIx 0 cs) with
    | none => trivial
    | some ms =>
      show (match lents (entM (cs.map toArg)).length μ with | some ms => Rf.er x ms | none => Rf.no) = _
      rw [lents_sim E hm]
  | bk e => trivial
  | ct e => trivial
  | no => trivial
theorem simF_no (F : FV) : SimF F fun _ => .no := fun _ => trivial
/-- the law's end, by the pure law -/
theorem law_end {F : FV} {q : PFV} (h : SimF F q) {ns : List Int} (e : q [.d (scrD ns)] = .ok (.d (.bool true)) []) : F [.d (scrD ns)] = .ok (.d (.bool true)) [] := by
  have a := h [.d (scrD ns)]
  rw [e] at a
  obtain ⟨r, h1, h2⟩ := a
  rcases h2 with rfl | ⟨ds, h, _⟩
  · exact h1
  · cases h
end DL
namespace DL
open PySem PySem.Spec PyProof.Rows L2
theorem m_Cs {Z : Nat → Option Nat} {x : String} {l : List Nat} (h : Str.ofString x = ofL l) : SimE Z (eC (.str (Str.ofString x))) (pC (.str (ofL l))) := by rw [h]; exact m_C _
end DL
/-! The pure layer: x, y, z = a, b, c (of values that are no names' own lists). -/
namespace DL
open PySem PySem.Spec PyProof.Rows L2
def cellV : Val → Option Cell
  | .d x => some (.d x)
  | .t ds => some (.l true ds)
  | .v _ => none
/-- a name's plain data stands for the name -/
def cellE (e : DL.Env) : Val → Option Cell
  | .v i => (match e[i]? with
    | some (some (.d x)) => some (.d x)
    | _ => none)
  | v => cellV v
def psPar3 (i j l : Nat) (ps : PAV) : PSV := fun env => (ps env).st fun vs e => match vs with
  | [a, b, c] => (match cellE e a, cellE e b, cellE e c with
    | some ca, some cb, some cc => .nx (((e.set i (some ca)).set j (some cb)).set l (some cc))
    | _, _, _ => .no)
  | _ => .no
section
variable {Z : Nat → Option Nat} {env : Env} {ρ : Rho} {μ : Mu}
theorem cfor_of {n : Nat} {v : Val} {r : RV} {c : Cell} (h : VEnc n env ρ μ v r) (e : cellV v = some c) : CFor env ρ μ c r := by
  cases v with
  | d x => cases e; exact ⟨h.1, fun k hk => (h.2 k hk).1⟩
  | t ds => cases e; obtain ⟨k, h1, h2, h3, _⟩ := h; exact ⟨rfl, k, h1, h2, h3⟩
  | v i => cases e
theorem loose (E : Enc Z env ρ μ) {n : Nat} {v : Val} {r : RV} {c : Cell} (h : VEnc n env ρ μ v r) (e : cellE env v = some c) : ∃ v', cellV v' = some c ∧ VEnc n env ρ μ v' r := by
  cases v with
  | d x => exact ⟨.d x, e, h⟩
  | t ds => exact ⟨.t ds, e, h⟩
  | v i =>
    have e : (match env[i]? with
      | some (some (.d x)) => some (Cell.d x)
      | _ => none) = some c := e
    match hi : env[i]?, e with
    | some (some (.d x)), e =>
      cases e
      obtain ⟨h1, h2⟩ := h
      obtain ⟨r', g1, g2⟩ := E.d i x hi
      rw [h1] at g1
      cases g1
      refine ⟨.d x, rfl, g2, fun k hk => ⟨fun q hq hr => ?_, fun f => absurd (by rw [← hk]; exact h1) (f i h2)⟩⟩
      subst hk
      have := E.u q i k hq h2 hr h1
      subst this
      obtain ⟨w, ds, hq⟩ := hq
      rw [hi] at hq
      cases hq
    | some (some (.l w ds)), e => cases e
    | some none, e => cases e
    | none, e => cases e
/-- what is apart from a cell that is set stays -/
theorem cfor_set {c c1 : Cell} {r r1 : RV} (i : Nat) (h : CFor env ρ μ c r) (hl : env.length = ρ.length) (ap : ∀ k, r = .ob k → r1 = .ob k → (∃ w ds, c = .l w ds) ∨ (∃ w ds, c1 = .l w ds) → False) : CFor (env.set i (some c1)) (ρ.set i (some r1)) μ c r := by
  have old : ∀ q k, (ρ.set i (some r1))[q]? = some (some (.ob k)) → q ≠ i → ρ[q]? = some (some (.ob k)) := fun q k hq hne => by
    rw [List.getElem?_set_ne (Ne.symm hne)] at hq; exact hq
  have at_i : ∀ k, (ρ.set i (some r1))[i]? = some (some (.ob k)) → i < env.length → r1 = .ob k := fun k hq hlt => by
    rw [List.getElem?_set_self (by rw [← hl]; exact hlt)] at hq
    exact Option.some.inj (Option.some.inj hq)
  cases c with
  | d x =>
    refine ⟨h.1, fun k hk q hq hr => ?_⟩
    by_cases e : q = i
    · subst e
      obtain ⟨w, ds, hq⟩ := hq
      have hlt : q < env.length := by have := get_lt hq; rwa [List.length_set] at this
      rw [List.getElem?_set_self hlt] at hq
      exact ap k hk (at_i k hr hlt) (.inr ⟨w, ds, Option.some.inj (Option.some.inj hq)⟩)
    · refine h.2 k hk q ?_ (old q k hr e)
      unfold Live at hq ⊢
      rwa [List.getElem?_set_ne (Ne.symm e)] at hq
  | l w ds =>
    obtain ⟨hw, k, hk, hm, hf⟩ := h
    refine ⟨hw, k, hk, hm, fun q hq hr => ?_⟩
    by_cases e : q = i
    · subst e
      have hlt : q < env.length := by
        obtain ⟨c0, hq⟩ := hq
        have := get_lt hq; rwa [List.length_set] at this
      exact ap k hk (at_i k hr hlt) (.inl ⟨w, ds, rfl⟩)
    · refine hf q ?_ (old q k hr e)
      unfold Has at hq ⊢
      rwa [List.getElem?_set_ne (Ne.symm e)] at hq
/-- a later value is apart from an earlier one -/
theorem apart_of {n n1 n2 : Nat} {v1 v : Val} {r1 r : RV} {c1 c : Cell} (h1 : VEnc n env ρ μ v1 r1) (e1 : cellV v1 = some c1) (b1 : ∀ k, r1 = .ob k → k < n1) (hn : n1 ≤ n2) (h : VEnc n2 env ρ μ v r) (e : cellV v = some c) :
    ∀ k, r = .ob k → r1 = .ob k → (∃ w ds, c = .l w ds) ∨ (∃ w ds, c1 = .l w ds) → False := fun k hk hk1 hh => by
  have lt := b1 k hk1
  cases v with
  | d x =>
    cases e
    rcases hh with ⟨w, ds, q⟩ | ⟨w, ds, q⟩
    · cases q
    · subst q
      cases v1 with
      | d x1 => cases e1
      | v i => cases e1
      | t ds1 =>
        obtain ⟨k', g1, g2, g3, g4⟩ := h1
        rw [hk1] at g1
        cases g1
        have := (h.2 k hk).2 g3
        omega
  | t ds =>
    obtain ⟨k', g1, g2, g3, g4⟩ := h
    rw [hk] at g1
    cases g1
    omega
  | v i => cases e
theorem ms_Par3 {fs : AV} {ps : PAV} (i j l : Nat) (hs : SimA Z fs ps) : SimS Z (sPar3 i j l fs) (psPar3 i j l ps) := fun env ρ μ E => SSim.st (hs μ.length env ρ μ (Nat.le_refl _) E) fun vs rs env1 μ1 E1 k1 hv => by
  match vs, rs, hv with
  | [], _, .nil => trivial
  | [_], _, .cons _ _ _ .nil => trivial
  | [_, _], _, .cons _ _ _ (.cons _ _ _ .nil) => trivial
  | [a, b, c], [ra, rb, rc], .cons (n' := m1) ha h1 b1 (.cons (n' := m2) hb h2 b2 (.cons hc _ _ .nil)) =>
    show SSim Z (.nx (((ρ.set i (some ra)).set j (some rb)).set l (some rc)) μ1) (match cellE env1 a, cellE env1 b, cellE env1 c with
      | some ca, some cb, some cc => .nx (((env1.set i (some ca)).set j (some cb)).set l (some cc))
      | _, _, _ => .no)
    cases ea : cellE env1 a with
    | none => trivial
    | some ca => cases eb : cellE env1 b with
      | none => trivial
      | some cb => cases ec : cellE env1 c with
        | none => trivial
        | some cc =>
          obtain ⟨a', ea, ha⟩ := loose E1 ha ea
          obtain ⟨b', eb, hb⟩ := loose E1 hb eb
          obtain ⟨c', ec, hc⟩ := loose E1 hc ec
          have len := E1.len
          have len2 : (env1.set i (some ca)).length = (ρ.set i (some ra)).length := by rw [List.length_set, List.length_set, len]
          have Ea := E1.slot (cfor_of ha ea) i
          have cb1 := cfor_set i (cfor_of hb eb) len (apart_of ha ea b1 (Nat.le_refl _) hb eb)
          have Eb := Ea.slot cb1 j
          have cc1 := cfor_set i (cfor_of hc ec) len (apart_of ha ea b1 h2 hc ec)
          have cc2 := cfor_set j cc1 len2 (apart_of hb eb b2 (Nat.le_refl _) hc ec)
          exact ⟨_, _, rfl, Eb.slot cc2 l⟩
  | _ :: _ :: _ :: _ :: _, _, .cons _ _ _ (.cons _ _ _ (.cons _ _ _ (.cons _ _ _ _))) => trivial
end
end DL
/-! The pure layer: comprehensions with two walks. -/
namespace DL
open PySem PySem.Spec PyProof.Rows L2
def pcompL2 (tg : PGV) (tt : PTV) (fi1 : PIV) (tg1 : PGV) (tt1 : PTV) (te : PEV) (vs vs1 : List Nat) : List PD → List PD → Env → Pr (List PD)
  | [], acc, env => .ok acc env
  | d :: r, acc, env => match tg d (wipeE env vs) with
    | none => .no
    | some env1 => (tt env1).noer.bind fun b env2 => if b = true then (fi1 env2).noer.bind fun items env3 => (pcompL tg1 tt1 te vs1 items acc env3).noer.bind fun acc' env4 => pcompL2 tg tt fi1 tg1 tt1 te vs vs1 r acc' (restE env vs env4)
      else pcompL2 tg tt fi1 tg1 tt1 te vs vs1 r acc (restE env vs env2)
def pComp2 (fi : PIV) (tg : PGV) (tt : PTV) (fi1 : PIV) (tg1 : PGV) (tt1 : PTV) (te : PEV) (vs vs1 : List Nat) : PEV := fun env => (fi env).bind fun items env1 => (pcompL2 tg tt fi1 tg1 tt1 te vs vs1 items [] env1).bind fun ds env2 => .ok (.t ds) env2
/-- all but the list at q -/
structure KpX (q : Nat) (env : Env) (ρ : Rho) (μ : Mu) (env' : Env) (μ' : Mu) : Prop where
  le : μ.length ≤ μ'.length
  fr : ∀ k : Nat, k < μ.length → k ≠ q → Free env ρ k → μ'[k]? = μ[k]?
  nl : ∀ (k : Nat) (ds : List PD), NotLive env ρ k → ¬ Free env ρ k → (μ[k]? = some (.fz ds) → μ'[k]? = some (.fz ds)) ∧ (μ[k]? = some (.ls true ds) → μ'[k]? = some (.fz ds) ∨ μ'[k]? = some (.ls true ds))
  len : env'.length = env.length
  has : ∀ i, Has env i ↔ Has env' i
  live : ∀ i, Live env' i → Live env i
section
variable {n q : Nat} {Z : Nat → Option Nat} {env env1 env2 : Env} {ρ ρ1 : Rho} {μ μ1 μ2 : Mu} {vs : List Nat}
theorem Kp.x (k : Kp μ.length env ρ μ env1 μ1) : KpX q env ρ μ env1 μ1 := ⟨k.le, fun j hj _ hf => k.fr j hj hf, k.nl, k.len, k.has, k.live⟩
theorem KpX.free' (k1 : KpX q env ρ μ env1 μ1) {k : Nat} (h : Free env1 ρ k) : Free env ρ k := fun i hi => h i ((k1.has i).mp hi)
theorem KpX.free (k1 : KpX q env ρ μ env1 μ1) {k : Nat} (h : Free env ρ k) : Free env1 ρ k := fun i hi => h i ((k1.has i).mpr hi)
theorem KpX.notLive (k1 : KpX q env ρ μ env1 μ1) {k : Nat} (h : NotLive env ρ k) : NotLive env1 ρ k := fun i hi => h i (k1.live i hi)
theorem KpX.trans (k1 : KpX q env ρ μ env1 μ1) (k2 : KpX q env1 ρ μ1 env2 μ2) : KpX q env ρ μ env2 μ2 where
  le := Nat.le_trans k1.le k2.le
  fr := fun k hk hq h => (k2.fr k (Nat.lt_of_lt_of_le hk k1.le) hq (k1.free h)).trans (k1.fr k hk hq h)
  nl := fun k ds h hf => by
    obtain ⟨a1, b1⟩ := k1.nl k ds h hf
    obtain ⟨a2, b2⟩ := k2.nl k ds (k1.notLive h) (fun f => hf (k1.free' f))
    refine ⟨fun e => a2 (a1 e), fun e => ?_⟩
    rcases b1 e with e | e
    · exact .inl (a2 e)
    · exact b2 e
  len := k2.len.trans k1.len
  has := fun i => (k1.has i).trans (k2.has i)
  live := fun i h => k1.live i (k2.live i h)
theorem KpX.refl : KpX q env ρ μ env μ := Kp.refl.x
theorem KpX.setFree {m : Ob} (hf : Free env ρ q) : KpX q env ρ μ env (μ.set q m) where
  le := by rw [List.length_set]; exact Nat.le_refl _
  fr := fun j _ hq _ => List.getElem?_set_ne (Ne.symm hq)
  nl := fun j ds _ hn => by
    have : q ≠ j := fun e => hn (e ▸ hf)
    rw [List.getElem?_set_ne this]
    exact ⟨fun h => h, fun h => .inr h⟩
  len := rfl
  has := fun _ => Iff.rfl
  live := fun _ h => h
theorem KpX.kp (k : KpX q env ρ μ env1 μ1) (hn : n ≤ q) (hm : n ≤ μ.length) : Kp n env ρ μ env1 μ1 := ⟨k.le, fun j hj hf => k.fr j (Nat.lt_of_lt_of_le hj hm) (by omega) hf, k.nl, k.len, k.has, k.live⟩
theorem Shd.backX (E : Enc Z env ρ μ) (s : Shd vs env ρ env1 ρ1) (E2 : Enc Z env2 ρ1 μ1) (k : KpX q env1 ρ1 μ env2 μ1) (hq : Free env ρ q) : Enc Z (restE env vs env2) ρ μ1 ∧ KpX q env ρ μ (restE env vs env2) μ1 := by
  have hlen : env2.length = env.length := k.len.trans s.l1
  have hg := restE_get env vs env2 hlen
  have hin : ∀ i, i ∈ vs → (restE env vs env2)[i]? = env[i]? := fun i h => by rw [hg, if_pos h]
  have hout : ∀ i, i ∉ vs → (restE env vs env2)[i]? = env2[i]? := fun i h => by rw [hg, if_neg h]
  have hlo : ∀ i, i ∉ vs → Live (restE env vs env2) i → Live env i := fun i h hl => by
    unfold Live at hl; rw [hout i h] at hl
    have := k.live i hl
    unfold Live at this ⊢; rw [(s.o i h).1] at this; exact this
  have hho : ∀ i, i ∉ vs → (Has (restE env vs env2) i ↔ Has env i) := fun i h => by
    have := k.has i
    unfold Has at this ⊢
    rw [hout i h, ← this, (s.o i h).1]
  have hhi : ∀ i, i ∈ vs → (Has (restE env vs env2) i ↔ Has env i) := fun i h => by unfold Has; rw [hin i h]
  have hh : ∀ i, Has (restE env vs env2) i ↔ Has env i := fun i => by
    by_cases h : i ∈ vs
    · exact hhi i h
    · exact hho i h
  have hl : ∀ i, Live (restE env vs env2) i → Live env i := fun i h => by
    by_cases hv : i ∈ vs
    · unfold Live at h ⊢; rw [hin i hv] at h; exact h
    · exact hlo i hv h
  have kp : ∀ (j : Nat) (ds : List PD), NotLive env ρ j → j ≠ q → (μ[j]? = some (.fz ds) → μ1[j]? = some (.fz ds)) ∧ (μ[j]? = some (.ls true ds) → μ1[j]? = some (.fz ds) ∨ μ1[j]? = some (.ls true ds)) := fun j ds hn hj => by
    by_cases hf : Free env1 ρ1 j
    · refine ⟨fun h => ?_, fun h => ?_⟩
      · rw [k.fr j (get_lt h) hj hf]; exact h
      · rw [k.fr j (get_lt h) hj hf]; exact .inr h
    · exact k.nl j ds (s.notLive hn) hf
  have nq : ∀ (i j : Nat), Has env i → ρ[i]? = some (some (.ob j)) → j ≠ q := fun i j hi hr e => hq i hi (e ▸ hr)
  have dt : ∀ (i : Nat) (x : PD) (r : RV), env[i]? = some (some (.d x)) → ρ[i]? = some (some r) → Dt μ x r → Dt μ1 x r := fun i x r hi hr hd => by
    rcases hd with hd | ⟨j, ds, e, hx, hd⟩
    · exact .inl hd
    · refine .inr ⟨j, ds, e, hx, ?_⟩
      obtain ⟨a, b⟩ := kp j ds (E.nl_of hi (e ▸ hr)) (nq i j ⟨_, hi⟩ (e ▸ hr))
      rcases hd with hd | hd
      · exact .inl (a hd)
      · exact b hd
  refine ⟨⟨by rw [restE_length, hlen]; exact E.len, fun i x h => ?_, fun i w ds h => ?_, fun i j q hi hj h1 h2 => E.u i j q (hl i hi) ((hh j).mp hj) h1 h2, fun i ds q h hq => ?_⟩, ⟨k.le, fun j hj hjq hf => k.fr j hj hjq (s.free hf), fun j ds hn hf => kp j ds hn (fun e => hf (e ▸ hq)), by rw [restE_length, hlen], fun i => (hh i).symm, hl⟩⟩
  · by_cases hv : i ∈ vs
    · rw [hin i hv] at h
      obtain ⟨r, h1, h2⟩ := E.d i x h
      exact ⟨r, h1, dt i x r h h1 h2⟩
    · rw [hout i hv] at h
      obtain ⟨r, h1, h2⟩ := E2.d i x h
      rw [(s.o i hv).2] at h1
      exact ⟨r, h1, h2⟩
  · by_cases hv : i ∈ vs
    · rw [hin i hv] at h
      obtain ⟨q', h1, h2⟩ := E.l i w ds h
      refine ⟨q', h1, ?_⟩
      rw [k.fr q' (get_lt h2) (nq i q' ⟨_, h⟩ h1) (fun j hj hr => ?_)]
      · exact h2
      · obtain ⟨hw, hj2, hr2⟩ := s.ob hj hr
        have := E.u i j q' ⟨w, ds, h⟩ hj2 h1 hr2
        exact hw (this ▸ hv)
    · rw [hout i hv] at h
      obtain ⟨q', h1, h2⟩ := E2.l i w ds h
      rw [(s.o i hv).2] at h1
      exact ⟨q', h1, h2⟩
  · by_cases hv : i ∈ vs
    · rw [hin i hv] at h; exact E.z i ds q h hq
    · rw [hout i hv] at h
      refine E2.z i ds q h ?_
      rw [(s.o i hv).2]; exact hq
theorem noer_ok {β : Type} {p : Pr β} {b : β} {e : Env} (h : p.noer = .ok b e) : p = .ok b e := by
  cases p with
  | ok b e => exact h
  | er x e => cases h
  | no => cases h
theorem bind_ok {β γ : Type} {p : Pr β} {k : β → Env → Pr γ} {c : γ} {e : Env} (h : p.noer.bind k = .ok c e) : ∃ b e1, p = .ok b e1 ∧ k b e1 = .ok c e := by
  cases p with
  | ok b e1 => exact ⟨b, e1, rfl, h⟩
  | er x e => cases h
  | no => cases h
/-- the inner walk with what it leaves of the other objects -/
theorem simX_compL {tg : RV → Rho → Option Rho} {ptg : PGV} {tt : TV} {ptt : PTV} {te : EV} {pte : PEV} {L : List Nat} (hg : SimG tg ptg L) (ht : SimT Z tt ptt) (he : SimE Z te pte) (hL : ∀ i ∈ L, i ∈ vs) {k : Nat} :
    ∀ (items acc : List PD) (env : Env) (μ : Mu) (ds : List PD) (e : Env), Enc Z env ρ μ → μ[k]? = some (.ls true acc) → Free env ρ k → pcompL ptg ptt pte vs items acc env = .ok ds e →
      ∃ m, compL tg tt te vs k items ρ μ = .ok () m ∧ Enc Z e ρ m ∧ KpX k env ρ μ e m ∧ m[k]? = some (.ls true ds)
  | [], acc, env, μ, ds, e, E, hk, hf, h => by
    cases h
    exact ⟨μ, rfl, E, .refl, hk⟩
  | d :: r, acc, env, μ, ds, e, E, hk, hf, h => by
    unfold pcompL at h
    unfold compL
    have s0 := wipe_shd (vs := vs) E.len
    cases hp : ptg d (wipeE env vs) with
    | none => rw [hp] at h; cases h
    | some env1 =>
      rw [hp] at h
      obtain ⟨ρ1, e1, s1⟩ := hg d _ env1 (wipeR ρ vs) (by rw [s0.l1, s0.l2]; exact E.len) hp
      have s : Shd vs env ρ env1 ρ1 := by
        have s2 := s0.trans s1
        refine ⟨s2.l1, s2.l2, fun i h => s2.o i (fun z => ?_), fun i h => s2.n i (List.mem_append.mpr (.inl h))⟩
        rcases List.mem_append.mp z with z | z
        · exact h z
        · exact h (hL i z)
      simp only [e1]
      have E1 := s.enc E
      have hkl : k < μ.length := get_lt hk
      obtain ⟨b, env2, hb, h⟩ := bind_ok h
      have a := (ht μ.length env1 ρ1 μ (Nat.le_refl _) E1).noer
      rw [hb] at a
      obtain ⟨b', μ2, ex, E2, k2, rfl⟩ := a
      rw [ex]
      show ∃ m, (if b' = true then _ else _) = _ ∧ _
      have hk2 : μ2[k]? = some (.ls true acc) := (k2.fr k hkl (s.free hf)).trans hk
      cases b' with
      | false =>
        rw [if_neg (by simp)] at h
        rw [if_neg (by simp)]
        obtain ⟨E3, k3⟩ := s.backX (q := k) E E2 k2.x hf
        obtain ⟨m, h1, h2, h3, h4⟩ := simX_compL hg ht he hL r acc _ μ2 ds e E3 hk2 (k3.free hf) h
        exact ⟨m, h1, h2, k3.trans h3, h4⟩
      | true =>
        rw [if_pos rfl] at h
        rw [if_pos rfl]
        obtain ⟨y, env3, hy, h⟩ := bind_ok h
        have b1 := (he μ2.length env2 ρ1 μ2 (Nat.le_refl _) E2).noer
        rw [hy] at b1
        obtain ⟨ry, μ3, ey, E3, k3, vy⟩ := b1
        rw [ey]
        show ∃ m, ((frz ry μ3).bind _) = _ ∧ _
        have c1 := sim_frz E3 vy
        have hk3 : μ3[k]? = some (.ls true acc) := (k3.fr k (get_lt hk2) (k2.free (s.free hf))).trans hk2
        have hf3 : Free env3 ρ1 k := k3.free (k2.free (s.free hf))
        have hry : ry ≠ .ob k := fun z => by
          subst z
          cases y with
          | d x =>
            have := (vy.2 k rfl).2 hf3
            have := get_lt hk2
            omega
          | t ds =>
            obtain ⟨j, e, _, _, hj⟩ := vy
            cases e
            have := get_lt hk2
            omega
          | v i => exact hf3 i vy.2 vy.1
        cases hpf : pfrz y env3 with
        | no => rw [hpf] at h; cases h
        | er x e => rw [hpf] at h; cases h
        | ok x env4 =>
          rw [hpf] at c1 h
          obtain ⟨x', μ4, ex4, E4, k4, rfl, fz⟩ := c1
          rw [ex4]
          show ∃ m, (match snocAt k x' μ4 with | some μ5 => compL tg tt te vs k r ρ μ5 | none => Rs.no) = _ ∧ _
          have h : (if acc.length < sizeLine then pcompL ptg ptt pte vs r (acc ++ [x']) (restE env vs env4) else Pr.no) = .ok ds e := h
          have hk4 : μ4[k]? = some (.ls true acc) := by
            rcases fz k with e | ⟨_, _, _, e⟩
            · rw [e]; exact hk3
            · exact absurd e hry
          have hsn : snocAt k x' μ4 = if acc.length < sizeLine then some (μ4.set k (.ls true (acc ++ [x']))) else none := by
            unfold snocAt; rw [hk4]
          by_cases hz : acc.length < sizeLine
          · rw [if_pos hz] at hsn h
            rw [hsn]
            have kk : Kp μ.length env1 ρ1 μ env4 μ4 := k2.trans ((k3.base k2.le).trans (k4.base k2.le))
            obtain ⟨E5, k5⟩ := s.back E E4 kk
            have hf5 := k5.free hf
            obtain ⟨m, h1, h2, h3, h4⟩ := simX_compL hg ht he hL r (acc ++ [x']) _ (μ4.set k (.ls true (acc ++ [x']))) ds e (E5.setFree hf5) (List.getElem?_set_self (get_lt hk4)) hf5 h
            exact ⟨m, h1, h2, k5.x.trans ((KpX.setFree hf5).trans h3), h4⟩
          · rw [if_neg hz] at h; cases h
theorem sim_compL2 {tg tg1 : RV → Rho → Option Rho} {ptg ptg1 : PGV} {tt tt1 : TV} {ptt ptt1 : PTV} {fi1 : IV} {pfi1 : PIV} {te : EV} {pte : PEV} {L L1 vs1 : List Nat} (hg : SimG tg ptg L) (ht : SimT Z tt ptt) (hi1 : SimI Z fi1 pfi1) (hg1 : SimG tg1 ptg1 L1) (ht1 : SimT Z tt1 ptt1) (he : SimE Z te pte) (hL : ∀ i ∈ L, i ∈ vs) (hL1 : ∀ i ∈ L1, i ∈ vs1) {k : Nat} :
    ∀ (items acc : List PD) (env : Env) (μ : Mu), n ≤ k → Enc Z env ρ μ → μ[k]? = some (.ls true acc) → Free env ρ k →
      SimR Z (fun ds _ e m => m[k]? = some (.ls true ds) ∧ Free e ρ k) n env ρ μ (compL2 tg tt fi1 tg1 tt1 te vs vs1 k items ρ μ) (pcompL2 ptg ptt pfi1 ptg1 ptt1 pte vs vs1 items acc env)
  | [], acc, env, μ, hn, E, hk, hf => .pure E ⟨hk, hf⟩
  | d :: r, acc, env, μ, hn, E, hk, hf => by
    unfold compL2 pcompL2
    have s0 := wipe_shd (vs := vs) E.len
    cases hp : ptg d (wipeE env vs) with
    | none => trivial
    | some env1 =>
      obtain ⟨ρ1, e1, s1⟩ := hg d _ env1 (wipeR ρ vs) (by rw [s0.l1, s0.l2]; exact E.len) hp
      have s : Shd vs env ρ env1 ρ1 := by
        have s2 := s0.trans s1
        refine ⟨s2.l1, s2.l2, fun i h => s2.o i (fun z => ?_), fun i h => s2.n i (List.mem_append.mpr (.inl h))⟩
        rcases List.mem_append.mp z with z | z
        · exact h z
        · exact h (hL i z)
      simp only [e1]
      have E1 := s.enc E
      have hkl : k < μ.length := get_lt hk
      have hnl : n ≤ μ.length := by omega
      cases hq : ptt env1 with
      | no => trivial
      | er x e => trivial
      | ok b env2 =>
        have a := (ht μ.length env1 ρ1 μ (Nat.le_refl _) E1).noer
        rw [hq] at a
        obtain ⟨b', μ2, ex, E2, k2, rfl⟩ := a
        rw [ex]
        show SimR _ _ _ _ _ _ (if b' = true then _ else _) (if b' = true then _ else _)
        have hk2 : μ2[k]? = some (.ls true acc) := (k2.fr k hkl (s.free hf)).trans hk
        cases b' with
        | false =>
          rw [if_neg (by simp), if_neg (by simp)]
          obtain ⟨E3, k3⟩ := s.back E E2 k2
          exact (sim_compL2 hg ht hi1 hg1 ht1 he hL hL1 r acc _ μ2 hn E3 hk2 (k3.free hf)).kp (k3.base hnl)
        | true =>
          rw [if_pos rfl, if_pos rfl]
          cases hqi : pfi1 env2 with
          | no => trivial
          | er x e => trivial
          | ok its env3 =>
            have b1 := (hi1 μ2.length env2 ρ1 μ2 (Nat.le_refl _) E2).noer
            rw [hqi] at b1
            obtain ⟨its', μ3, ey, E3, k3, rfl⟩ := b1
            rw [ey]
            have hk3 : μ3[k]? = some (.ls true acc) := (k3.fr k (get_lt hk2) (k2.free (s.free hf))).trans hk2
            have hf3 : Free env3 ρ1 k := k3.free (k2.free (s.free hf))
            cases hqc : pcompL ptg1 ptt1 pte vs1 its' acc env3 with
            | no =>
              show SimR _ _ _ _ _ _ _ ((pcompL ptg1 ptt1 pte vs1 its' acc env3).noer.bind _)
              rw [hqc]; trivial
            | er x e =>
              show SimR _ _ _ _ _ _ _ ((pcompL ptg1 ptt1 pte vs1 its' acc env3).noer.bind _)
              rw [hqc]; trivial
            | ok acc2 env4 =>
              obtain ⟨μ4, ec, E4, k4, hk4⟩ := simX_compL hg1 ht1 he hL1 its' acc env3 μ3 acc2 env4 E3 hk3 hf3 hqc
              show SimR _ _ _ _ _ _ ((compL tg1 tt1 te vs1 k its' ρ1 μ3).noer.bind _) ((pcompL ptg1 ptt1 pte vs1 its' acc env3).noer.bind _)
              rw [hqc, ec]
              have kk : KpX k env1 ρ1 μ env4 μ4 := k2.x.trans (k3.x.trans k4)
              obtain ⟨E5, k5⟩ := s.backX E E4 kk hf
              exact (sim_compL2 hg ht hi1 hg1 ht1 he hL hL1 r acc2 _ μ4 hn E5 hk4 (k5.free hf)).kp (k5.kp hn hnl)
theorem m_Comp2 {fi fi1 : IV} {pfi pfi1 : PIV} {tg tg1 : RV → Rho → Option Rho} {ptg ptg1 : PGV} {tt tt1 : TV} {ptt ptt1 : PTV} {te : EV} {pte : PEV} {L L1 vs1 : List Nat} (hi : SimI Z fi pfi) (hg : SimG tg ptg L) (ht : SimT Z tt ptt) (hi1 : SimI Z fi1 pfi1) (hg1 : SimG tg1 ptg1 L1) (ht1 : SimT Z tt1 ptt1) (he : SimE Z te pte) (hL : ∀ i ∈ L, i ∈ vs) (hL1 : ∀ i ∈ L1, i ∈ vs1) : SimE Z (eComp2 fi tg tt fi1 tg1 tt1 te vs vs1) (pComp2 pfi ptg ptt pfi1 ptg1 ptt1 pte vs vs1) := fun n env ρ μ hn E =>
  (hi n env ρ μ hn E).bind (Nat.le_refl _) fun items items' env1 μ1 E1 k1 e => by
    subst e
    have hn1 := Nat.le_trans hn k1.le
    have E2 : Enc Z env1 ρ (μ1 ++ [.ls true []]) := E1.mono fun k m h => get_app h
    have a := sim_compL2 (n := n) (ρ := ρ) hg ht hi1 hg1 ht1 he hL hL1 items' [] env1 (μ1 ++ [.ls true []]) hn1 E2 (get_last _ _) (fun i h hr => E1.new i h hr)
    refine SimR.kp (SimR.bind a (Nat.le_refl _) fun ds u env2 μ2 E3 k3 v => ?_) (.app hn1)
    exact .pure E3 ⟨μ1.length, rfl, v.1, v.2, hn1⟩
end
end DL
/-! The pure layer's reckoning: each evaluator at a state, for simp. -/
namespace DL
open PySem PySem.Spec PyProof.Rows L2
/-! ### what goes on with a result -/
def pseqK (x : Ps) (h : PSV) : Ps := match x with
  | .nx e => h e
  | x => x
section
variable {β γ : Type} {c : Prop} [Decidable c]
theorem k_bind_ok (b : β) (e : DL.Env) (k : β → DL.Env → Pr γ) : (Pr.ok b e).bind k = k b e := rfl
theorem k_bind_er (x : Ex) (e : DL.Env) (k : β → DL.Env → Pr γ) : (Pr.er x e).bind k = .er x e := rfl
theorem k_bind_ite (x y : Pr β) (k : β → DL.Env → Pr γ) : (if c then x else y).bind k = if c then x.bind k else y.bind k := by split <;> rfl
theorem k_st_ok (b : β) (e : DL.Env) (k : β → DL.Env → Ps) : (Pr.ok b e).st k = k b e := rfl
theorem k_st_er (x : Ex) (e : DL.Env) (k : β → DL.Env → Ps) : (Pr.er x e).st k = .er x e := rfl
theorem k_st_ite (x y : Pr β) (k : β → DL.Env → Ps) : (if c then x else y).st k = if c then x.st k else y.st k := by split <;> rfl
theorem k_seq_nx (e : DL.Env) (h : PSV) : pseqK (.nx e) h = h e := rfl
theorem k_seq_rt (v : Cell) (e : DL.Env) (h : PSV) : pseqK (.rt v e) h = .rt v e := rfl
theorem k_seq_bk (e : DL.Env) (h : PSV) : pseqK (.bk e) h = .bk e := rfl
theorem k_seq_ct (e : DL.Env) (h : PSV) : pseqK (.ct e) h = .ct e := rfl
theorem k_seq_er (x : Ex) (e : DL.Env) (h : PSV) : pseqK (.er x e) h = .er x e := rfl
theorem k_seq_ite (x y : Ps) (h : PSV) : pseqK (if c then x else y) h = if c then pseqK x h else pseqK y h := by split <;> rfl
end
/-! ### one by one -/
section
variable {β γ : Type} {c : Prop} [Decidable c] (e env : DL.Env) (i j n : Nat) (w b : Bool) (d x y z : PD) (ds es : List PD) (pa pb pc po : PEV) (ps : PAV) (pt pt' : PTV) (pf pg ph : PSV) (vs : List Val) (v : Val)
def vK : Option (Option Cell) → Nat → DL.Env → Pr Val
  | some (some (.d x)), _, e => .ok (.d x) e
  | some (some (.l _ _)), i, e => .ok (.v i) e
  | _, _, _ => .no
def lkC : Option (Option Cell) → Option PD
  | some (some c) => some c.pd
  | _ => none
def fin2 (g : PD → PD → Option Out) : Option PD → Option PD → DL.Env → Pr Val
  | some x, some y, e => pfin (g x y) e
  | _, _, _ => .no
def fin1 (g : PD → Option Out) : Option PD → DL.Env → Pr Val
  | some x, e => pfin (g x) e
  | _, _ => .no
def finC (g : List PD → Option Out) : Option (List PD) → DL.Env → Pr Val
  | some x, e => pfin (g x) e
  | _, _ => .no
def finM (g : PD → List PD → Option Out) : Option PD → Option (List PD) → DL.Env → Pr Val
  | some x, some y, e => pfin (g x y) e
  | _, _, _ => .no
def lcons : Option PD → Option (List PD) → Option (List PD)
  | some d, some ds => some (d :: ds)
  | _, _ => none
def tofK : Option Bool → DL.Env → Pr Bool
  | some b, e => .ok b e
  | none, _ => .no
def andK (g : PEV) : Option Bool → DL.Env → Pr Val
  | some b, e => if b = true then g e else .ok (.d (.bool false)) e
  | none, _ => .no
def orK (g : PEV) : Option Bool → DL.Env → Pr Val
  | some b, e => if b = true then .ok (.d (.bool true)) e else g e
  | none, _ => .no
def notK : Option Bool → DL.Env → Pr Val
  | some b, e => .ok (.d (.bool (!b))) e
  | none, _ => .no
theorem u_C : pC d env = .ok (.d d) env := rfl
theorem u_V : pV i env = vK env[i]? i env := by
  unfold pV vK
  match env[i]? with
  | some (some (.d x)) => rfl
  | some (some (.l _ _)) => rfl
  | some none => rfl
  | none => rfl
theorem u_vd : vK (some (some (.d x))) i e = .ok (.d x) e := rfl
theorem u_vl : vK (some (some (.l w ds))) i e = .ok (.v i) e := rfl
theorem u_lkd : lookV e (.d x) = some x := rfl
theorem u_lkt : lookV e (.t ds) = some (.list ds) := rfl
theorem u_lkv : lookV e (.v i) = lkC e[i]? := by
  show (match e[i]? with | some (some c) => some c.pd | _ => none) = _
  unfold lkC
  match e[i]? with
  | some (some c) => rfl
  | some none => rfl
  | none => rfl
theorem u_lkC (c : Cell) : lkC (some (some c)) = some c.pd := rfl
theorem u_pdd : (Cell.d x).pd = x := rfl
theorem u_pdl : (Cell.l w ds).pd = .list ds := rfl
theorem u_lks0 : looksV e [] = some [] := rfl
theorem u_lks1 : looksV e (v :: vs) = lcons (lookV e v) (looksV e vs) := by
  show (match lookV e v, looksV e vs with | some d, some ds => some (d :: ds) | _, _ => none) = _
  unfold lcons
  cases lookV e v <;> cases looksV e vs <;> rfl
theorem u_lc : lcons (some d) (some ds) = some (d :: ds) := rfl
theorem u_2 (g : PD → PD → Option Out) : p2 g pa pb env = (pa env).bind fun a e1 => (pb e1).bind fun b e2 => fin2 g (lookV e2 a) (lookV e2 b) e2 := by
  unfold p2 fin2
  congr 1; funext a e1; congr 1; funext b e2
  cases lookV e2 a <;> cases lookV e2 b <;> rfl
theorem u_f2 (g : PD → PD → Option Out) : fin2 g (some x) (some y) e = pfin (g x y) e := rfl
theorem u_1 (g : PD → Option Out) : p1 g pa env = (pa env).bind fun a e1 => fin1 g (lookV e1 a) e1 := by
  unfold p1 fin1
  congr 1; funext a e1
  cases lookV e1 a <;> rfl
theorem u_f1 (g : PD → Option Out) : fin1 g (some x) e = pfin (g x) e := rfl
theorem u_N : pN env = .ok [] env := rfl
theorem u_Cons : pCons pa ps env = (pa env).bind fun a e1 => (ps e1).bind fun as e2 => .ok (a :: as) e2 := rfl
theorem u_Call (g : List PD → Option Out) : pCall g ps env = (ps env).bind fun as e1 => finC g (looksV e1 as) e1 := by
  unfold pCall finC
  congr 1; funext a e1
  cases looksV e1 a <;> rfl
theorem u_fC (g : List PD → Option Out) : finC g (some ds) e = pfin (g ds) e := rfl
theorem u_pfv : pfin (some (.val d)) e = .ok (.d d) e := rfl
theorem u_pfn : pfin (some (.nls ds)) e = .ok (.t ds) e := rfl
theorem u_pfi (o o' : Option Out) : pfin (if c then o else o') e = if c then pfin o e else pfin o' e := by split <;> rfl
/-! let go -/
def frzK : Option (Option Cell) → Nat → DL.Env → Pr PD
  | some (some (.d x)), _, e => .ok x e
  | some (some (.l true ds)), i, e => .ok (.list ds) (e.set i (some (.d (.list ds))))
  | _, _, _ => .no
theorem u_zd : pfrz (.d x) e = .ok x e := rfl
theorem u_zt : pfrz (.t ds) e = .ok (.list ds) e := rfl
theorem u_zv : pfrz (.v i) e = frzK e[i]? i e := by
  show (match e[i]? with | some (some (.d x)) => Pr.ok x e | some (some (.l true ds)) => .ok (.list ds) (e.set i (some (.d (.list ds)))) | _ => .no) = _
  unfold frzK
  match e[i]? with
  | some (some (.d x)) => rfl
  | some (some (.l true _)) => rfl
  | some (some (.l false _)) => rfl
  | some none => rfl
  | none => rfl
theorem u_zkd : frzK (some (some (.d x))) i e = .ok x e := rfl
theorem u_zkl : frzK (some (some (.l true ds))) i e = .ok (.list ds) (e.set i (some (.d (.list ds)))) := rfl
theorem u_zs0 : pfrzs [] e = .ok [] e := rfl
theorem u_zs1 : pfrzs (v :: vs) e = (pfrz v e).bind fun d e1 => (pfrzs vs e1).bind fun ds e2 => .ok (d :: ds) e2 := rfl
theorem u_line (h : n ≤ 16777216) : line n = true := decide_eq_true h
theorem u_Tup : pTup ps env = (ps env).bind fun as e1 => (pfrzs as e1).bind fun ds e2 => if line ds.length = true then .ok (.d (.tuple ds)) e2 else .no := rfl
theorem u_Lst : pLst ps env = (ps env).bind fun as e1 => (pfrzs as e1).bind fun ds e2 => if line ds.length = true then .ok (.t ds) e2 else .no := rfl
theorem u_F : pF pa env = (pa env).bind fun a e1 => (pfrz a e1).bind fun d e2 => .ok (.d d) e2 := rfl
/-! tests -/
theorem u_bo : boolOf (some (.bool b)) = some b := rfl
theorem u_tOf : ptOf pa env = (pa env).bind fun r e1 => tofK (boolOf (lookV e1 r)) e1 := by
  unfold ptOf tofK
  congr 1; funext a e1
  cases boolOf (lookV e1 a) <;> rfl
theorem u_tk : tofK (some b) e = .ok b e := rfl
theorem u_tAnd : ptAnd pt pt' env = (pt env).bind fun c e1 => if c = true then pt' e1 else .ok false e1 := rfl
theorem u_tOr : ptOr pt pt' env = (pt env).bind fun c e1 => if c = true then .ok true e1 else pt' e1 := rfl
theorem u_tNot : ptNot pt env = (pt env).bind fun c e1 => .ok (!c) e1 := rfl
theorem u_If : pIf pt pa pb env = (pt env).bind fun c e1 => if c = true then pa e1 else pb e1 := rfl
theorem u_And : pAnd pa pb env = (pa env).bind fun r e1 => andK pb (boolOf (lookV e1 r)) e1 := by
  unfold pAnd andK
  congr 1; funext a e1
  match boolOf (lookV e1 a) with
  | some true => rfl
  | some false => rfl
  | none => rfl
theorem u_ak : andK pb (some b) e = if b = true then pb e else .ok (.d (.bool false)) e := rfl
theorem u_Or : pOr pa pb env = (pa env).bind fun r e1 => orK pb (boolOf (lookV e1 r)) e1 := by
  unfold pOr orK
  congr 1; funext a e1
  match boolOf (lookV e1 a) with
  | some true => rfl
  | some false => rfl
  | none => rfl
theorem u_ok : orK pb (some b) e = if b = true then .ok (.d (.bool true)) e else pb e := rfl
theorem u_Not : pNot pa env = (pa env).bind fun r e1 => notK (boolOf (lookV e1 r)) e1 := by
  unfold pNot notK
  congr 1; funext a e1
  match boolOf (lookV e1 a) with
  | some true => rfl
  | some false => rfl
  | none => rfl
theorem u_nk : notK (some b) e = .ok (.d (.bool (!b))) e := rfl
def chK2 (g' : PD → PD → Option Out) (pc : PEV) (vb : Val) (e2 : DL.Env) : Option Out → Pr Val
  | some (.val (.bool b)) => if b = true then (pc e2).bind fun c e3 => fin2 g' (lookV e3 vb) (lookV e3 c) e3 else .ok (.d (.bool false)) e2
  | _ => .no
def chK1 (g g' : PD → PD → Option Out) (pc : PEV) (vb : Val) (e2 : DL.Env) : Option PD → Option PD → Pr Val
  | some x, some y => chK2 g' pc vb e2 (g x y)
  | _, _ => .no
theorem u_Chain (g g' : PD → PD → Option Out) : pChain g g' pa pb pc env = (pa env).bind fun a e1 => (pb e1).bind fun b e2 => chK1 g g' pc b e2 (lookV e2 a) (lookV e2 b) := by
  unfold pChain chK1
  congr 1; funext a e1; congr 1; funext b e2
  cases lookV e2 a with
  | none => rfl
  | some x => cases lookV e2 b with
    | none => rfl
    | some y =>
      show _ = chK2 g' pc b e2 (g x y)
      unfold chK2
      dsimp only
      match g x y with
      | some (.val (.bool true)) =>
        show (pc e2).bind _ = (pc e2).bind _
        congr 1; funext c e3
        unfold fin2
        cases lookV e3 b <;> cases lookV e3 c <;> rfl
      | some (.val (.bool false)) => rfl
      | some (.val .none) => rfl
      | some (.val (.int _)) => rfl
      | some (.val (.str _)) => rfl
      | some (.val (.list _)) => rfl
      | some (.val (.tuple _)) => rfl
      | some (.val (.dict _)) => rfl
      | some (.nls _) => rfl
      | none => rfl
theorem u_c1 (g g' : PD → PD → Option Out) : chK1 g g' pc v e (some x) (some y) = chK2 g' pc v e (g x y) := rfl
theorem u_c2 (g' : PD → PD → Option Out) : chK2 g' pc v e (some (.val (.bool b))) = if b = true then (pc e).bind fun c e3 => fin2 g' (lookV e3 v) (lookV e3 c) e3 else .ok (.d (.bool false)) e := rfl
/-! slices, methods -/
theorem u_o0 : pO none env = .ok none env := rfl
def oK : Val → DL.Env → Pr (Option Int)
  | .d (.int i), e => .ok (some i) e
  | _, _ => .no
theorem u_o1 : pO (some pa) env = (pa env).bind fun r e1 => oK r e1 := by
  show (pa env).bind _ = _
  congr 1; funext r e1
  unfold oK
  match r with
  | .d (.int _) => rfl
  | .d .none => rfl
  | .d (.bool _) => rfl
  | .d (.str _) => rfl
  | .d (.list _) => rfl
  | .d (.tuple _) => rfl
  | .d (.dict _) => rfl
  | .t _ => rfl
  | .v _ => rfl
theorem u_oi (k : Int) : oK (.d (.int k)) e = .ok (some k) e := rfl
def finS (g : PD → Option Int → Option Int → Option Out) : Option PD → Option Int → Option Int → DL.Env → Pr Val
  | some x, l, u, e => pfin (g x l u) e
  | none, _, _, _ => .no
theorem u_Sl (g : PD → Option Int → Option Int → Option Out) (lo hi : Option PEV) : pSl g pa lo hi env = (pa env).bind fun a e1 => (pO lo e1).bind fun l e2 => (pO hi e2).bind fun u e3 => finS g (lookV e3 a) l u e3 := by
  unfold pSl finS
  congr 1; funext a e1; congr 1; funext l e2; congr 1; funext u e3
  cases lookV e3 a <;> rfl
theorem u_fS (g : PD → Option Int → Option Int → Option Out) (l u : Option Int) : finS g (some x) l u e = pfin (g x l u) e := rfl
def revK : Option PD → DL.Env → Pr Val
  | some (.list ds), e => .ok (.t ds.reverse) e
  | _, _ => .no
theorem u_RevL : pRevL pa env = (pa env).bind fun r e1 => revK (lookV e1 r) e1 := by
  unfold pRevL revK
  congr 1; funext a e1
  match lookV e1 a with
  | some (.list _) => rfl
  | some .none => rfl
  | some (.int _) => rfl
  | some (.bool _) => rfl
  | some (.str _) => rfl
  | some (.tuple _) => rfl
  | some (.dict _) => rfl
  | none => rfl
theorem u_rv : revK (some (.list ds)) e = .ok (.t ds.reverse) e := rfl
def mtK (t : Ty) (g : PD → List PD → Option Out) (o : Val) (ps : PAV) : Option PD → DL.Env → Pr Val
  | some x0, e1 => if tyOf x0 = t then (ps e1).bind fun as e2 => finM g (lookV e2 o) (looksV e2 as) e2 else .no
  | none, _ => .no
theorem u_MtT (t : Ty) (g : PD → List PD → Option Out) : pMtT t g po ps env = (po env).bind fun o e1 => mtK t g o ps (lookV e1 o) e1 := by
  unfold pMtT mtK
  congr 1; funext o e1
  cases lookV e1 o with
  | none => rfl
  | some x =>
    show (if tyOf x = t then _ else _) = (if tyOf x = t then _ else _)
    congr 1
    congr 1; funext as e2
    unfold finM
    cases lookV e2 o <;> cases looksV e2 as <;> rfl
theorem u_mk (t : Ty) (g : PD → List PD → Option Out) (o : Val) : mtK t g o ps (some x) e = if tyOf x = t then (ps e).bind fun as e2 => finM g (lookV e2 o) (looksV e2 as) e2 else .no := rfl
theorem u_fM (g : PD → List PD → Option Out) : finM g (some x) (some ds) e = pfin (g x ds) e := rfl
def mt0K (t : Ty) (g : PD → List PD → Option Out) : Option PD → DL.Env → Pr Val
  | some x, e1 => if tyOf x = t then pfin (g x []) e1 else .no
  | none, _ => .no
theorem u_MtT0 (t : Ty) (g : PD → List PD → Option Out) : pMtT0 t g po env = (po env).bind fun o e1 => mt0K t g (lookV e1 o) e1 := by
  unfold pMtT0 mt0K
  congr 1; funext o e1
  cases lookV e1 o <;> rfl
theorem u_m0 (t : Ty) (g : PD → List PD → Option Out) : mt0K t g (some x) e = if tyOf x = t then pfin (g x []) e else .no := rfl
/-! changed lists -/
def mfK2 (i : Nat) (w : Bool) (e : DL.Env) : Option (PD × List PD) → Pr Val
  | some (d, ds') => .ok (.d d) (e.set i (some (.l w ds')))
  | none => .no
def mfK (g : List PD → List PD → Option (PD × List PD)) (i : Nat) (es : List PD) (e : DL.Env) : Option (Option Cell) → Pr Val
  | some (some (.l w ds)) => mfK2 i w e (g ds es)
  | _ => .no
theorem u_mf (g : List PD → List PD → Option (PD × List PD)) : pmutFin g i es e = mfK g i es e e[i]? := by
  unfold pmutFin mfK
  match e[i]? with
  | some (some (.d x)) => rfl
  | some (some (.l w ds)) =>
    show _ = mfK2 i w e (g ds es)
    unfold mfK2
    (dsimp only; first | done | (cases g ds es <;> rfl))
  | some none => rfl
  | none => rfl
theorem u_mfl (g : List PD → List PD → Option (PD × List PD)) : mfK g i es e (some (some (.l w ds))) = mfK2 i w e (g ds es) := rfl
theorem u_mf2 : mfK2 i w e (some (d, ds)) = .ok (.d d) (e.set i (some (.l w ds))) := rfl
theorem u_mfi (o o' : Option (PD × List PD)) : mfK2 i w e (if c then o else o') = if c then mfK2 i w e o else mfK2 i w e o' := by split <;> rfl
def mwK (g : List PD → List PD → Option (PD × List PD)) (i : Nat) (ps : PAV) (e : DL.Env) : Option (Option Cell) → Pr Val
  | some (some (.l _ _)) => (ps e).bind fun as e2 => (pfrzs as e2).bind fun es e3 => pmutFin g i es e3
  | _ => .no
theorem u_MutW (g : List PD → List PD → Option (PD × List PD)) : pMutW g i ps env = mwK g i ps env env[i]? := by
  unfold pMutW mwK
  match env[i]? with
  | some (some (.d x)) => rfl
  | some (some (.l w ds)) => rfl
  | some none => rfl
  | none => rfl
theorem u_mwl (g : List PD → List PD → Option (PD × List PD)) : mwK g i ps e (some (some (.l w ds))) = (ps e).bind fun as e2 => (pfrzs as e2).bind fun es e3 => pmutFin g i es e3 := rfl
theorem u_Mut0 (g : List PD → List PD → Option (PD × List PD)) : pMut0 g i env = pmutFin g i [] env := rfl
/-! walks -/
def itK : Option (List PD) → DL.Env → Pr (List PD)
  | some ds, e => .ok ds e
  | none, _ => .no
theorem u_E : pE pa env = (pa env).bind fun r e1 => (pfrz r e1).bind fun d e2 => itK (itemsOf d) e2 := by
  unfold pE itK
  congr 1; funext r e1; congr 1; funext d e2
  cases itemsOf d <;> rfl
theorem u_it : itK (some ds) e = .ok ds e := rfl
def r1K : Option (List Int) → DL.Env → Pr (List PD)
  | some [j], e => if small62 j = true then .ok (rangeL 0 j.toNat) e else .no
  | _, _ => .no
def r2K : Option (List Int) → DL.Env → Pr (List PD)
  | some [i, j], e => if (small62 i && small62 j) = true then .ok (rangeL i (j - i).toNat) e else .no
  | _, _ => .no
theorem u_R1 : pR1 ps env = (ps env).bind fun vs e1 => r1K (intsV vs) e1 := by
  unfold pR1 r1K
  congr 1; funext vs e1
  match intsV vs with
  | some [_] => rfl
  | some [] => rfl
  | some (_ :: _ :: _) => rfl
  | none => rfl
theorem u_R2 : pR2 ps env = (ps env).bind fun vs e1 => r2K (intsV vs) e1 := by
  unfold pR2 r2K
  congr 1; funext vs e1
  match intsV vs with
  | some [_, _] => rfl
  | some [_] => rfl
  | some [] => rfl
  | some (_ :: _ :: _ :: _) => rfl
  | none => rfl
theorem u_r1 (k : Int) : r1K (some [k]) e = if small62 k = true then .ok (rangeL 0 k.toNat) e else .no := rfl
theorem u_r2 (k l : Int) : r2K (some [k, l]) e = if (small62 k && small62 l) = true then .ok (rangeL k (l - k).toNat) e else .no := rfl
theorem u_iv0 : intsV [] = some [] := rfl
def icons (k : Int) : Option (List Int) → Option (List Int)
  | some l => some (k :: l)
  | none => none
theorem u_iv1 (k : Int) : intsV (.d (.int k) :: vs) = icons k (intsV vs) := by
  show (intsV vs).map _ = _
  cases intsV vs <;> rfl
theorem u_ic (k : Int) (l : List Int) : icons k (some l) = some (k :: l) := rfl
theorem u_small {k : Int} (h1 : -4611686018427387904 ≤ k) (h2 : k < 4611686018427387904) : small62 k = true := by
  unfold small62
  simp only [Bool.and_eq_true, decide_eq_true_eq]
  exact ⟨h1, h2⟩
def zipK : List PD → DL.Env → Pr (List PD)
  | [x, y], e => (match itemsOf x, itemsOf y with
    | some xs, some ys => .ok (zipD xs ys) e
    | _, _ => .no)
  | _, _ => .no
theorem u_Zip : pZip ps env = (ps env).bind fun vs e1 => (pfrzs vs e1).bind fun ds e2 => zipK ds e2 := by
  unfold pZip
  congr 1; funext vs e1; congr 1; funext ds e2
  unfold zipK
  match ds with
  | [_, _] => rfl
  | [] => rfl
  | [_] => rfl
  | _ :: _ :: _ :: _ => rfl
theorem u_zk {xs ys : List PD} (h1 : itemsOf x = some xs) (h2 : itemsOf y = some ys) : zipK [x, y] e = .ok (zipD xs ys) e := by
  show (match itemsOf x, itemsOf y with | some xs, some ys => Pr.ok (zipD xs ys) e | _, _ => .no) = _
  rw [h1, h2]
def enumK : List PD → DL.Env → Pr (List PD)
  | [x], e => itK ((itemsOf x).map (enumD 0)) e
  | _, _ => .no
theorem u_Enum : pEnum ps env = (ps env).bind fun vs e1 => (pfrzs vs e1).bind fun ds e2 => enumK ds e2 := by
  unfold pEnum
  congr 1; funext vs e1; congr 1; funext ds e2
  unfold enumK
  match ds with
  | [x] => dsimp only; cases itemsOf x <;> rfl
  | [] => rfl
  | _ :: _ :: _ => rfl
theorem u_ek {xs : List PD} (h1 : itemsOf x = some xs) : enumK [x] e = .ok (enumD 0 xs) e := by
  show itK ((itemsOf x).map (enumD 0)) e = _
  rw [h1]; rfl
/-! comprehensions, calls -/
theorem u_Comp (fi : PIV) (tg : PGV) (tt : PTV) (te : PEV) (L : List Nat) : pComp fi tg tt te L env = (fi env).bind fun items e1 => (pcompL tg tt te L items [] e1).bind fun ds e2 => .ok (.t ds) e2 := rfl
theorem u_Def (q : PFV) (bs : List Bool) : pDef q bs n ps env = (ps env).bind fun vs e1 => if vs.length = n then (pfrzM bs vs e1).bind fun as e2 => pcallFin q as e2 else .no := rfl
theorem u_zM0 (bs : List Bool) : pfrzM bs [] e = .ok [] e := by cases bs with | nil => rfl | cons b bs => cases b <;> rfl
theorem u_zMf (bs : List Bool) : pfrzM (false :: bs) (v :: vs) e = (pfrz v e).bind fun d e1 => (pfrzM bs vs e1).bind fun as e2 => .ok (.d d :: as) e2 := rfl
theorem u_zMt (bs : List Bool) : pfrzM (true :: bs) (.v i :: vs) e = (pfrzM bs vs e).bind fun as e1 => .ok (.s i :: as) e1 := rfl
def cfK (q : PFV) (as : List PArg) (e : DL.Env) : Option (List Cell) → Pr Val
  | none => .no
  | some cs => if (pslots as).Nodup then pqFin (pslots as) e (q cs) else .no
theorem u_cf (q : PFV) (as : List PArg) : pcallFin q as e = cfK q as e (pcells e as) := by
  unfold pcallFin cfK
  cases pcells e as <;> rfl
theorem u_cfs (q : PFV) (as : List PArg) (cs : List Cell) : cfK q as e (some cs) = if (pslots as).Nodup then pqFin (pslots as) e (q cs) else .no := rfl
theorem u_pc0 : pcells e [] = some [] := rfl
def ccons (c : Cell) : Option (List Cell) → Option (List Cell)
  | some l => some (c :: l)
  | none => none
def pcK (e : DL.Env) (as : List PArg) : Option (Option Cell) → Option (List Cell)
  | some (some (.l w ds)) => ccons (.l w ds) (pcells e as)
  | _ => none
theorem u_pcd (as : List PArg) : pcells e (.d x :: as) = ccons (.d x) (pcells e as) := by
  show (pcells e as).map _ = _
  cases pcells e as <;> rfl
theorem u_pcs (as : List PArg) : pcells e (.s i :: as) = pcK e as e[i]? := by
  show (match e[i]? with | some (some (.l w ds)) => (pcells e as).map (Cell.l w ds :: ·) | _ => none) = _
  unfold pcK
  match e[i]? with
  | some (some (.l w ds)) => show (pcells e as).map _ = _; cases pcells e as <;> rfl
  | some (some (.d x)) => rfl
  | some none => rfl
  | none => rfl
theorem u_pck (as : List PArg) : pcK e as (some (some (.l w ds))) = ccons (.l w ds) (pcells e as) := rfl
theorem u_cc (k : Cell) (l : List Cell) : ccons k (some l) = some (k :: l) := rfl
theorem u_sl0 : pslots [] = [] := rfl
theorem u_sld (as : List PArg) : pslots (.d x :: as) = pslots as := rfl
theorem u_sls (as : List PArg) : pslots (.s i :: as) = i :: pslots as := rfl
theorem u_qd (is : List Nat) (ms : List (List PD)) : pqFin is e (.ok (.d x) ms) = .ok (.d x) (putBack is ms e) := rfl
theorem u_ql (is : List Nat) (ms : List (List PD)) : pqFin is e (.ok (.l w ds) ms) = .ok (.t ds) (putBack is ms e) := rfl
theorem u_qe (is : List Nat) (ms : List (List PD)) (z : Ex) : pqFin is e (.er z ms) = .er z (putBack is ms e) := rfl
theorem u_pb0 (ms : List (List PD)) : putBack [] ms e = e := by cases ms <;> rfl
def pbK (is : List Nat) (ds : List PD) (dss : List (List PD)) (e : DL.Env) (i : Nat) : Option (Option Cell) → DL.Env
  | some (some (.l w _)) => putBack is dss (e.set i (some (.l w ds)))
  | _ => putBack is dss e
theorem u_pb1 (is : List Nat) (dss : List (List PD)) : putBack (i :: is) (ds :: dss) e = pbK is ds dss e i e[i]? := by
  show (match e[i]? with | some (some (.l w _)) => putBack is dss (e.set i (some (.l w ds))) | _ => putBack is dss e) = _
  unfold pbK
  match e[i]? with
  | some (some (.l w ds)) => rfl
  | some (some (.d x)) => rfl
  | some none => rfl
  | none => rfl
theorem u_pbk (is : List Nat) (dss : List (List PD)) : pbK is ds dss e i (some (some (.l w es))) = putBack is dss (e.set i (some (.l w ds))) := rfl
def lamK (hv : Oc → Option PD) (es : Ex → Bool) : Pr PD → Pr Val
  | .ok d e1 => phv (hv (.ok d)) e1
  | .er e e1 => if es e = true then phv (hv (.er e)) e1 else .no
  | .no => .no
theorem u_Lam (hv : Oc → Option PD) (f : Ex → Bool) : pLam hv f pa env = lamK hv f ((pa env).bind fun v e => pfrz v e) := by
  unfold pLam lamK
  show _ = (match (pa env).bind pfrz with | .ok d e1 => _ | .er e e1 => _ | .no => _)
  cases (pa env).bind pfrz <;> rfl
theorem u_lo (hv : Oc → Option PD) (f : Ex → Bool) : lamK hv f (.ok d e) = phv (hv (.ok d)) e := rfl
theorem u_le (hv : Oc → Option PD) (f : Ex → Bool) (z : Ex) : lamK hv f (.er z e) = if f z = true then phv (hv (.er z)) e else .no := rfl
theorem u_hv : phv (some x) e = .ok (.d x) e := rfl
/-! statements -/
theorem u_Seq : psSeq pf pg env = pseqK (pf env) pg := rfl
theorem u_Next : psNext env = .nx env := rfl
theorem u_Drop : psDrop pa env = (pa env).st fun _ e => .nx e := rfl
theorem u_Set : psSet i pa env = (pa env).st fun v e => pset i v e := rfl
theorem u_sd : pset i (.d x) e = .nx (e.set i (some (.d x))) := rfl
theorem u_st : pset i (.t ds) e = .nx (e.set i (some (.l true ds))) := rfl
def psK (i j : Nat) (e : DL.Env) : Option (Option Cell) → Ps
  | some (some (.d x)) => .nx (e.set i (some (.d x)))
  | some (some (.l true ds)) => .nx ((e.set j (some (.d (.list ds)))).set i (some (.d (.list ds))))
  | _ => .no
theorem u_sv : pset i (.v j) e = psK i j e e[j]? := by
  unfold pset takeC psK
  match h : e[j]? with
  | some (some (.d x)) => simp only [h]
  | some (some (.l true ds)) => simp only [h]
  | some (some (.l false ds)) => simp only [h]
  | some none => simp only [h]
  | none => simp only [h]
theorem u_skd : psK i j e (some (some (.d x))) = .nx (e.set i (some (.d x))) := rfl
theorem u_skl : psK i j e (some (some (.l true ds))) = .nx ((e.set j (some (.d (.list ds)))).set i (some (.d (.list ds)))) := rfl
def rtK (e : DL.Env) : Option Cell → Ps
  | some c => .rt c e
  | none => .no
theorem u_Ret : psRet pa env = (pa env).st fun v e => rtK e (retC v e) := by
  unfold psRet rtK
  congr 1
theorem u_rtk (k : Cell) : rtK e (some k) = .rt k e := rfl
theorem u_rcd : retC (.d x) e = some (.d x) := rfl
theorem u_rct : retC (.t ds) e = some (.l true ds) := rfl
def rcK : Option (Option Cell) → Option Cell
  | some (some (.d x)) => some (.d x)
  | some (some (.l true ds)) => some (.l true ds)
  | _ => none
theorem u_rcv : retC (.v i) e = rcK e[i]? := by
  show (match e[i]? with | some (some (.d x)) => some (Cell.d x) | some (some (.l true ds)) => some (.l true ds) | _ => none) = _
  unfold rcK
  match e[i]? with
  | some (some (.d x)) => rfl
  | some (some (.l true _)) => rfl
  | some (some (.l false _)) => rfl
  | some none => rfl
  | none => rfl
theorem u_rkd : rcK (some (some (.d x))) = some (.d x) := rfl
theorem u_rkl : rcK (some (some (.l true ds))) = some (.l true ds) := rfl
theorem u_RetN : psRetN env = .rt (.d .none) env := rfl
theorem u_SIf : psIf pt pf pg env = (pt env).st fun b e => if b = true then pf e else pg e := rfl
theorem u_Brk : psBrk env = .bk env := rfl
theorem u_Cnt : psCnt env = .ct env := rfl
theorem u_Raise (x : Str) : psRaise x env = .er ⟨x, []⟩ env := rfl
def parK2 (i j : Nat) (ca : Cell) : Option (Cell × DL.Env) → Ps
  | some (cb, e2) => .nx ((e2.set i (some ca)).set j (some cb))
  | none => .no
def parK1 (i j : Nat) (vb : Val) : Option (Cell × DL.Env) → Ps
  | some (ca, e1) => parK2 i j ca (takeC vb e1)
  | none => .no
def parK (i j : Nat) (e : DL.Env) : List Val → Ps
  | [a, b] => parK1 i j b (takeC a e)
  | _ => .no
theorem u_Par : psPar i j ps env = (ps env).st fun vs e => parK i j e vs := by
  unfold psPar
  congr 1
theorem u_pk (a b : Val) : parK i j e [a, b] = parK1 i j b (takeC a e) := rfl
theorem u_pk1 (k : Cell) (e1 : DL.Env) : parK1 i j v (some (k, e1)) = parK2 i j k (takeC v e1) := rfl
theorem u_pk2 (k l : Cell) : parK2 i j k (some (l, e)) = .nx ((e.set i (some k)).set j (some l)) := rfl
theorem u_td : takeC (.d x) e = some (.d x, e) := rfl
theorem u_tt : takeC (.t ds) e = some (.l true ds, e) := rfl
def tvK (i : Nat) (e : DL.Env) : Option (Option Cell) → Option (Cell × DL.Env)
  | some (some (.d x)) => some (.d x, e)
  | some (some (.l true ds)) => some (.d (.list ds), e.set i (some (.d (.list ds))))
  | _ => none
theorem u_tv : takeC (.v i) e = tvK i e e[i]? := by
  show (match e[i]? with | some (some (.d x)) => some (Cell.d x, e) | some (some (.l true ds)) => some (.d (.list ds), e.set i (some (.d (.list ds)))) | _ => none) = _
  unfold tvK
  match e[i]? with
  | some (some (.d x)) => rfl
  | some (some (.l true _)) => rfl
  | some (some (.l false _)) => rfl
  | some none => rfl
  | none => rfl
theorem u_tkd : tvK i e (some (some (.d x))) = some (.d x, e) := rfl
theorem u_tkl : tvK i e (some (some (.l true ds))) = some (.d (.list ds), e.set i (some (.d (.list ds)))) := rfl
def augK2 (i : Nat) (g : PD → PD → Option Out) (e : DL.Env) : Option PD → Option PD → Ps
  | some x, some y => (pfin (g x y) e).st fun z e2 => pset i z e2
  | _, _ => .no
def augK (i : Nat) (g : PD → PD → Option Out) (p : PEV) (e : DL.Env) : Option (Option Cell) → Ps
  | some (some _) => (p e).st fun b e1 => augK2 i g e1 (lookV e1 (.v i)) (lookV e1 b)
  | _ => .no
theorem u_Aug (g : PD → PD → Option Out) : psAug i g pa env = augK i g pa env env[i]? := by
  unfold psAug augK
  match env[i]? with
  | some (some _) =>
    show (pa env).st _ = (pa env).st _
    congr 1
  | some none => rfl
  | none => rfl
theorem u_ag (g : PD → PD → Option Out) (k : Cell) : augK i g pa e (some (some k)) = (pa e).st fun b e1 => augK2 i g e1 (lookV e1 (.v i)) (lookV e1 b) := rfl
theorem u_ag2 (g : PD → PD → Option Out) : augK2 i g e (some x) (some y) = (pfin (g x y) e).st fun z e2 => pset i z e2 := rfl
def asgK (tg : PGV) (e : DL.Env) : Val → Ps
  | .d (.tuple ds) => (match tg (.tuple ds) e with
    | some e1 => .nx e1
    | none => .no)
  | _ => .no
def nxK : Option DL.Env → Ps
  | some e => .nx e
  | none => .no
theorem u_Asg (tg : PGV) : psAsg pa tg env = (pa env).st fun v e => asgK tg e v := by
  unfold psAsg
  congr 1
theorem u_as (tg : PGV) : asgK tg e (.d (.tuple ds)) = nxK (tg (.tuple ds) e) := by
  show (match tg (.tuple ds) e with | some e1 => Ps.nx e1 | none => .no) = _
  cases tg (.tuple ds) e <;> rfl
theorem u_nxk : nxK (some e) = .nx e := rfl
theorem u_gN : pgN i d env = some (env.set i (some (.d d))) := rfl
def gtK (ts : List PD → DL.Env → Option DL.Env) (n : Nat) (e : DL.Env) : PD → Option DL.Env
  | .tuple ds => if ds.length = n then ts ds e else none
  | _ => none
theorem u_gT (ts : List PD → DL.Env → Option DL.Env) : pgT n ts (.tuple ds) env = if ds.length = n then ts ds env else none := rfl
theorem u_g0 : pgN0 [] env = some env := rfl
theorem u_gC (t : PGV) (ts : List PD → DL.Env → Option DL.Env) : pgCn t ts (d :: ds) env = (t d env).bind (ts ds) := rfl
def stK3 (i : Nat) (w : Bool) (ds : List PD) (d : PD) (e : DL.Env) : Option Nat → Ps
  | some j => .nx (e.set i (some (.l w (ds.set j d))))
  | none => .no
def stK2 (i : Nat) (q : Int) (d : PD) (e3 : DL.Env) : Option (Option Cell) → Ps
  | some (some (.l w ds)) => stK3 i w ds d e3 (ixN ds.length q)
  | _ => .no
def stK1 (i : Nat) (v : Val) (e2 : DL.Env) : Val → Ps
  | .d (.int q) => (pfrz v e2).st fun d e3 => stK2 i q d e3 e3[i]?
  | _ => .no
def stK0 (i : Nat) (pi : PEV) (v : Val) (e1 : DL.Env) : Option (Option Cell) → Ps
  | some (some (.l _ _)) => (pi e1).st fun iv e2 => stK1 i v e2 iv
  | _ => .no
theorem u_Store (pi pe : PEV) : psStore i pi pe env = (pe env).st fun v e1 => stK0 i pi v e1 e1[i]? := by
  unfold psStore
  congr 1
theorem u_s0 (pi : PEV) : stK0 i pi v e (some (some (.l w ds))) = (pi e).st fun iv e2 => stK1 i v e2 iv := rfl
theorem u_s1 (q : Int) : stK1 i v e (.d (.int q)) = (pfrz v e).st fun d e3 => stK2 i q d e3 e3[i]? := rfl
theorem u_s2 (q : Int) : stK2 i q d e (some (some (.l w ds))) = stK3 i w ds d e (ixN ds.length q) := rfl
theorem u_s3 : stK3 i w ds d e (some j) = .nx (e.set i (some (.l w (ds.set j d)))) := rfl
theorem u_For (fi : PIV) (tg : PGV) : psFor fi tg pf env = (fi env).st fun items e => pforL tg pf items e := rfl
/-! defs -/
theorem u_run (cs : List Cell) : prun n pf cs = pend (lentIx 0 cs) (pf (ppad n cs)) := rfl
theorem u_endn (L : List Nat) : pend L (.nx e) = pms (.ok (.d .none)) (lentDs e L) := rfl
theorem u_endr (L : List Nat) (k : Cell) : pend L (.rt k e) = pms (.ok k) (lentDs e L) := rfl
theorem u_ende (L : List Nat) (z : Ex) : pend L (.er z e) = pms (.er z) (lentDs e L) := rfl
theorem u_endi (L : List Nat) (s s' : Ps) : pend L (if c then s else s') = if c then pend L s else pend L s' := by split <;> rfl
theorem u_pms (k : List (List PD) → Pq) (ms : List (List PD)) : pms k (some ms) = k ms := rfl
theorem u_ld0 : lentDs e [] = some [] := rfl
def dcons (ds : List PD) : Option (List (List PD)) → Option (List (List PD))
  | some l => some (ds :: l)
  | none => none
def ldK (e : DL.Env) (is : List Nat) : Option (Option Cell) → Option (List (List PD))
  | some (some (.l false ds)) => dcons ds (lentDs e is)
  | _ => none
theorem u_ld1 (is : List Nat) : lentDs e (i :: is) = ldK e is e[i]? := by
  show (match e[i]? with | some (some (.l false ds)) => (lentDs e is).map (ds :: ·) | _ => none) = _
  unfold ldK
  match e[i]? with
  | some (some (.l false ds)) => show (lentDs e is).map _ = _; cases lentDs e is <;> rfl
  | some (some (.l true ds)) => rfl
  | some (some (.d x)) => rfl
  | some none => rfl
  | none => rfl
theorem u_ldk (is : List Nat) : ldK e is (some (some (.l false ds))) = dcons ds (lentDs e is) := rfl
theorem u_dc (l : List (List PD)) : dcons ds (some l) = some (ds :: l) := rfl
theorem u_ix0 : lentIx i [] = [] := rfl
theorem u_ixd (cs : List Cell) : lentIx i (.d x :: cs) = lentIx (i + 1) cs := rfl
theorem u_ixl (cs : List Cell) : lentIx i (.l w ds :: cs) = i :: lentIx (i + 1) cs := rfl
theorem u_pad (cs : List Cell) : ppad n cs = (cs.map fun c => some (lentC c)) ++ List.replicate (n - cs.length) none := rfl
theorem u_lCd : lentC (.d x) = .d x := rfl
theorem u_lCl : lentC (.l w ds) = .l false ds := rfl
end
end DL
/-! The same reckoning, with each going-on by a name: simp finds no binder to go under. -/
namespace DL
open PySem PySem.Spec PyProof.Rows L2
section
variable {β γ : Type} (e env : DL.Env) (i j n : Nat) (w b c : Bool) (d x y z : PD) (ds es : List PD) (pa pb pc po : PEV) (ps : PAV) (pt pt' : PTV) (pf pg ph : PSV) (vs : List Val) (v a : Val) (t : Ty)
  (g g' : PD → PD → Option Out) (g1 : PD → Option Out) (gC : List PD → Option Out) (gM : PD → List PD → Option Out) (gU : List PD → List PD → Option (PD × List PD)) (gS : PD → Option Int → Option Int → Option Out)
def j2b : Val → DL.Env → Pr Val := fun b e2 => fin2 g (lookV e2 a) (lookV e2 b) e2
def j2a : Val → DL.Env → Pr Val := fun a e1 => (pb e1).bind (j2b a g)
theorem v_2 : p2 g pa pb env = (pa env).bind (j2a pb g) := u_2 ..
theorem v_2a : j2a pb g a e = (pb e).bind (j2b a g) := rfl
theorem v_2b : j2b a g v e = fin2 g (lookV e a) (lookV e v) e := rfl
def j1 : Val → DL.Env → Pr Val := fun a e1 => fin1 g1 (lookV e1 a) e1
theorem v_1 : p1 g1 pa env = (pa env).bind (j1 g1) := u_1 ..
theorem v_1a : j1 g1 a e = fin1 g1 (lookV e a) e := rfl
def jCb : List Val → DL.Env → Pr (List Val) := fun as e2 => .ok (a :: as) e2
def jCa : Val → DL.Env → Pr (List Val) := fun a e1 => (ps e1).bind (jCb a)
theorem v_Cons : pCons pa ps env = (pa env).bind (jCa ps) := rfl
theorem v_Ca : jCa ps a e = (ps e).bind (jCb a) := rfl
theorem v_Cb : jCb a vs e = .ok (a :: vs) e := rfl
def jCl : List Val → DL.Env → Pr Val := fun as e1 => finC gC (looksV e1 as) e1
theorem v_Call : pCall gC ps env = (ps env).bind (jCl gC) := u_Call ..
theorem v_Cl : jCl gC vs e = finC gC (looksV e vs) e := rfl
def jzb : List PD → DL.Env → Pr (List PD) := fun ds e2 => .ok (d :: ds) e2
def jza : PD → DL.Env → Pr (List PD) := fun d e1 => (pfrzs vs e1).bind (jzb d)
theorem v_zs1 : pfrzs (v :: vs) e = (pfrz v e).bind (jza vs) := rfl
theorem v_za : jza vs d e = (pfrzs vs e).bind (jzb d) := rfl
theorem v_zb : jzb d ds e = .ok (d :: ds) e := rfl
def jTb : List PD → DL.Env → Pr Val := fun ds e2 => if line ds.length = true then .ok (.d (.tuple ds)) e2 else .no
def jTa : List Val → DL.Env → Pr Val := fun as e1 => (pfrzs as e1).bind jTb
theorem v_Tup : pTup ps env = (ps env).bind jTa := rfl
theorem v_Ta : jTa vs e = (pfrzs vs e).bind jTb := rfl
theorem v_Tb : jTb ds e = if line ds.length = true then .ok (.d (.tuple ds)) e else .no := rfl
def jLb : List PD → DL.Env → Pr Val := fun ds e2 => if line ds.length = true then .ok (.t ds) e2 else .no
def jLa : List Val → DL.Env → Pr Val := fun as e1 => (pfrzs as e1).bind jLb
theorem v_Lst : pLst ps env = (ps env).bind jLa := rfl
theorem v_La : jLa vs e = (pfrzs vs e).bind jLb := rfl
theorem v_Lb : jLb ds e = if line ds.length = true then .ok (.t ds) e else .no := rfl
def jFb : PD → DL.Env → Pr Val := fun d e2 => .ok (.d d) e2
def jFa : Val → DL.Env → Pr Val := fun a e1 => (pfrz a e1).bind jFb
theorem v_F : pF pa env = (pa env).bind jFa := rfl
theorem v_Fa : jFa a e = (pfrz a e).bind jFb := rfl
theorem v_Fb : jFb d e = .ok (.d d) e := rfl
def jtO : Val → DL.Env → Pr Bool := fun r e1 => tofK (boolOf (lookV e1 r)) e1
theorem v_tOf : ptOf pa env = (pa env).bind jtO := u_tOf ..
theorem v_tO : jtO a e = tofK (boolOf (lookV e a)) e := rfl
def jtA : Bool → DL.Env → Pr Bool := fun c e1 => if c = true then pt' e1 else .ok false e1
theorem v_tAnd : ptAnd pt pt' env = (pt env).bind (jtA pt') := rfl
theorem v_tA : jtA pt' c e = if c = true then pt' e else .ok false e := rfl
def jtR : Bool → DL.Env → Pr Bool := fun c e1 => if c = true then .ok true e1 else pt' e1
theorem v_tOr : ptOr pt pt' env = (pt env).bind (jtR pt') := rfl
theorem v_tR : jtR pt' c e = if c = true then .ok true e else pt' e := rfl
def jtN : Bool → DL.Env → Pr Bool := fun c e1 => .ok (!c) e1
theorem v_tNot : ptNot pt env = (pt env).bind jtN := rfl
theorem v_tN : jtN c e = .ok (!c) e := rfl
def jIf : Bool → DL.Env → Pr Val := fun c e1 => if c = true then pa e1 else pb e1
theorem v_If : pIf pt pa pb env = (pt env).bind (jIf pa pb) := rfl
theorem v_I : jIf pa pb c e = if c = true then pa e else pb e := rfl
def jAn : Val → DL.Env → Pr Val := fun r e1 => andK pb (boolOf (lookV e1 r)) e1
theorem v_And : pAnd pa pb env = (pa env).bind (jAn pb) := u_And ..
theorem v_An : jAn pb a e = andK pb (boolOf (lookV e a)) e := rfl
def jOr : Val → DL.Env → Pr Val := fun r e1 => orK pb (boolOf (lookV e1 r)) e1
theorem v_Or : pOr pa pb env = (pa env).bind (jOr pb) := u_Or ..
theorem v_Orb : jOr pb a e = orK pb (boolOf (lookV e a)) e := rfl
def jNt : Val → DL.Env → Pr Val := fun r e1 => notK (boolOf (lookV e1 r)) e1
theorem v_Not : pNot pa env = (pa env).bind jNt := u_Not ..
theorem v_Nt : jNt a e = notK (boolOf (lookV e a)) e := rfl
def jCh3 : Val → DL.Env → Pr Val := fun c e3 => fin2 g' (lookV e3 v) (lookV e3 c) e3
def jCh2 : Val → DL.Env → Pr Val := fun b e2 => chK1 g g' pc b e2 (lookV e2 a) (lookV e2 b)
def jCh1 : Val → DL.Env → Pr Val := fun a e1 => (pb e1).bind (jCh2 pc a g g')
theorem v_Chain : pChain g g' pa pb pc env = (pa env).bind (jCh1 pb pc g g') := u_Chain ..
theorem v_Ch1 : jCh1 pb pc g g' a e = (pb e).bind (jCh2 pc a g g') := rfl
theorem v_Ch2 : jCh2 pc a g g' v e = chK1 g g' pc v e (lookV e a) (lookV e v) := rfl
theorem v_c2 : chK2 g' pc v e (some (.val (.bool b))) = if b = true then (pc e).bind (jCh3 v g') else .ok (.d (.bool false)) e := rfl
theorem v_Ch3 : jCh3 v g' a e = fin2 g' (lookV e v) (lookV e a) e := rfl
theorem v_o1 : pO (some pa) env = (pa env).bind oK := u_o1 ..
def jS3 (l : Option Int) : Option Int → DL.Env → Pr Val := fun u e3 => finS gS (lookV e3 a) l u e3
def jS2 (hi : Option PEV) : Option Int → DL.Env → Pr Val := fun l e2 => (pO hi e2).bind (jS3 a gS l)
def jS1 (lo hi : Option PEV) : Val → DL.Env → Pr Val := fun a e1 => (pO lo e1).bind (jS2 a gS hi)
theorem v_Sl (lo hi : Option PEV) : pSl gS pa lo hi env = (pa env).bind (jS1 gS lo hi) := u_Sl ..
theorem v_S1 (lo hi : Option PEV) : jS1 gS lo hi a e = (pO lo e).bind (jS2 a gS hi) := rfl
theorem v_S2 (hi : Option PEV) (l : Option Int) : jS2 a gS hi l e = (pO hi e).bind (jS3 a gS l) := rfl
theorem v_S3 (l u : Option Int) : jS3 a gS l u e = finS gS (lookV e a) l u e := rfl
def jRv : Val → DL.Env → Pr Val := fun r e1 => revK (lookV e1 r) e1
theorem v_RevL : pRevL pa env = (pa env).bind jRv := u_RevL ..
theorem v_Rv : jRv a e = revK (lookV e a) e := rfl
def jM2 : List Val → DL.Env → Pr Val := fun as e2 => finM gM (lookV e2 a) (looksV e2 as) e2
def jM1 : Val → DL.Env → Pr Val := fun o e1 => mtK t gM o ps (lookV e1 o) e1
theorem v_MtT : pMtT t gM po ps env = (po env).bind (jM1 ps t gM) := u_MtT ..
theorem v_M1 : jM1 ps t gM a e = mtK t gM a ps (lookV e a) e := rfl
theorem v_mk : mtK t gM a ps (some x) e = if tyOf x = t then (ps e).bind (jM2 a gM) else .no := rfl
theorem v_M2 : jM2 a gM vs e = finM gM (lookV e a) (looksV e vs) e := rfl
def jM0 : Val → DL.Env → Pr Val := fun o e1 => mt0K t gM (lookV e1 o) e1
theorem v_MtT0 : pMtT0 t gM po env = (po env).bind (jM0 t gM) := u_MtT0 ..
theorem v_M0 : jM0 t gM a e = mt0K t gM (lookV e a) e := rfl
def jMu : List PD → DL.Env → Pr Val := fun es e3 => pmutFin gU i es e3
def jMv : List Val → DL.Env → Pr Val := fun as e2 => (pfrzs as e2).bind (jMu i gU)
theorem v_mwl : mwK gU i ps e (some (some (.l w ds))) = (ps e).bind (jMv i gU) := rfl
theorem v_Mv : jMv i gU vs e = (pfrzs vs e).bind (jMu i gU) := rfl
theorem v_Mu : jMu i gU es e = pmutFin gU i es e := rfl
def jEb : PD → DL.Env → Pr (List PD) := fun d e2 => itK (itemsOf d) e2
def jEa : Val → DL.Env → Pr (List PD) := fun a e1 => (pfrz a e1).bind jEb
theorem v_E : pE pa env = (pa env).bind jEa := u_E ..
theorem v_Ea : jEa a e = (pfrz a e).bind jEb := rfl
theorem v_Eb : jEb d e = itK (itemsOf d) e := rfl
def jR1 : List Val → DL.Env → Pr (List PD) := fun vs e1 => r1K (intsV vs) e1
theorem v_R1 : pR1 ps env = (ps env).bind jR1 := u_R1 ..
theorem v_R1a : jR1 vs e = r1K (intsV vs) e := rfl
def jR2 : List Val → DL.Env → Pr (List PD) := fun vs e1 => r2K (intsV vs) e1
theorem v_R2 : pR2 ps env = (ps env).bind jR2 := u_R2 ..
theorem v_R2a : jR2 vs e = r2K (intsV vs) e := rfl
def jZ : List Val → DL.Env → Pr (List PD) := fun vs e1 => (pfrzs vs e1).bind zipK
theorem v_Zip : pZip ps env = (ps env).bind jZ := u_Zip ..
theorem v_Z : jZ vs e = (pfrzs vs e).bind zipK := rfl
def jEn : List Val → DL.Env → Pr (List PD) := fun vs e1 => (pfrzs vs e1).bind enumK
theorem v_Enum : pEnum ps env = (ps env).bind jEn := u_Enum ..
theorem v_En : jEn vs e = (pfrzs vs e).bind enumK := rfl
def jCo2 : List PD → DL.Env → Pr Val := fun ds e2 => .ok (.t ds) e2
def jCo (tg : PGV) (te : PEV) (L : List Nat) : List PD → DL.Env → Pr Val := fun items e1 => (pcompL tg pt te L items [] e1).bind jCo2
theorem v_Comp (fi : PIV) (tg : PGV) (te : PEV) (L : List Nat) : pComp fi tg pt te L env = (fi env).bind (jCo pt tg te L) := rfl
theorem v_Co (tg : PGV) (te : PEV) (L : List Nat) : jCo pt tg te L ds e = (pcompL tg pt te L ds [] e).bind jCo2 := rfl
theorem v_Co2 : jCo2 ds e = .ok (.t ds) e := rfl
def jD2 (q : PFV) : List PArg → DL.Env → Pr Val := fun as e2 => pcallFin q as e2
def jD1 (q : PFV) (bs : List Bool) : List Val → DL.Env → Pr Val := fun vs e1 => if vs.length = n then (pfrzM bs vs e1).bind (jD2 q) else .no
theorem v_Def (q : PFV) (bs : List Bool) : pDef q bs n ps env = (ps env).bind (jD1 n q bs) := rfl
theorem v_D1 (q : PFV) (bs : List Bool) : jD1 n q bs vs e = if vs.length = n then (pfrzM bs vs e).bind (jD2 q) else .no := rfl
theorem v_D2 (q : PFV) (as : List PArg) : jD2 q as e = pcallFin q as e := rfl
def jf2 : List PArg → DL.Env → Pr (List PArg) := fun as e2 => .ok (.d d :: as) e2
def jf1 (bs : List Bool) : PD → DL.Env → Pr (List PArg) := fun d e1 => (pfrzM bs vs e1).bind (jf2 d)
theorem v_zMf (bs : List Bool) : pfrzM (false :: bs) (v :: vs) e = (pfrz v e).bind (jf1 vs bs) := rfl
theorem v_f1 (bs : List Bool) : jf1 vs bs d e = (pfrzM bs vs e).bind (jf2 d) := rfl
theorem v_f2 (as : List PArg) : jf2 d as e = .ok (.d d :: as) e := rfl
def jt1 : List PArg → DL.Env → Pr (List PArg) := fun as e1 => .ok (.s i :: as) e1
theorem v_zMt (bs : List Bool) : pfrzM (true :: bs) (.v i :: vs) e = (pfrzM bs vs e).bind (jt1 i) := rfl
theorem v_t1 (as : List PArg) : jt1 i as e = .ok (.s i :: as) e := rfl
theorem v_Lam (hv : Oc → Option PD) (f : Ex → Bool) : pLam hv f pa env = lamK hv f ((pa env).bind pfrz) := u_Lam ..
/-! statements -/
def jDr : Val → DL.Env → Ps := fun _ e => .nx e
theorem v_Drop : psDrop pa env = (pa env).st jDr := rfl
theorem v_Dr : jDr v e = .nx e := rfl
theorem v_Set : psSet i pa env = (pa env).st (pset i) := rfl
def jRt : Val → DL.Env → Ps := fun v e => rtK e (retC v e)
theorem v_Ret : psRet pa env = (pa env).st jRt := u_Ret ..
theorem v_Rt : jRt v e = rtK e (retC v e) := rfl
def jSI : Bool → DL.Env → Ps := fun b e => if b = true then pf e else pg e
theorem v_SIf : psIf pt pf pg env = (pt env).st (jSI pf pg) := rfl
theorem v_SI : jSI pf pg b e = if b = true then pf e else pg e := rfl
def jPa : List Val → DL.Env → Ps := fun vs e => parK i j e vs
theorem v_Par : psPar i j ps env = (ps env).st (jPa i j) := u_Par ..
theorem v_Pa : jPa i j vs e = parK i j e vs := rfl
def jAg : Val → DL.Env → Ps := fun b e1 => augK2 i g e1 (lookV e1 (.v i)) (lookV e1 b)
theorem v_ag (k : Cell) : augK i g pa e (some (some k)) = (pa e).st (jAg i g) := rfl
theorem v_agb : jAg i g v e = augK2 i g e (lookV e (.v i)) (lookV e v) := rfl
theorem v_ag2 : augK2 i g e (some x) (some y) = (pfin (g x y) e).st (pset i) := rfl
def jAs (tg : PGV) : Val → DL.Env → Ps := fun v e => asgK tg e v
theorem v_Asg (tg : PGV) : psAsg pa tg env = (pa env).st (jAs tg) := u_Asg ..
theorem v_As (tg : PGV) : jAs tg v e = asgK tg e v := rfl
def jSt3 (q : Int) : PD → DL.Env → Ps := fun d e3 => stK2 i q d e3 e3[i]?
def jSt2 : Val → DL.Env → Ps := fun iv e2 => stK1 i v e2 iv
def jSt1 (pi : PEV) : Val → DL.Env → Ps := fun v e1 => stK0 i pi v e1 e1[i]?
theorem v_Store (pi pe : PEV) : psStore i pi pe env = (pe env).st (jSt1 i pi) := u_Store ..
theorem v_St1 (pi : PEV) : jSt1 i pi v e = stK0 i pi v e e[i]? := rfl
theorem v_s0 (pi : PEV) : stK0 i pi v e (some (some (.l w ds))) = (pi e).st (jSt2 i v) := rfl
theorem v_St2 : jSt2 i v a e = stK1 i v e a := rfl
theorem v_s1 (q : Int) : stK1 i v e (.d (.int q)) = (pfrz v e).st (jSt3 i q) := rfl
theorem v_St3 (q : Int) : jSt3 i q d e = stK2 i q d e e[i]? := rfl
def jFo (tg : PGV) : List PD → DL.Env → Ps := fun items e => pforL tg pf items e
theorem v_For (fi : PIV) (tg : PGV) : psFor fi tg pf env = (fi env).st (jFo pf tg) := rfl
theorem v_Fo (tg : PGV) : jFo pf tg ds e = pforL tg pf ds e := rfl
end
end DL
/-! What the operations give, for simp. -/
namespace DL
open PySem PySem.Spec PyProof.Rows L2
section
variable (i j : Int) (b c : Bool) (d x y z : PD) (ds es : List PD) (s : Str)
theorem q_addI : gAdd (.int i) (.int j) = some (.val (.int (i + j))) := rfl
theorem q_subI : gSub (.int i) (.int j) = some (.val (.int (i - j))) := rfl
theorem q_ltI : gLt (.int i) (.int j) = some (.val (.bool (decide (i < j)))) := rfl
theorem q_leI : gLe (.int i) (.int j) = some (.val (.bool (decide (i ≤ j)))) := rfl
theorem q_gtI : gGt (.int i) (.int j) = some (.val (.bool (decide (j < i)))) := rfl
theorem q_geI : gGe (.int i) (.int j) = some (.val (.bool (decide (j ≤ i)))) := rfl
theorem q_neg : gNeg (.int i) = some (.val (.int (-i))) := rfl
theorem q_abs : cAbs [.int i] = some (.val (.int (if i < 0 then -i else i))) := rfl
theorem q_max2 : cMax2 [.int i, .int j] = some (.val (.int (if j > i then j else i))) := rfl
theorem q_min2 : cMin2 [.int i, .int j] = some (.val (.int (if j < i then j else i))) := rfl
theorem q_intI : cInt [.int i] = some (.val (.int i)) := rfl
theorem q_strS : cStr [.str s] = some (.val (.str s)) := rfl
theorem q_lenL : cLen [.list ds] = some (.val (.int (ds.length : Int))) := rfl
theorem q_lenT : cLen [.tuple ds] = some (.val (.int (ds.length : Int))) := rfl
theorem q_lenS {l : List Nat} (h : l.length ≤ 16777216) : cLen [.str (ofL l)] = some (.val (.int (l.length : Int))) := x_cLenS h
theorem q_addS {l m : List Nat} (h : l.length + m.length ≤ 16777216) : gAdd (.str (ofL l)) (.str (ofL m)) = some (.val (.str (ofL (l ++ m)))) := x_addS h
theorem q_addL (h : ds.length + es.length ≤ 16777216) : gAdd (.list ds) (.list es) = some (.nls (ds ++ es)) := if_pos h
theorem q_addT (h : ds.length + es.length ≤ 16777216) : gAdd (.tuple ds) (.tuple es) = some (.val (.tuple (ds ++ es))) := if_pos h
theorem q_pow18 : gPow (.int 10) (.int 18) = some (.val (.int 1000000000000000000)) := rfl
theorem q_eqB : gEq (.bool b) (.bool c) = some (.val (.bool (decide (b = c)))) := by cases b <;> cases c <;> rfl
theorem q_neB : gNe (.bool b) (.bool c) = some (.val (.bool (!decide (b = c)))) := by cases b <;> cases c <;> rfl
theorem q_isN : gIs x .none = some (.val (.bool (isNone x))) := by cases x <;> rfl
theorem q_isnN : gIsn x .none = some (.val (.bool (!isNone x))) := by cases x <;> rfl
theorem q_isB : gIs (.bool b) (.bool c) = some (.val (.bool (decide (b = c)))) := rfl
theorem q_isnB : gIsn (.bool b) (.bool c) = some (.val (.bool (!decide (b = c)))) := rfl
theorem q_nN : isNone .none = true := rfl
theorem q_nB : isNone (.bool b) = false := rfl
theorem q_nI : isNone (.int i) = false := rfl
theorem q_nS : isNone (.str s) = false := rfl
theorem q_nL : isNone (.list ds) = false := rfl
theorem q_nT : isNone (.tuple ds) = false := rfl
theorem q_nD (ps : List (PD × PD)) : isNone (.dict ps) = false := rfl
theorem q_ix0 : gIx (.list (x :: ds)) (.int 0) = some (.val x) := o2_ixL (i := 0) rfl
theorem q_ix1 (x1 x2 : PD) : gIx (.list (x1 :: x2 :: ds)) (.int 1) = some (.val x2) := o2_ixL (i := 1) rfl
theorem q_ix2 (x1 x2 x3 : PD) : gIx (.list (x1 :: x2 :: x3 :: ds)) (.int 2) = some (.val x3) := o2_ixL (i := 2) rfl
theorem q_ix3 (x1 x2 x3 x4 : PD) : gIx (.list (x1 :: x2 :: x3 :: x4 :: ds)) (.int 3) = some (.val x4) := o2_ixL (i := 3) rfl
theorem q_ix4 (x1 x2 x3 x4 x5 : PD) : gIx (.list (x1 :: x2 :: x3 :: x4 :: x5 :: ds)) (.int 4) = some (.val x5) := o2_ixL (i := 4) rfl
theorem q_it0 : gIx (.tuple (x :: ds)) (.int 0) = some (.val x) := o2_ixT (i := 0) rfl
theorem q_it1 (x1 x2 : PD) : gIx (.tuple (x1 :: x2 :: ds)) (.int 1) = some (.val x2) := o2_ixT (i := 1) rfl
theorem q_it2 (x1 x2 x3 : PD) : gIx (.tuple (x1 :: x2 :: x3 :: ds)) (.int 2) = some (.val x3) := o2_ixT (i := 2) rfl
theorem ixN_lt {n k : Nat} (h : k < n) : ixN n (k : Int) = some k := by
  unfold ixN
  rw [if_pos (Int.natCast_nonneg k), if_pos (by exact_mod_cast h)]
  rfl
theorem q_N0 (n : Nat) : ixN (n + 1) 0 = some 0 := ixN_lt (k := 0) (by omega)
theorem q_N1 (n : Nat) : ixN (n + 1 + 1) 1 = some 1 := ixN_lt (k := 1) (by omega)
theorem q_N2 (n : Nat) : ixN (n + 1 + 1 + 1) 2 = some 2 := ixN_lt (k := 2) (by omega)
theorem q_N3 (n : Nat) : ixN (n + 1 + 1 + 1 + 1) 3 = some 3 := ixN_lt (k := 3) (by omega)
theorem q_N4 (n : Nat) : ixN (n + 1 + 1 + 1 + 1 + 1) 4 = some 4 := ixN_lt (k := 4) (by omega)
theorem q_itL : itemsOf (.list ds) = some ds := rfl
theorem q_itT : itemsOf (.tuple ds) = some ds := rfl
theorem bOf_map (bs : List Bool) : boolsOf (bs.map .bool) = some bs := by
  induction bs with
  | nil => rfl
  | cons b r ih => show (boolsOf (r.map .bool)).map (b :: ·) = _; rw [ih]; rfl
theorem iOf_map (bs : List Int) : intsOf (bs.map .int) = some bs := by
  induction bs with
  | nil => rfl
  | cons b r ih => show (intsOf (r.map .int)).map (b :: ·) = _; rw [ih]; rfl
theorem sOf_map (bs : List Str) : strsOf (bs.map .str) = some bs := by
  induction bs with
  | nil => rfl
  | cons b r ih => show (strsOf (r.map .str)).map (b :: ·) = _; rw [ih]; rfl
theorem q_all (bs : List Bool) : cAll [.list (bs.map .bool)] = some (.val (.bool (bs.all id))) := by
  show (boolsOf (bs.map .bool)).map _ = _
  rw [bOf_map]; rfl
theorem q_any (bs : List Bool) : cAny [.list (bs.map .bool)] = some (.val (.bool (bs.any id))) := by
  show (boolsOf (bs.map .bool)).map _ = _
  rw [bOf_map]; rfl
theorem q_sum (bs : List Int) : cSum [.list (bs.map .int)] = some (.val (.int bs.sum)) := by
  show (intsOf (bs.map .int)).map _ = _
  rw [iOf_map]; rfl
end
/-! kinds -/
section
variable (i : Int) (b : Bool) (ds : List PD) (s : Str)
theorem q_tyS : tyOf (.str s) = .str := rfl
theorem q_tyL : tyOf (.list ds) = .lst := rfl
theorem q_tyT : tyOf (.tuple ds) = .tup := rfl
theorem q_tyI : tyOf (.int i) = .int := rfl
theorem q_tyB : tyOf (.bool b) = .bl := rfl
theorem w_blN : isiD .bl (.none) = some (.val (.bool false)) := rfl
theorem w_blB : isiD .bl (.bool b) = some (.val (.bool true)) := rfl
theorem w_blI : isiD .bl (.int i) = some (.val (.bool false)) := rfl
theorem w_blS : isiD .bl (.str s) = some (.val (.bool false)) := rfl
theorem w_blL : isiD .bl (.list ds) = some (.val (.bool false)) := rfl
theorem w_blT : isiD .bl (.tuple ds) = some (.val (.bool false)) := rfl
theorem w_blD : isiD .bl (.dict []) = some (.val (.bool false)) := rfl
theorem w_intN : isiD .int (.none) = some (.val (.bool false)) := rfl
theorem w_intB : isiD .int (.bool b) = some (.val (.bool true)) := rfl
theorem w_intI : isiD .int (.int i) = some (.val (.bool true)) := rfl
theorem w_intS : isiD .int (.str s) = some (.val (.bool false)) := rfl
theorem w_intL : isiD .int (.list ds) = some (.val (.bool false)) := rfl
theorem w_intT : isiD .int (.tuple ds) = some (.val (.bool false)) := rfl
theorem w_intD : isiD .int (.dict []) = some (.val (.bool false)) := rfl
theorem w_strN : isiD .str (.none) = some (.val (.bool false)) := rfl
theorem w_strB : isiD .str (.bool b) = some (.val (.bool false)) := rfl
theorem w_strI : isiD .str (.int i) = some (.val (.bool false)) := rfl
theorem w_strS : isiD .str (.str s) = some (.val (.bool true)) := rfl
theorem w_strL : isiD .str (.list ds) = some (.val (.bool false)) := rfl
theorem w_strT : isiD .str (.tuple ds) = some (.val (.bool false)) := rfl
theorem w_strD : isiD .str (.dict []) = some (.val (.bool false)) := rfl
theorem w_lstN : isiD .lst (.none) = some (.val (.bool false)) := rfl
theorem w_lstB : isiD .lst (.bool b) = some (.val (.bool false)) := rfl
theorem w_lstI : isiD .lst (.int i) = some (.val (.bool false)) := rfl
theorem w_lstS : isiD .lst (.str s) = some (.val (.bool false)) := rfl
theorem w_lstL : isiD .lst (.list ds) = some (.val (.bool true)) := rfl
theorem w_lstT : isiD .lst (.tuple ds) = some (.val (.bool false)) := rfl
theorem w_lstD : isiD .lst (.dict []) = some (.val (.bool false)) := rfl
theorem w_tupN : isiD .tup (.none) = some (.val (.bool false)) := rfl
theorem w_tupB : isiD .tup (.bool b) = some (.val (.bool false)) := rfl
theorem w_tupI : isiD .tup (.int i) = some (.val (.bool false)) := rfl
theorem w_tupS : isiD .tup (.str s) = some (.val (.bool false)) := rfl
theorem w_tupL : isiD .tup (.list ds) = some (.val (.bool false)) := rfl
theorem w_tupT : isiD .tup (.tuple ds) = some (.val (.bool true)) := rfl
theorem w_tupD : isiD .tup (.dict []) = some (.val (.bool false)) := rfl
theorem w_dicN : isiD .dic (.none) = some (.val (.bool false)) := rfl
theorem w_dicB : isiD .dic (.bool b) = some (.val (.bool false)) := rfl
theorem w_dicI : isiD .dic (.int i) = some (.val (.bool false)) := rfl
theorem w_dicS : isiD .dic (.str s) = some (.val (.bool false)) := rfl
theorem w_dicL : isiD .dic (.list ds) = some (.val (.bool false)) := rfl
theorem w_dicT : isiD .dic (.tuple ds) = some (.val (.bool false)) := rfl
theorem w_dicD : isiD .dic (.dict []) = some (.val (.bool true)) := rfl
theorem ws_tlN : isiDs [.tup, .lst] (.none) = some (.val (.bool false)) := by rfl
theorem ws_tlB : isiDs [.tup, .lst] (.bool b) = some (.val (.bool false)) := by rfl
theorem ws_tlI : isiDs [.tup, .lst] (.int i) = some (.val (.bool false)) := by rfl
theorem ws_tlS : isiDs [.tup, .lst] (.str s) = some (.val (.bool false)) := by rfl
theorem ws_tlL : isiDs [.tup, .lst] (.list ds) = some (.val (.bool true)) := by rfl
theorem ws_tlT : isiDs [.tup, .lst] (.tuple ds) = some (.val (.bool true)) := by rfl
theorem ws_tlD : isiDs [.tup, .lst] (.dict []) = some (.val (.bool false)) := by rfl
theorem ws_ltN : isiDs [.lst, .tup] (.none) = some (.val (.bool false)) := by rfl
theorem ws_ltB : isiDs [.lst, .tup] (.bool b) = some (.val (.bool false)) := by rfl
theorem ws_ltI : isiDs [.lst, .tup] (.int i) = some (.val (.bool false)) := by rfl
theorem ws_ltS : isiDs [.lst, .tup] (.str s) = some (.val (.bool false)) := by rfl
theorem ws_ltL : isiDs [.lst, .tup] (.list ds) = some (.val (.bool true)) := by rfl
theorem ws_ltT : isiDs [.lst, .tup] (.tuple ds) = some (.val (.bool true)) := by rfl
theorem ws_ltD : isiDs [.lst, .tup] (.dict []) = some (.val (.bool false)) := by rfl
theorem ws_isN : isiDs [.int, .str] (.none) = some (.val (.bool false)) := by rfl
theorem ws_isB : isiDs [.int, .str] (.bool b) = some (.val (.bool true)) := by rfl
theorem ws_isI : isiDs [.int, .str] (.int i) = some (.val (.bool true)) := by rfl
theorem ws_isS : isiDs [.int, .str] (.str s) = some (.val (.bool true)) := by rfl
theorem ws_isL : isiDs [.int, .str] (.list ds) = some (.val (.bool false)) := by rfl
theorem ws_isT : isiDs [.int, .str] (.tuple ds) = some (.val (.bool false)) := by rfl
theorem ws_isD : isiDs [.int, .str] (.dict []) = some (.val (.bool false)) := by rfl
theorem ws_siN : isiDs [.str, .int] (.none) = some (.val (.bool false)) := by rfl
theorem ws_siB : isiDs [.str, .int] (.bool b) = some (.val (.bool true)) := by rfl
theorem ws_siI : isiDs [.str, .int] (.int i) = some (.val (.bool true)) := by rfl
theorem ws_siS : isiDs [.str, .int] (.str s) = some (.val (.bool true)) := by rfl
theorem ws_siL : isiDs [.str, .int] (.list ds) = some (.val (.bool false)) := by rfl
theorem ws_siT : isiDs [.str, .int] (.tuple ds) = some (.val (.bool false)) := by rfl
theorem ws_siD : isiDs [.str, .int] (.dict []) = some (.val (.bool false)) := by rfl
end
end DL
/-! Loops of the pure layer: one pass as a word of its own, and what stays true. -/
namespace DL
open PySem PySem.Spec PyProof.Rows L2
section
variable (tg : PGV) (body : PSV) (t : PTV) (d : PD) (r : List PD) (e env : DL.Env) (P : Ps → Prop)
/-- one pass of a for -/
def pf1 : Ps := match tg d e with
  | none => .no
  | some e1 => match body e1 with
    | .ct e2 => .nx e2
    | s => s
def pfK : Ps → Ps
  | .nx e => pforL tg body r e
  | .bk e => .nx e
  | s => s
theorem pfor_cons : pforL tg body (d :: r) e = pfK tg body r (pf1 tg body d e) := by
  show (match tg d e with | none => Ps.no | some env1 => (match body env1 with | .nx e => pforL tg body r e | .ct e => pforL tg body r e | .bk e => .nx e | x => x)) = _
  unfold pf1 pfK
  cases tg d e with
  | none => rfl
  | some e1 => cases h : body e1 <;> simp only [h]
def ctK : Ps → Ps
  | .ct e2 => .nx e2
  | s => s
def gtK1 : Option DL.Env → Ps
  | none => .no
  | some e1 => ctK (body e1)
theorem v_f1p : pf1 tg body d e = gtK1 body (tg d e) := by
  unfold pf1 gtK1 ctK
  cases tg d e with
  | none => rfl
  | some e1 => cases h : body e1 <;> simp only [h]
theorem v_gt1 : gtK1 body (some e) = ctK (body e) := rfl
theorem v_ctn : ctK (.nx e) = .nx e := rfl
theorem v_ctc : ctK (.ct e) = .nx e := rfl
theorem v_ctb : ctK (.bk e) = .bk e := rfl
theorem v_ctr (c : Cell) : ctK (.rt c e) = .rt c e := rfl
theorem v_cte (x : Ex) : ctK (.er x e) = .er x e := rfl
theorem v_cti (c : Prop) [Decidable c] (x y : Ps) : ctK (if c then x else y) = if c then ctK x else ctK y := by split <;> rfl
theorem pfor_nil : pforL tg body [] e = .nx e := rfl
variable {tg body t P}
/-- a for whose passes all go on -/
theorem pfor_inv (I : List PD → DL.Env → Prop) (step : ∀ d r e, I (d :: r) e → ∃ e1, pf1 tg body d e = .nx e1 ∧ I r e1) : ∀ (items : List PD) (e : DL.Env), I items e → ∃ e', pforL tg body items e = .nx e' ∧ I [] e'
  | [], e, h => ⟨e, rfl, h⟩
  | d :: r, e, h => by
    obtain ⟨e1, h1, h2⟩ := step d r e h
    obtain ⟨e', h3, h4⟩ := pfor_inv I step r e1 h2
    exact ⟨e', by rw [pfor_cons, h1]; exact h3, h4⟩
/-- a for that may also end early -/
theorem pfor_ind (I : List PD → DL.Env → Prop) (step : ∀ d r e, I (d :: r) e → (∃ e1, pf1 tg body d e = .nx e1 ∧ I r e1) ∨ (∃ e1, pf1 tg body d e = .bk e1 ∧ P (.nx e1)) ∨ (∃ c e1, pf1 tg body d e = .rt c e1 ∧ P (.rt c e1)) ∨ (∃ x e1, pf1 tg body d e = .er x e1 ∧ P (.er x e1))) (last : ∀ e, I [] e → P (.nx e)) : ∀ (items : List PD) (e : DL.Env), I items e → P (pforL tg body items e)
  | [], e, h => last e h
  | d :: r, e, h => by
    rw [pfor_cons]
    rcases step d r e h with ⟨e1, h1, h2⟩ | ⟨e1, h1, h2⟩ | ⟨c, e1, h1, h2⟩ | ⟨x, e1, h1, h2⟩
    · rw [h1]; exact pfor_ind I step last r e1 h2
    · rw [h1]; exact h2
    · rw [h1]; exact h2
    · rw [h1]; exact h2
/-- a for as a fold of its names -/
theorem pfor_fold {α σ : Type} (f : α → PD) (E : σ → DL.Env) (g : σ → α → σ) (step : ∀ a s, pf1 tg body (f a) (E s) = .nx (E (g s a))) : ∀ (l : List α) (s : σ), pforL tg body (l.map f) (E s) = .nx (E (l.foldl g s))
  | [], s => rfl
  | a :: l, s => by
    rw [List.map_cons, pfor_cons, step]
    exact pfor_fold f E g step l (g s a)
/-! while -/
def pw1 (n : Nat) : Ps → Ps
  | .nx e => pwhL t body n e
  | .ct e => pwhL t body n e
  | .bk e => .nx e
  | s => s
theorem pwh_succ (n : Nat) : pwhL t body (n + 1) e = (t e).st fun b e1 => if b = true then pw1 (t := t) (body := body) n (body e1) else .nx e1 := by
  show (t e).st _ = (t e).st _
  congr 1
theorem pwh_nx {n : Nat} {e e1 e2 : DL.Env} (h1 : t e = .ok true e1) (h2 : body e1 = .nx e2) : pwhL t body (n + 1) e = pwhL t body n e2 := by
  rw [pwh_succ, h1]
  show pw1 n (body e1) = _
  rw [h2]; rfl
theorem pwh_rt {n : Nat} {e e1 e2 : DL.Env} {c : Cell} (h1 : t e = .ok true e1) (h2 : body e1 = .rt c e2) : pwhL t body (n + 1) e = .rt c e2 := by
  rw [pwh_succ, h1]
  show pw1 n (body e1) = _
  rw [h2]; rfl
theorem pwh_end {n : Nat} {e e1 : DL.Env} (h1 : t e = .ok false e1) : pwhL t body (n + 1) e = .nx e1 := by
  rw [pwh_succ, h1]; rfl
/-- a while by a measure -/
theorem pwh_inv (I : Nat → DL.Env → Prop) (step : ∀ m e, I m e → (∃ e1, t e = .ok false e1 ∧ P (.nx e1)) ∨ (∃ e1, t e = .ok true e1 ∧ ((∃ e2 k, (body e1 = .nx e2 ∨ body e1 = .ct e2) ∧ k < m ∧ I k e2) ∨ (∃ e2, body e1 = .bk e2 ∧ P (.nx e2)) ∨ (∃ c e2, body e1 = .rt c e2 ∧ P (.rt c e2)) ∨ (∃ x e2, body e1 = .er x e2 ∧ P (.er x e2))))) : ∀ (n m : Nat) (e : DL.Env), m < n → I m e → P (pwhL t body n e)
  | 0, m, e, h, _ => absurd h (Nat.not_lt_zero m)
  | n + 1, m, e, h, hI => by
    rw [pwh_succ]
    rcases step m e hI with ⟨e1, h1, h2⟩ | ⟨e1, h1, h2⟩
    · rw [h1]; exact h2
    · rw [h1]
      show P (pw1 n (body e1))
      rcases h2 with ⟨e2, k, h3, h4, h5⟩ | ⟨e2, h3, h4⟩ | ⟨c, e2, h3, h4⟩ | ⟨x, e2, h3, h4⟩
      · have q := pwh_inv I step n k e2 (by omega) h5
        rcases h3 with h3 | h3 <;> (rw [h3]; exact q)
      · rw [h3]; exact h4
      · rw [h3]; exact h4
      · rw [h3]; exact h4
/-- a while whose passes all go on -/
theorem pwh_go (I : Nat → DL.Env → Prop) (Z : DL.Env → Prop) (step : ∀ m e, I m e → (∃ e1, t e = .ok false e1 ∧ Z e1) ∨ (∃ e1 e2 k, t e = .ok true e1 ∧ body e1 = .nx e2 ∧ k < m ∧ I k e2)) {n m : Nat} {e : DL.Env} (h : m < n) (hI : I m e) : ∃ e', pwhL t body n e = .nx e' ∧ Z e' := by
  refine pwh_inv (P := fun s => ∃ e', s = .nx e' ∧ Z e') I (fun m e hi => ?_) n m e h hI
  rcases step m e hi with ⟨e1, h1, h2⟩ | ⟨e1, e2, k, h1, h2, h3, h4⟩
  · exact .inl ⟨e1, h1, e1, rfl, h2⟩
  · exact .inr ⟨e1, h1, .inl ⟨e2, k, .inl h2, h3, h4⟩⟩
end
/-! comprehensions -/
section
variable (tg : PGV) (tt : PTV) (te : PEV) (vs : List Nat) (d : PD) (r acc : List PD) (e env : DL.Env)
/-- one pass: what is put in, if anything -/
def pc3 (y : Val) (e3 : DL.Env) : Pr (Option PD) := (pfrz y e3).bind fun x e4 => .ok (some x) (restE env vs e4)
def pc2 (b : Bool) (e2 : DL.Env) : Pr (Option PD) := if b = true then (te e2).noer.bind (pc3 vs env) else .ok none (restE env vs e2)
def pc1 : Option DL.Env → Pr (Option PD)
  | none => .no
  | some e1 => (tt e1).noer.bind (pc2 te vs env)
def pcS : Pr (Option PD) := pc1 tt te vs env (tg d (wipeE env vs))
def pcQ : Option PD → DL.Env → Pr (List PD)
  | some x, e => if acc.length < sizeLine then pcompL tg tt te vs r (acc ++ [x]) e else .no
  | none, e => pcompL tg tt te vs r acc e
theorem pcomp_cons : pcompL tg tt te vs (d :: r) acc env = (pcS tg tt te vs d env).bind (pcQ tg tt te vs r acc) := by
  show (match tg d (wipeE env vs) with | none => Pr.no | some env1 => (tt env1).noer.bind fun b env2 => if b = true then ((te env2).noer.bind fun y env3 => (pfrz y env3).bind fun x env4 => if acc.length < sizeLine then pcompL tg tt te vs r (acc ++ [x]) (restE env vs env4) else Pr.no) else pcompL tg tt te vs r acc (restE env vs env2)) = _
  unfold pcS pc1
  cases tg d (wipeE env vs) with
  | none => rfl
  | some e1 =>
    dsimp only
    cases (tt e1).noer with
    | no => rfl
    | er x e2 => rfl
    | ok b e2 =>
      show (if b = true then _ else _) = (pc2 te vs env b e2).bind _
      unfold pc2
      split
      · cases (te e2).noer with
        | no => rfl
        | er x e3 => rfl
        | ok y e3 =>
          show (pfrz y e3).bind _ = (pc3 vs env y e3).bind _
          unfold pc3
          cases pfrz y e3 <;> rfl
      · rfl
theorem pcomp_nil : pcompL tg tt te vs [] acc env = .ok acc env := rfl
def pc4 : PD → DL.Env → Pr (Option PD) := fun x e4 => .ok (some x) (restE env vs e4)
theorem v_pc3 (y : Val) : pc3 vs env y e = (pfrz y e).bind (pc4 vs env) := rfl
theorem v_pc4 : pc4 vs env d e = .ok (some d) (restE env vs e) := rfl
theorem v_pc2 (b : Bool) : pc2 te vs env b e = if b = true then (te e).noer.bind (pc3 vs env) else .ok none (restE env vs e) := rfl
theorem v_pc1 : pc1 tt te vs env (some e) = (tt e).noer.bind (pc2 te vs env) := rfl
theorem v_pcS : pcS tg tt te vs d env = pc1 tt te vs env (tg d (wipeE env vs)) := rfl
theorem v_noe {β : Type} (x : β) : (Pr.ok x e).noer = .ok x e := rfl
theorem v_noi {β : Type} (c : Prop) [Decidable c] (x y : Pr β) : (if c then x else y).noer = if c then x.noer else y.noer := by split <;> rfl
theorem v_wi0 : wipeE e [] = e := rfl
theorem v_wi1 (i : Nat) : wipeE e (i :: vs) = (wipeE e vs).set i none := rfl
theorem v_re0 : restE env [] e = e := rfl
def reK (i : Nat) (s : DL.Env) : Option (Option Cell) → DL.Env
  | some c => s.set i c
  | none => s
theorem v_re1 (i : Nat) : restE env (i :: vs) e = reK i (restE env vs e) env[i]? := by
  show (match env[i]? with | some c => (restE env vs e).set i c | none => restE env vs e) = _
  unfold reK
  cases env[i]? <;> rfl
theorem v_rek (i : Nat) (c : Option Cell) : reK i e (some c) = e.set i c := rfl
variable {tg tt te vs}
/-- a comprehension that keeps all -/
theorem pcomp_map {α : Type} (f : α → PD) (g : α → PD) : ∀ (l : List α) (acc : List PD), (∀ a ∈ l, pcS tg tt te vs (f a) env = .ok (some (g a)) env) → acc.length + l.length ≤ 16777216 → pcompL tg tt te vs (l.map f) acc env = .ok (acc ++ l.map g) env
  | [], acc, h, hn => by rw [List.map_nil, List.map_nil, List.append_nil]; rfl
  | a :: l, acc, h, hn => by
    rw [List.length_cons] at hn
    rw [List.map_cons, pcomp_cons, h a (List.mem_cons_self ..)]
    show (if acc.length < sizeLine then pcompL tg tt te vs (l.map f) (acc ++ [g a]) env else .no) = _
    rw [if_pos (show acc.length < sizeLine by show acc.length < 16777216; omega), pcomp_map f g l (acc ++ [g a]) (fun b hb => h b (List.mem_cons_of_mem _ hb)) (by rw [List.length_append]; show acc.length + 1 + l.length ≤ _; omega)]
    rw [List.append_assoc]; rfl
/-- a comprehension that chooses -/
theorem pcomp_filt {α : Type} (f : α → PD) (g : α → PD) (p : α → Bool) : ∀ (l : List α) (acc : List PD), (∀ a ∈ l, pcS tg tt te vs (f a) env = .ok (if p a = true then some (g a) else none) env) → acc.length + l.length ≤ 16777216 → pcompL tg tt te vs (l.map f) acc env = .ok (acc ++ (l.filter p).map g) env
  | [], acc, h, hn => by rw [List.map_nil, List.filter_nil, List.map_nil, List.append_nil]; rfl
  | a :: l, acc, h, hn => by
    rw [List.length_cons] at hn
    rw [List.map_cons, pcomp_cons, h a (List.mem_cons_self ..)]
    cases hp : p a with
    | true =>
      rw [if_pos rfl, List.filter_cons_of_pos hp]
      show (if acc.length < sizeLine then pcompL tg tt te vs (l.map f) (acc ++ [g a]) env else .no) = _
      rw [if_pos (show acc.length < sizeLine by show acc.length < 16777216; omega), pcomp_filt f g p l (acc ++ [g a]) (fun b hb => h b (List.mem_cons_of_mem _ hb)) (by rw [List.length_append]; show acc.length + 1 + l.length ≤ _; omega)]
      rw [List.append_assoc]; rfl
    | false =>
      rw [if_neg (by decide), List.filter_cons_of_neg (by rw [hp]; decide)]
      exact pcomp_filt f g p l acc (fun b hb => h b (List.mem_cons_of_mem _ hb)) (by omega)
inductive Al2 {α : Type} (R : α → PD → Prop) : List α → List PD → Prop
  | nil : Al2 R [] []
  | cons {a : α} {x : PD} {l : List α} {xs : List PD} (h : R a x) (t : Al2 R l xs) : Al2 R (a :: l) (x :: xs)
/-- a comprehension that draws: an invariant of the names and a word of each that is put in -/
theorem pcomp_inv {α : Type} (f : α → PD) (I : DL.Env → Prop) (R : α → PD → Prop) (step : ∀ a env, I env → ∃ x env1, pcS tg tt te vs (f a) env = .ok (some x) env1 ∧ I env1 ∧ R a x) : ∀ (l : List α) (acc : List PD) (env : DL.Env), I env → acc.length + l.length ≤ 16777216 → ∃ xs env1, pcompL tg tt te vs (l.map f) acc env = .ok (acc ++ xs) env1 ∧ I env1 ∧ Al2 R l xs
  | [], acc, env, h, hn => ⟨[], env, by rw [List.map_nil, List.append_nil]; rfl, h, .nil⟩
  | a :: l, acc, env, h, hn => by
    rw [List.length_cons] at hn
    obtain ⟨x, env1, h1, h2, h3⟩ := step a env h
    obtain ⟨xs, env2, h4, h5, h6⟩ := pcomp_inv f I R step l (acc ++ [x]) env1 h2 (by rw [List.length_append]; show acc.length + 1 + l.length ≤ _; omega)
    refine ⟨x :: xs, env2, ?_, h5, .cons h3 h6⟩
    rw [List.map_cons, pcomp_cons, h1]
    show (if acc.length < sizeLine then pcompL tg tt te vs (l.map f) (acc ++ [x]) env1 else .no) = _
    rw [if_pos (show acc.length < sizeLine by show acc.length < 16777216; omega), h4, List.append_assoc]; rfl
end
end DL
/-! Texts, cuts, ranges with a step, for simp. -/
namespace DL
open PySem PySem.Spec PyProof.Rows L2
/-! ranges -/
def r3K : Option (List Int) → DL.Env → Pr (List PD)
  | some [i, j, c], e => if (decide (c ≠ 0) && decide (c.natAbs < 1073741824) && Builtin.Range.small i j c && decide (0 ≤ Builtin.Range.rangeSize i j c)) = true then .ok (rangeCL i c (Builtin.Range.rangeSize i j c).toNat) e else .no
  | _, _ => .no
def jR3 : List Val → DL.Env → Pr (List PD) := fun vs e1 => r3K (intsV vs) e1
theorem v_R3 (ps : PAV) (env : DL.Env) : pR3 ps env = (ps env).bind jR3 := by
  unfold pR3
  show _ = (ps env).bind fun vs e1 => r3K (intsV vs) e1
  congr 1; funext vs e1
  unfold r3K
  match intsV vs with
  | some [_, _, _] => rfl
  | some [] => rfl
  | some [_] => rfl
  | some [_, _] => rfl
  | some (_ :: _ :: _ :: _ :: _) => rfl
  | none => rfl
theorem v_R3a (vs : List Val) (e : DL.Env) : jR3 vs e = r3K (intsV vs) e := rfl
theorem rangeFits {i : Int} (h1 : -4611686018427387904 ≤ i) (h2 : i < 4611686018427387904) : Builtin.Range.rangeFitsLong i = true := by
  unfold Builtin.Range.rangeFitsLong
  simp only [Bool.and_eq_true, decide_eq_true_eq]
  omega
/-- range(0, n, c) -/
theorem q_r3 (n : Nat) (c : Int) (hc : 0 < c) (hc2 : c < 1000000) (hn : n < 1000000000) (e : DL.Env) : r3K (some [0, (n : Int), c]) e = .ok ((List.range ((n + c.toNat - 1) / c.toNat)).map fun (i : Nat) => .int (0 + i * c)) e := by
  have hs : Builtin.Range.rangeSize 0 n c = (((n + c.toNat - 1) / c.toNat : Nat) : Int) := by
    unfold Builtin.Range.rangeSize
    rw [if_pos hc]
    obtain ⟨k, rfl⟩ : ∃ k : Nat, c = (k : Int) := ⟨c.toNat, by omega⟩
    rw [Int.toNat_natCast]
    by_cases h0 : n = 0
    · subst h0
      rw [if_neg (by omega), Nat.div_eq_of_lt (by omega)]
      rfl
    · rw [if_pos (by omega)]
      have e1 : ((n : Int) - 0 - 1) = ((n - 1 : Nat) : Int) := by omega
      have e2 : n + k - 1 = n - 1 + k := by omega
      rw [e1, e2, Nat.add_div_right _ (by omega)]
      simp only [Nat.succ_eq_add_one, Int.natCast_add, Int.natCast_ediv]
      rfl
  have h1 : (n + c.toNat - 1) / c.toNat ≤ n := by
    obtain ⟨k, rfl⟩ : ∃ k : Nat, c = (k : Int) := ⟨c.toNat, by omega⟩
    rw [Int.toNat_natCast]
    apply Nat.le_of_lt_succ
    rw [Nat.div_lt_iff_lt_mul (by omega)]
    rcases k with _ | k
    · omega
    · rw [Nat.succ_mul, Nat.mul_succ]
      omega
  show (if _ then _ else _) = _
  rw [if_pos ?h, hs, Int.toNat_natCast]
  · rfl
  case h =>
    unfold Builtin.Range.small
    rw [hs]
    clear hs
    generalize (n + c.toNat - 1) / c.toNat = q at *
    simp only [Bool.and_eq_true, decide_eq_true_eq, Bool.or_eq_true]
    refine ⟨⟨⟨by omega, by omega⟩, ⟨⟨⟨rangeFits (by omega) (by omega), rangeFits (by omega) (by omega)⟩, rangeFits (by omega) (by omega)⟩, rangeFits (by omega) (by omega)⟩, .inr ?_⟩, by omega⟩
    rw [if_pos hc]
    exact rangeFits (by omega) (by omega)
/-! items -/
theorem q_ixLn {ds : List PD} {i : Int} {x : PD} (h0 : 0 ≤ i) (h : ds[i.toNat]? = some x) : gIx (.list ds) (.int i) = some (.val x) := o2_ixZ h0 h
theorem q_ixTn {ds : List PD} {i : Int} {x : PD} (h0 : 0 ≤ i) (h : ds[i.toNat]? = some x) : gIx (.tuple ds) (.int i) = some (.val x) := by
  have e := o2_ixT h
  rwa [Int.toNat_of_nonneg h0] at e
theorem q_ixSn {l : List Nat} {i : Int} {c : Nat} (h0 : 0 ≤ i) (h : l[i.toNat]? = some c) (hl : l.length ≤ 16777216) : gIx (.str (ofL l)) (.int i) = some (.val (.str (ofL [c]))) := by
  have e := x_ixS h hl
  rwa [Int.toNat_of_nonneg h0] at e
theorem atI_last {α : Type} (l : List α) (c : α) : atI (l ++ [c]) (-1) = some c := by
  unfold atI ixN
  rw [if_neg (by decide), List.length_append, if_pos (by simp only [List.length_cons, List.length_nil]; omega)]
  have e : (-1 + ((l.length + [c].length : Nat) : Int)).toNat = l.length := by simp only [List.length_cons, List.length_nil]; omega
  show (l ++ [c])[(-1 + ((l.length + [c].length : Nat) : Int)).toNat]? = _
  rw [e]; simp
theorem q_ixLl (l : List PD) (c : PD) : gIx (.list (l ++ [c])) (.int (-1)) = some (.val c) := by
  show (atI (l ++ [c]) (-1)).map _ = _
  rw [atI_last]; rfl
theorem q_ixTl (l : List PD) (c : PD) : gIx (.tuple (l ++ [c])) (.int (-1)) = some (.val c) := by
  show (atI (l ++ [c]) (-1)).map _ = _
  rw [atI_last]; rfl
theorem q_Nl (n : Nat) : ixN (n + 1) (-1) = some n := by
  unfold ixN
  rw [if_neg (by decide), if_pos (by omega)]
  exact congrArg some (by omega)
/-! cuts -/
def cutL {α : Type} (l : List α) (lo hi : Option Int) : List α := (l.drop (HT.sIx l.length 0 lo)).take (HT.sIx l.length l.length hi - HT.sIx l.length 0 lo)
theorem q_slL (ds : List PD) (lo hi : Option Int) : gSl (.list ds) lo hi = some (.nls (cutL ds lo hi)) := rfl
theorem q_slT (ds : List PD) (lo hi : Option Int) : gSl (.tuple ds) lo hi = some (.val (.tuple (cutL ds lo hi))) := rfl
theorem cutL_map {α β : Type} (f : α → β) (l : List α) (lo hi : Option Int) : cutL (l.map f) lo hi = (cutL l lo hi).map f := by
  unfold cutL
  rw [List.length_map, ← List.map_drop, ← List.map_take]
theorem cutL_len {α : Type} (l : List α) (lo hi : Option Int) : (cutL l lo hi).length ≤ l.length := by
  unfold cutL
  rw [List.length_take, List.length_drop]; omega
theorem cutL_from {α : Type} (l : List α) (i : Nat) : cutL l (some (i : Int)) none = l.drop i := by
  unfold cutL HT.sIx
  simp only
  rw [if_neg (by omega), Int.toNat_natCast]
  by_cases h : i ≤ l.length
  · rw [Nat.min_eq_left h, List.take_of_length_le (by rw [List.length_drop]; omega)]
  · rw [Nat.min_eq_right (by omega), List.drop_of_length_le (by omega), List.drop_of_length_le (by omega)]; simp
theorem cutL_to {α : Type} (l : List α) (i : Nat) : cutL l none (some (i : Int)) = l.take i := by
  unfold cutL HT.sIx
  simp only
  rw [if_neg (by omega), Int.toNat_natCast, Nat.sub_zero, List.drop_zero]
  by_cases h : i ≤ l.length
  · rw [Nat.min_eq_left h]
  · rw [Nat.min_eq_right (by omega), List.take_of_length_le (by omega), List.take_of_length_le (by omega)]
theorem cutL_m1 {α : Type} (l : List α) (c : α) : cutL (l ++ [c]) (some (-1)) none = [c] := by
  unfold cutL HT.sIx
  simp only
  rw [if_pos (by decide), List.length_append]
  have e : (-1 + ((l.length + [c].length : Nat) : Int)).toNat = l.length := by simp only [List.length_cons, List.length_nil]; omega
  rw [e, List.drop_left]
  simp only [List.length_cons, List.length_nil]
  rw [show l.length + (0 + 1) - l.length = 1 by omega]; rfl
theorem cutL_m1nil {α : Type} : cutL ([] : List α) (some (-1)) none = [] := by unfold cutL; simp
/-! texts -/
theorem q_slS {l : List Nat} (lo hi : Option Int) (h : l.length ≤ 16777216) : gSl (.str (ofL l)) lo hi = some (.val (.str (ofL (cutL l lo hi)))) := by
  show (if (ofL l).length ≤ sizeLine then some (Out.val (.str (L2.cutS (ofL l) lo hi))) else none) = _
  rw [ofL_len, if_pos (show l.length ≤ sizeLine from h)]
  unfold L2.cutS cutL
  rw [ofL_len]
  rfl
theorem q_inC {c : Nat} {l : List Nat} : gIn (.str (ofL [c])) (.str (ofL l)) = some (.val (.bool (decide (c ∈ l)))) := rfl
theorem q_ninC {c : Nat} {l : List Nat} : gNin (.str (ofL [c])) (.str (ofL l)) = some (.val (.bool (!decide (c ∈ l)))) := rfl
theorem int_all : ((List.range 10).all fun n => decide (PySem.intText? (ofL [48 + n]) = some (n : Int))) = true := by decide +kernel
theorem q_intD {c : Nat} (h1 : 48 ≤ c) (h2 : c ≤ 57) : cInt [.str (ofL [c])] = some (.val (.int ((c - 48 : Nat) : Int))) := by
  obtain ⟨n, rfl⟩ : ∃ n, c = 48 + n := ⟨c - 48, by omega⟩
  have e := List.all_eq_true.mp int_all n (List.mem_range.mpr (by omega))
  rw [decide_eq_true_eq] at e
  show ((if (ofL [48 + n]).length ≤ 640 then PySem.intText? (ofL [48 + n]) else none)).map _ = _
  rw [e, if_pos (by rw [ofL_len]; show 1 ≤ 640; decide), Nat.add_sub_cancel_left]
  rfl
/-- the figures of a small number -/
def dg (n : Nat) : List Nat := if n < 10 then [48 + n] else if n < 100 then [48 + n / 10, 48 + n % 10] else [48 + n / 100, 48 + n / 10 % 10, 48 + n % 10]
theorem dg_all : ((List.range 1000).all fun n => decide (Str.ofString (toString (n : Int)) = ofL (dg n))) = true := by decide +kernel
theorem q_str3 {i : Int} (h0 : 0 ≤ i) (h : i < 1000) : cStr [.int i] = some (.val (.str (ofL (dg i.toNat)))) := by
  obtain ⟨n, rfl⟩ : ∃ n : Nat, i = (n : Int) := ⟨i.toNat, by omega⟩
  have e := List.all_eq_true.mp dg_all n (List.mem_range.mpr (by omega))
  rw [decide_eq_true_eq] at e
  show (if ((n : Int)).natAbs.log2 < 1920 then some (Out.val (.str (Str.ofString (toString (n : Int))))) else none) = _
  rw [e, if_pos, Int.toNat_natCast]
  rw [Int.natAbs_natCast]
  by_cases hz : n = 0
  · subst hz; decide
  · exact Nat.lt_trans ((Nat.log2_lt hz).2 (show n < 2 ^ 10 by omega)) (by decide)
theorem foldl_app (ls : List (List Nat)) : ∀ a : List Nat, ls.foldl (fun acc p => acc ++ (#[] : Array Nat) ++ p.toArray) a.toArray = (a ++ ls.flatten).toArray := by
  induction ls with
  | nil => intro a; simp
  | cons p r ih => intro a; rw [List.foldl_cons, show a.toArray ++ (#[] : Array Nat) ++ p.toArray = (a ++ p).toArray by simp, ih]; simp
theorem join0 (ls : List (List Nat)) : Txt.join (ofL []) (ls.map ofL) = ofL ls.flatten := by
  show (⟨((ls.map ofL).drop 1).foldl (fun acc p => acc ++ (ofL []).cps ++ p.cps) ((ls.map ofL).headD Str.empty).cps⟩ : Str) = _
  cases ls with
  | nil => rfl
  | cons p r =>
    show (⟨(r.map ofL).foldl (fun acc p => acc ++ (ofL []).cps ++ p.cps) p.toArray⟩ : Str) = _
    rw [List.foldl_map]
    show (⟨r.foldl (fun acc p => acc ++ (#[] : Array Nat) ++ p.toArray) p.toArray⟩ : Str) = _
    rw [foldl_app]
    simp [ofL]
theorem q_join0 {α : Type} (l : List α) (f : α → List Nat) (h : (l.map f).flatten.length ≤ 16777216) : mJoin (.str (ofL [])) [.list (l.map fun a => .str (ofL (f a)))] = some (.val (.str (ofL (l.map f).flatten))) := by
  have e1 : (l.map fun a => PyData.str (ofL (f a))) = ((l.map f).map ofL).map .str := by simp only [List.map_map, Function.comp_def]
  have e2 : ((((l.map f).map ofL).map (·.length)).sum + ((l.map f).map ofL).length * (ofL []).length) = (l.map f).flatten.length := by
    rw [List.length_flatten, List.map_map, show (ofL []).length = 0 from rfl, Nat.mul_zero, Nat.add_zero]
    congr 1
  show (strsOf _).bind _ = _
  rw [e1, sOf_map]
  show (if _ then _ else _) = _
  rw [e2, if_pos h, join0]
theorem ofL_bytes (l : List Nat) (x : String) (h : Str.ofString x = ofL l) : PyData.str (Str.ofString x) = .str (ofL l) := by rw [h]
theorem q_lit (x : Str) : PyData.str x = .str (ofL x.cps.toList) := by
  unfold ofL; simp
/-- texts of plain signs -/
def Pl (l : List Nat) : Prop := ∀ c ∈ l, c < 1114112
instance (l : List Nat) : Decidable (Pl l) := inferInstanceAs (Decidable (∀ c ∈ l, c < 1114112))
theorem q_eqS {l m : List Nat} (hl : Pl l) (hm : Pl m) : gEq (.str (ofL l)) (.str (ofL m)) = some (.val (.bool (decide (l = m)))) := x_eqS hl hm
theorem q_neS {l m : List Nat} (hl : Pl l) (hm : Pl m) : gNe (.str (ofL l)) (.str (ofL m)) = some (.val (.bool (!decide (l = m)))) := x_neS hl hm
theorem Pl.app {l m : List Nat} (h : Pl l) (k : Pl m) : Pl (l ++ m) := fun c hc => (List.mem_append.mp hc).elim (h c) (k c)
theorem q_mulSn {c : Nat} {n : Int} (h0 : -1000 ≤ n) (h : n ≤ 1000) : gMul (.str (ofL [c])) (.int n) = some (.val (.str (ofL (List.replicate n.toNat c)))) := x_mulS h0 h
theorem q_app {ds : List PD} {x : PD} (h : ds.length < 16777216) : uAppend ds [x] = some (.none, ds ++ [x]) := if_pos h
theorem set_last {α : Type} (l : List α) (a b : α) : (l ++ [a]).set l.length b = l ++ [b] := by
  rw [List.set_append_right _ _ (Nat.le_refl _), Nat.sub_self]; rfl
theorem q_anyF {α : Type} (l : List α) (f : α → Bool) : cAny [.list (l.map fun a => .bool (f a))] = some (.val (.bool (l.any f))) := by
  have e : (l.map fun a => PyData.bool (f a)) = (l.map f).map .bool := by rw [List.map_map]; rfl
  rw [e, q_any, List.any_map]; rfl
theorem q_allF {α : Type} (l : List α) (f : α → Bool) : cAll [.list (l.map fun a => .bool (f a))] = some (.val (.bool (l.all f))) := by
  have e : (l.map fun a => PyData.bool (f a)) = (l.map f).map .bool := by rw [List.map_map]; rfl
  rw [e, q_all, List.all_map]; rfl
theorem q_sumF {α : Type} (l : List α) (f : α → Int) : cSum [.list (l.map fun a => .int (f a))] = some (.val (.int (l.map f).sum)) := by
  have e : (l.map fun a => PyData.int (f a)) = (l.map f).map .int := by rw [List.map_map]; rfl
  rw [e, q_sum]
theorem sum_cast {α : Type} (l : List α) (f : α → Nat) : (l.map fun a => ((f a : Nat) : Int)).sum = (((l.map f).sum : Nat) : Int) := by
  induction l with
  | nil => rfl
  | cons a l ih => rw [List.map_cons, List.map_cons, List.sum_cons, List.sum_cons, ih]; simp
theorem q_zkLL (xs ys : List PD) (e : DL.Env) : zipK [.list xs, .list ys] e = .ok (zipD xs ys) e := rfl
theorem q_zkTL (xs ys : List PD) (e : DL.Env) : zipK [.tuple xs, .list ys] e = .ok (zipD xs ys) e := rfl
theorem q_zkLT (xs ys : List PD) (e : DL.Env) : zipK [.list xs, .tuple ys] e = .ok (zipD xs ys) e := rfl
theorem q_zkTT (xs ys : List PD) (e : DL.Env) : zipK [.tuple xs, .tuple ys] e = .ok (zipD xs ys) e := rfl
theorem zipD_map {α β : Type} (f : α → PD) (g : β → PD) : ∀ (l : List α) (m : List β), zipD (l.map f) (m.map g) = (l.zip m).map fun p => .tuple [f p.1, g p.2]
  | [], _ => rfl
  | a :: l, [] => rfl
  | a :: l, b :: m => by
    show PyData.tuple [f a, g b] :: zipD (l.map f) (m.map g) = _
    rw [zipD_map f g l m]; rfl
end DL
/-! The reckoning of what came later: three names at once, rows in order. -/
namespace DL
open PySem PySem.Spec PyProof.Rows L2
def par3K (i j l : Nat) (e : DL.Env) : Option Cell → Option Cell → Option Cell → Ps
  | some ca, some cb, some cc => .nx (((e.set i (some ca)).set j (some cb)).set l (some cc))
  | _, _, _ => .no
def par3L (i j l : Nat) (e : DL.Env) : List Val → Ps
  | [a, b, c] => par3K i j l e (cellE e a) (cellE e b) (cellE e c)
  | _ => .no
def jP3 (i j l : Nat) : List Val → DL.Env → Ps := fun vs e => par3L i j l e vs
theorem v_Par3 (i j l : Nat) (ps : PAV) (env : DL.Env) : psPar3 i j l ps env = (ps env).st (jP3 i j l) := by
  unfold psPar3
  refine congrArg (fun k => (ps env).st k) (funext fun vs => funext fun e => ?_)
  show _ = par3L i j l e vs
  unfold par3L
  match vs with
  | [a, b, c] =>
    dsimp only
    unfold par3K
    cases cellE e a <;> cases cellE e b <;> cases cellE e c <;> rfl
  | [] => rfl
  | [_] => rfl
  | [_, _] => rfl
  | _ :: _ :: _ :: _ :: _ => rfl
theorem v_P3 (i j l : Nat) (vs : List Val) (e : DL.Env) : jP3 i j l vs e = par3L i j l e vs := rfl
theorem v_P3l (i j l : Nat) (a b c : Val) (e : DL.Env) : par3L i j l e [a, b, c] = par3K i j l e (cellE e a) (cellE e b) (cellE e c) := rfl
theorem v_P3k (i j l : Nat) (a b c : Cell) (e : DL.Env) : par3K i j l e (some a) (some b) (some c) = .nx (((e.set i (some a)).set j (some b)).set l (some c)) := rfl
theorem v_ced (x : PD) (e : DL.Env) : cellE e (.d x) = some (.d x) := rfl
theorem v_cet (ds : List PD) (e : DL.Env) : cellE e (.t ds) = some (.l true ds) := rfl
def ceK : Option (Option Cell) → Option Cell
  | some (some (.d x)) => some (.d x)
  | _ => none
theorem v_cev (i : Nat) (e : DL.Env) : cellE e (.v i) = ceK e[i]? := by
  show (match e[i]? with | some (some (.d x)) => some (Cell.d x) | _ => none) = _
  unfold ceK
  match e[i]? with
  | some (some (.d x)) => rfl
  | some (some (.l _ _)) => rfl
  | some none => rfl
  | none => rfl
theorem v_cek (x : PD) : ceK (some (some (.d x))) = some (.d x) := rfl
/-! rows of texts as lists of signs -/
theorem textsOf_list {zs : List Str} : textsOf (.list (zs.map .str)) = some zs := sOf_map zs
theorem textsOf_tup {zs : List Str} : textsOf (.tuple (zs.map .str)) = some zs := sOf_map zs
theorem textsOf_ofL (l : List Nat) : textsOf (.str (ofL l)) = some (l.map fun c => ofL [c]) := by
  show some (l.toArray.toList.map fun c => (⟨#[c]⟩ : Str)) = _
  rfl
end DL
/-! Equality of data: what it asks, what it answers. -/
namespace DL
open PySem PySem.Spec PyProof.Rows L2
/-- data that can be compared, no deeper than n -/
def Gd (n : Nat) (d : PD) : Prop := noDict d = true ∧ d.canLay0 = true ∧ d.depth ≤ n
theorem gd_none (n : Nat) : Gd n .none := ⟨rfl, rfl, Nat.zero_le _⟩
theorem gd_bool (n : Nat) (b : Bool) : Gd n (.bool b) := ⟨rfl, rfl, Nat.zero_le _⟩
theorem gd_int (n : Nat) (i : Int) : Gd n (.int i) := ⟨rfl, rfl, Nat.zero_le _⟩
theorem gd_str (n : Nat) {l : List Nat} (h : Pl l) : Gd n (.str (ofL l)) := ⟨rfl, ofL_ok h, Nat.zero_le _⟩
theorem gd_all (n : Nat) : ∀ (ds : List PD), (∀ d ∈ ds, Gd n d) → noDicts ds = true ∧ PyData.canLayAll0 ds = true ∧ PyData.depthAll ds ≤ n
  | [], _ => ⟨rfl, rfl, Nat.zero_le _⟩
  | d :: r, h => by
    obtain ⟨a1, a2, a3⟩ := h d (List.mem_cons_self ..)
    obtain ⟨b1, b2, b3⟩ := gd_all n r fun x hx => h x (List.mem_cons_of_mem _ hx)
    refine ⟨?_, ?_, ?_⟩
    · show (noDict d && noDicts r) = true
      rw [a1, b1]; rfl
    · show (d.canLay0 && PyData.canLayAll0 r) = true
      rw [a2, b2]; rfl
    · show max d.depth (PyData.depthAll r) ≤ n
      omega
theorem gd_list {n : Nat} {ds : List PD} (h : ∀ d ∈ ds, Gd n d) : Gd (n + 1) (.list ds) := by
  obtain ⟨a, b, c⟩ := gd_all n ds h
  exact ⟨a, b, Nat.succ_le_succ c⟩
theorem gd_tup {n : Nat} {ds : List PD} (h : ∀ d ∈ ds, Gd n d) : Gd (n + 1) (.tuple ds) := by
  obtain ⟨a, b, c⟩ := gd_all n ds h
  exact ⟨a, b, Nat.succ_le_succ c⟩
theorem Gd.up {n m : Nat} {d : PD} (h : Gd n d) (hm : n ≤ m) : Gd m d := ⟨h.1, h.2.1, Nat.le_trans h.2.2 hm⟩
theorem gd_nil (n : Nat) : ∀ d ∈ ([] : List PD), Gd n d := fun d h => by cases h
theorem gd_cons {n : Nat} {d : PD} {ds : List PD} (h : Gd n d) (t : ∀ d ∈ ds, Gd n d) : ∀ x ∈ d :: ds, Gd n x := fun x hx => by
  rcases List.mem_cons.mp hx with rfl | hx
  · exact h
  · exact t x hx
theorem gd_map {α : Type} {n : Nat} {f : α → PD} {l : List α} (h : ∀ a ∈ l, Gd n (f a)) : ∀ d ∈ l.map f, Gd n d := fun d hd => by
  obtain ⟨a, ha, rfl⟩ := List.mem_map.mp hd
  exact h a ha
theorem gd_app {n : Nat} {ds es : List PD} (h : ∀ d ∈ ds, Gd n d) (k : ∀ d ∈ es, Gd n d) : ∀ d ∈ ds ++ es, Gd n d := fun d hd => (List.mem_append.mp hd).elim (h d) (k d)
noncomputable instance decPD : DecidableEq PD := fun a b => Classical.propDecidable (a = b)
mutual
/-- flags as numbers -/
def cv : PD → PD
  | .bool b => .int (if b then 1 else 0)
  | .list ds => .list (cvs ds)
  | .tuple ds => .tuple (cvs ds)
  | .none => .none
  | .int i => .int i
  | .str x => .str x
  | .dict k => .dict k
def cvs : List PD → List PD
  | [] => []
  | d :: r => cv d :: cvs r
end
theorem bint (a b : Bool) : (a == b) = decide ((if a then (1 : Int) else 0) = if b then 1 else 0) := by cases a <;> cases b <;> rfl
mutual
theorem eqv_cv : ∀ (d e : PD), noDict d = true → PyData.eqv d e = decide (cv d = cv e)
  | .none, e, _ => by cases e <;> simp [PyData.eqv, cv]
  | .bool a, e, _ => by
    cases e <;> simp only [PyData.eqv, cv, reduceCtorEq, decide_false, PyData.int.injEq]
    · exact bint a _
    · rfl
  | .int i, e, _ => by
    cases e <;> simp only [PyData.eqv, cv, reduceCtorEq, decide_false, PyData.int.injEq] <;> rfl
  | .str x, e, _ => by
    cases e <;> simp only [PyData.eqv, cv, reduceCtorEq, decide_false, PyData.str.injEq] <;> rfl
  | .list xs, e, h => by
    cases e <;> simp only [PyData.eqv, cv, reduceCtorEq, decide_false, PyData.list.injEq]
    exact eqvs_cv xs _ h
  | .tuple xs, e, h => by
    cases e <;> simp only [PyData.eqv, cv, reduceCtorEq, decide_false, PyData.tuple.injEq]
    exact eqvs_cv xs _ h
theorem eqvs_cv : ∀ (ds es : List PD), noDicts ds = true → PyData.eqvAll ds es = decide (cvs ds = cvs es)
  | [], [], _ => by simp [PyData.eqvAll]
  | [], _ :: _, _ => by simp [PyData.eqvAll, cvs]
  | _ :: _, [], _ => by simp [PyData.eqvAll, cvs]
  | d :: ds, e :: es, h => by
    have h' : (noDict d && noDicts ds) = true := h
    rw [Bool.and_eq_true] at h'
    simp only [PyData.eqvAll, cvs, List.cons.injEq]
    rw [eqv_cv d e h'.1, eqvs_cv ds es h'.2, Bool.decide_and]
end
theorem gd_eq {n m : Nat} {d e : PD} (hd : Gd n d) (he : Gd m e) (hn : n ≤ 64) (hm : m ≤ 64) : (noDict d && noDict e && SeqAt.shaped d && SeqAt.shaped e) = true := by
  have s1 : SeqAt.shaped d = true := by
    show (d.canLay0 && decide (d.depth ≤ 64)) = true
    rw [hd.2.1, decide_eq_true (Nat.le_trans hd.2.2 hn)]; rfl
  have s2 : SeqAt.shaped e = true := by
    show (e.canLay0 && decide (e.depth ≤ 64)) = true
    rw [he.2.1, decide_eq_true (Nat.le_trans he.2.2 hm)]; rfl
  rw [hd.1, he.1, s1, s2]; rfl
/-- two data compared -/
theorem q_eqG {n m : Nat} {d e : PD} (hd : Gd n d) (he : Gd m e) (hn : n ≤ 64) (hm : m ≤ 64) : gEq d e = some (.val (.bool (decide (cv d = cv e)))) := by
  show (if _ = true then some (Out.val (.bool (PyData.eqv d e))) else none) = _
  rw [if_pos (gd_eq hd he hn hm), eqv_cv d e hd.1]
theorem q_neG {n m : Nat} {d e : PD} (hd : Gd n d) (he : Gd m e) (hn : n ≤ 64) (hm : m ≤ 64) : gNe d e = some (.val (.bool (!decide (cv d = cv e)))) := by
  show (if _ = true then some (Out.val (.bool (!PyData.eqv d e))) else none) = _
  rw [if_pos (gd_eq hd he hn hm), eqv_cv d e hd.1]
theorem q_eqT {n : Nat} {d : PD} (hd : Gd n d) (hn : n ≤ 64) : gEq d d = some (.val (.bool true)) := by
  rw [q_eqG hd hd hn hn]; simp
theorem q_neF {n : Nat} {d : PD} (hd : Gd n d) (hn : n ≤ 64) : gNe d d = some (.val (.bool false)) := by
  rw [q_neG hd hd hn hn]; simp
/-- data without flags: cv leaves them -/
theorem cvs_map {α : Type} {f g : α → PD} : ∀ {l : List α}, (∀ a ∈ l, cv (f a) = g a) → cvs (l.map f) = l.map g
  | [], _ => rfl
  | a :: l, h => by
    show cv (f a) :: cvs (l.map f) = g a :: l.map g
    rw [h a (List.mem_cons_self ..), cvs_map fun b hb => h b (List.mem_cons_of_mem _ hb)]
theorem cvs_app (xs ys : List PD) : cvs (xs ++ ys) = cvs xs ++ cvs ys := by
  induction xs with
  | nil => rfl
  | cons x r ih => show cv x :: cvs (r ++ ys) = _; rw [ih]; rfl
theorem cvs_eq (xs : List PD) : cvs xs = xs.map cv := by
  induction xs with
  | nil => rfl
  | cons x r ih => show cv x :: cvs r = _; rw [ih]; rfl
theorem map_inj {α β : Type} {f : α → β} : ∀ {l m : List α}, (∀ a ∈ l, ∀ b ∈ m, f a = f b → a = b) → l.map f = m.map f → l = m
  | [], [], _, _ => rfl
  | [], _ :: _, _, h => by cases h
  | _ :: _, [], _, h => by cases h
  | a :: l, b :: m, h, e => by
    rw [List.map_cons, List.map_cons, List.cons.injEq] at e
    rw [h a (List.mem_cons_self ..) b (List.mem_cons_self ..) e.1, map_inj (fun x hx y hy => h x (List.mem_cons_of_mem _ hx) y (List.mem_cons_of_mem _ hy)) e.2]
end DL
/-! The reckoning of comprehensions with two walks. -/
namespace DL
open PySem PySem.Spec PyProof.Rows L2
section
variable (tg : PGV) (tt : PTV) (fi1 : PIV) (tg1 : PGV) (tt1 : PTV) (te : PEV) (L L1 : List Nat) (d : PD) (r acc : List PD) (env e : DL.Env) (fi : PIV)
def jCt : List PD → DL.Env → Pr Val := fun ds e2 => .ok (.t ds) e2
def jC2 : List PD → DL.Env → Pr Val := fun items e1 => (pcompL2 tg tt fi1 tg1 tt1 te L L1 items [] e1).bind jCt
theorem v_Comp2 : pComp2 fi tg tt fi1 tg1 tt1 te L L1 env = (fi env).bind (jC2 tg tt fi1 tg1 tt1 te L L1) := rfl
theorem v_C2 (items : List PD) : jC2 tg tt fi1 tg1 tt1 te L L1 items e = (pcompL2 tg tt fi1 tg1 tt1 te L L1 items [] e).bind jCt := rfl
theorem v_Ct (ds : List PD) : jCt ds e = .ok (.t ds) e := rfl
/-- one pass of the outer walk: what is put in -/
def p2d (acc' : List PD) (e4 : DL.Env) : Pr (List PD) := .ok acc' (restE env L e4)
def p2c (its : List PD) (e3 : DL.Env) : Pr (List PD) := (pcompL tg1 tt1 te L1 its acc e3).noer.bind (p2d L env)
def p2b (b : Bool) (e2 : DL.Env) : Pr (List PD) := if b = true then (fi1 e2).noer.bind (p2c tg1 tt1 te L L1 acc env) else .ok acc (restE env L e2)
def p2a : Option DL.Env → Pr (List PD)
  | none => .no
  | some e1 => (tt e1).noer.bind (p2b fi1 tg1 tt1 te L L1 acc env)
def p2S : Pr (List PD) := p2a tt fi1 tg1 tt1 te L L1 acc env (tg d (wipeE env L))
theorem v_p2S : p2S tg tt fi1 tg1 tt1 te L L1 d acc env = p2a tt fi1 tg1 tt1 te L L1 acc env (tg d (wipeE env L)) := rfl
theorem v_p2a (e1 : DL.Env) : p2a tt fi1 tg1 tt1 te L L1 acc env (some e1) = (tt e1).noer.bind (p2b fi1 tg1 tt1 te L L1 acc env) := rfl
theorem v_p2b (b : Bool) (e2 : DL.Env) : p2b fi1 tg1 tt1 te L L1 acc env b e2 = if b = true then (fi1 e2).noer.bind (p2c tg1 tt1 te L L1 acc env) else .ok acc (restE env L e2) := rfl
theorem v_p2c (its : List PD) (e3 : DL.Env) : p2c tg1 tt1 te L L1 acc env its e3 = (pcompL tg1 tt1 te L1 its acc e3).noer.bind (p2d L env) := rfl
theorem v_p2d (a : List PD) (e4 : DL.Env) : p2d L env a e4 = .ok a (restE env L e4) := rfl
theorem pcomp2_cons : pcompL2 tg tt fi1 tg1 tt1 te L L1 (d :: r) acc env = (p2S tg tt fi1 tg1 tt1 te L L1 d acc env).bind fun a e => pcompL2 tg tt fi1 tg1 tt1 te L L1 r a e := by
  show (match tg d (wipeE env L) with | none => Pr.no | some env1 => (tt env1).noer.bind fun b env2 => if b = true then (fi1 env2).noer.bind fun items env3 => (pcompL tg1 tt1 te L1 items acc env3).noer.bind fun acc' env4 => pcompL2 tg tt fi1 tg1 tt1 te L L1 r acc' (restE env L env4) else pcompL2 tg tt fi1 tg1 tt1 te L L1 r acc (restE env L env2)) = _
  unfold p2S p2a
  cases tg d (wipeE env L) with
  | none => rfl
  | some e1 =>
    dsimp only
    cases (tt e1).noer with
    | no => rfl
    | er x e2 => rfl
    | ok b e2 =>
      show (if b = true then _ else _) = (p2b fi1 tg1 tt1 te L L1 acc env b e2).bind _
      unfold p2b
      split
      · cases (fi1 e2).noer with
        | no => rfl
        | er x e3 => rfl
        | ok its e3 =>
          show ((pcompL tg1 tt1 te L1 its acc e3).noer.bind _) = (p2c tg1 tt1 te L L1 acc env its e3).bind _
          unfold p2c
          cases (pcompL tg1 tt1 te L1 its acc e3).noer <;> rfl
      · rfl
theorem pcomp2_nil : pcompL2 tg tt fi1 tg1 tt1 te L L1 [] acc env = .ok acc env := rfl
variable {tg tt fi1 tg1 tt1 te L L1}
/-- a comprehension with two walks as the words of each pass, one behind another -/
theorem pcomp2_flat {α : Type} (f : α → PD) (g : α → List PD) : ∀ (l : List α) (acc : List PD), (∀ a ∈ l, ∀ acc : List PD, acc.length + (g a).length ≤ 16777216 → p2S tg tt fi1 tg1 tt1 te L L1 (f a) acc env = .ok (acc ++ g a) env) → acc.length + (l.flatMap g).length ≤ 16777216 → pcompL2 tg tt fi1 tg1 tt1 te L L1 (l.map f) acc env = .ok (acc ++ l.flatMap g) env
  | [], acc, h, hn => by rw [List.map_nil, List.flatMap_nil, List.append_nil]; rfl
  | a :: l, acc, h, hn => by
    rw [List.flatMap_cons, List.length_append] at hn
    rw [List.map_cons, pcomp2_cons, h a (List.mem_cons_self ..) acc (by omega)]
    show pcompL2 tg tt fi1 tg1 tt1 te L L1 (l.map f) (acc ++ g a) env = _
    rw [pcomp2_flat f g l (acc ++ g a) (fun b hb => h b (List.mem_cons_of_mem _ hb)) (by rw [List.length_append]; omega), List.flatMap_cons, List.append_assoc]
end
end DL
/-! Words, books, rows of texts in order, each once: plain things that many laws speak of. -/
namespace DL
open PySem PySem.Spec PyProof.Rows L2
def tx (l : List Nat) : PD := .str (ofL l)
theorem q_tx (l : List Nat) : tx l = .str (ofL l) := rfl
def bookD (ws : List (List Nat)) : PD := .tuple (ws.map tx)
def Ltr (l : List Nat) : Prop := ∀ c ∈ l, 97 ≤ c ∧ c ≤ 122
def Wd (l : List Nat) : Prop := Ltr l ∧ 1 ≤ l.length ∧ l.length ≤ 12
def Bk (ws : List (List Nat)) : Prop := (∀ w ∈ ws, Wd w) ∧ ws.Pairwise (fun a b => a < b) ∧ ws.length ≤ 60
instance (l : List Nat) : Decidable (Ltr l) := inferInstanceAs (Decidable (∀ c ∈ l, 97 ≤ c ∧ c ≤ 122))
instance (l : List Nat) : Decidable (Wd l) := inferInstanceAs (Decidable (Ltr l ∧ 1 ≤ l.length ∧ l.length ≤ 12))
instance (ws : List (List Nat)) : Decidable (Bk ws) := inferInstanceAs (Decidable ((∀ w ∈ ws, Wd w) ∧ ws.Pairwise (fun a b => a < b) ∧ ws.length ≤ 60))
theorem Ltr.pl {l : List Nat} (h : Ltr l) : Pl l := fun c hc => by have := h c hc; omega
theorem Ltr.take {l : List Nat} (h : Ltr l) (n : Nat) : Ltr (l.take n) := fun c hc => h c (List.mem_of_mem_take hc)
theorem Ltr.drop {l : List Nat} (h : Ltr l) (n : Nat) : Ltr (l.drop n) := fun c hc => h c (List.mem_of_mem_drop hc)
theorem Ltr.app {l m : List Nat} (h : Ltr l) (k : Ltr m) : Ltr (l ++ m) := fun c hc => (List.mem_append.mp hc).elim (h c) (k c)
theorem Wd.pl {l : List Nat} (h : Wd l) : Pl l := h.1.pl
theorem Pl.take {l : List Nat} (h : Pl l) (n : Nat) : Pl (l.take n) := fun c hc => h c (List.mem_of_mem_take hc)
theorem Pl.drop {l : List Nat} (h : Pl l) (n : Nat) : Pl (l.drop n) := fun c hc => h c (List.mem_of_mem_drop hc)
theorem Pl.one {c : Nat} (h : c < 1114112) : Pl [c] := fun d hd => by rw [List.mem_singleton.mp hd]; exact h
theorem Bk.nodup {ws : List (List Nat)} (h : Bk ws) : ws.Nodup := h.2.1.imp fun hab e => by rw [e] at hab; exact absurd hab (List.lt_irrefl _)
theorem Bk.sub {ws vs : List (List Nat)} (h : Bk ws) (s : vs.Sublist ws) : Bk vs := ⟨fun w hw => h.1 w (s.subset hw), h.2.1.sublist s, Nat.le_trans s.length_le h.2.2⟩
theorem gd_tx {l : List Nat} (h : Ltr l) (n : Nat) : Gd n (tx l) := gd_str n h.pl
theorem gd_txP {l : List Nat} (h : Pl l) (n : Nat) : Gd n (tx l) := gd_str n h
theorem gd_row {ws : List (List Nat)} (h : ∀ w ∈ ws, Pl w) : Gd 1 (bookD ws) := gd_tup (gd_map fun w hm => gd_txP (h w hm) 0)
theorem gd_rowL {ws : List (List Nat)} (h : ∀ w ∈ ws, Pl w) : Gd 1 (.list (ws.map tx)) := gd_list (gd_map fun w hm => gd_txP (h w hm) 0)
theorem gd_bookD {ws : List (List Nat)} (h : ∀ w ∈ ws, Wd w) : Gd 1 (bookD ws) := gd_row fun w hw => (h w hw).pl
theorem q_itB (ws : List (List Nat)) : itemsOf (bookD ws) = some (ws.map tx) := rfl
theorem q_lenB (ws : List (List Nat)) : cLen [bookD ws] = some (.val (.int ((ws.length : Nat) : Int))) := by
  show some (Out.val (.int (((ws.map tx).length : Nat) : Int))) = _
  rw [List.length_map]
theorem q_tup (ds : List PD) : cTup [.list ds] = some (.val (.tuple ds)) := rfl
theorem q_tupB (ws : List (List Nat)) : cTup [.list (ws.map tx)] = some (.val (bookD ws)) := rfl
theorem gSl_to {ws : List (List Nat)} (i : Nat) : gSl (bookD ws) none (some (i : Int)) = some (.val (bookD (ws.take i))) := by
  show some (Out.val (PyData.tuple (cutL (ws.map tx) none (some (i : Int))))) = _
  rw [cutL_map, cutL_to]; rfl
theorem gSl_from {ws : List (List Nat)} (i : Nat) : gSl (bookD ws) (some (i : Int)) none = some (.val (bookD (ws.drop i))) := by
  show some (Out.val (PyData.tuple (cutL (ws.map tx) (some (i : Int)) none))) = _
  rw [cutL_map, cutL_from]; rfl
theorem gAdd_book {ws vs : List (List Nat)} (h : ws.length + vs.length ≤ 16777216) : gAdd (bookD ws) (bookD vs) = some (.val (bookD (ws ++ vs))) := by
  have := q_addT (ds := ws.map tx) (es := vs.map tx) (by rw [List.length_map, List.length_map]; exact h)
  rw [← List.map_append] at this
  exact this
theorem cat_ok {l m : List Nat} (h : l.length + m.length ≤ 16777216) : gAdd (tx l) (tx m) = some (.val (tx (l ++ m))) := q_addS h
theorem tx_inj {l m : List Nat} (h : tx l = tx m) : l = m := by
  injection h with h
  have := congrArg (fun s : Str => s.cps.toList) h
  simpa [ofL] using this
theorem cv_tx (l : List Nat) : cv (tx l) = tx l := by unfold tx cv; rfl
theorem cvs_tx (ws : List (List Nat)) : cvs (ws.map tx) = ws.map tx := cvs_map fun a _ => cv_tx a
/-- two rows of texts compared -/
theorem q_eqBk {ws vs : List (List Nat)} (h : ∀ w ∈ ws, Pl w) (k : ∀ w ∈ vs, Pl w) : gEq (bookD ws) (bookD vs) = some (.val (.bool (decide (ws = vs)))) := by
  rw [q_eqG (gd_row h) (gd_row k) (by decide) (by decide)]
  congr 3
  refine decide_eq_decide.mpr ⟨fun e => ?_, fun e => by rw [e]⟩
  unfold bookD cv at e
  injection e with e
  rw [cvs_tx, cvs_tx] at e
  exact map_inj (fun a _ b _ e => tx_inj e) e
theorem q_neBk {ws vs : List (List Nat)} (h : ∀ w ∈ ws, Pl w) (k : ∀ w ∈ vs, Pl w) : gNe (bookD ws) (bookD vs) = some (.val (.bool (!decide (ws = vs)))) := by
  have e := q_eqBk h k
  have e2 : gNe (bookD ws) (bookD vs) = some (.val (.bool (!decide (cv (bookD ws) = cv (bookD vs))))) := q_neG (gd_row h) (gd_row k) (by decide) (by decide)
  rw [q_eqG (gd_row h) (gd_row k) (by decide) (by decide)] at e
  injection e with e
  injection e with e
  injection e with e
  rw [e2, e]
theorem zip_self {α : Type} (f g : α → PD) : ∀ l : List α, zipD (l.map f) (l.map g) = l.map fun a => .tuple [f a, g a]
  | [] => rfl
  | a :: l => by
    show PyData.tuple [f a, g a] :: zipD (l.map f) (l.map g) = _
    rw [zip_self f g l]; rfl
theorem range1_eq {n : Nat} {i : Int} (h : i = (n : Int)) : rangeL 0 i.toNat = (List.range' 0 n).map fun (i : Nat) => .int (0 + i) := by
  rw [h, Int.toNat_natCast, ← List.range_eq_range']; rfl
theorem rangeN_eq {n : Nat} {i : Int} (h : i = (n : Int)) : rangeL 0 i.toNat = (List.range n).map fun (i : Nat) => .int (0 + i) := by
  rw [h, Int.toNat_natCast]; rfl
theorem cutL_mto {α : Type} (l : List α) : cutL l none (some (-1)) = l.take (l.length - 1) := by
  unfold cutL HT.sIx
  simp only
  rw [if_pos (by decide), List.drop_zero, Nat.sub_zero]
  have e : (-1 + (l.length : Int)).toNat = l.length - 1 := by omega
  rw [e]
theorem adj_true {α : Type} {r : α → α → Prop} [DecidableRel r] : ∀ {l : List α}, l.Pairwise r → ((l.zip (l.drop 1)).all fun p => decide (r p.1 p.2)) = true
  | [], _ => rfl
  | [_], _ => rfl
  | x :: y :: l, h => by
    obtain ⟨h1, h2⟩ := List.pairwise_cons.mp h
    have ih := adj_true h2
    show (decide (r x y) && (((y :: l).zip ((y :: l).drop 1)).all fun p => decide (r p.1 p.2))) = true
    rw [ih, decide_eq_true (h1 y (List.mem_cons_self ..))]; rfl
theorem flat_one (cs : List Nat) : (cs.map fun c => [c]).flatten = cs := by
  induction cs with
  | nil => rfl
  | cons c r ih => rw [List.map_cons, List.flatten_cons, ih]; rfl
theorem al2_true {α : Type} : ∀ {l : List α} {xs : List PD}, Al2 (fun _ x => x = .bool true) l xs → xs = (List.replicate l.length true).map .bool
  | _, _, .nil => rfl
  | _, _, .cons h t => by rw [h, al2_true t]; rfl
theorem al2_map {α β : Type} (f : β → PD) {P : α → β → Prop} : ∀ {l : List α} {xs : List PD}, Al2 (fun a x => ∃ b, x = f b ∧ P a b) l xs → ∃ bs : List β, xs = bs.map f ∧ bs.length = l.length ∧ ∀ b ∈ bs, ∃ a ∈ l, P a b
  | _, _, .nil => ⟨[], rfl, rfl, fun b hb => by cases hb⟩
  | _, _, .cons (a := a) ⟨b, e, h⟩ t => by
    obtain ⟨bs, e2, e3, e4⟩ := al2_map f t
    refine ⟨b :: bs, by rw [e, e2]; rfl, by rw [List.length_cons, List.length_cons, e3], fun c hc => ?_⟩
    rcases List.mem_cons.mp hc with rfl | hc
    · exact ⟨a, List.mem_cons_self .., h⟩
    · obtain ⟨a', h1, h2⟩ := e4 c hc
      exact ⟨a', List.mem_cons_of_mem _ h1, h2⟩
/-! ### each once, ascending -/
theorem ofL_cps (x : Str) : ofL x.cps.toList = x := by unfold ofL; simp
theorem cps_ofL (l : List Nat) : (ofL l).cps.toList = l := by unfold ofL; simp
theorem unmap (l : List Str) : l = (l.map fun x => x.cps.toList).map ofL := by
  rw [List.map_map]
  conv => lhs; rw [← List.map_id l]
  exact List.map_congr_left fun x _ => (ofL_cps x).symm
theorem asc_of : ∀ {zs : List Str}, zs.Pairwise (fun a b => leX a b = true) → zs.Nodup → (zs.map fun x => x.cps.toList).Pairwise (fun a b => a < b)
  | [], _, _ => List.Pairwise.nil
  | x :: r, hp, hn => by
    obtain ⟨h1, h2⟩ := List.pairwise_cons.mp hp
    obtain ⟨n1, n2⟩ := List.nodup_cons.mp hn
    rw [List.map_cons]
    refine List.pairwise_cons.mpr ⟨fun y hy => ?_, asc_of h2 n2⟩
    obtain ⟨z, hz, rfl⟩ := List.mem_map.mp hy
    have q := (leX_iff x z).mp (h1 z hz)
    by_cases hlt : x.cps.toList < z.cps.toList
    · exact hlt
    · have e := List.le_antisymm (List.not_lt.mp q) (List.not_lt.mp hlt)
      have e2 : x = z := by rw [← ofL_cps x, e, ofL_cps]
      rw [e2] at n1
      exact absurd hz n1
/-- the texts of a row, each once, ascending -/
def ss (l : List (List Nat)) : List (List Nat) := (sortX (onceX (l.map ofL))).map fun x => x.cps.toList
theorem ss_of (l : List (List Nat)) : sortX (onceX (l.map ofL)) = (ss l).map ofL := unmap _
theorem mem_ss {l : List (List Nat)} {w : List Nat} : w ∈ ss l ↔ w ∈ l := by
  have hp := sortX_perm (onceX (l.map ofL))
  constructor
  · intro h
    obtain ⟨x, hx, e⟩ := List.mem_map.mp h
    obtain ⟨v, hv, e2⟩ := List.mem_map.mp (mem_once.mp (hp.mem_iff.mp hx))
    rw [← e, ← e2, cps_ofL]; exact hv
  · intro h
    refine List.mem_map.mpr ⟨ofL w, hp.mem_iff.mpr (mem_once.mpr (List.mem_map.mpr ⟨w, h, rfl⟩)), cps_ofL w⟩
theorem ss_asc (l : List (List Nat)) : (ss l).Pairwise (fun a b => a < b) := asc_of (sortX_pw _) ((sortX_perm _).nodup_iff.mpr (once_nodup _))
theorem once_len : ∀ l : List Str, (onceX l).length ≤ l.length := fun l => by
  induction l with
  | nil => exact Nat.le_refl _
  | cons a r ih =>
    unfold onceX
    split <;> simp only [List.length_cons] <;> omega
theorem ss_len (l : List (List Nat)) : (ss l).length ≤ l.length := by
  unfold ss
  rw [List.length_map, (sortX_perm _).length_eq]
  exact Nat.le_trans (once_len _) (by rw [List.length_map]; exact Nat.le_refl _)
/-- ascending rows of the same texts are one -/
theorem asc_ext : ∀ {l m : List (List Nat)}, l.Pairwise (fun a b => a < b) → m.Pairwise (fun a b => a < b) → (∀ w, w ∈ l ↔ w ∈ m) → l = m
  | [], [], _, _, _ => rfl
  | [], b :: m, _, _, h => absurd ((h b).mpr (List.mem_cons_self ..)) (by simp)
  | a :: l, [], _, _, h => absurd ((h a).mp (List.mem_cons_self ..)) (by simp)
  | a :: l, b :: m, hl, hm, h => by
    obtain ⟨l1, l2⟩ := List.pairwise_cons.mp hl
    obtain ⟨m1, m2⟩ := List.pairwise_cons.mp hm
    have e : a = b := by
      rcases List.mem_cons.mp ((h a).mp (List.mem_cons_self ..)) with e | h1
      · exact e
      · rcases List.mem_cons.mp ((h b).mpr (List.mem_cons_self ..)) with e | h2
        · exact e.symm
        · exact absurd (m1 a h1) (List.lt_asymm (l1 b h2))
    subst e
    rw [asc_ext l2 m2 fun w => ?_]
    have hw := h w
    rw [List.mem_cons, List.mem_cons] at hw
    constructor
    · intro hx
      rcases hw.mp (.inr hx) with e | h3
      · subst e; exact absurd (l1 w hx) (List.lt_irrefl _)
      · exact h3
    · intro hx
      rcases hw.mpr (.inr hx) with e | h3
      · subst e; exact absurd (m1 w hx) (List.lt_irrefl _)
      · exact h3
theorem ss_eq {l m : List (List Nat)} (h : m.Pairwise (fun a b => a < b)) (e : ∀ w, w ∈ l ↔ w ∈ m) : ss l = m := asc_ext (ss_asc l) h fun w => mem_ss.trans (e w)
theorem ss_congr {l m : List (List Nat)} (e : ∀ w, w ∈ l ↔ w ∈ m) : ss l = ss m := ss_eq (ss_asc m) fun w => (e w).trans mem_ss.symm
theorem textsOf_tx (ws : List (List Nat)) : textsOf (.list (ws.map tx)) = some (ws.map ofL) := by
  have : ws.map tx = (ws.map ofL).map .str := by rw [List.map_map]; rfl
  rw [this]; exact textsOf_list
theorem textsOf_txT (ws : List (List Nat)) : textsOf (bookD ws) = some (ws.map ofL) := by
  unfold bookD
  have : ws.map tx = (ws.map ofL).map .str := by rw [List.map_map]; rfl
  rw [this]; exact textsOf_tup
theorem q_sset {d : PD} {ws : List (List Nat)} (e : textsOf d = some (ws.map ofL)) (h : ws.length < 4000) : gSortSet d = some (.nls ((ss ws).map tx)) := by
  unfold gSortSet
  rw [e]
  show (if (ws.map ofL).length < 4000 then some (Out.nls ((sortX (onceX (ws.map ofL))).map .str)) else none) = _
  rw [if_pos (by rw [List.length_map]; exact h), ss_of, List.map_map]; rfl
theorem q_ssetL {ws : List (List Nat)} (h : ws.length < 4000) : gSortSet (.list (ws.map tx)) = some (.nls ((ss ws).map tx)) := q_sset (textsOf_tx ws) h
theorem q_ssetT {ws : List (List Nat)} (h : ws.length < 4000) : gSortSet (bookD ws) = some (.nls ((ss ws).map tx)) := q_sset (textsOf_txT ws) h
theorem textsOf_S (l : List Nat) : textsOf (.str (ofL l)) = some ((l.map fun c => [c]).map ofL) := by
  rw [textsOf_ofL, List.map_map]; rfl
theorem q_ssetS {l : List Nat} (h : l.length < 4000) : gSortSet (.str (ofL l)) = some (.nls ((ss (l.map fun c => [c])).map tx)) := q_sset (textsOf_S l) (by rw [List.length_map]; exact h)
theorem q_lset {d : PD} {ws : List (List Nat)} (e : textsOf d = some (ws.map ofL)) (h : ws.length < 4000) : gLenSet d = some (.val (.int (((ss ws).length : Nat) : Int))) := by
  unfold gLenSet
  rw [e]
  show (if (ws.map ofL).length < 4000 then some (Out.val (.int ((onceX (ws.map ofL)).length : Int))) else none) = _
  rw [if_pos (by rw [List.length_map]; exact h)]
  unfold ss
  rw [List.length_map, (sortX_perm _).length_eq]
/-- a drawn row in order, each once: a book -/
theorem ss_book {ws : List (List Nat)} (h : ∀ w ∈ ws, Wd w) (hn : ws.length ≤ 60) : Bk (ss ws) := ⟨fun w hw => h w (mem_ss.mp hw), ss_asc ws, Nat.le_trans (ss_len ws) hn⟩
/-- the letters of a row of single letters -/
theorem ss_ones {l : List (List Nat)} (h : ∀ w ∈ l, ∃ c, w = [c]) : ∃ cs : List Nat, ss l = cs.map (fun c => [c]) ∧ cs.Pairwise (fun a b => a < b) := by
  have hall : ∀ w ∈ ss l, ∃ c, w = [c] := fun w hw => h w (mem_ss.mp hw)
  have hp := ss_asc l
  generalize ss l = m at *
  clear h
  induction m with
  | nil => exact ⟨[], rfl, .nil⟩
  | cons w r ih =>
    obtain ⟨p1, p2⟩ := List.pairwise_cons.mp hp
    obtain ⟨c, rfl⟩ := hall w (List.mem_cons_self ..)
    obtain ⟨cs, e, h2⟩ := ih (fun v hv => hall v (List.mem_cons_of_mem _ hv)) p2
    refine ⟨c :: cs, by rw [e]; rfl, List.pairwise_cons.mpr ⟨fun d hd => ?_, h2⟩⟩
    have := p1 [d] (by rw [e]; exact List.mem_map.mpr ⟨d, hd, rfl⟩)
    rcases List.cons_lt_cons_iff.mp this with h | ⟨_, h⟩
    · exact h
    · exact absurd h (List.lt_irrefl _)
/-! ### sorted -/
def srt (l : List (List Nat)) : List (List Nat) := (sortX (l.map ofL)).map fun x => x.cps.toList
theorem srt_of (l : List (List Nat)) : sortX (l.map ofL) = (srt l).map ofL := unmap _
theorem srt_perm (l : List (List Nat)) : (srt l).Perm l := by
  have h := (sortX_perm (l.map ofL)).map fun x => x.cps.toList
  have e : (l.map ofL).map (fun x => x.cps.toList) = l := by
    rw [List.map_map]
    conv => rhs; rw [← List.map_id l]
    exact List.map_congr_left fun x _ => cps_ofL x
  rw [e] at h
  exact h
/-- an ascending row without twins is its own sorting -/
theorem srt_eq {l m : List (List Nat)} (h : m.Pairwise (fun a b => a < b)) (p : l.Perm m) : srt l = m := by
  refine asc_ext (asc_of (sortX_pw _) ?_) h fun w => ((srt_perm l).trans p).mem_iff
  have hn : m.Nodup := h.imp fun hab e => by rw [e] at hab; exact absurd hab (List.lt_irrefl _)
  have h1 : (l.map ofL).Nodup := by
    have hl := p.nodup_iff.mpr hn
    exact List.Pairwise.map ofL (fun a b hab e => hab (by rw [← cps_ofL a, e, cps_ofL])) hl
  exact (sortX_perm _).nodup_iff.mpr h1
theorem intsOf_tx {w : List Nat} {ws : List (List Nat)} : intsOf (((w :: ws).map tx)) = none := rfl
theorem q_srt {ws : List (List Nat)} (h : ws.length ≤ 16777216) : cSorted [.list (ws.map tx)] = some (.nls ((srt ws).map tx)) := by
  cases ws with
  | nil => rfl
  | cons w r =>
    show rowSorted ((w :: r).map tx) = _
    unfold rowSorted
    have e : (w :: r).map tx = ((w :: r).map ofL).map .str := by rw [List.map_map]; rfl
    rw [intsOf_tx]
    rw [e]
    simp only [sOf_map, Option.bind_some]
    rw [if_pos (by rw [List.length_map]; exact h), srt_of, List.map_map]; rfl
/-! ### in, extend -/
theorem inV_map {α : Type} (f : α → V) (x : V) (p : α → Bool) (l : List α) (h : ∀ a ∈ l, eqV (f a) x = p a) : inV x (l.map f) = l.any p := by
  unfold inV
  rw [List.any_map]
  induction l with
  | nil => rfl
  | cons a l ih =>
    rw [List.any_cons, List.any_cons, ih fun b hb => h b (List.mem_cons_of_mem _ hb)]
    congr 1
    exact h a (List.mem_cons_self ..)
theorem ofL_beq (l m : List Nat) : (ofL l == ofL m) = decide (l = m) := by
  by_cases e : l = m
  · subst e; simp
  · have : ofL l ≠ ofL m := fun h => e (by have := congrArg (fun s : Str => s.cps.toList) h; simpa [ofL] using this)
    rw [decide_eq_false e]
    exact beq_false_of_ne this
theorem inD_tx (t : List Nat) (ws : List (List Nat)) : inD (tx t) (ws.map tx) = some (decide (t ∈ ws)) := by
  unfold inD
  rw [if_pos]
  · congr 1
    have e : (ws.map tx).map toV = ws.map fun w => V.str (ofL w) := by rw [List.map_map]; rfl
    rw [e, inV_map (fun w => V.str (ofL w)) (toV (tx t)) (fun w => decide (w = t)) ws fun w _ => ofL_beq w t]
    rw [Bool.eq_iff_iff, List.any_eq_true, decide_eq_true_eq]
    exact ⟨fun ⟨x, h1, h2⟩ => by rw [decide_eq_true_eq] at h2; rw [← h2]; exact h1, fun h => ⟨t, h, by simp⟩⟩
  · rw [Bool.and_eq_true]
    refine ⟨rfl, ?_⟩
    rw [List.all_map, List.all_eq_true]
    intro w _; rfl
theorem q_inB (t : List Nat) (ws : List (List Nat)) : gIn (.str (ofL t)) (bookD ws) = some (.val (.bool (decide (t ∈ ws)))) := by
  show (inD (tx t) (ws.map tx)).map _ = _
  rw [inD_tx]; rfl
theorem q_ninB (t : List Nat) (ws : List (List Nat)) : gNin (.str (ofL t)) (bookD ws) = some (.val (.bool (!decide (t ∈ ws)))) := by
  show (inD (tx t) (ws.map tx)).map _ = _
  rw [inD_tx]; rfl
theorem q_inLt (t : List Nat) (ws : List (List Nat)) : gIn (.str (ofL t)) (.list (ws.map tx)) = some (.val (.bool (decide (t ∈ ws)))) := by
  show (inD (tx t) (ws.map tx)).map _ = _
  rw [inD_tx]; rfl
theorem q_ninLt (t : List Nat) (ws : List (List Nat)) : gNin (.str (ofL t)) (.list (ws.map tx)) = some (.val (.bool (!decide (t ∈ ws)))) := by
  show (inD (tx t) (ws.map tx)).map _ = _
  rw [inD_tx]; rfl
theorem q_ext {ds es : List PD} (h : ds.length + es.length ≤ 16777216) : uExtend ds [.list es] = some (.none, ds ++ es) := if_pos h
theorem nodup_len {α : Type} [DecidableEq α] : ∀ {l m : List α}, l.Nodup → (∀ x ∈ l, x ∈ m) → l.length ≤ m.length
  | [], _, _, _ => Nat.zero_le _
  | a :: l, m, h, hm => by
    obtain ⟨h1, h2⟩ := List.nodup_cons.mp h
    have ha := hm a (List.mem_cons_self ..)
    have := nodup_len (m := m.erase a) h2 fun x hx => (List.mem_erase_of_ne (fun e => h1 (by rw [← e]; exact hx))).mpr (hm x (List.mem_cons_of_mem _ hx))
    rw [List.length_erase_of_mem ha] at this
    have hp : 0 < m.length := List.length_pos_of_mem ha
    rw [List.length_cons]; omega
theorem ss_mono {l m : List (List Nat)} (h : ∀ x ∈ l, x ∈ m) : (ss l).length ≤ (ss m).length := nodup_len ((ss_asc l).imp fun hab e => by rw [e] at hab; exact absurd hab (List.lt_irrefl _)) fun x hx => mem_ss.mpr (h x (mem_ss.mp hx))
theorem ss_nodup (l : List (List Nat)) : (ss l).Nodup := (ss_asc l).imp fun hab e => by rw [e] at hab; exact absurd hab (List.lt_irrefl _)
theorem flat_len {α β : Type} (g : α → List β) (k : Nat) : ∀ (l : List α), (∀ a ∈ l, (g a).length ≤ k) → (l.flatMap g).length ≤ l.length * k
  | [], _ => Nat.zero_le _
  | a :: l, h => by
    have h1 := h a (List.mem_cons_self ..)
    have h2 := flat_len g k l fun b hb => h b (List.mem_cons_of_mem _ hb)
    rw [List.flatMap_cons, List.length_append, List.length_cons, Nat.succ_mul]; omega
theorem q_join1 {cs : List (List Nat)} (h : cs.flatten.length ≤ 16777216) : mJoin (.str (ofL [])) [.list (cs.map tx)] = some (.val (.str (ofL cs.flatten))) := by
  have := q_join0 cs (fun c => c) (by rw [List.map_id']; exact h)
  rw [List.map_id'] at this
  exact this
end DL
namespace DL
def PV0 := And.intro @k_bind_ok (And.intro @k_bind_er (And.intro @k_bind_ite (And.intro @k_st_ok (And.intro @k_st_er (And.intro @k_st_ite (And.intro @k_seq_nx (And.intro @k_seq_rt (And.intro @k_seq_bk (And.intro @k_seq_ct (And.intro @k_seq_er (And.intro @k_seq_ite (And.intro @u_C (And.intro @u_V (And.intro @u_vd (@u_vl)))))))))))))))
def PV1 := And.intro @u_lkd (And.intro @u_lkt (And.intro @u_lkv (And.intro @u_lkC (And.intro @u_pdd (And.intro @u_pdl (And.intro @u_lks0 (And.intro @u_lks1 (And.intro @u_lc (And.intro @u_f2 (And.intro @u_f1 (And.intro @u_N (And.intro @u_fC (And.intro @u_pfv (And.intro @u_pfn (@u_pfi)))))))))))))))
def PV2 := And.intro @u_zd (And.intro @u_zt (And.intro @u_zv (And.intro @u_zkd (And.intro @u_zkl (And.intro @u_zs0 (And.intro @u_bo (And.intro @u_tk (And.intro @u_ak (And.intro @u_ok (And.intro @u_nk (And.intro @u_c1 (And.intro @u_o0 (And.intro @u_oi (And.intro @u_fS (@u_rv)))))))))))))))
def PV3 := And.intro @u_fM (And.intro @u_m0 (And.intro @u_mf (And.intro @u_mfl (And.intro @u_mf2 (And.intro @u_mfi (And.intro @u_MutW (And.intro @u_Mut0 (And.intro @u_it (And.intro @u_r1 (And.intro @u_r2 (And.intro @u_iv0 (And.intro @u_iv1 (And.intro @u_ic (And.intro @u_zM0 (@u_cf)))))))))))))))
def PV4 := And.intro @u_cfs (And.intro @u_pc0 (And.intro @u_pcd (And.intro @u_pcs (And.intro @u_pck (And.intro @u_cc (And.intro @u_sl0 (And.intro @u_sld (And.intro @u_sls (And.intro @u_qd (And.intro @u_ql (And.intro @u_qe (And.intro @u_pb0 (And.intro @u_pb1 (And.intro @u_pbk (@u_lo)))))))))))))))
def PV5 := And.intro @u_le (And.intro @u_hv (And.intro @u_Seq (And.intro @u_Next (And.intro @u_sd (And.intro @u_st (And.intro @u_sv (And.intro @u_skd (And.intro @u_skl (And.intro @u_rtk (And.intro @u_rcd (And.intro @u_rct (And.intro @u_rcv (And.intro @u_rkd (And.intro @u_rkl (@u_RetN)))))))))))))))
def PV6 := And.intro @u_Brk (And.intro @u_Cnt (And.intro @u_Raise (And.intro @u_pk (And.intro @u_pk1 (And.intro @u_pk2 (And.intro @u_td (And.intro @u_tt (And.intro @u_tv (And.intro @u_tkd (And.intro @u_tkl (And.intro @u_Aug (And.intro @u_as (And.intro @u_nxk (And.intro @u_gN (@u_gT)))))))))))))))
def PV7 := And.intro @u_g0 (And.intro @u_gC (And.intro @u_s2 (And.intro @u_s3 (And.intro @u_run (And.intro @u_endn (And.intro @u_endr (And.intro @u_ende (And.intro @u_endi (And.intro @u_pms (And.intro @u_ld0 (And.intro @u_ld1 (And.intro @u_ldk (And.intro @u_dc (And.intro @u_ix0 (@u_ixd)))))))))))))))
def PV8 := And.intro @u_ixl (And.intro @u_pad (And.intro @u_lCd (And.intro @u_lCl (And.intro @v_2 (And.intro @v_2a (And.intro @v_2b (And.intro @v_1 (And.intro @v_1a (And.intro @v_Cons (And.intro @v_Ca (And.intro @v_Cb (And.intro @v_Call (And.intro @v_Cl (And.intro @v_zs1 (@v_za)))))))))))))))
def PV9 := And.intro @v_zb (And.intro @v_Tup (And.intro @v_Ta (And.intro @v_Tb (And.intro @v_Lst (And.intro @v_La (And.intro @v_Lb (And.intro @v_F (And.intro @v_Fa (And.intro @v_Fb (And.intro @v_tOf (And.intro @v_tO (And.intro @v_tAnd (And.intro @v_tA (And.intro @v_tOr (@v_tR)))))))))))))))
def PV10 := And.intro @v_tNot (And.intro @v_tN (And.intro @v_If (And.intro @v_I (And.intro @v_And (And.intro @v_An (And.intro @v_Or (And.intro @v_Orb (And.intro @v_Not (And.intro @v_Nt (And.intro @v_Chain (And.intro @v_Ch1 (And.intro @v_Ch2 (And.intro @v_c2 (And.intro @v_Ch3 (@v_o1)))))))))))))))
def PV11 := And.intro @v_Sl (And.intro @v_S1 (And.intro @v_S2 (And.intro @v_S3 (And.intro @v_RevL (And.intro @v_Rv (And.intro @v_MtT (And.intro @v_M1 (And.intro @v_mk (And.intro @v_M2 (And.intro @v_MtT0 (And.intro @v_M0 (And.intro @v_mwl (And.intro @v_Mv (And.intro @v_Mu (@v_E)))))))))))))))
def PV12 := And.intro @v_Ea (And.intro @v_Eb (And.intro @v_R1 (And.intro @v_R1a (And.intro @v_R2 (And.intro @v_R2a (And.intro @v_Zip (And.intro @v_Z (And.intro @v_Enum (And.intro @v_En (And.intro @v_Comp (And.intro @v_Co (And.intro @v_Co2 (And.intro @v_Def (And.intro @v_D1 (@v_D2)))))))))))))))
def PV13 := And.intro @v_zMf (And.intro @v_f1 (And.intro @v_f2 (And.intro @v_zMt (And.intro @v_t1 (And.intro @v_Lam (And.intro @v_Drop (And.intro @v_Dr (And.intro @v_Set (And.intro @v_Ret (And.intro @v_Rt (And.intro @v_SIf (And.intro @v_SI (And.intro @v_Par (And.intro @v_Pa (@v_ag)))))))))))))))
def PV14 := And.intro @v_agb (And.intro @v_ag2 (And.intro @v_Asg (And.intro @v_As (And.intro @v_Store (And.intro @v_St1 (And.intro @v_s0 (And.intro @v_St2 (And.intro @v_s1 (And.intro @v_St3 (And.intro @v_For (And.intro @v_Fo (And.intro @v_f1p (And.intro @v_gt1 (And.intro @v_ctn (@v_ctc)))))))))))))))
def PV15 := And.intro @v_ctb (And.intro @v_ctr (And.intro @v_cte (And.intro @v_cti (And.intro @v_pc3 (And.intro @v_pc4 (And.intro @v_pc2 (And.intro @v_pc1 (And.intro @v_pcS (And.intro @v_noe (And.intro @v_noi (And.intro @v_wi0 (And.intro @v_wi1 (And.intro @v_re0 (And.intro @v_re1 (@v_rek)))))))))))))))
def PV16 := And.intro @v_Par3 (And.intro @v_P3 (And.intro @v_P3l (And.intro @v_P3k (And.intro @v_ced (And.intro @v_cet (And.intro @v_cev (And.intro @v_cek (And.intro @v_Comp2 (And.intro @v_C2 (And.intro @v_Ct (And.intro @v_p2S (And.intro @v_p2a (And.intro @v_p2b (And.intro @v_p2c (@v_p2d)))))))))))))))
def PV17 := And.intro @q_addI (And.intro @q_subI (And.intro @q_ltI (And.intro @q_leI (And.intro @q_gtI (And.intro @q_geI (And.intro @q_neg (And.intro @q_abs (And.intro @q_max2 (And.intro @q_min2 (And.intro @q_intI (And.intro @q_strS (And.intro @q_lenL (And.intro @q_lenT (And.intro @q_lenS (@q_addS)))))))))))))))
def PV18 := And.intro @q_addL (And.intro @q_addT (And.intro @q_pow18 (And.intro @q_eqB (And.intro @q_neB (And.intro @q_isN (And.intro @q_isnN (And.intro @q_isB (And.intro @q_isnB (And.intro @q_nN (And.intro @q_nB (And.intro @q_nI (And.intro @q_nS (And.intro @q_nL (And.intro @q_nT (@q_nD)))))))))))))))
def PV19 := And.intro @q_ix0 (And.intro @q_ix1 (And.intro @q_ix2 (And.intro @q_ix3 (And.intro @q_ix4 (And.intro @q_it0 (And.intro @q_it1 (And.intro @q_it2 (And.intro @q_N0 (And.intro @q_N1 (And.intro @q_N2 (And.intro @q_N3 (And.intro @q_N4 (And.intro @q_itL (And.intro @q_itT (@q_all)))))))))))))))
def PV20 := And.intro @q_any (And.intro @q_sum (And.intro @q_tyS (And.intro @q_tyL (And.intro @q_tyT (And.intro @q_tyI (And.intro @q_tyB (And.intro @w_blN (And.intro @w_blB (And.intro @w_blI (And.intro @w_blS (And.intro @w_blL (And.intro @w_blT (And.intro @w_blD (And.intro @w_intN (@w_intB)))))))))))))))
def PV21 := And.intro @w_intI (And.intro @w_intS (And.intro @w_intL (And.intro @w_intT (And.intro @w_intD (And.intro @w_strN (And.intro @w_strB (And.intro @w_strI (And.intro @w_strS (And.intro @w_strL (And.intro @w_strT (And.intro @w_strD (And.intro @w_lstN (And.intro @w_lstB (And.intro @w_lstI (@w_lstS)))))))))))))))
def PV22 := And.intro @w_lstL (And.intro @w_lstT (And.intro @w_lstD (And.intro @w_tupN (And.intro @w_tupB (And.intro @w_tupI (And.intro @w_tupS (And.intro @w_tupL (And.intro @w_tupT (And.intro @w_tupD (And.intro @w_dicN (And.intro @w_dicB (And.intro @w_dicI (And.intro @w_dicS (And.intro @w_dicL (@w_dicT)))))))))))))))
def PV23 := And.intro @w_dicD (And.intro @ws_tlN (And.intro @ws_tlB (And.intro @ws_tlI (And.intro @ws_tlS (And.intro @ws_tlL (And.intro @ws_tlT (And.intro @ws_tlD (And.intro @ws_ltN (And.intro @ws_ltB (And.intro @ws_ltI (And.intro @ws_ltS (And.intro @ws_ltL (And.intro @ws_ltT (And.intro @ws_ltD (@ws_isN)))))))))))))))
def PV24 := And.intro @ws_isB (And.intro @ws_isI (And.intro @ws_isS (And.intro @ws_isL (And.intro @ws_isT (And.intro @ws_isD (And.intro @ws_siN (And.intro @ws_siB (And.intro @ws_siI (And.intro @ws_siS (And.intro @ws_siL (And.intro @ws_siT (And.intro @ws_siD (And.intro @u_line (And.intro @u_small (@o2_mulR)))))))))))))))
def PV25 := And.intro @o2_mulL (And.intro @o2_mod (And.intro @o2_fdiv (And.intro @o2_eqI (And.intro @o2_neI (And.intro @x_itemsS (And.intro @nodup1 (And.intro @q_tx (And.intro @q_itB (And.intro @q_lenB (And.intro @q_tupB (And.intro @v_R3 (And.intro @v_R3a (And.intro @q_r3 (And.intro @q_ixLl (@q_ixTl)))))))))))))))
def PV26 := And.intro @q_Nl (And.intro @q_slL (And.intro @q_slT (And.intro @q_slS (And.intro @q_inC (And.intro @q_ninC (And.intro @q_intD (And.intro @q_str3 (And.intro @q_eqS (And.intro @q_neS (And.intro @q_mulSn (And.intro @q_ixLn (And.intro @q_ixTn (And.intro @q_ixSn (And.intro @q_anyF (@q_allF)))))))))))))))
def PV27 := And.intro @q_sumF (And.intro @q_zkLL (And.intro @q_zkTL (And.intro @q_zkLT (@q_zkTT))))
end DL
namespace P08
open PySem PySem.Spec PyProof.Rows L2 DL
def topS (i : Nat) : Stmt := PySem.Challenge.pw_letterfair_k08_whole_beginnings_and_what.main.body.getD i (.Pass ⟨0, 0, 0, 0⟩)
abbrev s_is_letters : Stmt := topS 8
abbrev N_is_letters : List Str := [(Str.ofString "thing"), (Str.ofString "least"), (Str.ofString "most"), (Str.ofString "sign")]
theorem sc_is_letters : FnScope N_is_letters [(Str.ofString "thing"), (Str.ofString "least"), (Str.ofString "most")] (defScope s_is_letters) := ⟨rfl, rfl, rfl, by decide +kernel, rfl, by decide +kernel, by decide +kernel⟩
abbrev s_is_word : Stmt := topS 9
abbrev N_is_word : List Str := [(Str.ofString "thing")]
theorem sc_is_word : FnScope N_is_word [(Str.ofString "thing")] (defScope s_is_word) := ⟨rfl, rfl, rfl, by decide +kernel, rfl, by decide +kernel, by decide +kernel⟩
abbrev s_is_book : Stmt := topS 10
abbrev N_is_book : List Str := [(Str.ofString "thing"), (Str.ofString "one"), (Str.ofString "other")]
theorem sc_is_book : FnScope N_is_book [(Str.ofString "thing")] (defScope s_is_book) := ⟨rfl, rfl, rfl, by decide +kernel, rfl, by decide +kernel, by decide +kernel⟩
abbrev s_check_book : Stmt := topS 11
abbrev N_check_book : List Str := [(Str.ofString "thing")]
theorem sc_check_book : FnScope N_check_book [(Str.ofString "thing")] (defScope s_check_book) := ⟨rfl, rfl, rfl, by decide +kernel, rfl, by decide +kernel, by decide +kernel⟩
abbrev s_check_text : Stmt := topS 14
abbrev N_check_text : List Str := [(Str.ofString "thing")]
theorem sc_check_text : FnScope N_check_text [(Str.ofString "thing")] (defScope s_check_text) := ⟨rfl, rfl, rfl, by decide +kernel, rfl, by decide +kernel, by decide +kernel⟩
abbrev s_all_beginnings : Stmt := topS 15
abbrev N_all_beginnings : List Str := [(Str.ofString "book"), (Str.ofString "word"), (Str.ofString "size")]
theorem sc_all_beginnings : FnScope N_all_beginnings [(Str.ofString "book")] (defScope s_all_beginnings) := ⟨rfl, rfl, rfl, by decide +kernel, rfl, by decide +kernel, by decide +kernel⟩
abbrev s_beginnings_many : Stmt := topS 16
abbrev N_beginnings_many : List Str := [(Str.ofString "book")]
theorem sc_beginnings_many : FnScope N_beginnings_many [(Str.ofString "book")] (defScope s_beginnings_many) := ⟨rfl, rfl, rfl, by decide +kernel, rfl, by decide +kernel, by decide +kernel⟩
abbrev s_raw_with : Stmt := topS 17
abbrev N_raw_with : List Str := [(Str.ofString "book"), (Str.ofString "text"), (Str.ofString "word")]
theorem sc_raw_with : FnScope N_raw_with [(Str.ofString "book"), (Str.ofString "text")] (defScope s_raw_with) := ⟨rfl, rfl, rfl, by decide +kernel, rfl, by decide +kernel, by decide +kernel⟩
abbrev s_with_beginning : Stmt := topS 18
abbrev N_with_beginning : List Str := [(Str.ofString "book"), (Str.ofString "text")]
theorem sc_with_beginning : FnScope N_with_beginning [(Str.ofString "book"), (Str.ofString "text")] (defScope s_with_beginning) := ⟨rfl, rfl, rfl, by decide +kernel, rfl, by decide +kernel, by decide +kernel⟩
abbrev s_raw_next : Stmt := topS 19
abbrev N_raw_next : List Str := [(Str.ofString "book"), (Str.ofString "text"), (Str.ofString "word")]
theorem sc_raw_next : FnScope N_raw_next [(Str.ofString "book"), (Str.ofString "text")] (defScope s_raw_next) := ⟨rfl, rfl, rfl, by decide +kernel, rfl, by decide +kernel, by decide +kernel⟩
abbrev s_next_letters : Stmt := topS 20
abbrev N_next_letters : List Str := [(Str.ofString "book"), (Str.ofString "text")]
theorem sc_next_letters : FnScope N_next_letters [(Str.ofString "book"), (Str.ofString "text")] (defScope s_next_letters) := ⟨rfl, rfl, rfl, by decide +kernel, rfl, by decide +kernel, by decide +kernel⟩
abbrev s_split_points : Stmt := topS 21
abbrev N_split_points : List Str := [(Str.ofString "book"), (Str.ofString "text")]
theorem sc_split_points : FnScope N_split_points [(Str.ofString "book")] (defScope s_split_points) := ⟨rfl, rfl, rfl, by decide +kernel, rfl, by decide +kernel, by decide +kernel⟩
abbrev s__law_hand : Stmt := topS 23
abbrev N__law_hand : List Str := [(Str.ofString "script"), (Str.ofString "cells"), (Str.ofString "cell")]
theorem sc__law_hand : FnScope N__law_hand [(Str.ofString "script")] (defScope s__law_hand) := ⟨rfl, rfl, rfl, by decide +kernel, rfl, by decide +kernel, by decide +kernel⟩
abbrev s__law_draw : Stmt := topS 24
abbrev N__law_draw : List Str := [(Str.ofString "hand"), (Str.ofString "many"), (Str.ofString "cell"), (Str.ofString "digit"), (Str.ofString "number")]
theorem sc__law_draw : FnScope N__law_draw [(Str.ofString "hand"), (Str.ofString "many")] (defScope s__law_draw) := ⟨rfl, rfl, rfl, by decide +kernel, rfl, by decide +kernel, by decide +kernel⟩
abbrev s__law_any : Stmt := topS 25
abbrev N__law_any : List Str := [(Str.ofString "hand"), (Str.ofString "some")]
theorem sc__law_any : FnScope N__law_any [(Str.ofString "hand"), (Str.ofString "some")] (defScope s__law_any) := ⟨rfl, rfl, rfl, by decide +kernel, rfl, by decide +kernel, by decide +kernel⟩
abbrev s__law_word : Stmt := topS 26
abbrev N__law_word : List Str := [(Str.ofString "hand"), (Str.ofString "signs"), (Str.ofString "shortest"), (Str.ofString "longest"), (Str.ofString "many"), (Str.ofString "letter")]
theorem sc__law_word : FnScope N__law_word [(Str.ofString "hand"), (Str.ofString "signs"), (Str.ofString "shortest"), (Str.ofString "longest")] (defScope s__law_word) := ⟨rfl, rfl, rfl, by decide +kernel, rfl, by decide +kernel, by decide +kernel⟩
abbrev s__law_book : Stmt := topS 27
abbrev N__law_book : List Str := [(Str.ofString "hand"), (Str.ofString "signs"), (Str.ofString "most"), (Str.ofString "longest"), (Str.ofString "made"), (Str.ofString "word")]
theorem sc__law_book : FnScope N__law_book [(Str.ofString "hand"), (Str.ofString "signs"), (Str.ofString "most"), (Str.ofString "longest")] (defScope s__law_book) := ⟨rfl, rfl, rfl, by decide +kernel, rfl, by decide +kernel, by decide +kernel⟩
abbrev s__law_deep : Stmt := topS 28
abbrev N__law_deep : List Str := [(Str.ofString "hand"), (Str.ofString "deep"), (Str.ofString "lap")]
theorem sc__law_deep : FnScope N__law_deep [(Str.ofString "hand")] (defScope s__law_deep) := ⟨rfl, rfl, rfl, by decide +kernel, rfl, by decide +kernel, by decide +kernel⟩
abbrev s__law_no_book : Stmt := topS 29
abbrev N__law_no_book : List Str := [(Str.ofString "hand"), (Str.ofString "some")]
theorem sc__law_no_book : FnScope N__law_no_book [(Str.ofString "hand")] (defScope s__law_no_book) := ⟨rfl, rfl, rfl, by decide +kernel, rfl, by decide +kernel, by decide +kernel⟩
abbrev s__law_told : Stmt := topS 30
abbrev N__law_told : List Str := [(Str.ofString "call"), (Str.ofString "e"), (Str.ofString "flags")]
theorem sc__law_told : FnScope N__law_told [(Str.ofString "call")] (defScope s__law_told) := ⟨rfl, rfl, rfl, by decide +kernel, rfl, by decide +kernel, by decide +kernel⟩
abbrev s__law_begun : Stmt := topS 31
abbrev N__law_begun : List Str := [(Str.ofString "book"), (Str.ofString "made"), (Str.ofString "word"), (Str.ofString "at")]
theorem sc__law_begun : FnScope N__law_begun [(Str.ofString "book")] (defScope s__law_begun) := ⟨rfl, rfl, rfl, by decide +kernel, rfl, by decide +kernel, by decide +kernel⟩
abbrev s__law_next : Stmt := topS 32
abbrev N__law_next : List Str := [(Str.ofString "book"), (Str.ofString "text"), (Str.ofString "some"), (Str.ofString "word")]
theorem sc__law_next : FnScope N__law_next [(Str.ofString "book"), (Str.ofString "text")] (defScope s__law_next) := ⟨rfl, rfl, rfl, by decide +kernel, rfl, by decide +kernel, by decide +kernel⟩
abbrev s__law_is_right : Stmt := topS 33
abbrev N__law_is_right : List Str := [(Str.ofString "hand"), (Str.ofString "book"), (Str.ofString "every"), (Str.ofString "splits"), (Str.ofString "text"), (Str.ofString "texts"), (Str.ofString "lap"), (Str.ofString "due"), (Str.ofString "word"), (Str.ofString "parts"), (Str.ofString "letter"), (Str.ofString "more")]
theorem sc__law_is_right : FnScope N__law_is_right [(Str.ofString "hand"), (Str.ofString "book")] (defScope s__law_is_right) := ⟨rfl, rfl, rfl, by decide +kernel, rfl, by decide +kernel, by decide +kernel⟩
abbrev s_law : Stmt := topS 34
abbrev N_law : List Str := [(Str.ofString "script"), (Str.ofString "hand"), (Str.ofString "book"), (Str.ofString "lap"), (Str.ofString "bad"), (Str.ofString "none"), (Str.ofString "words")]
theorem sc_law : FnScope N_law [(Str.ofString "script")] (defScope s_law) := ⟨rfl, rfl, rfl, by decide +kernel, rfl, by decide +kernel, by decide +kernel⟩
abbrev q_law : Str := ((Str.ofString "law") ++ ".<locals>.") ++ "<lambda>"
theorem b_ValueError : bootBuiltins (Str.ofString "ValueError") = some (.type "ValueError") := by decide +kernel
theorem b_abs : bootBuiltins (Str.ofString "abs") = some (.builtin "abs") := by decide +kernel
theorem b_all : bootBuiltins (Str.ofString "all") = some (.builtin "all") := by decide +kernel
theorem b_int : bootBuiltins (Str.ofString "int") = some (.type "int") := by decide +kernel
theorem b_len : bootBuiltins (Str.ofString "len") = some (.builtin "len") := by decide +kernel
theorem b_list : bootBuiltins (Str.ofString "list") = some (.type "list") := by decide +kernel
theorem b_sorted : bootBuiltins (Str.ofString "sorted") = some (.builtin "sorted") := by decide +kernel
theorem b_str : bootBuiltins (Str.ofString "str") = some (.type "str") := by decide +kernel
theorem b_tuple : bootBuiltins (Str.ofString "tuple") = some (.type "tuple") := by decide +kernel
structure Ft (K : PySem.W.Frag) (mg : Str → Option Value) : Prop where
  m_isinstance : mg (Str.ofString "isinstance") = none
  m_str : mg (Str.ofString "str") = none
  m_len : mg (Str.ofString "len") = none
  m_all : mg (Str.ofString "all") = none
  g_LETTERS : ∃ t, mg (Str.ofString "LETTERS") = some (.str (Str.ofString "abcdefghijklmnopqrstuvwxyz") t)
  f_is_letters : FunAt K mg (Str.ofString "is_letters") s_is_letters
  g_MOST_LETTERS : ∃ t, mg (Str.ofString "MOST_LETTERS") = some (.int 12 t)
  f_is_word : FunAt K mg (Str.ofString "is_word") s_is_word
  m_tuple : mg (Str.ofString "tuple") = none
  g_MOST_WORDS : ∃ t, mg (Str.ofString "MOST_WORDS") = some (.int 60 t)
  m_zip : mg (Str.ofString "zip") = none
  f_is_book : FunAt K mg (Str.ofString "is_book") s_is_book
  e_NoBook : ErrAt K mg (Str.ofString "NoBook")
  f_check_book : FunAt K mg (Str.ofString "check_book") s_check_book
  g_MOST_TEXT : ∃ t, mg (Str.ofString "MOST_TEXT") = some (.int 12 t)
  e_NoText : ErrAt K mg (Str.ofString "NoText")
  f_check_text : FunAt K mg (Str.ofString "check_text") s_check_text
  m_sorted : mg (Str.ofString "sorted") = none
  m_set : mg (Str.ofString "set") = none
  m_range : mg (Str.ofString "range") = none
  f_all_beginnings : FunAt K mg (Str.ofString "all_beginnings") s_all_beginnings
  f_beginnings_many : FunAt K mg (Str.ofString "beginnings_many") s_beginnings_many
  f_raw_with : FunAt K mg (Str.ofString "raw_with") s_raw_with
  f_with_beginning : FunAt K mg (Str.ofString "with_beginning") s_with_beginning
  f_raw_next : FunAt K mg (Str.ofString "raw_next") s_raw_next
  f_next_letters : FunAt K mg (Str.ofString "next_letters") s_next_letters
  f_split_points : FunAt K mg (Str.ofString "split_points") s_split_points
  m_abs : mg (Str.ofString "abs") = none
  m_int : mg (Str.ofString "int") = none
  f__law_hand : FunAt K mg (Str.ofString "_law_hand") s__law_hand
  f__law_draw : FunAt K mg (Str.ofString "_law_draw") s__law_draw
  f__law_any : FunAt K mg (Str.ofString "_law_any") s__law_any
  f__law_word : FunAt K mg (Str.ofString "_law_word") s__law_word
  f__law_book : FunAt K mg (Str.ofString "_law_book") s__law_book
  f__law_deep : FunAt K mg (Str.ofString "_law_deep") s__law_deep
  f__law_no_book : FunAt K mg (Str.ofString "_law_no_book") s__law_no_book
  c_NoText : ∃ C, mg (Str.ofString "NoText") = some (.ref C)
  c_NoBook : ∃ C, mg (Str.ofString "NoBook") = some (.ref C)
  m_ValueError : mg (Str.ofString "ValueError") = none
  c_WordError : ∃ C, mg (Str.ofString "WordError") = some (.ref C)
  x_NoBook : ExcAt K mg (Str.ofString "NoBook")
  h_NoBook_WordError : ExmAt K mg (Str.ofString "NoBook") (Str.ofString "WordError")
  x_NoText : ExcAt K mg (Str.ofString "NoText")
  h_NoText_WordError : ExmAt K mg (Str.ofString "NoText") (Str.ofString "WordError")
  i_NoBook_NoBook : IsAt K mg (Str.ofString "NoBook") (Str.ofString "NoBook") true
  i_NoText_NoBook : IsAt K mg (Str.ofString "NoText") (Str.ofString "NoBook") false
  i_NoBook_NoText : IsAt K mg (Str.ofString "NoBook") (Str.ofString "NoText") false
  i_NoText_NoText : IsAt K mg (Str.ofString "NoText") (Str.ofString "NoText") true
  i_NoBook_ValueError : IsTyAt K mg (Str.ofString "NoBook") "ValueError" true
  i_NoText_ValueError : IsTyAt K mg (Str.ofString "NoText") "ValueError" true
  f__law_told : FunAt K mg (Str.ofString "_law_told") s__law_told
  f__law_begun : FunAt K mg (Str.ofString "_law_begun") s__law_begun
  f__law_next : FunAt K mg (Str.ofString "_law_next") s__law_next
  m_list : mg (Str.ofString "list") = none
  f__law_is_right : FunAt K mg (Str.ofString "_law_is_right") s__law_is_right
def g_is_letters : SV := (sRet (eAnd (e1 (isiD .str) (eV 0)) (eAnd (eChain gLe gLe (eV 1) (eCall cLen (aC (eV 0) aN)) (eV 2)) (eCall cAll (aC (eComp (iE (eV 0)) (gN 3) tYesD (e2 gIn (eV 3) (eC (.str (Str.ofString "abcdefghijklmnopqrstuvwxyz")))) [3]) aN)))))
def F_is_letters : FV := runF 4 g_is_letters
def g_is_word : SV := (sRet (eDef F_is_letters [false, false, false] 3 (aC (eV 0) (aC (eC (.int 1)) (aC (eC (.int 12)) aN)))))
def F_is_word : FV := runF 1 g_is_word
def g_is_book : SV := (sSeq (sIf (tOrD (tNotD (tOf (e1 (isiD .tup) (eV 0)))) (tOrD (tOf (e2 gGtA (eCall cLen (aC (eV 0) aN)) (eC (.int 60)))) (tNotD (tOf (eCall cAll (aC (eComp (iE (eV 0)) (gN 1) tYesD (eDef F_is_word [false] 1 (aC (eV 1) aN)) [1]) aN)))))) (sRet (eC (.bool false))) sNext)
  (sRet (eCall cAll (aC (eComp (iZipD (aC (eV 0) (aC (eSl gSl (eV 0) (some (eC (.int 1))) none) aN))) (gT 2 (gCn (gN 1) (gCn (gN 2) gN0))) tYesD (e2 gLtA (eV 1) (eV 2)) [1, 2]) aN))))
def F_is_book : FV := runF 3 g_is_book
def g_check_book : SV := (sIf (tNotD (tOf (eDef F_is_book [false] 1 (aC (eV 0) aN)))) (sRaise (Str.ofString "NoBook")) sNext)
def F_check_book : FV := runF 1 g_check_book
def g_check_text : SV := (sIf (tNotD (tOf (eDef F_is_letters [false, false, false] 3 (aC (eV 0) (aC (eC (.int 0)) (aC (eC (.int 12)) aN)))))) (sRaise (Str.ofString "NoText")) sNext)
def F_check_text : FV := runF 1 g_check_text
def g_all_beginnings : SV := (sRet (e1 gSortSet (eComp2 (iE (eV 0)) (gN 1) tYesD (iR1 (aC (e2 gAdd (eCall cLen (aC (eV 1) aN)) (eC (.int 1))) aN)) (gN 2) tYesD (eSl gSl (eV 1) none (some (eV 2))) [1, 2] [2])))
def F_all_beginnings : FV := runF 3 g_all_beginnings
def g_beginnings_many : SV := (sSeq (sDrop (eDef F_check_book [false] 1 (aC (eV 0) aN)))
  (sRet (eCall cLen (aC (eDef F_all_beginnings [false] 1 (aC (eV 0) aN)) aN))))
def F_beginnings_many : FV := runF 1 g_beginnings_many
def g_raw_with : SV := (sRet (eComp (iE (eV 0)) (gN 2) (tOf (e2 gEq (eSl gSl (eV 2) none (some (eCall cLen (aC (eV 1) aN)))) (eV 1))) (eV 2) [2]))
def F_raw_with : FV := runF 3 g_raw_with
def g_with_beginning : SV := (sSeq (sDrop (eDef F_check_book [false] 1 (aC (eV 0) aN)))
  (sSeq (sDrop (eDef F_check_text [false] 1 (aC (eV 1) aN)))
  (sRet (eCall cTup (aC (eDef F_raw_with [false, false] 2 (aC (eV 0) (aC (eV 1) aN))) aN)))))
def F_with_beginning : FV := runF 2 g_with_beginning
def g_raw_next : SV := (sRet (e1 gSortSet (eComp (iE (eDef F_raw_with [false, false] 2 (aC (eV 0) (aC (eV 1) aN)))) (gN 2) (tOf (e2 gGt (eCall cLen (aC (eV 2) aN)) (eCall cLen (aC (eV 1) aN)))) (e2 gIx (eV 2) (eCall cLen (aC (eV 1) aN))) [2])))
def F_raw_next : FV := runF 3 g_raw_next
def g_next_letters : SV := (sSeq (sDrop (eDef F_check_book [false] 1 (aC (eV 0) aN)))
  (sSeq (sDrop (eDef F_check_text [false] 1 (aC (eV 1) aN)))
  (sRet (eMtT .str mJoin (eC (.str (Str.ofString ""))) (aC (eDef F_raw_next [false, false] 2 (aC (eV 0) (aC (eV 1) aN))) aN)))))
def F_next_letters : FV := runF 2 g_next_letters
def g_split_points : SV := (sSeq (sDrop (eDef F_check_book [false] 1 (aC (eV 0) aN)))
  (sRet (eCall cTup (aC (eComp (iE (eDef F_all_beginnings [false] 1 (aC (eV 0) aN))) (gN 1) (tOf (e2 gGt (eCall cLen (aC (eDef F_raw_next [false, false] 2 (aC (eV 0) (aC (eV 1) aN))) aN)) (eC (.int 1)))) (eV 1) [1]) aN))))
def F_split_points : FV := runF 2 g_split_points
def g__law_hand : SV := (sSeq (sSet 1 (eComp (iE (eSl gSl (eV 0) none (some (eC (.int 63))))) (gN 2) tYesD (eCall cAbs (aC (eCall cInt (aC (eV 2) aN)) aN)) [2]))
  (sRet (eLst (aC (eV 1) (aC (eC (.int 0)) (aC (eC (.int 0)) (aC (e2 gAdd (eC (.int 83)) (e2 gMul (eC (.int 5)) (eCall cLen (aC (eV 1) aN)))) (aC (eC (.int 0)) aN))))))))
def F__law_hand : FV := runF 3 g__law_hand
def g__law_draw : SV := (sSeq (sIf (tAndD (tOf (e2 gEq (e2 gIx (eV 0) (eC (.int 2))) (eC (.int 0)))) (tOf (e2 gLt (e2 gIx (eV 0) (eC (.int 1))) (eCall cLen (aC (e2 gIx (eV 0) (eC (.int 0))) aN))))) (sSeq (sSet 2 (e2 gIx (e2 gIx (eV 0) (eC (.int 0))) (e2 gIx (eV 0) (eC (.int 1)))))
  (sSeq (sStore (eV 0) (eC (.int 1)) (e2 gAdd (e2 gIx (eV 0) (eC (.int 1))) (eC (.int 1))))
  (sSeq (sStore (eV 0) (eC (.int 3)) (e2 gMod (eCall cInt (aC (e2 gAdd (e2 gAdd (e2 gMul (e2 gIx (eV 0) (eC (.int 3))) (eC (.int 69621))) (e2 gMul (eV 2) (eC (.int 40692)))) (eC (.int 17))) aN)) (eC (.int 2147483629))))
  (sIf (tOf (e2 gGe (eV 2) (e2 gPow (eC (.int 10)) (eC (.int 18))))) (sStore (eV 0) (eC (.int 2)) (eV 2)) sNext)))) sNext)
  (sSeq (sIf (tOf (e2 gGt (e2 gIx (eV 0) (eC (.int 2))) (eC (.int 0)))) (sSeq (sSet 3 (e2 gMod (eCall cInt (aC (e2 gIx (eV 0) (eC (.int 2))) aN)) (eV 1)))
  (sSeq (sStore (eV 0) (eC (.int 2)) (e2 gFdiv (e2 gIx (eV 0) (eC (.int 2))) (eV 1)))
  (sRet (eV 3)))) sNext)
  (sSeq (sStore (eV 0) (eC (.int 4)) (e2 gAdd (e2 gIx (eV 0) (eC (.int 4))) (eC (.int 1))))
  (sSeq (sSet 4 (e2 gMod (eCall cInt (aC (e2 gMul (eCall cInt (aC (e2 gAdd (e2 gIx (eV 0) (eC (.int 3))) (e2 gMul (eC (.int 7919)) (e2 gIx (eV 0) (eC (.int 4))))) aN)) (eC (.int 48271))) aN)) (eC (.int 2147483647))))
  (sSeq (sSet 4 (e2 gMod (eCall cInt (aC (e2 gMul (eV 4) (e2 gAdd (e2 gFdiv (eV 4) (eC (.int 1009))) (eC (.int 69621)))) aN)) (eC (.int 2147483647))))
  (sSeq (sSet 4 (e2 gMod (eCall cInt (aC (e2 gMul (eV 4) (e2 gAdd (e2 gFdiv (eV 4) (eC (.int 2003))) (eC (.int 40014)))) aN)) (eC (.int 2147483563))))
  (sRet (e2 gMod (eCall cInt (aC (e2 gFdiv (eV 4) (eC (.int 16))) aN)) (eV 1)))))))))
def F__law_draw : FV := runF 5 g__law_draw
def g__law_any : SV := (sRet (e2 gIx (eV 1) (eDef F__law_draw [true, false] 2 (aC (eV 0) (aC (eCall cLen (aC (eV 1) aN)) aN)))))
def F__law_any : FV := runF 2 g__law_any
def g__law_word : SV := (sSeq (sSet 4 (e2 gAdd (eV 2) (eDef F__law_draw [true, false] 2 (aC (eV 0) (aC (e2 gSub (e2 gAdd (eV 3) (eC (.int 1))) (eV 2)) aN)))))
  (sRet (eMtT .str mJoin (eC (.str (Str.ofString ""))) (aC (eComp (iR1 (aC (eV 4) aN)) (gN 5) tYesD (eDef F__law_any [true, false] 2 (aC (eV 0) (aC (eV 1) aN))) [5]) aN))))
def F__law_word : FV := runF 6 g__law_word
def g__law_book : SV := (sSeq (sSet 4 (eComp (iR1 (aC (eDef F__law_draw [true, false] 2 (aC (eV 0) (aC (e2 gAdd (eV 2) (eC (.int 1))) aN))) aN)) (gN 5) tYesD (eDef F__law_word [true, false, false, false] 4 (aC (eV 0) (aC (eV 1) (aC (eC (.int 1)) (aC (eV 3) aN))))) [5]))
  (sRet (eCall cTup (aC (e1 gSortSet (eV 4)) aN))))
def F__law_book : FV := runF 6 g__law_book
def g__law_deep : SV := (sSeq (sSet 1 (eDef F__law_any [true, false] 2 (aC (eV 0) (aC (eLst (aC (eC .none) (aC (eC (.str (Str.ofString "X"))) (aC (e1 gNeg (eC (.int 1))) aN)))) aN))))
  (sSeq (sFor (iR1 (aC (e2 gAdd (eC (.int 1)) (eDef F__law_draw [true, false] 2 (aC (eV 0) (aC (eC (.int 30)) aN)))) aN)) (gN 2) (sSet 1 (eIf (tOf (e2 gEq (eDef F__law_draw [true, false] 2 (aC (eV 0) (aC (eC (.int 2)) aN))) (eC (.int 0)))) (eLst (aC (eV 1) aN)) (eTup (aC (eV 1) aN)))))
  (sRet (eV 1))))
def F__law_deep : FV := runF 3 g__law_deep
def g__law_no_book : SV := (sSeq (sSet 1 (eLst (aC (eC .none) (aC (eLst (aC (eC (.str (Str.ofString "a"))) aN)) (aC (eTup (aC (eC (.str (Str.ofString "b"))) (aC (eC (.str (Str.ofString "a"))) aN))) (aC (eTup (aC (eC (.str (Str.ofString "a"))) (aC (eC (.str (Str.ofString "a"))) aN))) (aC (eTup (aC (eC (.str (Str.ofString ""))) aN)) (aC (eTup (aC (eC (.str (Str.ofString "A"))) aN)) (aC (eTup (aC (eC (.int 1)) aN)) (aC (eC (.str (Str.ofString "a"))) (aC (eC (.int 0)) (aC (eC (.dict [])) (aC (eTup (aC (eC .none) aN)) (aC (eTup (aC (eC (.str (Str.ofString "abcdefghijklm"))) aN)) aN))))))))))))))
  (sRet (eDef F__law_any [true, false] 2 (aC (eV 0) (aC (e2 gAdd (eV 1) (eLst (aC (eDef F__law_deep [true] 1 (aC (eV 0) aN)) aN))) aN)))))
def F__law_no_book : FV := runF 2 g__law_no_book
def isB_NoBook (x : Str) : Bool := decide (x ∈ [(Str.ofString "NoBook")])
def isB_NoText (x : Str) : Bool := decide (x ∈ [(Str.ofString "NoText")])
def es__law_told : List Str := [(Str.ofString "NoBook"), (Str.ofString "NoText")]
def gsu__law_told (e : Ex) (a : Addr) : SV := (sSeq (sSet 2 (eLst (aC (eIsE 1 a (isB_NoBook e.name)) (aC (eIsE 1 a (isB_NoText e.name)) aN))))
  (sSeq (sIf (tAndD (tOf (e2 gEqS (eMtT .lst mCountL (eV 2) (aC (eC (.bool true)) aN)) (eC (.int 1)))) (tOf (eIsE 1 a true))) (sRet (e2 gIx (eLst (aC (eC (.str (Str.ofString "book"))) (aC (eC (.str (Str.ofString "text"))) aN))) (eMtT .lst mIndexL (eV 2) (aC (eC (.bool true)) aN)))) sNext)
  (sRet (eC (.str (Str.ofString "other"))))))
def hn__law_told : HN := hnd sNext (fun (ρ : Rho) (_ : PD) => So.nx ρ []) gsu__law_told (sRet (eC (.str (Str.ofString "let")))) 1 3
def hv__law_told : Oc → Option PD := fun o => hn__law_told 0 0 o
theorem hv_ok__law_told : ∀ f a o y, hv__law_told o = some y → hn__law_told f a o = some y := by
  intro f a o y h
  rw [← h]
  cases o with
  | ok d => rfl
  | er e => 
    simp only [hv__law_told, hn__law_told, hnd, sufD, gsu__law_told]
    generalize isB_NoBook e.name = b_NoBook
    generalize isB_NoText e.name = b_NoText
    cases b_NoBook <;> cases b_NoText <;> simp [pad, List.replicate, sSeq, sSet, sIf, eIsE, tAndD, tOrD, tNotD, tOf, eAnd, eIf, sRet, eC, eV, e2, e1, eLst, eTup, aC, aN, eMtT, gEqS, Rs.bind, Rs.st, frzs, frz, look, looks, fin, line, sizeLine, tyOf, boolOf, flatD, toV, scal, mCountL, mIndexL, gIx, Ob.data, eqV, endD, sDrop, sNext, idxF, ixD, atI] <;> rfl
def g__law_begun : SV := (sSeq (sSet 1 (eLst aN))
  (sSeq (sFor (iE (eV 0)) (gN 2) (sDrop (eMut uExtend (eV 1) (aC (eComp (iR1 (aC (e2 gAdd (eCall cLen (aC (eV 2) aN)) (eC (.int 1))) aN)) (gN 3) tYesD (eSl gSl (eV 2) none (some (eV 3))) [3]) aN))))
  (sRet (e1 gSortSet (eV 1)))))
def F__law_begun : FV := runF 4 g__law_begun
def g__law_next : SV := (sSeq (sSet 2 (eComp (iE (eV 0)) (gN 3) (tAndD (tOf (e2 gEq (eSl gSl (eV 3) none (some (eCall cLen (aC (eV 1) aN)))) (eV 1))) (tOf (e2 gGt (eCall cLen (aC (eV 3) aN)) (eCall cLen (aC (eV 1) aN))))) (e2 gIx (eV 3) (eCall cLen (aC (eV 1) aN))) [3]))
  (sRet (eMtT .str mJoin (eC (.str (Str.ofString ""))) (aC (e1 gSortSet (eV 2)) aN))))
def F__law_next : FV := runF 4 g__law_next
def g__law_is_right : SV := (sSeq (sSet 2 (eDef F__law_begun [false] 1 (aC (eV 1) aN)))
  (sSeq (sIf (tOf (e2 gNe (eLst (aC (eDef F_beginnings_many [false] 1 (aC (eV 1) aN)) (aC (eDef F_beginnings_many [false] 1 (aC (eV 1) aN)) aN))) (eLst (aC (eCall cLen (aC (eV 2) aN)) (aC (eCall cLen (aC (eV 2) aN)) aN))))) (sRet (eC (.bool false))) sNext)
  (sSeq (sSet 3 (eCall cTup (aC (eComp (iE (eV 2)) (gN 4) (tOf (e2 gGt (eCall cLen (aC (eDef F__law_next [false, false] 2 (aC (eV 1) (aC (eV 4) aN))) aN)) (eC (.int 1)))) (eV 4) [4]) aN)))
  (sSeq (sIf (tOf (e2 gNe (eLst (aC (eDef F_split_points [false] 1 (aC (eV 1) aN)) (aC (eDef F_split_points [false] 1 (aC (eV 1) aN)) aN))) (eLst (aC (eV 3) (aC (eV 3) aN))))) (sRet (eC (.bool false))) sNext)
  (sSeq (sSet 5 (eLst (aC (eDef F__law_word [true, false, false, false] 4 (aC (eV 0) (aC (eC (.str (Str.ofString "abc"))) (aC (eC (.int 1)) (aC (eC (.int 4)) aN))))) (aC (eC (.str (Str.ofString ""))) (aC (eC (.str (Str.ofString "abcabcabcabc"))) aN)))))
  (sSeq (sIf (tOf (e2 gGt (eCall cLen (aC (eV 2) aN)) (eC (.int 0)))) (sSet 5 (e2 gAdd (eV 5) (eComp (iR1 (aC (eC (.int 3)) aN)) (gN 6) tYesD (eDef F__law_any [true, false] 2 (aC (eV 0) (aC (eV 2) aN))) [6]))) sNext)
  (sSeq (sFor (iE (eV 5)) (gN 4) (sSeq (sSet 7 (eCall cTup (aC (eComp (iE (eV 1)) (gN 8) (tOf (e2 gEq (eSl gSl (eV 8) none (some (eCall cLen (aC (eV 4) aN)))) (eV 4))) (eV 8) [8]) aN)))
  (sSeq (sIf (tOf (e2 gNe (eLst (aC (eDef F_with_beginning [false, false] 2 (aC (eV 1) (aC (eV 4) aN))) (aC (eDef F_with_beginning [false, false] 2 (aC (eV 1) (aC (eV 4) aN))) aN))) (eLst (aC (eV 7) (aC (eV 7) aN))))) (sRet (eC (.bool false))) sNext)
  (sSeq (sIf (tOf (e2 gNe (eDef F_next_letters [false, false] 2 (aC (eV 1) (aC (eV 4) aN))) (eDef F__law_next [false, false] 2 (aC (eV 1) (aC (eV 4) aN))))) (sRet (eC (.bool false))) sNext)
  (sSeq (sSet 9 (eIf (tOf (e2 gIn (eV 4) (eV 1))) (eLst (aC (eV 4) aN)) (eLst aN)))
  (sSeq (sFor (iE (eDef F_next_letters [false, false] 2 (aC (eV 1) (aC (eV 4) aN)))) (gN 10) (sIf (tOf (e2 gLt (eCall cLen (aC (eV 4) aN)) (eC (.int 12)))) (sDrop (eMut uExtend (eV 9) (aC (eCall cList (aC (eDef F_with_beginning [false, false] 2 (aC (eV 1) (aC (e2 gAdd (eV 4) (eV 10)) aN))) aN)) aN))) sNext))
  (sIf (tOf (e2 gNe (eCall cTup (aC (eCall cSorted (aC (eV 9) aN)) aN)) (eV 7))) (sRet (eC (.bool false))) sNext)))))))
  (sSeq (sSet 11 (eCall cTup (aC (e1 gSortSet (e2 gAdd (eV 1) (eTup (aC (eDef F__law_word [true, false, false, false] 4 (aC (eV 0) (aC (eC (.str (Str.ofString "abc"))) (aC (eC (.int 1)) (aC (eC (.int 4)) aN))))) aN)))) aN)))
  (sRet (e2 gGe (eDef F_beginnings_many [false] 1 (aC (eV 11) aN)) (eCall cLen (aC (eV 2) aN))))))))))))
def F__law_is_right : FV := runF 12 g__law_is_right
def g_law : SV := (sSeq (sSet 1 (eDef F__law_hand [false] 1 (aC (eV 0) aN)))
  (sSeq (sSet 2 (eTup (aC (eC (.str (Str.ofString "ab"))) (aC (eC (.str (Str.ofString "abc"))) (aC (eC (.str (Str.ofString "ac"))) (aC (eC (.str (Str.ofString "b"))) aN))))))
  (sSeq (sIf (tOrD (tOf (e2 gNe (eDef F_beginnings_many [false] 1 (aC (eV 2) aN)) (eC (.int 6)))) (tOrD (tOf (e2 gNe (eDef F_split_points [false] 1 (aC (eV 2) aN)) (eTup (aC (eC (.str (Str.ofString ""))) (aC (eC (.str (Str.ofString "a"))) aN))))) (tOf (e2 gNe (eDef F_next_letters [false, false] 2 (aC (eV 2) (aC (eC (.str (Str.ofString "ab"))) aN))) (eC (.str (Str.ofString "c"))))))) (sRet (eC (.bool false))) sNext)
  (sSeq (sIf (tOf (e2 gNe (eDef F_with_beginning [false, false] 2 (aC (eV 2) (aC (eC (.str (Str.ofString "ac"))) aN))) (eTup (aC (eC (.str (Str.ofString "ac"))) aN)))) (sRet (eC (.bool false))) sNext)
  (sSeq (sFor (iR1 (aC (eC (.int 8)) aN)) (gN 3) (sSeq (sSet 2 (eDef F__law_book [true, false, false, false] 4 (aC (eV 1) (aC (eC (.str (Str.ofString "abc"))) (aC (eC (.int 10)) (aC (eC (.int 4)) aN))))))
  (sSeq (sIf (tNotD (tOf (eDef F__law_is_right [true, false] 2 (aC (eV 1) (aC (eV 2) aN))))) (sRet (eC (.bool false))) sNext)
  (sSeq (sSet 4 (eLst (aC (eC .none) (aC (eC (.str (Str.ofString "A"))) (aC (eC (.str (Str.ofString "a b"))) (aC (eC (.str (Str.ofString "abcabcabcabca"))) (aC (eC (.int 1)) (aC (eTup (aC (eC (.str (Str.ofString "a"))) aN)) (aC (eLst aN) (aC (eC (.dict [])) (aC (eDef F__law_deep [true] 1 (aC (eV 1) aN)) aN)))))))))))
  (sSeq (sAsg (eTup (aC (eDef F__law_no_book [true] 1 (aC (eV 1) aN)) (aC (eDef F__law_any [true, false] 2 (aC (eV 1) (aC (eV 4) aN))) aN))) (gT 2 (gCn (gN 5) (gCn (gN 4) gN0))))
  (sSeq (sSet 6 (eLst (aC (eLam hv__law_told (esN es__law_told) (eF (eDef F_with_beginning [false, false] 2 (aC (eV 5) (aC (eV 4) aN))))) (aC (eLam hv__law_told (esN es__law_told) (eF (eDef F_with_beginning [false, false] 2 (aC (eV 2) (aC (eV 4) aN))))) aN))))
  (sSeq (sDrop (eMut uAppend (eV 6) (aC (eLam hv__law_told (esN es__law_told) (eF (eDef F_next_letters [false, false] 2 (aC (eV 5) (aC (eV 4) aN))))) aN)))
  (sSeq (sDrop (eMut uAppend (eV 6) (aC (eLam hv__law_told (esN es__law_told) (eF (eDef F_next_letters [false, false] 2 (aC (eV 2) (aC (eV 4) aN))))) aN)))
  (sSeq (sDrop (eMut uAppend (eV 6) (aC (eLam hv__law_told (esN es__law_told) (eF (eDef F_beginnings_many [false] 1 (aC (eV 5) aN)))) aN)))
  (sSeq (sDrop (eMut uAppend (eV 6) (aC (eLam hv__law_told (esN es__law_told) (eF (eDef F_split_points [false] 1 (aC (eV 5) aN)))) aN)))
  (sIf (tOf (e2 gNe (eV 6) (e2 gAdd (e2 gMul (eLst (aC (eC (.str (Str.ofString "book"))) (aC (eC (.str (Str.ofString "text"))) aN))) (eC (.int 2))) (eLst (aC (eC (.str (Str.ofString "book"))) (aC (eC (.str (Str.ofString "book"))) aN)))))) (sRet (eC (.bool false))) sNext)))))))))))
  (sRet (eC (.bool true))))))))
def F_law : FV := runF 7 g_law
section
variable {P : Program} {w : World} {K : PySem.W.Frag} {mg : Str → Option Value} {base : Heap} {T : Tb}
theorem ok_is_letters (ft : Ft K mg)  : DefOk P w K mg base T (Str.ofString "is_letters") 1 3 F_is_letters :=
  FunAt.ok (k := 0) ft.f_is_letters sc_is_letters rfl (fun _ _ _ _ _ _ us hl => match us, hl with | [_, _, _], _ => rfl) fun _ _ _ _ _ _ _ hr => (d_sone (d_ret (d_and (d_isi (t := .str) (d_name 0) (by rfl) ft.m_isinstance (by rfl) ft.m_str b_str) (d_and (d_chain o_le o_le (d_name 1) (d_callB c_len (by rfl) ft.m_len b_len (d_cons (d_name 0) d_nil)) (d_name 2)) (d_one (d_callB (c_all rfl) (by rfl) ft.m_all b_all (d_cons (d_comp rfl sc_is_letters.nd (d_iter (d_name 0)) (own := [((Str.ofString "sign"), 3)]) (blkOk_by (N := N_is_letters) (sc := defScope s_is_letters) (by decide +kernel)) (fun _ _ _ _ _ => (g_name 3 sc_is_letters.nd)) (fun _ _ _ _ _ => d_pts0) (fun _ _ _ _ _ => (d_cmp o_in (d_name 3) (d_gS (by rfl) ft.g_LETTERS) (by rfl)))) d_nil)))))))
theorem ok_is_word (ft : Ft K mg) (h_is_letters : DefOk P w K mg base T (Str.ofString "is_letters") 1 3 F_is_letters) : DefOk P w K mg base T (Str.ofString "is_word") 2 1 F_is_word :=
  FunAt.ok (k := 1) ft.f_is_word sc_is_word rfl (fun _ _ _ _ _ _ us hl => match us, hl with | [_], _ => rfl) fun _ _ _ _ _ _ _ hr => (d_sone (d_ret (d_call [false, false, false] h_is_letters hr (by (first | decide | omega)) (by rfl) (takes_of rfl rfl rfl rfl) (d_cons (d_name 0) (d_cons d_int (d_cons (d_gI (by rfl) ft.g_MOST_LETTERS) d_nil))))))
theorem ok_is_book (ft : Ft K mg) (h_is_word : DefOk P w K mg base T (Str.ofString "is_word") 2 1 F_is_word) : DefOk P w K mg base T (Str.ofString "is_book") 3 1 F_is_book :=
  FunAt.ok (k := 2) ft.f_is_book sc_is_book rfl (fun _ _ _ _ _ _ us hl => match us, hl with | [_], _ => rfl) fun _ _ _ _ _ _ _ hr => (d_seq (d_if (PW.pt (d_orW (d_tnot (d_tval (d_isi (t := .tup) (d_name 0) (by rfl) ft.m_isinstance (by rfl) ft.m_tuple b_tuple))) (d_orW (d_tcmp o_gtA (d_callB c_len (by rfl) ft.m_len b_len (d_cons (d_name 0) d_nil)) (d_gI (by rfl) ft.g_MOST_WORDS) (nomark _)) (d_or1 (d_tnot (d_tval (d_callB (c_all rfl) (by rfl) ft.m_all b_all (d_cons (d_comp rfl sc_is_book.nd (d_iter (d_name 0)) (own := [((Str.ofString "one"), 1)]) (blkOk_by (N := N_is_book) (sc := defScope s_is_book) (by decide +kernel)) (fun _ _ _ _ _ => (g_name 1 sc_is_book.nd)) (fun _ _ _ _ _ => d_pts0) (fun _ _ _ _ _ => (d_call [false] h_is_word hr (by (first | decide | omega)) (by rfl) LamX.takes0 (d_cons (d_name 1) d_nil)))) d_nil)))))))) (d_sone (d_ret d_bl)) d_snil)
  (d_sone (d_ret (d_callB (c_all rfl) (by rfl) ft.m_all b_all (d_cons (d_comp rfl sc_is_book.nd (d_zip (by rfl) ft.m_zip (d_cons (d_name 0) (d_cons (d_slice s_sl (d_name 0) (d_po1 d_int) d_po0) d_nil))) (own := [((Str.ofString "one"), 1), ((Str.ofString "other"), 2)]) (blkOk_by (N := N_is_book) (sc := defScope s_is_book) (by decide +kernel)) (fun _ _ _ _ _ => (g_tup rfl (g_cons (g_name 1 sc_is_book.nd) (g_cons (g_name 2 sc_is_book.nd) g_nil)))) (fun _ _ _ _ _ => d_pts0) (fun _ _ _ _ _ => (d_cmp o_ltA (d_name 1) (d_name 2) (nomark _)))) d_nil)))))
theorem ok_check_book (ft : Ft K mg) (h_is_book : DefOk P w K mg base T (Str.ofString "is_book") 3 1 F_is_book) : DefOk P w K mg base T (Str.ofString "check_book") 4 1 F_check_book :=
  FunAt.ok (k := 3) ft.f_check_book sc_check_book rfl (fun _ _ _ _ _ _ us hl => match us, hl with | [_], _ => rfl) fun _ _ _ _ _ _ _ hr => (d_sone (d_if (d_tnot (d_tval (d_call [false] h_is_book hr (by (first | decide | omega)) (by rfl) (takes_of rfl rfl rfl rfl) (d_cons (d_name 0) d_nil)))) (d_sone (d_raise rfl (takes_of rfl rfl rfl rfl) ft.e_NoBook (by rfl))) d_snil))
theorem ok_check_text (ft : Ft K mg) (h_is_letters : DefOk P w K mg base T (Str.ofString "is_letters") 1 3 F_is_letters) : DefOk P w K mg base T (Str.ofString "check_text") 2 1 F_check_text :=
  FunAt.ok (k := 1) ft.f_check_text sc_check_text rfl (fun _ _ _ _ _ _ us hl => match us, hl with | [_], _ => rfl) fun _ _ _ _ _ _ _ hr => (d_sone (d_if (d_tnot (d_tval (d_call [false, false, false] h_is_letters hr (by (first | decide | omega)) (by rfl) (takes_of rfl rfl rfl rfl) (d_cons (d_name 0) (d_cons d_int (d_cons (d_gI (by rfl) ft.g_MOST_TEXT) d_nil)))))) (d_sone (d_raise rfl (takes_of rfl rfl rfl rfl) ft.e_NoText (by rfl))) d_snil))
theorem ok_all_beginnings (ft : Ft K mg)  : DefOk P w K mg base T (Str.ofString "all_beginnings") 1 1 F_all_beginnings :=
  FunAt.ok (k := 0) ft.f_all_beginnings sc_all_beginnings rfl (fun _ _ _ _ _ _ us hl => match us, hl with | [_], _ => rfl) fun _ _ _ _ _ _ _ hr => (d_sone (d_ret (d_sortSet rfl (by rfl) ft.m_sorted (by rfl) ft.m_set (d_comp2 rfl sc_all_beginnings.nd (d_iter (d_name 0)) (own := [((Str.ofString "word"), 1), ((Str.ofString "size"), 2)]) (blkOk_by (N := N_all_beginnings) (sc := defScope s_all_beginnings) (by decide +kernel)) (fun _ _ _ _ _ => (g_name 1 sc_all_beginnings.nd)) (fun _ _ _ _ _ => d_pts0) (fun _ _ _ _ _ => (d_range1 (by rfl) ft.m_range (d_cons (d_op2 o_add (d_callB c_len (by rfl) ft.m_len b_len (d_cons (d_name 1) d_nil)) d_int) d_nil))) (fun _ _ _ _ _ => (g_name 2 sc_all_beginnings.nd)) (fun _ _ _ _ _ => d_pts0) (fun _ _ _ _ _ => (d_slice s_sl (d_name 1) d_po0 (d_po1 (d_name 2))))))))
theorem ok_beginnings_many (ft : Ft K mg) (h_check_book : DefOk P w K mg base T (Str.ofString "check_book") 4 1 F_check_book) (h_all_beginnings : DefOk P w K mg base T (Str.ofString "all_beginnings") 1 1 F_all_beginnings) : DefOk P w K mg base T (Str.ofString "beginnings_many") 5 1 F_beginnings_many :=
  FunAt.ok (k := 4) ft.f_beginnings_many sc_beginnings_many rfl (fun _ _ _ _ _ _ us hl => match us, hl with | [_], _ => rfl) fun _ _ _ _ _ _ _ hr => (d_seq (d_expr (d_call [false] h_check_book hr (by (first | decide | omega)) (by rfl) (takes_of rfl rfl rfl rfl) (d_cons (d_name 0) d_nil)))
  (d_sone (d_ret (d_callB c_len (by rfl) ft.m_len b_len (d_cons (d_call [false] h_all_beginnings hr (by (first | decide | omega)) (by rfl) (takes_of rfl rfl rfl rfl) (d_cons (d_name 0) d_nil)) d_nil)))))
theorem ok_raw_with (ft : Ft K mg)  : DefOk P w K mg base T (Str.ofString "raw_with") 1 2 F_raw_with :=
  FunAt.ok (k := 0) ft.f_raw_with sc_raw_with rfl (fun _ _ _ _ _ _ us hl => match us, hl with | [_, _], _ => rfl) fun _ _ _ _ _ _ _ hr => (d_sone (d_ret (d_comp rfl sc_raw_with.nd (d_iter (d_name 0)) (own := [((Str.ofString "word"), 2)]) (blkOk_by (N := N_raw_with) (sc := defScope s_raw_with) (by decide +kernel)) (fun _ _ _ _ _ => (g_name 2 sc_raw_with.nd)) (fun _ _ _ _ _ => (d_pts1 (d_tcmp (o_eq (room_eq hr)) (d_slice s_sl (d_name 2) d_po0 (d_po1 (d_callB c_len (by rfl) ft.m_len b_len (d_cons (d_name 1) d_nil)))) (d_name 1) (nomark _)))) (fun _ _ _ _ _ => (d_name 2)))))
theorem ok_with_beginning (ft : Ft K mg) (h_check_book : DefOk P w K mg base T (Str.ofString "check_book") 4 1 F_check_book) (h_check_text : DefOk P w K mg base T (Str.ofString "check_text") 2 1 F_check_text) (h_raw_with : DefOk P w K mg base T (Str.ofString "raw_with") 1 2 F_raw_with) : DefOk P w K mg base T (Str.ofString "with_beginning") 5 2 F_with_beginning :=
  FunAt.ok (k := 4) ft.f_with_beginning sc_with_beginning rfl (fun _ _ _ _ _ _ us hl => match us, hl with | [_, _], _ => rfl) fun _ _ _ _ _ _ _ hr => (d_seq (d_expr (d_call [false] h_check_book hr (by (first | decide | omega)) (by rfl) (takes_of rfl rfl rfl rfl) (d_cons (d_name 0) d_nil)))
  (d_seq (d_expr (d_call [false] h_check_text hr (by (first | decide | omega)) (by rfl) (takes_of rfl rfl rfl rfl) (d_cons (d_name 1) d_nil)))
  (d_sone (d_ret (d_callTy c_tup (by rfl) ft.m_tuple b_tuple (d_cons (d_call [false, false] h_raw_with hr (by (first | decide | omega)) (by rfl) (takes_of rfl rfl rfl rfl) (d_cons (d_name 0) (d_cons (d_name 1) d_nil))) d_nil))))))
theorem ok_raw_next (ft : Ft K mg) (h_raw_with : DefOk P w K mg base T (Str.ofString "raw_with") 1 2 F_raw_with) : DefOk P w K mg base T (Str.ofString "raw_next") 2 2 F_raw_next :=
  FunAt.ok (k := 1) ft.f_raw_next sc_raw_next rfl (fun _ _ _ _ _ _ us hl => match us, hl with | [_, _], _ => rfl) fun _ _ _ _ _ _ _ hr => (d_sone (d_ret (d_sortSet rfl (by rfl) ft.m_sorted (by rfl) ft.m_set (d_comp rfl sc_raw_next.nd (d_iter (d_call [false, false] h_raw_with hr (by (first | decide | omega)) (by rfl) (takes_of rfl rfl rfl rfl) (d_cons (d_name 0) (d_cons (d_name 1) d_nil)))) (own := [((Str.ofString "word"), 2)]) (blkOk_by (N := N_raw_next) (sc := defScope s_raw_next) (by decide +kernel)) (fun _ _ _ _ _ => (g_name 2 sc_raw_next.nd)) (fun _ _ _ _ _ => (d_pts1 (d_tcmp o_gt (d_callB c_len (by rfl) ft.m_len b_len (d_cons (d_name 2) d_nil)) (d_callB c_len (by rfl) ft.m_len b_len (d_cons (d_name 1) d_nil)) (nomark _)))) (fun _ _ _ _ _ => (d_ix i_ix (d_name 2) (d_callB c_len (by rfl) ft.m_len b_len (d_cons (d_name 1) d_nil)) (fun _ _ => rfl)))))))
theorem ok_next_letters (ft : Ft K mg) (h_check_book : DefOk P w K mg base T (Str.ofString "check_book") 4 1 F_check_book) (h_check_text : DefOk P w K mg base T (Str.ofString "check_text") 2 1 F_check_text) (h_raw_next : DefOk P w K mg base T (Str.ofString "raw_next") 2 2 F_raw_next) : DefOk P w K mg base T (Str.ofString "next_letters") 5 2 F_next_letters :=
  FunAt.ok (k := 4) ft.f_next_letters sc_next_letters rfl (fun _ _ _ _ _ _ us hl => match us, hl with | [_, _], _ => rfl) fun _ _ _ _ _ _ _ hr => (d_seq (d_expr (d_call [false] h_check_book hr (by (first | decide | omega)) (by rfl) (takes_of rfl rfl rfl rfl) (d_cons (d_name 0) d_nil)))
  (d_seq (d_expr (d_call [false] h_check_text hr (by (first | decide | omega)) (by rfl) (takes_of rfl rfl rfl rfl) (d_cons (d_name 1) d_nil)))
  (d_sone (d_ret (d_mt (t := .str) (.inl rfl) PySem.F.plainAttrs_str PySem.F.slot_str_join PySem.F.type_str_join m_join d_str (d_cons (d_call [false, false] h_raw_next hr (by (first | decide | omega)) (by rfl) (takes_of rfl rfl rfl rfl) (d_cons (d_name 0) (d_cons (d_name 1) d_nil))) d_nil))))))
theorem ok_split_points (ft : Ft K mg) (h_check_book : DefOk P w K mg base T (Str.ofString "check_book") 4 1 F_check_book) (h_all_beginnings : DefOk P w K mg base T (Str.ofString "all_beginnings") 1 1 F_all_beginnings) (h_raw_next : DefOk P w K mg base T (Str.ofString "raw_next") 2 2 F_raw_next) : DefOk P w K mg base T (Str.ofString "split_points") 5 1 F_split_points :=
  FunAt.ok (k := 4) ft.f_split_points sc_split_points rfl (fun _ _ _ _ _ _ us hl => match us, hl with | [_], _ => rfl) fun _ _ _ _ _ _ _ hr => (d_seq (d_expr (d_call [false] h_check_book hr (by (first | decide | omega)) (by rfl) (takes_of rfl rfl rfl rfl) (d_cons (d_name 0) d_nil)))
  (d_sone (d_ret (d_callTy c_tup (by rfl) ft.m_tuple b_tuple (d_cons (d_comp rfl sc_split_points.nd (d_iter (d_call [false] h_all_beginnings hr (by (first | decide | omega)) (by rfl) (takes_of rfl rfl rfl rfl) (d_cons (d_name 0) d_nil))) (own := [((Str.ofString "text"), 1)]) (blkOk_by (N := N_split_points) (sc := defScope s_split_points) (by decide +kernel)) (fun _ _ _ _ _ => (g_name 1 sc_split_points.nd)) (fun _ _ _ _ _ => (d_pts1 (d_tcmp o_gt (d_callB c_len (by rfl) ft.m_len b_len (d_cons (d_call [false, false] h_raw_next hr (by (first | decide | omega)) (by rfl) LamX.takes0 (d_cons (d_name 0) (d_cons (d_name 1) d_nil))) d_nil)) d_int (nomark _)))) (fun _ _ _ _ _ => (d_name 1))) d_nil)))))
theorem ok__law_hand (ft : Ft K mg)  : DefOk P w K mg base T (Str.ofString "_law_hand") 1 1 F__law_hand :=
  FunAt.ok (k := 0) ft.f__law_hand sc__law_hand rfl (fun _ _ _ _ _ _ us hl => match us, hl with | [_], _ => rfl) fun _ _ _ _ _ _ _ hr => (d_seq (d_setComp (i := 1) rfl sc__law_hand.nd rfl (by first | rfl | decide) (by rfl) (d_iter (d_slice s_sl (d_name 0) d_po0 (d_po1 d_int))) (own := [((Str.ofString "cell"), 2)]) (blkOk_by (N := N__law_hand) (sc := defScope s__law_hand) (by decide +kernel)) (fun _ _ _ _ _ => (g_name 2 sc__law_hand.nd)) (fun _ _ _ _ _ => d_pts0) (fun _ _ _ _ _ => (d_callB c_abs (by rfl) ft.m_abs b_abs (d_cons (d_callTy c_int (by rfl) ft.m_int b_int (d_cons (d_name 2) d_nil)) d_nil))))
  (d_sone (d_ret (d_lst (d_cons (d_name 1) (d_cons d_int (d_cons d_int (d_cons (d_op2 o_add d_int (d_op2 o_mul d_int (d_callB c_len (by rfl) ft.m_len b_len (d_cons (d_name 1) d_nil)))) (d_cons d_int d_nil)))))))))
theorem ok__law_draw (ft : Ft K mg)  : DefOk P w K mg base T (Str.ofString "_law_draw") 1 2 F__law_draw :=
  FunAt.ok (k := 0) ft.f__law_draw sc__law_draw rfl (fun _ _ _ _ _ _ us hl => match us, hl with | [_, _], _ => rfl) fun _ _ _ _ _ _ _ hr => (d_seq (d_if (PW.pt (d_andW (d_tcmp (o_eq (room_eq hr)) (d_ix i_ix (d_name 0) d_int (fun _ _ => rfl)) d_int (nomark _)) (d_and1 (d_tcmp o_lt (d_ix i_ix (d_name 0) d_int (fun _ _ => rfl)) (d_callB c_len (by rfl) ft.m_len b_len (d_cons (d_ix i_ix (d_name 0) d_int (fun _ _ => rfl)) d_nil)) (nomark _))))) (d_seq (d_set (i := 2) sc__law_draw.nd rfl (by first | exact .inl rfl | exact .inr rfl) (d_ix i_ix (d_ix i_ix (d_name 0) d_int (fun _ _ => rfl)) (d_ix i_ix (d_name 0) d_int (fun _ _ => rfl)) (fun _ _ => rfl)))
  (d_seq (d_store (d_op2 o_add (d_ix i_ix (d_name 0) d_int (fun _ _ => rfl)) d_int) (d_name 0) d_int)
  (d_seq (d_store (d_op2 o_mod (d_callTy c_int (by rfl) ft.m_int b_int (d_cons (d_op2 o_add (d_op2 o_add (d_op2 o_mul (d_ix i_ix (d_name 0) d_int (fun _ _ => rfl)) d_int) (d_op2 o_mul (d_name 2) d_int)) d_int) d_nil)) d_int) (d_name 0) d_int)
  (d_sone (d_if (d_tcmp o_ge (d_name 2) (d_op2 o_pow d_int d_int) (nomark _)) (d_sone (d_store (d_name 2) (d_name 0) d_int)) d_snil))))) d_snil)
  (d_seq (d_if (d_tcmp o_gt (d_ix i_ix (d_name 0) d_int (fun _ _ => rfl)) d_int (nomark _)) (d_seq (d_set (i := 3) sc__law_draw.nd rfl (by first | exact .inl rfl | exact .inr rfl) (d_op2 o_mod (d_callTy c_int (by rfl) ft.m_int b_int (d_cons (d_ix i_ix (d_name 0) d_int (fun _ _ => rfl)) d_nil)) (d_name 1)))
  (d_seq (d_store (d_op2 o_fdiv (d_ix i_ix (d_name 0) d_int (fun _ _ => rfl)) (d_name 1)) (d_name 0) d_int)
  (d_sone (d_ret (d_name 3))))) d_snil)
  (d_seq (d_store (d_op2 o_add (d_ix i_ix (d_name 0) d_int (fun _ _ => rfl)) d_int) (d_name 0) d_int)
  (d_seq (d_set (i := 4) sc__law_draw.nd rfl (by first | exact .inl rfl | exact .inr rfl) (d_op2 o_mod (d_callTy c_int (by rfl) ft.m_int b_int (d_cons (d_op2 o_mul (d_callTy c_int (by rfl) ft.m_int b_int (d_cons (d_op2 o_add (d_ix i_ix (d_name 0) d_int (fun _ _ => rfl)) (d_op2 o_mul d_int (d_ix i_ix (d_name 0) d_int (fun _ _ => rfl)))) d_nil)) d_int) d_nil)) d_int))
  (d_seq (d_set (i := 4) sc__law_draw.nd rfl (by first | exact .inl rfl | exact .inr rfl) (d_op2 o_mod (d_callTy c_int (by rfl) ft.m_int b_int (d_cons (d_op2 o_mul (d_name 4) (d_op2 o_add (d_op2 o_fdiv (d_name 4) d_int) d_int)) d_nil)) d_int))
  (d_seq (d_set (i := 4) sc__law_draw.nd rfl (by first | exact .inl rfl | exact .inr rfl) (d_op2 o_mod (d_callTy c_int (by rfl) ft.m_int b_int (d_cons (d_op2 o_mul (d_name 4) (d_op2 o_add (d_op2 o_fdiv (d_name 4) d_int) d_int)) d_nil)) d_int))
  (d_sone (d_ret (d_op2 o_mod (d_callTy c_int (by rfl) ft.m_int b_int (d_cons (d_op2 o_fdiv (d_name 4) d_int) d_nil)) (d_name 1))))))))))
theorem ok__law_any (ft : Ft K mg) (h__law_draw : DefOk P w K mg base T (Str.ofString "_law_draw") 1 2 F__law_draw) : DefOk P w K mg base T (Str.ofString "_law_any") 2 2 F__law_any :=
  FunAt.ok (k := 1) ft.f__law_any sc__law_any rfl (fun _ _ _ _ _ _ us hl => match us, hl with | [_, _], _ => rfl) fun _ _ _ _ _ _ _ hr => (d_sone (d_ret (d_ix i_ix (d_name 1) (d_call [true, false] h__law_draw hr (by (first | decide | omega)) (by rfl) (takes_of rfl rfl rfl rfl) (d_cons (d_name 0) (d_cons (d_callB c_len (by rfl) ft.m_len b_len (d_cons (d_name 1) d_nil)) d_nil))) (fun _ _ => rfl))))
theorem ok__law_word (ft : Ft K mg) (h__law_draw : DefOk P w K mg base T (Str.ofString "_law_draw") 1 2 F__law_draw) (h__law_any : DefOk P w K mg base T (Str.ofString "_law_any") 2 2 F__law_any) : DefOk P w K mg base T (Str.ofString "_law_word") 3 4 F__law_word :=
  FunAt.ok (k := 2) ft.f__law_word sc__law_word rfl (fun _ _ _ _ _ _ us hl => match us, hl with | [_, _, _, _], _ => rfl) fun _ _ _ _ _ _ _ hr => (d_seq (d_set (i := 4) sc__law_word.nd rfl (by first | exact .inl rfl | exact .inr rfl) (d_op2 o_add (d_name 2) (d_call [true, false] h__law_draw hr (by (first | decide | omega)) (by rfl) (takes_of rfl rfl rfl rfl) (d_cons (d_name 0) (d_cons (d_op2 o_sub (d_op2 o_add (d_name 3) d_int) (d_name 2)) d_nil)))))
  (d_sone (d_ret (d_mt (t := .str) (.inl rfl) PySem.F.plainAttrs_str PySem.F.slot_str_join PySem.F.type_str_join m_join d_str (d_cons (d_comp rfl sc__law_word.nd (d_range1 (by rfl) ft.m_range (d_cons (d_name 4) d_nil)) (own := [((Str.ofString "letter"), 5)]) (blkOk_by (N := N__law_word) (sc := defScope s__law_word) (by decide +kernel)) (fun _ _ _ _ _ => (g_name 5 sc__law_word.nd)) (fun _ _ _ _ _ => d_pts0) (fun _ _ _ _ _ => (d_call [true, false] h__law_any hr (by (first | decide | omega)) (by rfl) LamX.takes0 (d_cons (d_name 0) (d_cons (d_name 1) d_nil))))) d_nil)))))
theorem ok__law_book (ft : Ft K mg) (h__law_draw : DefOk P w K mg base T (Str.ofString "_law_draw") 1 2 F__law_draw) (h__law_word : DefOk P w K mg base T (Str.ofString "_law_word") 3 4 F__law_word) : DefOk P w K mg base T (Str.ofString "_law_book") 4 4 F__law_book :=
  FunAt.ok (k := 3) ft.f__law_book sc__law_book rfl (fun _ _ _ _ _ _ us hl => match us, hl with | [_, _, _, _], _ => rfl) fun _ _ _ _ _ _ _ hr => (d_seq (d_setComp (i := 4) rfl sc__law_book.nd rfl (by first | rfl | decide) (by rfl) (d_range1 (by rfl) ft.m_range (d_cons (d_call [true, false] h__law_draw hr (by (first | decide | omega)) (by rfl) (takes_of rfl rfl rfl rfl) (d_cons (d_name 0) (d_cons (d_op2 o_add (d_name 2) d_int) d_nil))) d_nil)) (own := [((Str.ofString "word"), 5)]) (blkOk_by (N := N__law_book) (sc := defScope s__law_book) (by decide +kernel)) (fun _ _ _ _ _ => (g_name 5 sc__law_book.nd)) (fun _ _ _ _ _ => d_pts0) (fun _ _ _ _ _ => (d_call [true, false, false, false] h__law_word hr (by (first | decide | omega)) (by rfl) LamX.takes0 (d_cons (d_name 0) (d_cons (d_name 1) (d_cons d_int (d_cons (d_name 3) d_nil)))))))
  (d_sone (d_ret (d_callTy c_tup (by rfl) ft.m_tuple b_tuple (d_cons (d_sortSet rfl (by rfl) ft.m_sorted (by rfl) ft.m_set (d_name 4)) d_nil)))))
theorem ok__law_deep (ft : Ft K mg) (h__law_draw : DefOk P w K mg base T (Str.ofString "_law_draw") 1 2 F__law_draw) (h__law_any : DefOk P w K mg base T (Str.ofString "_law_any") 2 2 F__law_any) : DefOk P w K mg base T (Str.ofString "_law_deep") 3 1 F__law_deep :=
  FunAt.ok (k := 2) ft.f__law_deep sc__law_deep rfl (fun _ _ _ _ _ _ us hl => match us, hl with | [_], _ => rfl) fun _ _ _ _ _ _ _ hr => (d_seq (d_set (i := 1) sc__law_deep.nd rfl (by first | exact .inl rfl | exact .inr rfl) (d_call [true, false] h__law_any hr (by (first | decide | omega)) (by rfl) (takes_of rfl rfl rfl rfl) (d_cons (d_name 0) (d_cons (d_lst (d_cons d_non (d_cons d_str (d_cons (d_un o_neg d_int) d_nil)))) d_nil))))
  (d_seq (d_for (passes_of rfl) rfl (d_range1 (by rfl) ft.m_range (d_cons (d_op2 o_add d_int (d_call [true, false] h__law_draw hr (by (first | decide | omega)) (by rfl) (takes_of rfl rfl rfl rfl) (d_cons (d_name 0) (d_cons d_int d_nil)))) d_nil)) (g_name 2 sc__law_deep.nd) (d_sone (d_set (i := 1) sc__law_deep.nd rfl (by first | exact .inl rfl | exact .inr rfl) (d_ifExp (d_tcmp (o_eq (room_eq hr)) (d_call [true, false] h__law_draw hr (by (first | decide | omega)) (by rfl) (takes_of rfl rfl rfl rfl) (d_cons (d_name 0) (d_cons d_int d_nil))) d_int (nomark _)) (d_lst (d_cons (d_name 1) d_nil)) (d_tup (d_cons (d_name 1) d_nil))))))
  (d_sone (d_ret (d_name 1)))))
theorem ok__law_no_book (ft : Ft K mg) (h__law_any : DefOk P w K mg base T (Str.ofString "_law_any") 2 2 F__law_any) (h__law_deep : DefOk P w K mg base T (Str.ofString "_law_deep") 3 1 F__law_deep) : DefOk P w K mg base T (Str.ofString "_law_no_book") 4 1 F__law_no_book :=
  FunAt.ok (k := 3) ft.f__law_no_book sc__law_no_book rfl (fun _ _ _ _ _ _ us hl => match us, hl with | [_], _ => rfl) fun _ _ _ _ _ _ _ hr => (d_seq (d_set (i := 1) sc__law_no_book.nd rfl (by first | exact .inl rfl | exact .inr rfl) (d_lst (d_cons d_non (d_cons (d_lst (d_cons d_str d_nil)) (d_cons (d_tup (d_cons d_str (d_cons d_str d_nil))) (d_cons (d_tup (d_cons d_str (d_cons d_str d_nil))) (d_cons (d_tup (d_cons d_str d_nil)) (d_cons (d_tup (d_cons d_str d_nil)) (d_cons (d_tup (d_cons d_int d_nil)) (d_cons d_str (d_cons d_int (d_cons d_dic (d_cons (d_tup (d_cons d_non d_nil)) (d_cons (d_tup (d_cons d_str d_nil)) d_nil))))))))))))))
  (d_sone (d_ret (d_call [true, false] h__law_any hr (by (first | decide | omega)) (by rfl) (takes_of rfl rfl rfl rfl) (d_cons (d_name 0) (d_cons (d_op2 o_add (d_name 1) (d_lst (d_cons (d_call [true] h__law_deep hr (by (first | decide | omega)) (by rfl) (takes_of rfl rfl rfl rfl) (d_cons (d_name 0) d_nil)) d_nil))) d_nil))))))
theorem gv__law_told (X : Cx) (T : Tb) (ft : Ft X.K X.mg) (g : Addr) (cdv : Value) (q : Str) : LamX.GivesTo X N__law_told (Str.ofString "_law_told") (defScope s__law_told) g cdv (defBody s__law_told) (Str.ofString "call") q (TTH X.K X.mg T (esN es__law_told) hn__law_told) := by
  have xx : ∀ x ∈ es__law_told, ExcAt X.K X.mg x := fun x hx => by
      unfold es__law_told at hx
      simp only [List.mem_cons, List.not_mem_nil, or_false] at hx; 
      rcases hx with rfl | rfl
      · exact ft.x_NoBook
      · exact ft.x_NoText
  have xm : ∀ x ∈ es__law_told, ExmAt X.K X.mg x (Str.ofString "WordError") := fun x hx => by
      unfold es__law_told at hx
      simp only [List.mem_cons, List.not_mem_nil, or_false] at hx; 
      rcases hx with rfl | rfl
      · exact ft.h_NoBook_WordError
      · exact ft.h_NoText_WordError
  have ki_NoBook0 : ∀ x ∈ es__law_told, IsAt X.K X.mg x (Str.ofString "NoBook") (isB_NoBook x) := fun x hx => by
      unfold es__law_told at hx
      simp only [List.mem_cons, List.not_mem_nil, or_false] at hx; 
      rcases hx with rfl | rfl
      · exact (show isB_NoBook (Str.ofString "NoBook") = true from by decide) ▸ ft.i_NoBook_NoBook
      · exact (show isB_NoBook (Str.ofString "NoText") = false from by decide) ▸ ft.i_NoText_NoBook
  have ki_NoText0 : ∀ x ∈ es__law_told, IsAt X.K X.mg x (Str.ofString "NoText") (isB_NoText x) := fun x hx => by
      unfold es__law_told at hx
      simp only [List.mem_cons, List.not_mem_nil, or_false] at hx; 
      rcases hx with rfl | rfl
      · exact (show isB_NoText (Str.ofString "NoBook") = false from by decide) ▸ ft.i_NoBook_NoText
      · exact (show isB_NoText (Str.ofString "NoText") = true from by decide) ▸ ft.i_NoText_NoText
  have kt_ValueError0 : ∀ x ∈ es__law_told, IsTyAt X.K X.mg x "ValueError" true := fun x hx => by
      unfold es__law_told at hx
      simp only [List.mem_cons, List.not_mem_nil, or_false] at hx; 
      rcases hx with rfl | rfl
      · exact ft.i_NoBook_ValueError
      · exact ft.i_NoText_ValueError
  refine gives_call (X := X) (T := T) (Ng := N__law_told) (a := (Str.ofString "call")) (n := (Str.ofString "e")) (en := (Str.ofString "WordError")) (pres := []) (i := 1) (gpre := sNext) (cK := (fun (ρ : Rho) (_ : PD) => So.nx ρ [])) (K2 := (fun (D : Ends) (σ : L2.St) (_ : V) (H2 : Hp) => D.nx σ H2)) (gpost := (sRet (eC (.str (Str.ofString "let"))))) (gsu := gsu__law_told) sc__law_told.nd rfl rfl rfl (ft.c_WordError).choose_spec (by decide) (by decide) hpre0 hcs_expr hK_expr (fun s H => (d_ret d_str)) (exm_mem xm (ft.c_WordError).choose_spec) (fun f => ⟨_, rfl, rfl⟩) (fun s H a oe pn e cls d he hx hz hf => ?_)
  obtain ⟨D, gD, rfl, rfl⟩ := su_start he hx
  have CC := xx e.name (esN_mem he).1 D gD
  have ki_NoBook := ki_NoBook0 e.name (esN_mem he).1
  have ki_NoText := ki_NoText0 e.name (esN_mem he).1
  have kt_ValueError := kt_ValueError0 e.name (esN_mem he).1
  exact (d_seq (d_set (i := 2) sc__law_told.nd rfl (by first | exact .inl rfl | exact .inr rfl) (d_lst (d_cons (d_isO 1 CC hz hf (ki_NoBook _ _ gD (ft.c_NoBook).choose_spec) (ft.c_NoBook).choose_spec (by rfl) (by rfl) ft.m_isinstance rfl (by first | exact Or.inl rfl | exact Or.inr (Or.inl rfl))) (d_cons (d_isO 1 CC hz hf (ki_NoText _ _ gD (ft.c_NoText).choose_spec) (ft.c_NoText).choose_spec (by rfl) (by rfl) ft.m_isinstance rfl (by first | exact Or.inl rfl | exact Or.inr (Or.inl rfl))) d_nil))))
  (d_seq (d_if (PW.pt (d_andW (d_tcmp o_eqS (d_mt (t := .lst) (.inr rfl) PySem.F.plainAttrs_list PySem.F.slot_list_count PySem.F.type_list_count m_countL (d_name 2) (d_cons d_bl d_nil)) d_int (nomark _)) (d_and1 (d_tval (d_isB 1 CC hz hf (kt_ValueError _ gD) ft.m_ValueError b_ValueError (by rfl) (by rfl) ft.m_isinstance rfl (by first | exact Or.inl rfl | exact Or.inr (Or.inl rfl))))))) (d_sone (d_ret (d_ix i_ix (d_lst (d_cons d_str (d_cons d_str d_nil))) (d_mt (t := .lst) (.inr rfl) PySem.F.plainAttrs_list PySem.F.slot_list_index PySem.F.type_list_index m_indexL (d_name 2) (d_cons d_bl d_nil)) (fun _ _ => rfl)))) d_snil)
  (d_sone (d_ret d_str))))
theorem ok__law_begun (ft : Ft K mg)  : DefOk P w K mg base T (Str.ofString "_law_begun") 1 1 F__law_begun :=
  FunAt.ok (k := 0) ft.f__law_begun sc__law_begun rfl (fun _ _ _ _ _ _ us hl => match us, hl with | [_], _ => rfl) fun _ _ _ _ _ _ _ hr => (d_seq (d_set (i := 1) sc__law_begun.nd rfl (by first | exact .inl rfl | exact .inr rfl) (d_lst d_nil))
  (d_seq (d_for (passes_of rfl) rfl (d_iter (d_name 0)) (g_name 2 sc__law_begun.nd) (d_sone (d_expr (d_mut PySem.F.slot_list_extend PySem.F.type_list_extend u_extend (d_name 1) (d_cons (d_comp rfl sc__law_begun.nd (d_range1 (by rfl) ft.m_range (d_cons (d_op2 o_add (d_callB c_len (by rfl) ft.m_len b_len (d_cons (d_name 2) d_nil)) d_int) d_nil)) (own := [((Str.ofString "at"), 3)]) (blkOk_by (N := N__law_begun) (sc := defScope s__law_begun) (by decide +kernel)) (fun _ _ _ _ _ => (g_name 3 sc__law_begun.nd)) (fun _ _ _ _ _ => d_pts0) (fun _ _ _ _ _ => (d_slice s_sl (d_name 2) d_po0 (d_po1 (d_name 3))))) d_nil)))))
  (d_sone (d_ret (d_sortSet rfl (by rfl) ft.m_sorted (by rfl) ft.m_set (d_name 1))))))
theorem ok__law_next (ft : Ft K mg)  : DefOk P w K mg base T (Str.ofString "_law_next") 1 2 F__law_next :=
  FunAt.ok (k := 0) ft.f__law_next sc__law_next rfl (fun _ _ _ _ _ _ us hl => match us, hl with | [_, _], _ => rfl) fun _ _ _ _ _ _ _ hr => (d_seq (d_setComp (i := 2) rfl sc__law_next.nd rfl (by first | rfl | decide) (by rfl) (d_iter (d_name 0)) (own := [((Str.ofString "word"), 3)]) (blkOk_by (N := N__law_next) (sc := defScope s__law_next) (by decide +kernel)) (fun _ _ _ _ _ => (g_name 3 sc__law_next.nd)) (fun _ _ _ _ _ => (d_pts1 (PW.pt (d_andW (d_tcmp (o_eq (room_eq hr)) (d_slice s_sl (d_name 3) d_po0 (d_po1 (d_callB c_len (by rfl) ft.m_len b_len (d_cons (d_name 1) d_nil)))) (d_name 1) (nomark _)) (d_and1 (d_tcmp o_gt (d_callB c_len (by rfl) ft.m_len b_len (d_cons (d_name 3) d_nil)) (d_callB c_len (by rfl) ft.m_len b_len (d_cons (d_name 1) d_nil)) (nomark _))))))) (fun _ _ _ _ _ => (d_ix i_ix (d_name 3) (d_callB c_len (by rfl) ft.m_len b_len (d_cons (d_name 1) d_nil)) (fun _ _ => rfl))))
  (d_sone (d_ret (d_mt (t := .str) (.inl rfl) PySem.F.plainAttrs_str PySem.F.slot_str_join PySem.F.type_str_join m_join d_str (d_cons (d_sortSet rfl (by rfl) ft.m_sorted (by rfl) ft.m_set (d_name 2)) d_nil)))))
theorem ok__law_is_right (ft : Ft K mg) (h_beginnings_many : DefOk P w K mg base T (Str.ofString "beginnings_many") 5 1 F_beginnings_many) (h_with_beginning : DefOk P w K mg base T (Str.ofString "with_beginning") 5 2 F_with_beginning) (h_next_letters : DefOk P w K mg base T (Str.ofString "next_letters") 5 2 F_next_letters) (h_split_points : DefOk P w K mg base T (Str.ofString "split_points") 5 1 F_split_points) (h__law_any : DefOk P w K mg base T (Str.ofString "_law_any") 2 2 F__law_any) (h__law_word : DefOk P w K mg base T (Str.ofString "_law_word") 3 4 F__law_word) (h__law_begun : DefOk P w K mg base T (Str.ofString "_law_begun") 1 1 F__law_begun) (h__law_next : DefOk P w K mg base T (Str.ofString "_law_next") 1 2 F__law_next) : DefOk P w K mg base T (Str.ofString "_law_is_right") 6 2 F__law_is_right :=
  FunAt.ok (k := 5) ft.f__law_is_right sc__law_is_right rfl (fun _ _ _ _ _ _ us hl => match us, hl with | [_, _], _ => rfl) fun _ _ _ _ _ _ _ hr => (d_seq (d_set (i := 2) sc__law_is_right.nd rfl (by first | exact .inl rfl | exact .inr rfl) (d_call [false] h__law_begun hr (by (first | decide | omega)) (by rfl) (takes_of rfl rfl rfl rfl) (d_cons (d_name 1) d_nil)))
  (d_seq (d_if (d_tcmp (o_ne (room_eq hr)) (d_lst (d_cons (d_call [false] h_beginnings_many hr (by (first | decide | omega)) (by rfl) (takes_of rfl rfl rfl rfl) (d_cons (d_name 1) d_nil)) (d_cons (d_call [false] h_beginnings_many hr (by (first | decide | omega)) (by rfl) (takes_of rfl rfl rfl rfl) (d_cons (d_name 1) d_nil)) d_nil))) (d_lst (d_cons (d_callB c_len (by rfl) ft.m_len b_len (d_cons (d_name 2) d_nil)) (d_cons (d_callB c_len (by rfl) ft.m_len b_len (d_cons (d_name 2) d_nil)) d_nil))) (nomark _)) (d_sone (d_ret d_bl)) d_snil)
  (d_seq (d_set (i := 3) sc__law_is_right.nd rfl (by first | exact .inl rfl | exact .inr rfl) (d_callTy c_tup (by rfl) ft.m_tuple b_tuple (d_cons (d_comp rfl sc__law_is_right.nd (d_iter (d_name 2)) (own := [((Str.ofString "text"), 4)]) (blkOk_by (N := N__law_is_right) (sc := defScope s__law_is_right) (by decide +kernel)) (fun _ _ _ _ _ => (g_name 4 sc__law_is_right.nd)) (fun _ _ _ _ _ => (d_pts1 (d_tcmp o_gt (d_callB c_len (by rfl) ft.m_len b_len (d_cons (d_call [false, false] h__law_next hr (by (first | decide | omega)) (by rfl) LamX.takes0 (d_cons (d_name 1) (d_cons (d_name 4) d_nil))) d_nil)) d_int (nomark _)))) (fun _ _ _ _ _ => (d_name 4))) d_nil)))
  (d_seq (d_if (d_tcmp (o_ne (room_eq hr)) (d_lst (d_cons (d_call [false] h_split_points hr (by (first | decide | omega)) (by rfl) (takes_of rfl rfl rfl rfl) (d_cons (d_name 1) d_nil)) (d_cons (d_call [false] h_split_points hr (by (first | decide | omega)) (by rfl) (takes_of rfl rfl rfl rfl) (d_cons (d_name 1) d_nil)) d_nil))) (d_lst (d_cons (d_name 3) (d_cons (d_name 3) d_nil))) (nomark _)) (d_sone (d_ret d_bl)) d_snil)
  (d_seq (d_set (i := 5) sc__law_is_right.nd rfl (by first | exact .inl rfl | exact .inr rfl) (d_lst (d_cons (d_call [true, false, false, false] h__law_word hr (by (first | decide | omega)) (by rfl) (takes_of rfl rfl rfl rfl) (d_cons (d_name 0) (d_cons d_str (d_cons d_int (d_cons d_int d_nil))))) (d_cons d_str (d_cons d_str d_nil)))))
  (d_seq (d_if (d_tcmp o_gt (d_callB c_len (by rfl) ft.m_len b_len (d_cons (d_name 2) d_nil)) d_int (nomark _)) (d_sone (d_set (i := 5) sc__law_is_right.nd rfl (by first | exact .inl rfl | exact .inr rfl) (d_op2 o_add (d_name 5) (d_comp rfl sc__law_is_right.nd (d_range1 (by rfl) ft.m_range (d_cons d_int d_nil)) (own := [((Str.ofString "lap"), 6)]) (blkOk_by (N := N__law_is_right) (sc := defScope s__law_is_right) (by decide +kernel)) (fun _ _ _ _ _ => (g_name 6 sc__law_is_right.nd)) (fun _ _ _ _ _ => d_pts0) (fun _ _ _ _ _ => (d_call [true, false] h__law_any hr (by (first | decide | omega)) (by rfl) LamX.takes0 (d_cons (d_name 0) (d_cons (d_name 2) d_nil)))))))) d_snil)
  (d_seq (d_for (passes_of rfl) rfl (d_iter (d_name 5)) (g_name 4 sc__law_is_right.nd) (d_seq (d_set (i := 7) sc__law_is_right.nd rfl (by first | exact .inl rfl | exact .inr rfl) (d_callTy c_tup (by rfl) ft.m_tuple b_tuple (d_cons (d_comp rfl sc__law_is_right.nd (d_iter (d_name 1)) (own := [((Str.ofString "word"), 8)]) (blkOk_by (N := N__law_is_right) (sc := defScope s__law_is_right) (by decide +kernel)) (fun _ _ _ _ _ => (g_name 8 sc__law_is_right.nd)) (fun _ _ _ _ _ => (d_pts1 (d_tcmp (o_eq (room_eq hr)) (d_slice s_sl (d_name 8) d_po0 (d_po1 (d_callB c_len (by rfl) ft.m_len b_len (d_cons (d_name 4) d_nil)))) (d_name 4) (nomark _)))) (fun _ _ _ _ _ => (d_name 8))) d_nil)))
  (d_seq (d_if (d_tcmp (o_ne (room_eq hr)) (d_lst (d_cons (d_call [false, false] h_with_beginning hr (by (first | decide | omega)) (by rfl) (takes_of rfl rfl rfl rfl) (d_cons (d_name 1) (d_cons (d_name 4) d_nil))) (d_cons (d_call [false, false] h_with_beginning hr (by (first | decide | omega)) (by rfl) (takes_of rfl rfl rfl rfl) (d_cons (d_name 1) (d_cons (d_name 4) d_nil))) d_nil))) (d_lst (d_cons (d_name 7) (d_cons (d_name 7) d_nil))) (nomark _)) (d_sone (d_ret d_bl)) d_snil)
  (d_seq (d_if (d_tcmp (o_ne (room_eq hr)) (d_call [false, false] h_next_letters hr (by (first | decide | omega)) (by rfl) (takes_of rfl rfl rfl rfl) (d_cons (d_name 1) (d_cons (d_name 4) d_nil))) (d_call [false, false] h__law_next hr (by (first | decide | omega)) (by rfl) (takes_of rfl rfl rfl rfl) (d_cons (d_name 1) (d_cons (d_name 4) d_nil))) (nomark _)) (d_sone (d_ret d_bl)) d_snil)
  (d_seq (d_set (i := 9) sc__law_is_right.nd rfl (by first | exact .inl rfl | exact .inr rfl) (d_ifExp (d_tcmp o_in (d_name 4) (d_name 1) (by rfl)) (d_lst (d_cons (d_name 4) d_nil)) (d_lst d_nil)))
  (d_seq (d_for (passes_of rfl) rfl (d_iter (d_call [false, false] h_next_letters hr (by (first | decide | omega)) (by rfl) (takes_of rfl rfl rfl rfl) (d_cons (d_name 1) (d_cons (d_name 4) d_nil)))) (g_name 10 sc__law_is_right.nd) (d_sone (d_if (d_tcmp o_lt (d_callB c_len (by rfl) ft.m_len b_len (d_cons (d_name 4) d_nil)) d_int (nomark _)) (d_sone (d_expr (d_mut PySem.F.slot_list_extend PySem.F.type_list_extend u_extend (d_name 9) (d_cons (d_callTy c_list (by rfl) ft.m_list b_list (d_cons (d_call [false, false] h_with_beginning hr (by (first | decide | omega)) (by rfl) (takes_of rfl rfl rfl rfl) (d_cons (d_name 1) (d_cons (d_op2 o_add (d_name 4) (d_name 10)) d_nil))) d_nil)) d_nil)))) d_snil)))
  (d_sone (d_if (d_tcmp (o_ne (room_eq hr)) (d_callTy c_tup (by rfl) ft.m_tuple b_tuple (d_cons (d_callB c_sorted (by rfl) ft.m_sorted b_sorted (d_cons (d_name 9) d_nil)) d_nil)) (d_name 7) (nomark _)) (d_sone (d_ret d_bl)) d_snil))))))))
  (d_seq (d_set (i := 11) sc__law_is_right.nd rfl (by first | exact .inl rfl | exact .inr rfl) (d_callTy c_tup (by rfl) ft.m_tuple b_tuple (d_cons (d_sortSet rfl (by rfl) ft.m_sorted (by rfl) ft.m_set (d_op2 o_add (d_name 1) (d_tup (d_cons (d_call [true, false, false, false] h__law_word hr (by (first | decide | omega)) (by rfl) (takes_of rfl rfl rfl rfl) (d_cons (d_name 0) (d_cons d_str (d_cons d_int (d_cons d_int d_nil))))) d_nil)))) d_nil)))
  (d_sone (d_ret (d_cmp o_ge (d_call [false] h_beginnings_many hr (by (first | decide | omega)) (by rfl) (takes_of rfl rfl rfl rfl) (d_cons (d_name 11) d_nil)) (d_callB c_len (by rfl) ft.m_len b_len (d_cons (d_name 2) d_nil)) (nomark _))))))))))))
theorem fn_law {f c P0 : Addr} {oc : Value} {od an : Option Addr} {osl : Array (Option Value)} {kV doc pm ct : Value} (lk : K.lookup f = some ⟨oc, od, .func (PySem.W.fnOf (Str.ofString "law") (Str.ofString "law") (defArgs s_law) (defBody s_law) (defScope s_law) .none kV doc pm an (.ref c) ct), osl⟩) (hcd : PySem.W.codeIn K (.ref c) (Str.ofString "law") = true) (ft : Ft K mg) (TB : LamX.TabB base mg c P0) (hT : (P0, q_law) ∈ T) (hU : ∀ p ∈ T, p.1 = P0 → p.2 = q_law) (h_beginnings_many : DefOk P w K mg base T (Str.ofString "beginnings_many") 5 1 F_beginnings_many) (h_with_beginning : DefOk P w K mg base T (Str.ofString "with_beginning") 5 2 F_with_beginning) (h_next_letters : DefOk P w K mg base T (Str.ofString "next_letters") 5 2 F_next_letters) (h_split_points : DefOk P w K mg base T (Str.ofString "split_points") 5 1 F_split_points) (h__law_hand : DefOk P w K mg base T (Str.ofString "_law_hand") 1 1 F__law_hand) (h__law_any : DefOk P w K mg base T (Str.ofString "_law_any") 2 2 F__law_any) (h__law_book : DefOk P w K mg base T (Str.ofString "_law_book") 4 4 F__law_book) (h__law_deep : DefOk P w K mg base T (Str.ofString "_law_deep") 3 1 F__law_deep) (h__law_no_book : DefOk P w K mg base T (Str.ofString "_law_no_book") 4 1 F__law_no_book) (h__law_is_right : DefOk P w K mg base T (Str.ofString "_law_is_right") 6 2 F__law_is_right) : FnOk P w K mg base (L2.CX P w) 8 f (PySem.W.fnOf (Str.ofString "law") (Str.ofString "law") (defArgs s_law) (defBody s_law) (defScope s_law) .none kV doc pm an (.ref c) ct) [(Str.ofString "script")] (spF K mg T 1 F_law) :=
  d_funL (k := 7) lk hcd sc_law rfl fun _ _ _ _ _ hr => (d_seq (d_set (i := 1) sc_law.nd rfl (by first | exact .inl rfl | exact .inr rfl) (d_call [false] h__law_hand hr (by (first | decide | omega)) (by rfl) (takes_of rfl rfl rfl rfl) (d_cons (d_name 0) d_nil)))
  (d_seq (d_set (i := 2) sc_law.nd rfl (by first | exact .inl rfl | exact .inr rfl) (d_tup (d_cons d_str (d_cons d_str (d_cons d_str (d_cons d_str d_nil))))))
  (d_seq (d_if (PW.pt (d_orW (d_tcmp (o_ne (room_eq hr)) (d_call [false] h_beginnings_many hr (by (first | decide | omega)) (by rfl) (takes_of rfl rfl rfl rfl) (d_cons (d_name 2) d_nil)) d_int (nomark _)) (d_orW (d_tcmp (o_ne (room_eq hr)) (d_call [false] h_split_points hr (by (first | decide | omega)) (by rfl) (takes_of rfl rfl rfl rfl) (d_cons (d_name 2) d_nil)) (d_tup (d_cons d_str (d_cons d_str d_nil))) (nomark _)) (d_or1 (d_tcmp (o_ne (room_eq hr)) (d_call [false, false] h_next_letters hr (by (first | decide | omega)) (by rfl) (takes_of rfl rfl rfl rfl) (d_cons (d_name 2) (d_cons d_str d_nil))) d_str (nomark _)))))) (d_sone (d_ret d_bl)) d_snil)
  (d_seq (d_if (d_tcmp (o_ne (room_eq hr)) (d_call [false, false] h_with_beginning hr (by (first | decide | omega)) (by rfl) (takes_of rfl rfl rfl rfl) (d_cons (d_name 2) (d_cons d_str d_nil))) (d_tup (d_cons d_str d_nil)) (nomark _)) (d_sone (d_ret d_bl)) d_snil)
  (d_seq (d_for (passes_of rfl) rfl (d_range1 (by rfl) ft.m_range (d_cons d_int d_nil)) (g_name 3 sc_law.nd) (d_seq (d_set (i := 2) sc_law.nd rfl (by first | exact .inl rfl | exact .inr rfl) (d_call [true, false, false, false] h__law_book hr (by (first | decide | omega)) (by rfl) (takes_of rfl rfl rfl rfl) (d_cons (d_name 1) (d_cons d_str (d_cons d_int (d_cons d_int d_nil))))))
  (d_seq (d_if (d_tnot (d_tval (d_call [true, false] h__law_is_right hr (by (first | decide | omega)) (by rfl) (takes_of rfl rfl rfl rfl) (d_cons (d_name 1) (d_cons (d_name 2) d_nil))))) (d_sone (d_ret d_bl)) d_snil)
  (d_seq (d_set (i := 4) sc_law.nd rfl (by first | exact .inl rfl | exact .inr rfl) (d_lst (d_cons d_non (d_cons d_str (d_cons d_str (d_cons d_str (d_cons d_int (d_cons (d_tup (d_cons d_str d_nil)) (d_cons (d_lst d_nil) (d_cons d_dic (d_cons (d_call [true] h__law_deep hr (by (first | decide | omega)) (by rfl) (takes_of rfl rfl rfl rfl) (d_cons (d_name 1) d_nil)) d_nil)))))))))))
  (d_seq (d_asg (d_tup (d_cons (d_call [true] h__law_no_book hr (by (first | decide | omega)) (by rfl) (takes_of rfl rfl rfl rfl) (d_cons (d_name 1) d_nil)) (d_cons (d_call [true, false] h__law_any hr (by (first | decide | omega)) (by rfl) (takes_of rfl rfl rfl rfl) (d_cons (d_name 1) (d_cons (d_name 4) d_nil))) d_nil))) (g_tup rfl (g_cons (g_name 5 sc_law.nd) (g_cons (g_name 4 sc_law.nd) g_nil))))
  (d_seq (d_set (i := 6) sc_law.nd rfl (by first | exact .inl rfl | exact .inr rfl) (d_lst (d_cons (d_lamA (k := 5) ft.f__law_told (fun _ _ _ _ _ _ us hl => match us, hl with | [_], _ => rfl) (by rfl) sc__law_told rfl (by first | exact Or.inl rfl | exact Or.inr (Or.inl rfl)) (fun g cdv => gv__law_told _ _ ft g cdv _) hv_ok__law_told TB rfl hT hU (hr.mono (by (first | decide | omega))) (LamX.lamS_by (sc := defScope s_law) (by decide +kernel)) rfl (fun _ _ _ _ _ => rfl) (fun _ _ _ _ _ _ _ hr => d_frz (d_call [false, false] h_with_beginning hr (by (first | decide | omega)) (by rfl) (takes_of rfl rfl rfl rfl) (d_cons (d_name 5) (d_cons (d_name 4) d_nil))))) (d_cons (d_lamDA (k := 5) (y0 := (Str.ofString "repeat")) ft.f__law_told (fun _ _ _ _ _ _ us hl => match us, hl with | [_], _ => rfl) (by rfl) sc__law_told rfl (by first | exact Or.inl rfl | exact Or.inr (Or.inl rfl)) (fun g cdv => gv__law_told _ _ ft g cdv _) hv_ok__law_told TB rfl hT hU (hr.mono (by (first | decide | omega))) (lamSD_by (N := N_law) (sc := defScope s_law) (by decide +kernel)) rfl rfl rfl (fun _ _ _ _ _ _ _ => ⟨_, rfl, fun _ => rfl⟩) (fun _ _ _ _ _ _ _ hr => d_frz (d_call [false, false] h_with_beginning hr (by (first | decide | omega)) (by rfl) (takes_of rfl rfl rfl rfl) (d_cons (d_name 2) (d_cons (d_name 4) d_nil))))) d_nil))))
  (d_seq (d_expr (d_mut PySem.F.slot_list_append PySem.F.type_list_append u_append (d_name 6) (d_cons (d_lamA (k := 5) ft.f__law_told (fun _ _ _ _ _ _ us hl => match us, hl with | [_], _ => rfl) (by rfl) sc__law_told rfl (by first | exact Or.inl rfl | exact Or.inr (Or.inl rfl)) (fun g cdv => gv__law_told _ _ ft g cdv _) hv_ok__law_told TB rfl hT hU (hr.mono (by (first | decide | omega))) (LamX.lamS_by (sc := defScope s_law) (by decide +kernel)) rfl (fun _ _ _ _ _ => rfl) (fun _ _ _ _ _ _ _ hr => d_frz (d_call [false, false] h_next_letters hr (by (first | decide | omega)) (by rfl) (takes_of rfl rfl rfl rfl) (d_cons (d_name 5) (d_cons (d_name 4) d_nil))))) d_nil)))
  (d_seq (d_expr (d_mut PySem.F.slot_list_append PySem.F.type_list_append u_append (d_name 6) (d_cons (d_lamA (k := 5) ft.f__law_told (fun _ _ _ _ _ _ us hl => match us, hl with | [_], _ => rfl) (by rfl) sc__law_told rfl (by first | exact Or.inl rfl | exact Or.inr (Or.inl rfl)) (fun g cdv => gv__law_told _ _ ft g cdv _) hv_ok__law_told TB rfl hT hU (hr.mono (by (first | decide | omega))) (LamX.lamS_by (sc := defScope s_law) (by decide +kernel)) rfl (fun _ _ _ _ _ => rfl) (fun _ _ _ _ _ _ _ hr => d_frz (d_call [false, false] h_next_letters hr (by (first | decide | omega)) (by rfl) (takes_of rfl rfl rfl rfl) (d_cons (d_name 2) (d_cons (d_name 4) d_nil))))) d_nil)))
  (d_seq (d_expr (d_mut PySem.F.slot_list_append PySem.F.type_list_append u_append (d_name 6) (d_cons (d_lamA (k := 5) ft.f__law_told (fun _ _ _ _ _ _ us hl => match us, hl with | [_], _ => rfl) (by rfl) sc__law_told rfl (by first | exact Or.inl rfl | exact Or.inr (Or.inl rfl)) (fun g cdv => gv__law_told _ _ ft g cdv _) hv_ok__law_told TB rfl hT hU (hr.mono (by (first | decide | omega))) (LamX.lamS_by (sc := defScope s_law) (by decide +kernel)) rfl (fun _ _ _ _ _ => rfl) (fun _ _ _ _ _ _ _ hr => d_frz (d_call [false] h_beginnings_many hr (by (first | decide | omega)) (by rfl) (takes_of rfl rfl rfl rfl) (d_cons (d_name 5) d_nil)))) d_nil)))
  (d_seq (d_expr (d_mut PySem.F.slot_list_append PySem.F.type_list_append u_append (d_name 6) (d_cons (d_lamA (k := 5) ft.f__law_told (fun _ _ _ _ _ _ us hl => match us, hl with | [_], _ => rfl) (by rfl) sc__law_told rfl (by first | exact Or.inl rfl | exact Or.inr (Or.inl rfl)) (fun g cdv => gv__law_told _ _ ft g cdv _) hv_ok__law_told TB rfl hT hU (hr.mono (by (first | decide | omega))) (LamX.lamS_by (sc := defScope s_law) (by decide +kernel)) rfl (fun _ _ _ _ _ => rfl) (fun _ _ _ _ _ _ _ hr => d_frz (d_call [false] h_split_points hr (by (first | decide | omega)) (by rfl) (takes_of rfl rfl rfl rfl) (d_cons (d_name 5) d_nil)))) d_nil)))
  (d_sone (d_if (d_tcmp (o_ne (room_eq hr)) (d_name 6) (d_op2 o_add (d_op2 o_mul (d_lst (d_cons d_str (d_cons d_str d_nil))) d_int) (d_lst (d_cons d_str (d_cons d_str d_nil)))) (nomark _)) (d_sone (d_ret d_bl)) d_snil))))))))))))
  (d_sone (d_ret d_bl)))))))
theorem walkF {c_law P_law : Addr} {f : Addr} {oc : Value} {od an : Option Addr} {osl : Array (Option Value)} {kV doc pm ct : Value} (lk : K.lookup f = some ⟨oc, od, .func (PySem.W.fnOf (Str.ofString "law") (Str.ofString "law") (defArgs s_law) (defBody s_law) (defScope s_law) .none kV doc pm an (.ref c_law) ct), osl⟩) (hcd : PySem.W.codeIn K (.ref c_law) (Str.ofString "law") = true) (ft : Ft K mg) (tb_law : LamX.TabB base mg c_law P_law) : FnOk P w K mg base (L2.CX P w) 8 f (PySem.W.fnOf (Str.ofString "law") (Str.ofString "law") (defArgs s_law) (defBody s_law) (defScope s_law) .none kV doc pm an (.ref c_law) ct) [(Str.ofString "script")] (spF K mg [(P_law, q_law)] 1 F_law) := by
  have h_is_letters := ok_is_letters (P := P) (w := w) (base := base) (T := [(P_law, q_law)]) ft 
  have h_is_word := ok_is_word (P := P) (w := w) (base := base) (T := [(P_law, q_law)]) ft h_is_letters
  have h_is_book := ok_is_book (P := P) (w := w) (base := base) (T := [(P_law, q_law)]) ft h_is_word
  have h_check_book := ok_check_book (P := P) (w := w) (base := base) (T := [(P_law, q_law)]) ft h_is_book
  have h_check_text := ok_check_text (P := P) (w := w) (base := base) (T := [(P_law, q_law)]) ft h_is_letters
  have h_all_beginnings := ok_all_beginnings (P := P) (w := w) (base := base) (T := [(P_law, q_law)]) ft 
  have h_beginnings_many := ok_beginnings_many (P := P) (w := w) (base := base) (T := [(P_law, q_law)]) ft h_check_book h_all_beginnings
  have h_raw_with := ok_raw_with (P := P) (w := w) (base := base) (T := [(P_law, q_law)]) ft 
  have h_with_beginning := ok_with_beginning (P := P) (w := w) (base := base) (T := [(P_law, q_law)]) ft h_check_book h_check_text h_raw_with
  have h_raw_next := ok_raw_next (P := P) (w := w) (base := base) (T := [(P_law, q_law)]) ft h_raw_with
  have h_next_letters := ok_next_letters (P := P) (w := w) (base := base) (T := [(P_law, q_law)]) ft h_check_book h_check_text h_raw_next
  have h_split_points := ok_split_points (P := P) (w := w) (base := base) (T := [(P_law, q_law)]) ft h_check_book h_all_beginnings h_raw_next
  have h__law_hand := ok__law_hand (P := P) (w := w) (base := base) (T := [(P_law, q_law)]) ft 
  have h__law_draw := ok__law_draw (P := P) (w := w) (base := base) (T := [(P_law, q_law)]) ft 
  have h__law_any := ok__law_any (P := P) (w := w) (base := base) (T := [(P_law, q_law)]) ft h__law_draw
  have h__law_word := ok__law_word (P := P) (w := w) (base := base) (T := [(P_law, q_law)]) ft h__law_draw h__law_any
  have h__law_book := ok__law_book (P := P) (w := w) (base := base) (T := [(P_law, q_law)]) ft h__law_draw h__law_word
  have h__law_deep := ok__law_deep (P := P) (w := w) (base := base) (T := [(P_law, q_law)]) ft h__law_draw h__law_any
  have h__law_no_book := ok__law_no_book (P := P) (w := w) (base := base) (T := [(P_law, q_law)]) ft h__law_any h__law_deep
  have h__law_begun := ok__law_begun (P := P) (w := w) (base := base) (T := [(P_law, q_law)]) ft 
  have h__law_next := ok__law_next (P := P) (w := w) (base := base) (T := [(P_law, q_law)]) ft 
  have h__law_is_right := ok__law_is_right (P := P) (w := w) (base := base) (T := [(P_law, q_law)]) ft h_beginnings_many h_with_beginning h_next_letters h_split_points h__law_any h__law_word h__law_begun h__law_next
  exact fn_law (T := [(P_law, q_law)]) lk hcd ft tb_law (by simp) (fun p hp hq => by simp only [List.mem_cons, List.not_mem_nil, or_false] at hp; rcases hp with rfl <;> first | exact absurd hq (by first | assumption | exact Ne.symm (by assumption)) | rfl) h_beginnings_many h_with_beginning h_next_letters h_split_points h__law_hand h__law_any h__law_book h__law_deep h__law_no_book h__law_is_right
theorem atLaw {l : PySem.W.OpenLaw} {h : Heap} {fa f3 : Addr} {c_law P_law : Addr} {oc : Value} {od an : Option Addr} {osl : Array (Option Value)} {kV doc pm ct : Value} (X : K.In h) (G : h.Ns mainGlobals mg) (hfa : mg (Str.ofString "law") = some (.ref fa)) (aL : PySem.W.nsIn K mainGlobals (Str.ofString "law") = some (some (.ref f3))) (lL : K.lookup f3 = some ⟨oc, od, .func (PySem.W.fnOf (Str.ofString "law") (Str.ofString "law") (defArgs s_law) (defBody s_law) (defScope s_law) .none kV doc pm an (.ref c_law) ct), osl⟩) (cL : PySem.W.codeIn K (.ref c_law) (Str.ofString "law") = true) (kL : PySem.W.keepIn K (.ref f3) = true) (ft : Ft K mg) (tt_law : h.get? P_law = some { cls := .none, data := .fields #[] }) (nt_law : K.lookup P_law = none) (cd_law : PySem.W.CodeHd h c_law P_law)
    (hF : ∀ ns : List Int, ns.length ≤ 63 → (∀ z ∈ ns, Builtin.Int.intBits z ≤ 1048576) → F_law [.d (scrD ns)] = .ok (.d (.bool true)) []) : LamX.LawAtS l w K (L2.CX l.prog w) 8 63 (Str.ofString "script") mg fa h := by
  have TT : ∀ p ∈ [(c_law, P_law)], h.get? p.2 = some { cls := .none, data := .fields #[] } := fun p hp => by
    simp only [List.mem_cons, List.not_mem_nil, or_false] at hp
    rcases hp with rfl
    · exact tt_law
  have NT : ∀ p ∈ [(c_law, P_law)], K.lookup p.2 = none := fun p hp => by
    simp only [List.mem_cons, List.not_mem_nil, or_false] at hp
    rcases hp with rfl
    · exact nt_law
  have CD : ∀ p ∈ [(c_law, P_law)], PySem.W.CodeHd h p.1 p.2 := fun p hp => by
    simp only [List.mem_cons, List.not_mem_nil, or_false] at hp
    rcases hp with rfl
    · exact cd_law
  have e := hfa.symm.trans (PySem.W.mg_of X G aL)
  cases e
  refine ⟨_, [(c_law, P_law)], spF K mg [(P_law, q_law)] 1 F_law, TT, NT, CD, fun s v => .of_eq rfl, fun H a ns hn hb hT hS => law_sp (hF ns hn hb) ?_ hS, fun base _ _ TB => walkF lL cL ft   (TB (c_law, P_law) (by simp))⟩
  intro p hp
  simp only [List.mem_cons, List.not_mem_nil, or_false] at hp
  rcases hp with rfl
  · exact hT (c_law, P_law) (by simp)
end
end P08
namespace P08
open PySem PySem.Spec PyProof.Rows L2 DL
def e_is_letters_1 : PEV := (p2 gIn (pV 3) (pC (.str (ofL [97, 98, 99, 100, 101, 102, 103, 104, 105, 106, 107, 108, 109, 110, 111, 112, 113, 114, 115, 116, 117, 118, 119, 120, 121, 122]))))
def k_is_letters : PSV := (psRet (pAnd (p1 (isiD .str) (pV 0)) (pAnd (pChain gLe gLe (pV 1) (pCall cLen (pCons (pV 0) pN)) (pV 2)) (pCall cAll (pCons (pComp (pE (pV 0)) (pgN 3) (fun env => .ok true env) e_is_letters_1 [3]) pN)))))
def Q_is_letters : PFV := prun 4 k_is_letters
theorem sf_is_letters : SimF F_is_letters Q_is_letters := simF_run fun Z => (ms_Ret (m_And (m_1 _ (m_V 0)) (m_And (m_Chain _ _ (m_V 1) (m_Call _ (m_Cons (m_V 0) m_N)) (m_V 2)) (m_Call _ (m_Cons (m_Comp (m_E (m_V 0)) (mg_N 3) m_tYes (m_2 _ (m_V 3) (m_Cs (by first | rfl | decide +kernel))) (by decide)) m_N)))))
def k_is_word : PSV := (psRet (pDef Q_is_letters [false, false, false] 3 (pCons (pV 0) (pCons (pC (.int 1)) (pCons (pC (.int 12)) pN)))))
def Q_is_word : PFV := prun 1 k_is_word
theorem sf_is_word : SimF F_is_word Q_is_word := simF_run fun Z => (ms_Ret (m_Def sf_is_letters (m_Cons (m_V 0) (m_Cons (m_C _) (m_Cons (m_C _) m_N)))))
def e_is_book_1 : PEV := (pDef Q_is_word [false] 1 (pCons (pV 1) pN))
def e_is_book_2 : PEV := (p2 gLtA (pV 1) (pV 2))
def k_is_book : PSV := (psSeq (psIf (ptOr (ptNot (ptOf (p1 (isiD .tup) (pV 0)))) (ptOr (ptOf (p2 gGtA (pCall cLen (pCons (pV 0) pN)) (pC (.int 60)))) (ptNot (ptOf (pCall cAll (pCons (pComp (pE (pV 0)) (pgN 1) (fun env => .ok true env) e_is_book_1 [1]) pN)))))) (psRet (pC (.bool false))) psNext)
  (psRet (pCall cAll (pCons (pComp (pZip (pCons (pV 0) (pCons (pSl gSl (pV 0) (some (pC (.int 1))) none) pN))) (pgT 2 (pgCn (pgN 1) (pgCn (pgN 2) pgN0))) (fun env => .ok true env) e_is_book_2 [1, 2]) pN))))
def Q_is_book : PFV := prun 3 k_is_book
theorem sf_is_book : SimF F_is_book Q_is_book := simF_run fun Z => (ms_Seq (ms_If (m_tOr (m_tNot (m_tOf (m_1 _ (m_V 0)))) (m_tOr (m_tOf (m_2 _ (m_Call _ (m_Cons (m_V 0) m_N)) (m_C _))) (m_tNot (m_tOf (m_Call _ (m_Cons (m_Comp (m_E (m_V 0)) (mg_N 1) m_tYes (m_Def sf_is_word (m_Cons (m_V 1) m_N)) (by decide)) m_N)))))) (ms_Ret (m_C _)) ms_Next)
  (ms_Ret (m_Call _ (m_Cons (m_Comp (m_Zip (m_Cons (m_V 0) (m_Cons (m_Sl _ (m_V 0) (m_o1 (m_C _)) m_o0) m_N))) (mg_T (mg_Cn (mg_N 1) (mg_Cn (mg_N 2) mg_N0))) m_tYes (m_2 _ (m_V 1) (m_V 2)) (by decide)) m_N))))
def k_check_book : PSV := (psIf (ptNot (ptOf (pDef Q_is_book [false] 1 (pCons (pV 0) pN)))) (psRaise (Str.ofString "NoBook")) psNext)
def Q_check_book : PFV := prun 1 k_check_book
theorem sf_check_book : SimF F_check_book Q_check_book := simF_run fun Z => (ms_If (m_tNot (m_tOf (m_Def sf_is_book (m_Cons (m_V 0) m_N)))) (ms_Raise _) ms_Next)
def k_check_text : PSV := (psIf (ptNot (ptOf (pDef Q_is_letters [false, false, false] 3 (pCons (pV 0) (pCons (pC (.int 0)) (pCons (pC (.int 12)) pN)))))) (psRaise (Str.ofString "NoText")) psNext)
def Q_check_text : PFV := prun 1 k_check_text
theorem sf_check_text : SimF F_check_text Q_check_text := simF_run fun Z => (ms_If (m_tNot (m_tOf (m_Def sf_is_letters (m_Cons (m_V 0) (m_Cons (m_C _) (m_Cons (m_C _) m_N)))))) (ms_Raise _) ms_Next)
def i_all_beginnings_1 : PIV := (pR1 (pCons (p2 gAdd (pCall cLen (pCons (pV 1) pN)) (pC (.int 1))) pN))
def e_all_beginnings_2 : PEV := (pSl gSl (pV 1) none (some (pV 2)))
def k_all_beginnings : PSV := (psRet (p1 gSortSet (pComp2 (pE (pV 0)) (pgN 1) (fun env => .ok true env) i_all_beginnings_1 (pgN 2) (fun env => .ok true env) e_all_beginnings_2 [1, 2] [2])))
def Q_all_beginnings : PFV := prun 3 k_all_beginnings
theorem sf_all_beginnings : SimF F_all_beginnings Q_all_beginnings := simF_run fun Z => (ms_Ret (m_1 _ (m_Comp2 (m_E (m_V 0)) (mg_N 1) m_tYes (m_R1 (m_Cons (m_2 _ (m_Call _ (m_Cons (m_V 1) m_N)) (m_C _)) m_N)) (mg_N 2) m_tYes (m_Sl _ (m_V 1) m_o0 (m_o1 (m_V 2))) (by decide) (by decide))))
def k_beginnings_many : PSV := (psSeq (psDrop (pDef Q_check_book [false] 1 (pCons (pV 0) pN)))
  (psRet (pCall cLen (pCons (pDef Q_all_beginnings [false] 1 (pCons (pV 0) pN)) pN))))
def Q_beginnings_many : PFV := prun 1 k_beginnings_many
theorem sf_beginnings_many : SimF F_beginnings_many Q_beginnings_many := simF_run fun Z => (ms_Seq (ms_Drop (m_Def sf_check_book (m_Cons (m_V 0) m_N)))
  (ms_Ret (m_Call _ (m_Cons (m_Def sf_all_beginnings (m_Cons (m_V 0) m_N)) m_N))))
def e_raw_with_1 : PEV := (pV 2)
def k_raw_with : PSV := (psRet (pComp (pE (pV 0)) (pgN 2) (ptOf (p2 gEq (pSl gSl (pV 2) none (some (pCall cLen (pCons (pV 1) pN)))) (pV 1))) e_raw_with_1 [2]))
def Q_raw_with : PFV := prun 3 k_raw_with
theorem sf_raw_with : SimF F_raw_with Q_raw_with := simF_run fun Z => (ms_Ret (m_Comp (m_E (m_V 0)) (mg_N 2) (m_tOf (m_2 _ (m_Sl _ (m_V 2) m_o0 (m_o1 (m_Call _ (m_Cons (m_V 1) m_N)))) (m_V 1))) (m_V 2) (by decide)))
def k_with_beginning : PSV := (psSeq (psDrop (pDef Q_check_book [false] 1 (pCons (pV 0) pN)))
  (psSeq (psDrop (pDef Q_check_text [false] 1 (pCons (pV 1) pN)))
  (psRet (pCall cTup (pCons (pDef Q_raw_with [false, false] 2 (pCons (pV 0) (pCons (pV 1) pN))) pN)))))
def Q_with_beginning : PFV := prun 2 k_with_beginning
theorem sf_with_beginning : SimF F_with_beginning Q_with_beginning := simF_run fun Z => (ms_Seq (ms_Drop (m_Def sf_check_book (m_Cons (m_V 0) m_N)))
  (ms_Seq (ms_Drop (m_Def sf_check_text (m_Cons (m_V 1) m_N)))
  (ms_Ret (m_Call _ (m_Cons (m_Def sf_raw_with (m_Cons (m_V 0) (m_Cons (m_V 1) m_N))) m_N)))))
def e_raw_next_1 : PEV := (p2 gIx (pV 2) (pCall cLen (pCons (pV 1) pN)))
def k_raw_next : PSV := (psRet (p1 gSortSet (pComp (pE (pDef Q_raw_with [false, false] 2 (pCons (pV 0) (pCons (pV 1) pN)))) (pgN 2) (ptOf (p2 gGt (pCall cLen (pCons (pV 2) pN)) (pCall cLen (pCons (pV 1) pN)))) e_raw_next_1 [2])))
def Q_raw_next : PFV := prun 3 k_raw_next
theorem sf_raw_next : SimF F_raw_next Q_raw_next := simF_run fun Z => (ms_Ret (m_1 _ (m_Comp (m_E (m_Def sf_raw_with (m_Cons (m_V 0) (m_Cons (m_V 1) m_N)))) (mg_N 2) (m_tOf (m_2 _ (m_Call _ (m_Cons (m_V 2) m_N)) (m_Call _ (m_Cons (m_V 1) m_N)))) (m_2 _ (m_V 2) (m_Call _ (m_Cons (m_V 1) m_N))) (by decide))))
def k_next_letters : PSV := (psSeq (psDrop (pDef Q_check_book [false] 1 (pCons (pV 0) pN)))
  (psSeq (psDrop (pDef Q_check_text [false] 1 (pCons (pV 1) pN)))
  (psRet (pMtT .str mJoin (pC (.str (ofL []))) (pCons (pDef Q_raw_next [false, false] 2 (pCons (pV 0) (pCons (pV 1) pN))) pN)))))
def Q_next_letters : PFV := prun 2 k_next_letters
theorem sf_next_letters : SimF F_next_letters Q_next_letters := simF_run fun Z => (ms_Seq (ms_Drop (m_Def sf_check_book (m_Cons (m_V 0) m_N)))
  (ms_Seq (ms_Drop (m_Def sf_check_text (m_Cons (m_V 1) m_N)))
  (ms_Ret (m_MtT _ _ (m_Cs (by first | rfl | decide +kernel)) (m_Cons (m_Def sf_raw_next (m_Cons (m_V 0) (m_Cons (m_V 1) m_N))) m_N)))))
def e_split_points_1 : PEV := (pV 1)
def k_split_points : PSV := (psSeq (psDrop (pDef Q_check_book [false] 1 (pCons (pV 0) pN)))
  (psRet (pCall cTup (pCons (pComp (pE (pDef Q_all_beginnings [false] 1 (pCons (pV 0) pN))) (pgN 1) (ptOf (p2 gGt (pCall cLen (pCons (pDef Q_raw_next [false, false] 2 (pCons (pV 0) (pCons (pV 1) pN))) pN)) (pC (.int 1)))) e_split_points_1 [1]) pN))))
def Q_split_points : PFV := prun 2 k_split_points
theorem sf_split_points : SimF F_split_points Q_split_points := simF_run fun Z => (ms_Seq (ms_Drop (m_Def sf_check_book (m_Cons (m_V 0) m_N)))
  (ms_Ret (m_Call _ (m_Cons (m_Comp (m_E (m_Def sf_all_beginnings (m_Cons (m_V 0) m_N))) (mg_N 1) (m_tOf (m_2 _ (m_Call _ (m_Cons (m_Def sf_raw_next (m_Cons (m_V 0) (m_Cons (m_V 1) m_N))) m_N)) (m_C _))) (m_V 1) (by decide)) m_N))))
def e__law_hand_1 : PEV := (pCall cAbs (pCons (pCall cInt (pCons (pV 2) pN)) pN))
def k__law_hand : PSV := (psSeq (psSet 1 (pComp (pE (pSl gSl (pV 0) none (some (pC (.int 63))))) (pgN 2) (fun env => .ok true env) e__law_hand_1 [2]))
  (psRet (pLst (pCons (pV 1) (pCons (pC (.int 0)) (pCons (pC (.int 0)) (pCons (p2 gAdd (pC (.int 83)) (p2 gMul (pC (.int 5)) (pCall cLen (pCons (pV 1) pN)))) (pCons (pC (.int 0)) pN))))))))
def Q__law_hand : PFV := prun 3 k__law_hand
theorem sf__law_hand : SimF F__law_hand Q__law_hand := simF_run fun Z => (ms_Seq (ms_Set _ (m_Comp (m_E (m_Sl _ (m_V 0) m_o0 (m_o1 (m_C _)))) (mg_N 2) m_tYes (m_Call _ (m_Cons (m_Call _ (m_Cons (m_V 2) m_N)) m_N)) (by decide)))
  (ms_Ret (m_Lst (m_Cons (m_V 1) (m_Cons (m_C _) (m_Cons (m_C _) (m_Cons (m_2 _ (m_C _) (m_2 _ (m_C _) (m_Call _ (m_Cons (m_V 1) m_N)))) (m_Cons (m_C _) m_N))))))))
def k__law_draw : PSV := (psSeq (psIf (ptAnd (ptOf (p2 gEq (p2 gIx (pV 0) (pC (.int 2))) (pC (.int 0)))) (ptOf (p2 gLt (p2 gIx (pV 0) (pC (.int 1))) (pCall cLen (pCons (p2 gIx (pV 0) (pC (.int 0))) pN))))) (psSeq (psSet 2 (p2 gIx (p2 gIx (pV 0) (pC (.int 0))) (p2 gIx (pV 0) (pC (.int 1)))))
  (psSeq (psStore 0 (pC (.int 1)) (p2 gAdd (p2 gIx (pV 0) (pC (.int 1))) (pC (.int 1))))
  (psSeq (psStore 0 (pC (.int 3)) (p2 gMod (pCall cInt (pCons (p2 gAdd (p2 gAdd (p2 gMul (p2 gIx (pV 0) (pC (.int 3))) (pC (.int 69621))) (p2 gMul (pV 2) (pC (.int 40692)))) (pC (.int 17))) pN)) (pC (.int 2147483629))))
  (psIf (ptOf (p2 gGe (pV 2) (p2 gPow (pC (.int 10)) (pC (.int 18))))) (psStore 0 (pC (.int 2)) (pV 2)) psNext)))) psNext)
  (psSeq (psIf (ptOf (p2 gGt (p2 gIx (pV 0) (pC (.int 2))) (pC (.int 0)))) (psSeq (psSet 3 (p2 gMod (pCall cInt (pCons (p2 gIx (pV 0) (pC (.int 2))) pN)) (pV 1)))
  (psSeq (psStore 0 (pC (.int 2)) (p2 gFdiv (p2 gIx (pV 0) (pC (.int 2))) (pV 1)))
  (psRet (pV 3)))) psNext)
  (psSeq (psStore 0 (pC (.int 4)) (p2 gAdd (p2 gIx (pV 0) (pC (.int 4))) (pC (.int 1))))
  (psSeq (psSet 4 (p2 gMod (pCall cInt (pCons (p2 gMul (pCall cInt (pCons (p2 gAdd (p2 gIx (pV 0) (pC (.int 3))) (p2 gMul (pC (.int 7919)) (p2 gIx (pV 0) (pC (.int 4))))) pN)) (pC (.int 48271))) pN)) (pC (.int 2147483647))))
  (psSeq (psSet 4 (p2 gMod (pCall cInt (pCons (p2 gMul (pV 4) (p2 gAdd (p2 gFdiv (pV 4) (pC (.int 1009))) (pC (.int 69621)))) pN)) (pC (.int 2147483647))))
  (psSeq (psSet 4 (p2 gMod (pCall cInt (pCons (p2 gMul (pV 4) (p2 gAdd (p2 gFdiv (pV 4) (pC (.int 2003))) (pC (.int 40014)))) pN)) (pC (.int 2147483563))))
  (psRet (p2 gMod (pCall cInt (pCons (p2 gFdiv (pV 4) (pC (.int 16))) pN)) (pV 1)))))))))
def Q__law_draw : PFV := prun 5 k__law_draw
theorem sf__law_draw : SimF F__law_draw Q__law_draw := simF_run fun Z => (ms_Seq (ms_If (m_tAnd (m_tOf (m_2 _ (m_2 _ (m_V 0) (m_C _)) (m_C _))) (m_tOf (m_2 _ (m_2 _ (m_V 0) (m_C _)) (m_Call _ (m_Cons (m_2 _ (m_V 0) (m_C _)) m_N))))) (ms_Seq (ms_Set _ (m_2 _ (m_2 _ (m_V 0) (m_C _)) (m_2 _ (m_V 0) (m_C _))))
  (ms_Seq (ms_Store 0 (m_C _) (m_2 _ (m_2 _ (m_V 0) (m_C _)) (m_C _)))
  (ms_Seq (ms_Store 0 (m_C _) (m_2 _ (m_Call _ (m_Cons (m_2 _ (m_2 _ (m_2 _ (m_2 _ (m_V 0) (m_C _)) (m_C _)) (m_2 _ (m_V 2) (m_C _))) (m_C _)) m_N)) (m_C _)))
  (ms_If (m_tOf (m_2 _ (m_V 2) (m_2 _ (m_C _) (m_C _)))) (ms_Store 0 (m_C _) (m_V 2)) ms_Next)))) ms_Next)
  (ms_Seq (ms_If (m_tOf (m_2 _ (m_2 _ (m_V 0) (m_C _)) (m_C _))) (ms_Seq (ms_Set _ (m_2 _ (m_Call _ (m_Cons (m_2 _ (m_V 0) (m_C _)) m_N)) (m_V 1)))
  (ms_Seq (ms_Store 0 (m_C _) (m_2 _ (m_2 _ (m_V 0) (m_C _)) (m_V 1)))
  (ms_Ret (m_V 3)))) ms_Next)
  (ms_Seq (ms_Store 0 (m_C _) (m_2 _ (m_2 _ (m_V 0) (m_C _)) (m_C _)))
  (ms_Seq (ms_Set _ (m_2 _ (m_Call _ (m_Cons (m_2 _ (m_Call _ (m_Cons (m_2 _ (m_2 _ (m_V 0) (m_C _)) (m_2 _ (m_C _) (m_2 _ (m_V 0) (m_C _)))) m_N)) (m_C _)) m_N)) (m_C _)))
  (ms_Seq (ms_Set _ (m_2 _ (m_Call _ (m_Cons (m_2 _ (m_V 4) (m_2 _ (m_2 _ (m_V 4) (m_C _)) (m_C _))) m_N)) (m_C _)))
  (ms_Seq (ms_Set _ (m_2 _ (m_Call _ (m_Cons (m_2 _ (m_V 4) (m_2 _ (m_2 _ (m_V 4) (m_C _)) (m_C _))) m_N)) (m_C _)))
  (ms_Ret (m_2 _ (m_Call _ (m_Cons (m_2 _ (m_V 4) (m_C _)) m_N)) (m_V 1)))))))))
def k__law_any : PSV := (psRet (p2 gIx (pV 1) (pDef Q__law_draw [true, false] 2 (pCons (pV 0) (pCons (pCall cLen (pCons (pV 1) pN)) pN)))))
def Q__law_any : PFV := prun 2 k__law_any
theorem sf__law_any : SimF F__law_any Q__law_any := simF_run fun Z => (ms_Ret (m_2 _ (m_V 1) (m_Def sf__law_draw (m_Cons (m_V 0) (m_Cons (m_Call _ (m_Cons (m_V 1) m_N)) m_N)))))
def e__law_word_1 : PEV := (pDef Q__law_any [true, false] 2 (pCons (pV 0) (pCons (pV 1) pN)))
def k__law_word : PSV := (psSeq (psSet 4 (p2 gAdd (pV 2) (pDef Q__law_draw [true, false] 2 (pCons (pV 0) (pCons (p2 gSub (p2 gAdd (pV 3) (pC (.int 1))) (pV 2)) pN)))))
  (psRet (pMtT .str mJoin (pC (.str (ofL []))) (pCons (pComp (pR1 (pCons (pV 4) pN)) (pgN 5) (fun env => .ok true env) e__law_word_1 [5]) pN))))
def Q__law_word : PFV := prun 6 k__law_word
theorem sf__law_word : SimF F__law_word Q__law_word := simF_run fun Z => (ms_Seq (ms_Set _ (m_2 _ (m_V 2) (m_Def sf__law_draw (m_Cons (m_V 0) (m_Cons (m_2 _ (m_2 _ (m_V 3) (m_C _)) (m_V 2)) m_N)))))
  (ms_Ret (m_MtT _ _ (m_Cs (by first | rfl | decide +kernel)) (m_Cons (m_Comp (m_R1 (m_Cons (m_V 4) m_N)) (mg_N 5) m_tYes (m_Def sf__law_any (m_Cons (m_V 0) (m_Cons (m_V 1) m_N))) (by decide)) m_N))))
def e__law_book_1 : PEV := (pDef Q__law_word [true, false, false, false] 4 (pCons (pV 0) (pCons (pV 1) (pCons (pC (.int 1)) (pCons (pV 3) pN)))))
def k__law_book : PSV := (psSeq (psSet 4 (pComp (pR1 (pCons (pDef Q__law_draw [true, false] 2 (pCons (pV 0) (pCons (p2 gAdd (pV 2) (pC (.int 1))) pN))) pN)) (pgN 5) (fun env => .ok true env) e__law_book_1 [5]))
  (psRet (pCall cTup (pCons (p1 gSortSet (pV 4)) pN))))
def Q__law_book : PFV := prun 6 k__law_book
theorem sf__law_book : SimF F__law_book Q__law_book := simF_run fun Z => (ms_Seq (ms_Set _ (m_Comp (m_R1 (m_Cons (m_Def sf__law_draw (m_Cons (m_V 0) (m_Cons (m_2 _ (m_V 2) (m_C _)) m_N))) m_N)) (mg_N 5) m_tYes (m_Def sf__law_word (m_Cons (m_V 0) (m_Cons (m_V 1) (m_Cons (m_C _) (m_Cons (m_V 3) m_N))))) (by decide)))
  (ms_Ret (m_Call _ (m_Cons (m_1 _ (m_V 4)) m_N))))
def b__law_deep_1 : PSV := (psSet 1 (pIf (ptOf (p2 gEq (pDef Q__law_draw [true, false] 2 (pCons (pV 0) (pCons (pC (.int 2)) pN))) (pC (.int 0)))) (pLst (pCons (pV 1) pN)) (pTup (pCons (pV 1) pN))))
def k__law_deep : PSV := (psSeq (psSet 1 (pDef Q__law_any [true, false] 2 (pCons (pV 0) (pCons (pLst (pCons (pC .none) (pCons (pC (.str (ofL [88]))) (pCons (p1 gNeg (pC (.int 1))) pN)))) pN))))
  (psSeq (psFor (pR1 (pCons (p2 gAdd (pC (.int 1)) (pDef Q__law_draw [true, false] 2 (pCons (pV 0) (pCons (pC (.int 30)) pN)))) pN)) (pgN 2) b__law_deep_1)
  (psRet (pV 1))))
def Q__law_deep : PFV := prun 3 k__law_deep
theorem sf__law_deep : SimF F__law_deep Q__law_deep := simF_run fun Z => (ms_Seq (ms_Set _ (m_Def sf__law_any (m_Cons (m_V 0) (m_Cons (m_Lst (m_Cons (m_C _) (m_Cons (m_Cs (by first | rfl | decide +kernel)) (m_Cons (m_1 _ (m_C _)) m_N)))) m_N))))
  (ms_Seq (ms_For (m_R1 (m_Cons (m_2 _ (m_C _) (m_Def sf__law_draw (m_Cons (m_V 0) (m_Cons (m_C _) m_N)))) m_N)) (mg_N 2) (ms_Set _ (m_If (m_tOf (m_2 _ (m_Def sf__law_draw (m_Cons (m_V 0) (m_Cons (m_C _) m_N))) (m_C _))) (m_Lst (m_Cons (m_V 1) m_N)) (m_Tup (m_Cons (m_V 1) m_N)))))
  (ms_Ret (m_V 1))))
def k__law_no_book : PSV := (psSeq (psSet 1 (pLst (pCons (pC .none) (pCons (pLst (pCons (pC (.str (ofL [97]))) pN)) (pCons (pTup (pCons (pC (.str (ofL [98]))) (pCons (pC (.str (ofL [97]))) pN))) (pCons (pTup (pCons (pC (.str (ofL [97]))) (pCons (pC (.str (ofL [97]))) pN))) (pCons (pTup (pCons (pC (.str (ofL []))) pN)) (pCons (pTup (pCons (pC (.str (ofL [65]))) pN)) (pCons (pTup (pCons (pC (.int 1)) pN)) (pCons (pC (.str (ofL [97]))) (pCons (pC (.int 0)) (pCons (pC (.dict [])) (pCons (pTup (pCons (pC .none) pN)) (pCons (pTup (pCons (pC (.str (ofL [97, 98, 99, 100, 101, 102, 103, 104, 105, 106, 107, 108, 109]))) pN)) pN))))))))))))))
  (psRet (pDef Q__law_any [true, false] 2 (pCons (pV 0) (pCons (p2 gAdd (pV 1) (pLst (pCons (pDef Q__law_deep [true] 1 (pCons (pV 0) pN)) pN))) pN)))))
def Q__law_no_book : PFV := prun 2 k__law_no_book
theorem sf__law_no_book : SimF F__law_no_book Q__law_no_book := simF_run fun Z => (ms_Seq (ms_Set _ (m_Lst (m_Cons (m_C _) (m_Cons (m_Lst (m_Cons (m_Cs (by first | rfl | decide +kernel)) m_N)) (m_Cons (m_Tup (m_Cons (m_Cs (by first | rfl | decide +kernel)) (m_Cons (m_Cs (by first | rfl | decide +kernel)) m_N))) (m_Cons (m_Tup (m_Cons (m_Cs (by first | rfl | decide +kernel)) (m_Cons (m_Cs (by first | rfl | decide +kernel)) m_N))) (m_Cons (m_Tup (m_Cons (m_Cs (by first | rfl | decide +kernel)) m_N)) (m_Cons (m_Tup (m_Cons (m_Cs (by first | rfl | decide +kernel)) m_N)) (m_Cons (m_Tup (m_Cons (m_C _) m_N)) (m_Cons (m_Cs (by first | rfl | decide +kernel)) (m_Cons (m_C _) (m_Cons (m_C _) (m_Cons (m_Tup (m_Cons (m_C _) m_N)) (m_Cons (m_Tup (m_Cons (m_Cs (by first | rfl | decide +kernel)) m_N)) m_N))))))))))))))
  (ms_Ret (m_Def sf__law_any (m_Cons (m_V 0) (m_Cons (m_2 _ (m_V 1) (m_Lst (m_Cons (m_Def sf__law_deep (m_Cons (m_V 0) m_N)) m_N))) m_N)))))
def e__law_begun_1 : PEV := (pSl gSl (pV 2) none (some (pV 3)))
def b__law_begun_2 : PSV := (psDrop (pMutW uExtend 1 (pCons (pComp (pR1 (pCons (p2 gAdd (pCall cLen (pCons (pV 2) pN)) (pC (.int 1))) pN)) (pgN 3) (fun env => .ok true env) e__law_begun_1 [3]) pN)))
def k__law_begun : PSV := (psSeq (psSet 1 (pLst pN))
  (psSeq (psFor (pE (pV 0)) (pgN 2) b__law_begun_2)
  (psRet (p1 gSortSet (pV 1)))))
def Q__law_begun : PFV := prun 4 k__law_begun
theorem sf__law_begun : SimF F__law_begun Q__law_begun := simF_run fun Z => (ms_Seq (ms_Set _ (m_Lst m_N))
  (ms_Seq (ms_For (m_E (m_V 0)) (mg_N 2) (ms_Drop (m_Mut _ 1 (m_Cons (m_Comp (m_R1 (m_Cons (m_2 _ (m_Call _ (m_Cons (m_V 2) m_N)) (m_C _)) m_N)) (mg_N 3) m_tYes (m_Sl _ (m_V 2) m_o0 (m_o1 (m_V 3))) (by decide)) m_N))))
  (ms_Ret (m_1 _ (m_V 1)))))
def e__law_next_1 : PEV := (p2 gIx (pV 3) (pCall cLen (pCons (pV 1) pN)))
def k__law_next : PSV := (psSeq (psSet 2 (pComp (pE (pV 0)) (pgN 3) (ptAnd (ptOf (p2 gEq (pSl gSl (pV 3) none (some (pCall cLen (pCons (pV 1) pN)))) (pV 1))) (ptOf (p2 gGt (pCall cLen (pCons (pV 3) pN)) (pCall cLen (pCons (pV 1) pN))))) e__law_next_1 [3]))
  (psRet (pMtT .str mJoin (pC (.str (ofL []))) (pCons (p1 gSortSet (pV 2)) pN))))
def Q__law_next : PFV := prun 4 k__law_next
theorem sf__law_next : SimF F__law_next Q__law_next := simF_run fun Z => (ms_Seq (ms_Set _ (m_Comp (m_E (m_V 0)) (mg_N 3) (m_tAnd (m_tOf (m_2 _ (m_Sl _ (m_V 3) m_o0 (m_o1 (m_Call _ (m_Cons (m_V 1) m_N)))) (m_V 1))) (m_tOf (m_2 _ (m_Call _ (m_Cons (m_V 3) m_N)) (m_Call _ (m_Cons (m_V 1) m_N))))) (m_2 _ (m_V 3) (m_Call _ (m_Cons (m_V 1) m_N))) (by decide)))
  (ms_Ret (m_MtT _ _ (m_Cs (by first | rfl | decide +kernel)) (m_Cons (m_1 _ (m_V 2)) m_N))))
def e__law_is_right_1 : PEV := (pV 4)
def e__law_is_right_2 : PEV := (pDef Q__law_any [true, false] 2 (pCons (pV 0) (pCons (pV 2) pN)))
def e__law_is_right_3 : PEV := (pV 8)
def b__law_is_right_4 : PSV := (psIf (ptOf (p2 gLt (pCall cLen (pCons (pV 4) pN)) (pC (.int 12)))) (psDrop (pMutW uExtend 9 (pCons (pCall cList (pCons (pDef Q_with_beginning [false, false] 2 (pCons (pV 1) (pCons (p2 gAdd (pV 4) (pV 10)) pN))) pN)) pN))) psNext)
def b__law_is_right_5 : PSV := (psSeq (psSet 7 (pCall cTup (pCons (pComp (pE (pV 1)) (pgN 8) (ptOf (p2 gEq (pSl gSl (pV 8) none (some (pCall cLen (pCons (pV 4) pN)))) (pV 4))) e__law_is_right_3 [8]) pN)))
  (psSeq (psIf (ptOf (p2 gNe (pLst (pCons (pDef Q_with_beginning [false, false] 2 (pCons (pV 1) (pCons (pV 4) pN))) (pCons (pDef Q_with_beginning [false, false] 2 (pCons (pV 1) (pCons (pV 4) pN))) pN))) (pLst (pCons (pV 7) (pCons (pV 7) pN))))) (psRet (pC (.bool false))) psNext)
  (psSeq (psIf (ptOf (p2 gNe (pDef Q_next_letters [false, false] 2 (pCons (pV 1) (pCons (pV 4) pN))) (pDef Q__law_next [false, false] 2 (pCons (pV 1) (pCons (pV 4) pN))))) (psRet (pC (.bool false))) psNext)
  (psSeq (psSet 9 (pIf (ptOf (p2 gIn (pV 4) (pV 1))) (pLst (pCons (pV 4) pN)) (pLst pN)))
  (psSeq (psFor (pE (pDef Q_next_letters [false, false] 2 (pCons (pV 1) (pCons (pV 4) pN)))) (pgN 10) b__law_is_right_4)
  (psIf (ptOf (p2 gNe (pCall cTup (pCons (pCall cSorted (pCons (pV 9) pN)) pN)) (pV 7))) (psRet (pC (.bool false))) psNext))))))
def k__law_is_right : PSV := (psSeq (psSet 2 (pDef Q__law_begun [false] 1 (pCons (pV 1) pN)))
  (psSeq (psIf (ptOf (p2 gNe (pLst (pCons (pDef Q_beginnings_many [false] 1 (pCons (pV 1) pN)) (pCons (pDef Q_beginnings_many [false] 1 (pCons (pV 1) pN)) pN))) (pLst (pCons (pCall cLen (pCons (pV 2) pN)) (pCons (pCall cLen (pCons (pV 2) pN)) pN))))) (psRet (pC (.bool false))) psNext)
  (psSeq (psSet 3 (pCall cTup (pCons (pComp (pE (pV 2)) (pgN 4) (ptOf (p2 gGt (pCall cLen (pCons (pDef Q__law_next [false, false] 2 (pCons (pV 1) (pCons (pV 4) pN))) pN)) (pC (.int 1)))) e__law_is_right_1 [4]) pN)))
  (psSeq (psIf (ptOf (p2 gNe (pLst (pCons (pDef Q_split_points [false] 1 (pCons (pV 1) pN)) (pCons (pDef Q_split_points [false] 1 (pCons (pV 1) pN)) pN))) (pLst (pCons (pV 3) (pCons (pV 3) pN))))) (psRet (pC (.bool false))) psNext)
  (psSeq (psSet 5 (pLst (pCons (pDef Q__law_word [true, false, false, false] 4 (pCons (pV 0) (pCons (pC (.str (ofL [97, 98, 99]))) (pCons (pC (.int 1)) (pCons (pC (.int 4)) pN))))) (pCons (pC (.str (ofL []))) (pCons (pC (.str (ofL [97, 98, 99, 97, 98, 99, 97, 98, 99, 97, 98, 99]))) pN)))))
  (psSeq (psIf (ptOf (p2 gGt (pCall cLen (pCons (pV 2) pN)) (pC (.int 0)))) (psSet 5 (p2 gAdd (pV 5) (pComp (pR1 (pCons (pC (.int 3)) pN)) (pgN 6) (fun env => .ok true env) e__law_is_right_2 [6]))) psNext)
  (psSeq (psFor (pE (pV 5)) (pgN 4) b__law_is_right_5)
  (psSeq (psSet 11 (pCall cTup (pCons (p1 gSortSet (p2 gAdd (pV 1) (pTup (pCons (pDef Q__law_word [true, false, false, false] 4 (pCons (pV 0) (pCons (pC (.str (ofL [97, 98, 99]))) (pCons (pC (.int 1)) (pCons (pC (.int 4)) pN))))) pN)))) pN)))
  (psRet (p2 gGe (pDef Q_beginnings_many [false] 1 (pCons (pV 11) pN)) (pCall cLen (pCons (pV 2) pN))))))))))))
def Q__law_is_right : PFV := prun 12 k__law_is_right
theorem sf__law_is_right : SimF F__law_is_right Q__law_is_right := simF_run fun Z => (ms_Seq (ms_Set _ (m_Def sf__law_begun (m_Cons (m_V 1) m_N)))
  (ms_Seq (ms_If (m_tOf (m_2 _ (m_Lst (m_Cons (m_Def sf_beginnings_many (m_Cons (m_V 1) m_N)) (m_Cons (m_Def sf_beginnings_many (m_Cons (m_V 1) m_N)) m_N))) (m_Lst (m_Cons (m_Call _ (m_Cons (m_V 2) m_N)) (m_Cons (m_Call _ (m_Cons (m_V 2) m_N)) m_N))))) (ms_Ret (m_C _)) ms_Next)
  (ms_Seq (ms_Set _ (m_Call _ (m_Cons (m_Comp (m_E (m_V 2)) (mg_N 4) (m_tOf (m_2 _ (m_Call _ (m_Cons (m_Def sf__law_next (m_Cons (m_V 1) (m_Cons (m_V 4) m_N))) m_N)) (m_C _))) (m_V 4) (by decide)) m_N)))
  (ms_Seq (ms_If (m_tOf (m_2 _ (m_Lst (m_Cons (m_Def sf_split_points (m_Cons (m_V 1) m_N)) (m_Cons (m_Def sf_split_points (m_Cons (m_V 1) m_N)) m_N))) (m_Lst (m_Cons (m_V 3) (m_Cons (m_V 3) m_N))))) (ms_Ret (m_C _)) ms_Next)
  (ms_Seq (ms_Set _ (m_Lst (m_Cons (m_Def sf__law_word (m_Cons (m_V 0) (m_Cons (m_Cs (by first | rfl | decide +kernel)) (m_Cons (m_C _) (m_Cons (m_C _) m_N))))) (m_Cons (m_Cs (by first | rfl | decide +kernel)) (m_Cons (m_Cs (by first | rfl | decide +kernel)) m_N)))))
  (ms_Seq (ms_If (m_tOf (m_2 _ (m_Call _ (m_Cons (m_V 2) m_N)) (m_C _))) (ms_Set _ (m_2 _ (m_V 5) (m_Comp (m_R1 (m_Cons (m_C _) m_N)) (mg_N 6) m_tYes (m_Def sf__law_any (m_Cons (m_V 0) (m_Cons (m_V 2) m_N))) (by decide)))) ms_Next)
  (ms_Seq (ms_For (m_E (m_V 5)) (mg_N 4) (ms_Seq (ms_Set _ (m_Call _ (m_Cons (m_Comp (m_E (m_V 1)) (mg_N 8) (m_tOf (m_2 _ (m_Sl _ (m_V 8) m_o0 (m_o1 (m_Call _ (m_Cons (m_V 4) m_N)))) (m_V 4))) (m_V 8) (by decide)) m_N)))
  (ms_Seq (ms_If (m_tOf (m_2 _ (m_Lst (m_Cons (m_Def sf_with_beginning (m_Cons (m_V 1) (m_Cons (m_V 4) m_N))) (m_Cons (m_Def sf_with_beginning (m_Cons (m_V 1) (m_Cons (m_V 4) m_N))) m_N))) (m_Lst (m_Cons (m_V 7) (m_Cons (m_V 7) m_N))))) (ms_Ret (m_C _)) ms_Next)
  (ms_Seq (ms_If (m_tOf (m_2 _ (m_Def sf_next_letters (m_Cons (m_V 1) (m_Cons (m_V 4) m_N))) (m_Def sf__law_next (m_Cons (m_V 1) (m_Cons (m_V 4) m_N))))) (ms_Ret (m_C _)) ms_Next)
  (ms_Seq (ms_Set _ (m_If (m_tOf (m_2 _ (m_V 4) (m_V 1))) (m_Lst (m_Cons (m_V 4) m_N)) (m_Lst m_N)))
  (ms_Seq (ms_For (m_E (m_Def sf_next_letters (m_Cons (m_V 1) (m_Cons (m_V 4) m_N)))) (mg_N 10) (ms_If (m_tOf (m_2 _ (m_Call _ (m_Cons (m_V 4) m_N)) (m_C _))) (ms_Drop (m_Mut _ 9 (m_Cons (m_Call _ (m_Cons (m_Def sf_with_beginning (m_Cons (m_V 1) (m_Cons (m_2 _ (m_V 4) (m_V 10)) m_N))) m_N)) m_N))) ms_Next))
  (ms_If (m_tOf (m_2 _ (m_Call _ (m_Cons (m_Call _ (m_Cons (m_V 9) m_N)) m_N)) (m_V 7))) (ms_Ret (m_C _)) ms_Next)))))))
  (ms_Seq (ms_Set _ (m_Call _ (m_Cons (m_1 _ (m_2 _ (m_V 1) (m_Tup (m_Cons (m_Def sf__law_word (m_Cons (m_V 0) (m_Cons (m_Cs (by first | rfl | decide +kernel)) (m_Cons (m_C _) (m_Cons (m_C _) m_N))))) m_N)))) m_N)))
  (ms_Ret (m_2 _ (m_Def sf_beginnings_many (m_Cons (m_V 11) m_N)) (m_Call _ (m_Cons (m_V 2) m_N))))))))))))
def b_law_1 : PSV := (psSeq (psSet 2 (pDef Q__law_book [true, false, false, false] 4 (pCons (pV 1) (pCons (pC (.str (ofL [97, 98, 99]))) (pCons (pC (.int 10)) (pCons (pC (.int 4)) pN))))))
  (psSeq (psIf (ptNot (ptOf (pDef Q__law_is_right [true, false] 2 (pCons (pV 1) (pCons (pV 2) pN))))) (psRet (pC (.bool false))) psNext)
  (psSeq (psSet 4 (pLst (pCons (pC .none) (pCons (pC (.str (ofL [65]))) (pCons (pC (.str (ofL [97, 32, 98]))) (pCons (pC (.str (ofL [97, 98, 99, 97, 98, 99, 97, 98, 99, 97, 98, 99, 97]))) (pCons (pC (.int 1)) (pCons (pTup (pCons (pC (.str (ofL [97]))) pN)) (pCons (pLst pN) (pCons (pC (.dict [])) (pCons (pDef Q__law_deep [true] 1 (pCons (pV 1) pN)) pN)))))))))))
  (psSeq (psAsg (pTup (pCons (pDef Q__law_no_book [true] 1 (pCons (pV 1) pN)) (pCons (pDef Q__law_any [true, false] 2 (pCons (pV 1) (pCons (pV 4) pN))) pN))) (pgT 2 (pgCn (pgN 5) (pgCn (pgN 4) pgN0))))
  (psSeq (psSet 6 (pLst (pCons (pLam hv__law_told (esN es__law_told) (pDef Q_with_beginning [false, false] 2 (pCons (pV 5) (pCons (pV 4) pN)))) (pCons (pLam hv__law_told (esN es__law_told) (pDef Q_with_beginning [false, false] 2 (pCons (pV 2) (pCons (pV 4) pN)))) pN))))
  (psSeq (psDrop (pMutW uAppend 6 (pCons (pLam hv__law_told (esN es__law_told) (pDef Q_next_letters [false, false] 2 (pCons (pV 5) (pCons (pV 4) pN)))) pN)))
  (psSeq (psDrop (pMutW uAppend 6 (pCons (pLam hv__law_told (esN es__law_told) (pDef Q_next_letters [false, false] 2 (pCons (pV 2) (pCons (pV 4) pN)))) pN)))
  (psSeq (psDrop (pMutW uAppend 6 (pCons (pLam hv__law_told (esN es__law_told) (pDef Q_beginnings_many [false] 1 (pCons (pV 5) pN))) pN)))
  (psSeq (psDrop (pMutW uAppend 6 (pCons (pLam hv__law_told (esN es__law_told) (pDef Q_split_points [false] 1 (pCons (pV 5) pN))) pN)))
  (psIf (ptOf (p2 gNe (pV 6) (p2 gAdd (p2 gMul (pLst (pCons (pC (.str (ofL [98, 111, 111, 107]))) (pCons (pC (.str (ofL [116, 101, 120, 116]))) pN))) (pC (.int 2))) (pLst (pCons (pC (.str (ofL [98, 111, 111, 107]))) (pCons (pC (.str (ofL [98, 111, 111, 107]))) pN)))))) (psRet (pC (.bool false))) psNext))))))))))
def k_law : PSV := (psSeq (psSet 1 (pDef Q__law_hand [false] 1 (pCons (pV 0) pN)))
  (psSeq (psSet 2 (pTup (pCons (pC (.str (ofL [97, 98]))) (pCons (pC (.str (ofL [97, 98, 99]))) (pCons (pC (.str (ofL [97, 99]))) (pCons (pC (.str (ofL [98]))) pN))))))
  (psSeq (psIf (ptOr (ptOf (p2 gNe (pDef Q_beginnings_many [false] 1 (pCons (pV 2) pN)) (pC (.int 6)))) (ptOr (ptOf (p2 gNe (pDef Q_split_points [false] 1 (pCons (pV 2) pN)) (pTup (pCons (pC (.str (ofL []))) (pCons (pC (.str (ofL [97]))) pN))))) (ptOf (p2 gNe (pDef Q_next_letters [false, false] 2 (pCons (pV 2) (pCons (pC (.str (ofL [97, 98]))) pN))) (pC (.str (ofL [99]))))))) (psRet (pC (.bool false))) psNext)
  (psSeq (psIf (ptOf (p2 gNe (pDef Q_with_beginning [false, false] 2 (pCons (pV 2) (pCons (pC (.str (ofL [97, 99]))) pN))) (pTup (pCons (pC (.str (ofL [97, 99]))) pN)))) (psRet (pC (.bool false))) psNext)
  (psSeq (psFor (pR1 (pCons (pC (.int 8)) pN)) (pgN 3) b_law_1)
  (psRet (pC (.bool true))))))))
def Q_law : PFV := prun 7 k_law
theorem sf_law : SimF F_law Q_law := simF_run fun Z => (ms_Seq (ms_Set _ (m_Def sf__law_hand (m_Cons (m_V 0) m_N)))
  (ms_Seq (ms_Set _ (m_Tup (m_Cons (m_Cs (by first | rfl | decide +kernel)) (m_Cons (m_Cs (by first | rfl | decide +kernel)) (m_Cons (m_Cs (by first | rfl | decide +kernel)) (m_Cons (m_Cs (by first | rfl | decide +kernel)) m_N))))))
  (ms_Seq (ms_If (m_tOr (m_tOf (m_2 _ (m_Def sf_beginnings_many (m_Cons (m_V 2) m_N)) (m_C _))) (m_tOr (m_tOf (m_2 _ (m_Def sf_split_points (m_Cons (m_V 2) m_N)) (m_Tup (m_Cons (m_Cs (by first | rfl | decide +kernel)) (m_Cons (m_Cs (by first | rfl | decide +kernel)) m_N))))) (m_tOf (m_2 _ (m_Def sf_next_letters (m_Cons (m_V 2) (m_Cons (m_Cs (by first | rfl | decide +kernel)) m_N))) (m_Cs (by first | rfl | decide +kernel)))))) (ms_Ret (m_C _)) ms_Next)
  (ms_Seq (ms_If (m_tOf (m_2 _ (m_Def sf_with_beginning (m_Cons (m_V 2) (m_Cons (m_Cs (by first | rfl | decide +kernel)) m_N))) (m_Tup (m_Cons (m_Cs (by first | rfl | decide +kernel)) m_N)))) (ms_Ret (m_C _)) ms_Next)
  (ms_Seq (ms_For (m_R1 (m_Cons (m_C _) m_N)) (mg_N 3) (ms_Seq (ms_Set _ (m_Def sf__law_book (m_Cons (m_V 1) (m_Cons (m_Cs (by first | rfl | decide +kernel)) (m_Cons (m_C _) (m_Cons (m_C _) m_N))))))
  (ms_Seq (ms_If (m_tNot (m_tOf (m_Def sf__law_is_right (m_Cons (m_V 1) (m_Cons (m_V 2) m_N))))) (ms_Ret (m_C _)) ms_Next)
  (ms_Seq (ms_Set _ (m_Lst (m_Cons (m_C _) (m_Cons (m_Cs (by first | rfl | decide +kernel)) (m_Cons (m_Cs (by first | rfl | decide +kernel)) (m_Cons (m_Cs (by first | rfl | decide +kernel)) (m_Cons (m_C _) (m_Cons (m_Tup (m_Cons (m_Cs (by first | rfl | decide +kernel)) m_N)) (m_Cons (m_Lst m_N) (m_Cons (m_C _) (m_Cons (m_Def sf__law_deep (m_Cons (m_V 1) m_N)) m_N)))))))))))
  (ms_Seq (ms_Asg (m_Tup (m_Cons (m_Def sf__law_no_book (m_Cons (m_V 1) m_N)) (m_Cons (m_Def sf__law_any (m_Cons (m_V 1) (m_Cons (m_V 4) m_N))) m_N))) (mg_T (mg_Cn (mg_N 5) (mg_Cn (mg_N 4) mg_N0))))
  (ms_Seq (ms_Set _ (m_Lst (m_Cons (m_Lam _ _ (m_Def sf_with_beginning (m_Cons (m_V 5) (m_Cons (m_V 4) m_N)))) (m_Cons (m_Lam _ _ (m_Def sf_with_beginning (m_Cons (m_V 2) (m_Cons (m_V 4) m_N)))) m_N))))
  (ms_Seq (ms_Drop (m_Mut _ 6 (m_Cons (m_Lam _ _ (m_Def sf_next_letters (m_Cons (m_V 5) (m_Cons (m_V 4) m_N)))) m_N)))
  (ms_Seq (ms_Drop (m_Mut _ 6 (m_Cons (m_Lam _ _ (m_Def sf_next_letters (m_Cons (m_V 2) (m_Cons (m_V 4) m_N)))) m_N)))
  (ms_Seq (ms_Drop (m_Mut _ 6 (m_Cons (m_Lam _ _ (m_Def sf_beginnings_many (m_Cons (m_V 5) m_N))) m_N)))
  (ms_Seq (ms_Drop (m_Mut _ 6 (m_Cons (m_Lam _ _ (m_Def sf_split_points (m_Cons (m_V 5) m_N))) m_N)))
  (ms_If (m_tOf (m_2 _ (m_V 6) (m_2 _ (m_2 _ (m_Lst (m_Cons (m_Cs (by first | rfl | decide +kernel)) (m_Cons (m_Cs (by first | rfl | decide +kernel)) m_N))) (m_C _)) (m_Lst (m_Cons (m_Cs (by first | rfl | decide +kernel)) (m_Cons (m_Cs (by first | rfl | decide +kernel)) m_N)))))) (ms_Ret (m_C _)) ms_Next)))))))))))
  (ms_Ret (m_C _)))))))
end P08
namespace P08
open PySem PySem.Spec PyProof.Rows L2 DL
def handL (cs : List Int) (a b c d : Int) : List PD := [.list (cs.map .int), .int a, .int b, .int c, .int d]
/-- what is always so of a hand -/
def HandP (ds : List PD) : Prop := ∃ cs a b c d, ds = handL cs a b c d ∧ (∀ x ∈ cs, 0 ≤ x) ∧ 0 ≤ a ∧ 0 ≤ b
theorem cut_ints (ns : List Int) (lo hi : Option Int) : ∃ l : List Int, DL.cutD (ns.map .int) lo hi = l.map .int ∧ l.length ≤ ns.length := by
  refine ⟨(ns.drop (HT.sIx (ns.map PyData.int).length 0 lo)).take (HT.sIx (ns.map PyData.int).length (ns.map PyData.int).length hi - HT.sIx (ns.map PyData.int).length 0 lo), ?_, ?_⟩
  · unfold DL.cutD
    rw [← List.map_drop, ← List.map_take]
  · rw [List.length_take, List.length_drop]; omega
theorem q_slScr (ns : List Int) (lo hi : Option Int) : gSl (scrD ns) lo hi = some (.nls (DL.cutD (ns.map .int) lo hi)) := rfl
def absI (i : Int) : Int := if i < 0 then -i else i
theorem hand_ok (ns : List Int) (hn : ns.length ≤ 63) : ∃ ds, HandP ds ∧ Q__law_hand [.d (scrD ns)] = .ok (.l true ds) [] := by
  obtain ⟨l, e, hl⟩ := cut_ints ns none (some 63)
  refine ⟨handL (l.map absI) 0 0 (83 + 5 * ((l.map PyData.int).length : Int)) 0, ⟨_, _, _, _, _, rfl, ?_, by decide, by decide⟩, ?_⟩
  · intro x hx
    obtain ⟨y, _, rfl⟩ := List.mem_map.mp hx
    unfold absI; split <;> omega
  unfold Q__law_hand k__law_hand handL
  simp -implicitDefEqProofs (disch := (first | assumption | omega | decide)) only [DL.PV0, DL.PV1, DL.PV2, DL.PV3, DL.PV4, DL.PV5, DL.PV6, DL.PV7, DL.PV8, DL.PV9, DL.PV10, DL.PV11, DL.PV12, DL.PV13, DL.PV14, DL.PV15, DL.PV16, DL.PV17, DL.PV18, DL.PV19, DL.PV20, DL.PV21, DL.PV22, DL.PV23, DL.PV24, DL.PV25, DL.PV26, DL.PV27, List.getElem?_cons_zero, List.getElem?_cons_succ, List.getElem?_nil, List.set_cons_zero, List.set_cons_succ, List.length_cons, List.length_nil, List.map_cons, List.map_nil, List.replicate_succ, List.replicate_zero, List.cons_append, List.nil_append, Nat.reduceAdd, Nat.reduceSub, Nat.reduceLT, Nat.reduceLeDiff, Nat.reduceEqDiff, Int.reduceEq, Int.reduceLT, Int.reduceLE, Int.reduceNeg, decide_true, decide_false, Bool.not_true, Bool.not_false, Bool.and_true, Bool.and_false, Bool.true_and, Bool.false_and, Bool.and_self, Bool.or_true, Bool.or_false, decide_eq_true_eq, if_true, if_false, Int.ofNat_zero, Int.cast_ofNat_Int, Bool.false_eq_true, reduceIte, reduceCtorEq, Option.map_some, Option.map_none, Option.bind_some, List.nodup_nil, Nat.zero_add, Option.some.injEq, and_self, and_true, true_and, and_false, false_and, or_self, or_true, true_or, or_false, false_or, not_true_eq_false, not_false_eq_true, q_slScr, e]
  rw [pcomp_map _ PyData.int (fun i => .int (absI i)) l [] (fun i _ => ?h) (by simp only [List.length_nil]; omega)]
  case h => simp -implicitDefEqProofs (disch := (first | assumption | omega | decide)) only [DL.PV0, DL.PV1, DL.PV2, DL.PV3, DL.PV4, DL.PV5, DL.PV6, DL.PV7, DL.PV8, DL.PV9, DL.PV10, DL.PV11, DL.PV12, DL.PV13, DL.PV14, DL.PV15, DL.PV16, DL.PV17, DL.PV18, DL.PV19, DL.PV20, DL.PV21, DL.PV22, DL.PV23, DL.PV24, DL.PV25, DL.PV26, DL.PV27, List.getElem?_cons_zero, List.getElem?_cons_succ, List.getElem?_nil, List.set_cons_zero, List.set_cons_succ, List.length_cons, List.length_nil, List.map_cons, List.map_nil, List.replicate_succ, List.replicate_zero, List.cons_append, List.nil_append, Nat.reduceAdd, Nat.reduceSub, Nat.reduceLT, Nat.reduceLeDiff, Nat.reduceEqDiff, Int.reduceEq, Int.reduceLT, Int.reduceLE, Int.reduceNeg, decide_true, decide_false, Bool.not_true, Bool.not_false, Bool.and_true, Bool.and_false, Bool.true_and, Bool.false_and, Bool.and_self, Bool.or_true, Bool.or_false, decide_eq_true_eq, if_true, if_false, Int.ofNat_zero, Int.cast_ofNat_Int, Bool.false_eq_true, reduceIte, reduceCtorEq, Option.map_some, Option.map_none, Option.bind_some, List.nodup_nil, Nat.zero_add, Option.some.injEq, and_self, and_true, true_and, and_false, false_and, or_self, or_true, true_or, or_false, false_or, not_true_eq_false, not_false_eq_true, absI, e__law_hand_1]
  simp -implicitDefEqProofs (disch := (first | assumption | omega | decide)) only [DL.PV0, DL.PV1, DL.PV2, DL.PV3, DL.PV4, DL.PV5, DL.PV6, DL.PV7, DL.PV8, DL.PV9, DL.PV10, DL.PV11, DL.PV12, DL.PV13, DL.PV14, DL.PV15, DL.PV16, DL.PV17, DL.PV18, DL.PV19, DL.PV20, DL.PV21, DL.PV22, DL.PV23, DL.PV24, DL.PV25, DL.PV26, DL.PV27, List.getElem?_cons_zero, List.getElem?_cons_succ, List.getElem?_nil, List.set_cons_zero, List.set_cons_succ, List.length_cons, List.length_nil, List.map_cons, List.map_nil, List.replicate_succ, List.replicate_zero, List.cons_append, List.nil_append, Nat.reduceAdd, Nat.reduceSub, Nat.reduceLT, Nat.reduceLeDiff, Nat.reduceEqDiff, Int.reduceEq, Int.reduceLT, Int.reduceLE, Int.reduceNeg, decide_true, decide_false, Bool.not_true, Bool.not_false, Bool.and_true, Bool.and_false, Bool.true_and, Bool.false_and, Bool.and_self, Bool.or_true, Bool.or_false, decide_eq_true_eq, if_true, if_false, Int.ofNat_zero, Int.cast_ofNat_Int, Bool.false_eq_true, reduceIte, reduceCtorEq, Option.map_some, Option.map_none, Option.bind_some, List.nodup_nil, Nat.zero_add, Option.some.injEq, and_self, and_true, true_and, and_false, false_and, or_self, or_true, true_or, or_false, false_or, not_true_eq_false, not_false_eq_true, List.length_map, List.map_map]
  rfl
theorem draw_t1 (cs : List Int) (a b c d m : Int) (h2 : 0 < b) (hm : 0 < m) (hm2 : m < 2 ^ 60) : Q__law_draw [.l false (handL cs a b c d), .d (.int m)] = .ok (.d (.int (b % m))) [handL cs a (b / m) c d] := by
  have hb : b ≠ 0 := by omega
  unfold Q__law_draw k__law_draw handL
  simp -implicitDefEqProofs (disch := (first | assumption | omega | decide)) only [DL.PV0, DL.PV1, DL.PV2, DL.PV3, DL.PV4, DL.PV5, DL.PV6, DL.PV7, DL.PV8, DL.PV9, DL.PV10, DL.PV11, DL.PV12, DL.PV13, DL.PV14, DL.PV15, DL.PV16, DL.PV17, DL.PV18, DL.PV19, DL.PV20, DL.PV21, DL.PV22, DL.PV23, DL.PV24, DL.PV25, DL.PV26, DL.PV27, List.getElem?_cons_zero, List.getElem?_cons_succ, List.getElem?_nil, List.set_cons_zero, List.set_cons_succ, List.length_cons, List.length_nil, List.map_cons, List.map_nil, List.replicate_succ, List.replicate_zero, List.cons_append, List.nil_append, Nat.reduceAdd, Nat.reduceSub, Nat.reduceLT, Nat.reduceLeDiff, Nat.reduceEqDiff, Int.reduceEq, Int.reduceLT, Int.reduceLE, Int.reduceNeg, decide_true, decide_false, Bool.not_true, Bool.not_false, Bool.and_true, Bool.and_false, Bool.true_and, Bool.false_and, Bool.and_self, Bool.or_true, Bool.or_false, decide_eq_true_eq, if_true, if_false, Int.ofNat_zero, Int.cast_ofNat_Int, Bool.false_eq_true, reduceIte, reduceCtorEq, Option.map_some, Option.map_none, Option.bind_some, List.nodup_nil, Nat.zero_add, Option.some.injEq, and_self, and_true, true_and, and_false, false_and, or_self, or_true, true_or, or_false, false_or, not_true_eq_false, not_false_eq_true, hb, h2]
theorem draw_t2 (cs : List Int) (a c d m : Int) (ha : ¬ a < (cs.length : Int)) (hm : 0 < m) (hm2 : m < 2 ^ 60) : ∃ k d', Q__law_draw [.l false (handL cs a 0 c d), .d (.int m)] = .ok (.d (.int (k % m))) [handL cs a 0 c d'] := by
  unfold Q__law_draw k__law_draw handL
  simp -implicitDefEqProofs (disch := (first | assumption | omega | decide)) only [DL.PV0, DL.PV1, DL.PV2, DL.PV3, DL.PV4, DL.PV5, DL.PV6, DL.PV7, DL.PV8, DL.PV9, DL.PV10, DL.PV11, DL.PV12, DL.PV13, DL.PV14, DL.PV15, DL.PV16, DL.PV17, DL.PV18, DL.PV19, DL.PV20, DL.PV21, DL.PV22, DL.PV23, DL.PV24, DL.PV25, DL.PV26, DL.PV27, List.getElem?_cons_zero, List.getElem?_cons_succ, List.getElem?_nil, List.set_cons_zero, List.set_cons_succ, List.length_cons, List.length_nil, List.map_cons, List.map_nil, List.replicate_succ, List.replicate_zero, List.cons_append, List.nil_append, Nat.reduceAdd, Nat.reduceSub, Nat.reduceLT, Nat.reduceLeDiff, Nat.reduceEqDiff, Int.reduceEq, Int.reduceLT, Int.reduceLE, Int.reduceNeg, decide_true, decide_false, Bool.not_true, Bool.not_false, Bool.and_true, Bool.and_false, Bool.true_and, Bool.false_and, Bool.and_self, Bool.or_true, Bool.or_false, decide_eq_true_eq, if_true, if_false, Int.ofNat_zero, Int.cast_ofNat_Int, Bool.false_eq_true, reduceIte, reduceCtorEq, Option.map_some, Option.map_none, Option.bind_some, List.nodup_nil, Nat.zero_add, Option.some.injEq, and_self, and_true, true_and, and_false, false_and, or_self, or_true, true_or, or_false, false_or, not_true_eq_false, not_false_eq_true, ha, List.length_map]
  exact ⟨_, _, rfl⟩
theorem draw_t3 (cs : List Int) (a c d m x : Int) (ha : a < (cs.length : Int)) (hx : gIx (.list (cs.map .int)) (.int a) = some (.val (.int x))) (h18 : ¬ 1000000000000000000 ≤ x) (hm : 0 < m) (hm2 : m < 2 ^ 60) : ∃ k c' d', Q__law_draw [.l false (handL cs a 0 c d), .d (.int m)] = .ok (.d (.int (k % m))) [handL cs (a + 1) 0 c' d'] := by
  unfold Q__law_draw k__law_draw handL
  simp -implicitDefEqProofs (disch := (first | assumption | omega | decide)) only [DL.PV0, DL.PV1, DL.PV2, DL.PV3, DL.PV4, DL.PV5, DL.PV6, DL.PV7, DL.PV8, DL.PV9, DL.PV10, DL.PV11, DL.PV12, DL.PV13, DL.PV14, DL.PV15, DL.PV16, DL.PV17, DL.PV18, DL.PV19, DL.PV20, DL.PV21, DL.PV22, DL.PV23, DL.PV24, DL.PV25, DL.PV26, DL.PV27, List.getElem?_cons_zero, List.getElem?_cons_succ, List.getElem?_nil, List.set_cons_zero, List.set_cons_succ, List.length_cons, List.length_nil, List.map_cons, List.map_nil, List.replicate_succ, List.replicate_zero, List.cons_append, List.nil_append, Nat.reduceAdd, Nat.reduceSub, Nat.reduceLT, Nat.reduceLeDiff, Nat.reduceEqDiff, Int.reduceEq, Int.reduceLT, Int.reduceLE, Int.reduceNeg, decide_true, decide_false, Bool.not_true, Bool.not_false, Bool.and_true, Bool.and_false, Bool.true_and, Bool.false_and, Bool.and_self, Bool.or_true, Bool.or_false, decide_eq_true_eq, if_true, if_false, Int.ofNat_zero, Int.cast_ofNat_Int, Bool.false_eq_true, reduceIte, reduceCtorEq, Option.map_some, Option.map_none, Option.bind_some, List.nodup_nil, Nat.zero_add, Option.some.injEq, and_self, and_true, true_and, and_false, false_and, or_self, or_true, true_or, or_false, false_or, not_true_eq_false, not_false_eq_true, ha, List.length_map, hx, h18]
  exact ⟨_, _, _, rfl⟩
theorem draw_t4 (cs : List Int) (a c d m x : Int) (ha : a < (cs.length : Int)) (hx : gIx (.list (cs.map .int)) (.int a) = some (.val (.int x))) (h18 : 1000000000000000000 ≤ x) (hm : 0 < m) (hm2 : m < 2 ^ 60) : ∃ c', Q__law_draw [.l false (handL cs a 0 c d), .d (.int m)] = .ok (.d (.int (x % m))) [handL cs (a + 1) (x / m) c' d] := by
  have h0 : 0 < x := by omega
  have h1 : x ≠ 0 := by omega
  unfold Q__law_draw k__law_draw handL
  simp -implicitDefEqProofs (disch := (first | assumption | omega | decide)) only [DL.PV0, DL.PV1, DL.PV2, DL.PV3, DL.PV4, DL.PV5, DL.PV6, DL.PV7, DL.PV8, DL.PV9, DL.PV10, DL.PV11, DL.PV12, DL.PV13, DL.PV14, DL.PV15, DL.PV16, DL.PV17, DL.PV18, DL.PV19, DL.PV20, DL.PV21, DL.PV22, DL.PV23, DL.PV24, DL.PV25, DL.PV26, DL.PV27, List.getElem?_cons_zero, List.getElem?_cons_succ, List.getElem?_nil, List.set_cons_zero, List.set_cons_succ, List.length_cons, List.length_nil, List.map_cons, List.map_nil, List.replicate_succ, List.replicate_zero, List.cons_append, List.nil_append, Nat.reduceAdd, Nat.reduceSub, Nat.reduceLT, Nat.reduceLeDiff, Nat.reduceEqDiff, Int.reduceEq, Int.reduceLT, Int.reduceLE, Int.reduceNeg, decide_true, decide_false, Bool.not_true, Bool.not_false, Bool.and_true, Bool.and_false, Bool.true_and, Bool.false_and, Bool.and_self, Bool.or_true, Bool.or_false, decide_eq_true_eq, if_true, if_false, Int.ofNat_zero, Int.cast_ofNat_Int, Bool.false_eq_true, reduceIte, reduceCtorEq, Option.map_some, Option.map_none, Option.bind_some, List.nodup_nil, Nat.zero_add, Option.some.injEq, and_self, and_true, true_and, and_false, false_and, or_self, or_true, true_or, or_false, false_or, not_true_eq_false, not_false_eq_true, ha, List.length_map, hx, h18, h0]
  exact ⟨_, rfl⟩
theorem draw_ok {ds : List PD} (H : HandP ds) (m : Int) (hm : 0 < m) (hm2 : m < 2 ^ 60) : ∃ k ds', HandP ds' ∧ 0 ≤ k ∧ k < m ∧ ∀ w, Q__law_draw [.l w ds, .d (.int m)] = .ok (.d (.int k)) [ds'] := by
  obtain ⟨cs, a, b, c, d, rfl, h1, h2, h3⟩ := H
  have hk : ∀ k : Int, 0 ≤ k % m ∧ k % m < m := fun k => ⟨Int.emod_nonneg k (by omega), Int.emod_lt_of_pos k hm⟩
  by_cases hb : b = 0
  · subst hb
    by_cases ha : a < (cs.length : Int)
    · have hl : a.toNat < cs.length := by omega
      have hx : gIx (.list (cs.map .int)) (.int a) = some (.val (.int cs[a.toNat])) := o2_ixZ h2 (by rw [List.getElem?_map, List.getElem?_eq_getElem hl]; rfl)
      by_cases h18 : 1000000000000000000 ≤ cs[a.toNat]
      · obtain ⟨c', e⟩ := draw_t4 cs a c d m _ ha hx h18 hm hm2
        exact ⟨_, _, ⟨_, _, _, _, _, rfl, h1, by omega, Int.ediv_nonneg (by omega) (by omega)⟩, (hk _).1, (hk _).2, fun w => e⟩
      · obtain ⟨k, c', d', e⟩ := draw_t3 cs a c d m _ ha hx h18 hm hm2
        exact ⟨_, _, ⟨_, _, _, _, _, rfl, h1, by omega, by decide⟩, (hk _).1, (hk _).2, fun w => e⟩
    · obtain ⟨k, d', e⟩ := draw_t2 cs a c d m ha hm hm2
      exact ⟨_, _, ⟨_, _, _, _, _, rfl, h1, by omega, by decide⟩, (hk _).1, (hk _).2, fun w => e⟩
  · exact ⟨_, _, ⟨_, _, _, _, _, rfl, h1, h2, Int.ediv_nonneg h3 (by omega)⟩, (hk _).1, (hk _).2, fun w => draw_t1 cs a b c d m (by omega) hm hm2⟩
theorem any_ok {ds : List PD} (H : HandP ds) (xs : List PD) (h0 : 0 < xs.length) (h1 : xs.length < 2 ^ 60) : ∃ x ds', HandP ds' ∧ x ∈ xs ∧ ∀ w, Q__law_any [.l w ds, .d (.list xs)] = .ok (.d x) [ds'] := by
  obtain ⟨k, ds', H', k0, k1, e⟩ := draw_ok H (xs.length : Int) (by omega) (by omega)
  have hl : k.toNat < xs.length := by omega
  have hx : gIx (.list xs) (.int k) = some (.val xs[k.toNat]) := o2_ixZ k0 (List.getElem?_eq_getElem hl)
  refine ⟨xs[k.toNat], ds', H', List.getElem_mem hl, fun w => ?_⟩
  unfold Q__law_any k__law_any
  simp -implicitDefEqProofs (disch := (first | assumption | omega | decide)) only [DL.PV0, DL.PV1, DL.PV2, DL.PV3, DL.PV4, DL.PV5, DL.PV6, DL.PV7, DL.PV8, DL.PV9, DL.PV10, DL.PV11, DL.PV12, DL.PV13, DL.PV14, DL.PV15, DL.PV16, DL.PV17, DL.PV18, DL.PV19, DL.PV20, DL.PV21, DL.PV22, DL.PV23, DL.PV24, DL.PV25, DL.PV26, DL.PV27, List.getElem?_cons_zero, List.getElem?_cons_succ, List.getElem?_nil, List.set_cons_zero, List.set_cons_succ, List.length_cons, List.length_nil, List.map_cons, List.map_nil, List.replicate_succ, List.replicate_zero, List.cons_append, List.nil_append, Nat.reduceAdd, Nat.reduceSub, Nat.reduceLT, Nat.reduceLeDiff, Nat.reduceEqDiff, Int.reduceEq, Int.reduceLT, Int.reduceLE, Int.reduceNeg, decide_true, decide_false, Bool.not_true, Bool.not_false, Bool.and_true, Bool.and_false, Bool.true_and, Bool.false_and, Bool.and_self, Bool.or_true, Bool.or_false, decide_eq_true_eq, if_true, if_false, Int.ofNat_zero, Int.cast_ofNat_Int, Bool.false_eq_true, reduceIte, reduceCtorEq, Option.map_some, Option.map_none, Option.bind_some, List.nodup_nil, Nat.zero_add, Option.some.injEq, and_self, and_true, true_and, and_false, false_and, or_self, or_true, true_or, or_false, false_or, not_true_eq_false, not_false_eq_true, e, hx]
end P08
namespace P08
open PySem PySem.Spec PyProof.Rows L2 DL
/-! words, books -/
theorem q_ltA {l m : List Nat} : gLtA (.str (ofL l)) (.str (ofL m)) = some (.val (.bool (decide (l < m)))) := rfl
theorem q_gtAI {i j : Int} : gGtA (.int i) (.int j) = some (.val (.bool (decide (j < i)))) := rfl
theorem is_letters_ok {l : List Nat} (h : Ltr l) {a b : Int} (h1 : a ≤ l.length) (h2 : (l.length : Int) ≤ b) (h3 : l.length ≤ 100) : Q_is_letters [.d (.str (ofL l)), .d (.int a), .d (.int b)] = .ok (.d (.bool true)) [] := by
  unfold Q_is_letters k_is_letters
  simp -implicitDefEqProofs (disch := (first | assumption | omega | decide)) only [DL.PV0, DL.PV1, DL.PV2, DL.PV3, DL.PV4, DL.PV5, DL.PV6, DL.PV7, DL.PV8, DL.PV9, DL.PV10, DL.PV11, DL.PV12, DL.PV13, DL.PV14, DL.PV15, DL.PV16, DL.PV17, DL.PV18, DL.PV19, DL.PV20, DL.PV21, DL.PV22, DL.PV23, DL.PV24, DL.PV25, DL.PV26, DL.PV27, List.getElem?_cons_zero, List.getElem?_cons_succ, List.getElem?_nil, List.set_cons_zero, List.set_cons_succ, List.length_cons, List.length_nil, List.map_cons, List.map_nil, List.replicate_succ, List.replicate_zero, List.cons_append, List.nil_append, Nat.reduceAdd, Nat.reduceSub, Nat.reduceLT, Nat.reduceLeDiff, Nat.reduceEqDiff, Int.reduceEq, Int.reduceLT, Int.reduceLE, Int.reduceNeg, decide_true, decide_false, Bool.not_true, Bool.not_false, Bool.and_true, Bool.and_false, Bool.true_and, Bool.false_and, Bool.and_self, Bool.or_true, Bool.or_false, decide_eq_true_eq, if_true, if_false, Int.ofNat_zero, Int.cast_ofNat_Int, Bool.false_eq_true, reduceIte, reduceCtorEq, Option.map_some, Option.map_none, Option.bind_some, List.nodup_nil, Nat.zero_add, Option.some.injEq, and_self, and_true, true_and, and_false, false_and, or_self, or_true, true_or, or_false, false_or, not_true_eq_false, not_false_eq_true, h1, h2]
  rw [pcomp_map _ (fun c => PyData.str (ofL [c])) (fun c => .bool (decide (c ∈ [97, 98, 99, 100, 101, 102, 103, 104, 105, 106, 107, 108, 109, 110, 111, 112, 113, 114, 115, 116, 117, 118, 119, 120, 121, 122]))) l [] (fun c _ => by simp -implicitDefEqProofs (disch := (first | assumption | omega | decide)) only [DL.PV0, DL.PV1, DL.PV2, DL.PV3, DL.PV4, DL.PV5, DL.PV6, DL.PV7, DL.PV8, DL.PV9, DL.PV10, DL.PV11, DL.PV12, DL.PV13, DL.PV14, DL.PV15, DL.PV16, DL.PV17, DL.PV18, DL.PV19, DL.PV20, DL.PV21, DL.PV22, DL.PV23, DL.PV24, DL.PV25, DL.PV26, DL.PV27, List.getElem?_cons_zero, List.getElem?_cons_succ, List.getElem?_nil, List.set_cons_zero, List.set_cons_succ, List.length_cons, List.length_nil, List.map_cons, List.map_nil, List.replicate_succ, List.replicate_zero, List.cons_append, List.nil_append, Nat.reduceAdd, Nat.reduceSub, Nat.reduceLT, Nat.reduceLeDiff, Nat.reduceEqDiff, Int.reduceEq, Int.reduceLT, Int.reduceLE, Int.reduceNeg, decide_true, decide_false, Bool.not_true, Bool.not_false, Bool.and_true, Bool.and_false, Bool.true_and, Bool.false_and, Bool.and_self, Bool.or_true, Bool.or_false, decide_eq_true_eq, if_true, if_false, Int.ofNat_zero, Int.cast_ofNat_Int, Bool.false_eq_true, reduceIte, reduceCtorEq, Option.map_some, Option.map_none, Option.bind_some, List.nodup_nil, Nat.zero_add, Option.some.injEq, and_self, and_true, true_and, and_false, false_and, or_self, or_true, true_or, or_false, false_or, not_true_eq_false, not_false_eq_true, e_is_letters_1]) (by simp only [List.length_nil]; omega)]
  have e : (l.all fun c => decide (c ∈ [97, 98, 99, 100, 101, 102, 103, 104, 105, 106, 107, 108, 109, 110, 111, 112, 113, 114, 115, 116, 117, 118, 119, 120, 121, 122])) = true := by
    rw [List.all_eq_true]
    intro c hc
    have := h c hc
    rw [decide_eq_true_eq]
    simp only [List.mem_cons, List.not_mem_nil, or_false]
    omega
  simp -implicitDefEqProofs (disch := (first | assumption | omega | decide)) only [DL.PV0, DL.PV1, DL.PV2, DL.PV3, DL.PV4, DL.PV5, DL.PV6, DL.PV7, DL.PV8, DL.PV9, DL.PV10, DL.PV11, DL.PV12, DL.PV13, DL.PV14, DL.PV15, DL.PV16, DL.PV17, DL.PV18, DL.PV19, DL.PV20, DL.PV21, DL.PV22, DL.PV23, DL.PV24, DL.PV25, DL.PV26, DL.PV27, List.getElem?_cons_zero, List.getElem?_cons_succ, List.getElem?_nil, List.set_cons_zero, List.set_cons_succ, List.length_cons, List.length_nil, List.map_cons, List.map_nil, List.replicate_succ, List.replicate_zero, List.cons_append, List.nil_append, Nat.reduceAdd, Nat.reduceSub, Nat.reduceLT, Nat.reduceLeDiff, Nat.reduceEqDiff, Int.reduceEq, Int.reduceLT, Int.reduceLE, Int.reduceNeg, decide_true, decide_false, Bool.not_true, Bool.not_false, Bool.and_true, Bool.and_false, Bool.true_and, Bool.false_and, Bool.and_self, Bool.or_true, Bool.or_false, decide_eq_true_eq, if_true, if_false, Int.ofNat_zero, Int.cast_ofNat_Int, Bool.false_eq_true, reduceIte, reduceCtorEq, Option.map_some, Option.map_none, Option.bind_some, List.nodup_nil, Nat.zero_add, Option.some.injEq, and_self, and_true, true_and, and_false, false_and, or_self, or_true, true_or, or_false, false_or, not_true_eq_false, not_false_eq_true, e]
theorem is_word_ok {l : List Nat} (h : Wd l) : Q_is_word [.d (.str (ofL l))] = .ok (.d (.bool true)) [] := by
  unfold Q_is_word k_is_word
  simp -implicitDefEqProofs (disch := (first | assumption | omega | decide)) only [DL.PV0, DL.PV1, DL.PV2, DL.PV3, DL.PV4, DL.PV5, DL.PV6, DL.PV7, DL.PV8, DL.PV9, DL.PV10, DL.PV11, DL.PV12, DL.PV13, DL.PV14, DL.PV15, DL.PV16, DL.PV17, DL.PV18, DL.PV19, DL.PV20, DL.PV21, DL.PV22, DL.PV23, DL.PV24, DL.PV25, DL.PV26, DL.PV27, List.getElem?_cons_zero, List.getElem?_cons_succ, List.getElem?_nil, List.set_cons_zero, List.set_cons_succ, List.length_cons, List.length_nil, List.map_cons, List.map_nil, List.replicate_succ, List.replicate_zero, List.cons_append, List.nil_append, Nat.reduceAdd, Nat.reduceSub, Nat.reduceLT, Nat.reduceLeDiff, Nat.reduceEqDiff, Int.reduceEq, Int.reduceLT, Int.reduceLE, Int.reduceNeg, decide_true, decide_false, Bool.not_true, Bool.not_false, Bool.and_true, Bool.and_false, Bool.true_and, Bool.false_and, Bool.and_self, Bool.or_true, Bool.or_false, decide_eq_true_eq, if_true, if_false, Int.ofNat_zero, Int.cast_ofNat_Int, Bool.false_eq_true, reduceIte, reduceCtorEq, Option.map_some, Option.map_none, Option.bind_some, List.nodup_nil, Nat.zero_add, Option.some.injEq, and_self, and_true, true_and, and_false, false_and, or_self, or_true, true_or, or_false, false_or, not_true_eq_false, not_false_eq_true, is_letters_ok h.1 (a := 1) (b := 12) (by have := h.2.1; omega) (by have := h.2.2; omega) (by have := h.2.2; omega)]
theorem is_book_ok {ws : List (List Nat)} (h : Bk ws) : Q_is_book [.d (bookD ws)] = .ok (.d (.bool true)) [] := by
  obtain ⟨hw, hp, hn⟩ := h
  have hlen : ¬ (60 : Int) < ((ws.map tx).length : Int) := by rw [List.length_map]; omega
  have hnil : ([] : List PD).length + ws.length ≤ 16777216 := by rw [List.length_nil]; omega
  unfold Q_is_book k_is_book bookD
  have c1 : ∀ env, env = ([some (.d (.tuple (ws.map tx))), none, none] : DL.Env) → pcompL (pgN 1) (fun env => .ok true env) e_is_book_1 [1] (ws.map tx) [] env = .ok ([] ++ ws.map fun _ => .bool true) env := by
    rintro env rfl
    refine pcomp_map _ tx (fun _ => .bool true) ws [] (fun w hm => ?_) hnil
    unfold tx
    simp -implicitDefEqProofs (disch := (first | assumption | omega | decide)) only [DL.PV0, DL.PV1, DL.PV2, DL.PV3, DL.PV4, DL.PV5, DL.PV6, DL.PV7, DL.PV8, DL.PV9, DL.PV10, DL.PV11, DL.PV12, DL.PV13, DL.PV14, DL.PV15, DL.PV16, DL.PV17, DL.PV18, DL.PV19, DL.PV20, DL.PV21, DL.PV22, DL.PV23, DL.PV24, DL.PV25, DL.PV26, DL.PV27, List.getElem?_cons_zero, List.getElem?_cons_succ, List.getElem?_nil, List.set_cons_zero, List.set_cons_succ, List.length_cons, List.length_nil, List.map_cons, List.map_nil, List.replicate_succ, List.replicate_zero, List.cons_append, List.nil_append, Nat.reduceAdd, Nat.reduceSub, Nat.reduceLT, Nat.reduceLeDiff, Nat.reduceEqDiff, Int.reduceEq, Int.reduceLT, Int.reduceLE, Int.reduceNeg, decide_true, decide_false, Bool.not_true, Bool.not_false, Bool.and_true, Bool.and_false, Bool.true_and, Bool.false_and, Bool.and_self, Bool.or_true, Bool.or_false, decide_eq_true_eq, if_true, if_false, Int.ofNat_zero, Int.cast_ofNat_Int, Bool.false_eq_true, reduceIte, reduceCtorEq, Option.map_some, Option.map_none, Option.bind_some, List.nodup_nil, Nat.zero_add, Option.some.injEq, and_self, and_true, true_and, and_false, false_and, or_self, or_true, true_or, or_false, false_or, not_true_eq_false, not_false_eq_true, e_is_book_1, is_word_ok (hw w hm)]
  have c2 : ∀ env, env = ([some (.d (.tuple (ws.map tx))), none, none] : DL.Env) → pcompL (pgT 2 (pgCn (pgN 1) (pgCn (pgN 2) pgN0))) (fun env => .ok true env) e_is_book_2 [1, 2] ((ws.zip (ws.drop 1)).map fun q => .tuple [PyData.str (ofL q.1), PyData.str (ofL q.2)]) [] env = .ok ([] ++ (ws.zip (ws.drop 1)).map fun q => .bool (decide (q.1 < q.2))) env := by
    rintro env rfl
    refine pcomp_map _ (fun q : List Nat × List Nat => PyData.tuple [PyData.str (ofL q.1), PyData.str (ofL q.2)]) (fun q => .bool (decide (q.1 < q.2))) _ [] (fun q _ => ?_) (by rw [List.length_zip, List.length_nil]; omega)
    unfold tx
    simp -implicitDefEqProofs (disch := (first | assumption | omega | decide)) only [DL.PV0, DL.PV1, DL.PV2, DL.PV3, DL.PV4, DL.PV5, DL.PV6, DL.PV7, DL.PV8, DL.PV9, DL.PV10, DL.PV11, DL.PV12, DL.PV13, DL.PV14, DL.PV15, DL.PV16, DL.PV17, DL.PV18, DL.PV19, DL.PV20, DL.PV21, DL.PV22, DL.PV23, DL.PV24, DL.PV25, DL.PV26, DL.PV27, List.getElem?_cons_zero, List.getElem?_cons_succ, List.getElem?_nil, List.set_cons_zero, List.set_cons_succ, List.length_cons, List.length_nil, List.map_cons, List.map_nil, List.replicate_succ, List.replicate_zero, List.cons_append, List.nil_append, Nat.reduceAdd, Nat.reduceSub, Nat.reduceLT, Nat.reduceLeDiff, Nat.reduceEqDiff, Int.reduceEq, Int.reduceLT, Int.reduceLE, Int.reduceNeg, decide_true, decide_false, Bool.not_true, Bool.not_false, Bool.and_true, Bool.and_false, Bool.true_and, Bool.false_and, Bool.and_self, Bool.or_true, Bool.or_false, decide_eq_true_eq, if_true, if_false, Int.ofNat_zero, Int.cast_ofNat_Int, Bool.false_eq_true, reduceIte, reduceCtorEq, Option.map_some, Option.map_none, Option.bind_some, List.nodup_nil, Nat.zero_add, Option.some.injEq, and_self, and_true, true_and, and_false, false_and, or_self, or_true, true_or, or_false, false_or, not_true_eq_false, not_false_eq_true, e_is_book_2, q_ltA]
  have hdr : cutL (ws.map tx) (some (1 : Int)) none = (ws.drop 1).map tx := by
    rw [cutL_map]; exact congrArg _ (cutL_from ws 1)
  have hzip : zipD (ws.map tx) ((ws.drop 1).map tx) = (ws.zip (ws.drop 1)).map fun q => .tuple [PyData.str (ofL q.1), PyData.str (ofL q.2)] := zipD_map ..
  have a1 : (ws.all fun _ => true) = true := by simp
  simp -implicitDefEqProofs (disch := (first | assumption | omega | decide)) only [DL.PV0, DL.PV1, DL.PV2, DL.PV3, DL.PV4, DL.PV5, DL.PV6, DL.PV7, DL.PV8, DL.PV9, DL.PV10, DL.PV11, DL.PV12, DL.PV13, DL.PV14, DL.PV15, DL.PV16, DL.PV17, DL.PV18, DL.PV19, DL.PV20, DL.PV21, DL.PV22, DL.PV23, DL.PV24, DL.PV25, DL.PV26, DL.PV27, List.getElem?_cons_zero, List.getElem?_cons_succ, List.getElem?_nil, List.set_cons_zero, List.set_cons_succ, List.length_cons, List.length_nil, List.map_cons, List.map_nil, List.replicate_succ, List.replicate_zero, List.cons_append, List.nil_append, Nat.reduceAdd, Nat.reduceSub, Nat.reduceLT, Nat.reduceLeDiff, Nat.reduceEqDiff, Int.reduceEq, Int.reduceLT, Int.reduceLE, Int.reduceNeg, decide_true, decide_false, Bool.not_true, Bool.not_false, Bool.and_true, Bool.and_false, Bool.true_and, Bool.false_and, Bool.and_self, Bool.or_true, Bool.or_false, decide_eq_true_eq, if_true, if_false, Int.ofNat_zero, Int.cast_ofNat_Int, Bool.false_eq_true, reduceIte, reduceCtorEq, Option.map_some, Option.map_none, Option.bind_some, List.nodup_nil, Nat.zero_add, Option.some.injEq, and_self, and_true, true_and, and_false, false_and, or_self, or_true, true_or, or_false, false_or, not_true_eq_false, not_false_eq_true, q_gtAI, hlen, c1 _ rfl, hdr, hzip, c2 _ rfl, a1, adj_true hp]
theorem check_book_ok {ws : List (List Nat)} (h : Bk ws) : Q_check_book [.d (bookD ws)] = .ok (.d .none) [] := by
  unfold Q_check_book k_check_book
  simp -implicitDefEqProofs (disch := (first | assumption | omega | decide)) only [DL.PV0, DL.PV1, DL.PV2, DL.PV3, DL.PV4, DL.PV5, DL.PV6, DL.PV7, DL.PV8, DL.PV9, DL.PV10, DL.PV11, DL.PV12, DL.PV13, DL.PV14, DL.PV15, DL.PV16, DL.PV17, DL.PV18, DL.PV19, DL.PV20, DL.PV21, DL.PV22, DL.PV23, DL.PV24, DL.PV25, DL.PV26, DL.PV27, List.getElem?_cons_zero, List.getElem?_cons_succ, List.getElem?_nil, List.set_cons_zero, List.set_cons_succ, List.length_cons, List.length_nil, List.map_cons, List.map_nil, List.replicate_succ, List.replicate_zero, List.cons_append, List.nil_append, Nat.reduceAdd, Nat.reduceSub, Nat.reduceLT, Nat.reduceLeDiff, Nat.reduceEqDiff, Int.reduceEq, Int.reduceLT, Int.reduceLE, Int.reduceNeg, decide_true, decide_false, Bool.not_true, Bool.not_false, Bool.and_true, Bool.and_false, Bool.true_and, Bool.false_and, Bool.and_self, Bool.or_true, Bool.or_false, decide_eq_true_eq, if_true, if_false, Int.ofNat_zero, Int.cast_ofNat_Int, Bool.false_eq_true, reduceIte, reduceCtorEq, Option.map_some, Option.map_none, Option.bind_some, List.nodup_nil, Nat.zero_add, Option.some.injEq, and_self, and_true, true_and, and_false, false_and, or_self, or_true, true_or, or_false, false_or, not_true_eq_false, not_false_eq_true, is_book_ok h]
/-! which words begin so -/
def withB (ws : List (List Nat)) (t : List Nat) : List (List Nat) := ws.filter fun w => decide (w.take t.length = t)
theorem raw_with_ok {ws : List (List Nat)} (h : ∀ w ∈ ws, Wd w) (hn : ws.length ≤ 60) {t : List Nat} (ht : Ltr t) (htl : t.length ≤ 100) : Q_raw_with [.d (bookD ws), .d (.str (ofL t))] = .ok (.l true ((withB ws t).map tx)) [] := by
  have hnil : ([] : List PD).length + ws.length ≤ 16777216 := by rw [List.length_nil]; omega
  unfold Q_raw_with k_raw_with bookD
  have c1 : ∀ env, env = ([some (.d (.tuple (ws.map tx))), some (.d (.str (ofL t))), none] : DL.Env) → pcompL (pgN 2) (ptOf (p2 gEq (pSl gSl (pV 2) none (some (pCall cLen (pCons (pV 1) pN)))) (pV 1))) e_raw_with_1 [2] (ws.map tx) [] env = .ok ([] ++ (withB ws t).map tx) env := by
    rintro env rfl
    refine pcomp_filt _ tx tx (fun w => decide (w.take t.length = t)) ws [] (fun w hm => ?_) hnil
    have hw := h w hm
    have hwl := hw.2.2
    have p1 := (hw.1.take t.length).pl
    have p2 := ht.pl
    unfold tx
    by_cases e : w.take t.length = t
    · simp -implicitDefEqProofs (disch := (first | assumption | omega | decide)) only [DL.PV0, DL.PV1, DL.PV2, DL.PV3, DL.PV4, DL.PV5, DL.PV6, DL.PV7, DL.PV8, DL.PV9, DL.PV10, DL.PV11, DL.PV12, DL.PV13, DL.PV14, DL.PV15, DL.PV16, DL.PV17, DL.PV18, DL.PV19, DL.PV20, DL.PV21, DL.PV22, DL.PV23, DL.PV24, DL.PV25, DL.PV26, DL.PV27, List.getElem?_cons_zero, List.getElem?_cons_succ, List.getElem?_nil, List.set_cons_zero, List.set_cons_succ, List.length_cons, List.length_nil, List.map_cons, List.map_nil, List.replicate_succ, List.replicate_zero, List.cons_append, List.nil_append, Nat.reduceAdd, Nat.reduceSub, Nat.reduceLT, Nat.reduceLeDiff, Nat.reduceEqDiff, Int.reduceEq, Int.reduceLT, Int.reduceLE, Int.reduceNeg, decide_true, decide_false, Bool.not_true, Bool.not_false, Bool.and_true, Bool.and_false, Bool.true_and, Bool.false_and, Bool.and_self, Bool.or_true, Bool.or_false, decide_eq_true_eq, if_true, if_false, Int.ofNat_zero, Int.cast_ofNat_Int, Bool.false_eq_true, reduceIte, reduceCtorEq, Option.map_some, Option.map_none, Option.bind_some, List.nodup_nil, Nat.zero_add, Option.some.injEq, and_self, and_true, true_and, and_false, false_and, or_self, or_true, true_or, or_false, false_or, not_true_eq_false, not_false_eq_true, e_raw_with_1, cutL_to w t.length, e]
    · simp -implicitDefEqProofs (disch := (first | assumption | omega | decide)) only [DL.PV0, DL.PV1, DL.PV2, DL.PV3, DL.PV4, DL.PV5, DL.PV6, DL.PV7, DL.PV8, DL.PV9, DL.PV10, DL.PV11, DL.PV12, DL.PV13, DL.PV14, DL.PV15, DL.PV16, DL.PV17, DL.PV18, DL.PV19, DL.PV20, DL.PV21, DL.PV22, DL.PV23, DL.PV24, DL.PV25, DL.PV26, DL.PV27, List.getElem?_cons_zero, List.getElem?_cons_succ, List.getElem?_nil, List.set_cons_zero, List.set_cons_succ, List.length_cons, List.length_nil, List.map_cons, List.map_nil, List.replicate_succ, List.replicate_zero, List.cons_append, List.nil_append, Nat.reduceAdd, Nat.reduceSub, Nat.reduceLT, Nat.reduceLeDiff, Nat.reduceEqDiff, Int.reduceEq, Int.reduceLT, Int.reduceLE, Int.reduceNeg, decide_true, decide_false, Bool.not_true, Bool.not_false, Bool.and_true, Bool.and_false, Bool.true_and, Bool.false_and, Bool.and_self, Bool.or_true, Bool.or_false, decide_eq_true_eq, if_true, if_false, Int.ofNat_zero, Int.cast_ofNat_Int, Bool.false_eq_true, reduceIte, reduceCtorEq, Option.map_some, Option.map_none, Option.bind_some, List.nodup_nil, Nat.zero_add, Option.some.injEq, and_self, and_true, true_and, and_false, false_and, or_self, or_true, true_or, or_false, false_or, not_true_eq_false, not_false_eq_true, e_raw_with_1, cutL_to w t.length, e]
  simp -implicitDefEqProofs (disch := (first | assumption | omega | decide)) only [DL.PV0, DL.PV1, DL.PV2, DL.PV3, DL.PV4, DL.PV5, DL.PV6, DL.PV7, DL.PV8, DL.PV9, DL.PV10, DL.PV11, DL.PV12, DL.PV13, DL.PV14, DL.PV15, DL.PV16, DL.PV17, DL.PV18, DL.PV19, DL.PV20, DL.PV21, DL.PV22, DL.PV23, DL.PV24, DL.PV25, DL.PV26, DL.PV27, List.getElem?_cons_zero, List.getElem?_cons_succ, List.getElem?_nil, List.set_cons_zero, List.set_cons_succ, List.length_cons, List.length_nil, List.map_cons, List.map_nil, List.replicate_succ, List.replicate_zero, List.cons_append, List.nil_append, Nat.reduceAdd, Nat.reduceSub, Nat.reduceLT, Nat.reduceLeDiff, Nat.reduceEqDiff, Int.reduceEq, Int.reduceLT, Int.reduceLE, Int.reduceNeg, decide_true, decide_false, Bool.not_true, Bool.not_false, Bool.and_true, Bool.and_false, Bool.true_and, Bool.false_and, Bool.and_self, Bool.or_true, Bool.or_false, decide_eq_true_eq, if_true, if_false, Int.ofNat_zero, Int.cast_ofNat_Int, Bool.false_eq_true, reduceIte, reduceCtorEq, Option.map_some, Option.map_none, Option.bind_some, List.nodup_nil, Nat.zero_add, Option.some.injEq, and_self, and_true, true_and, and_false, false_and, or_self, or_true, true_or, or_false, false_or, not_true_eq_false, not_false_eq_true, c1 _ rfl]
end P08
namespace P08
open PySem PySem.Spec PyProof.Rows L2 DL
theorem with_beginning_ok {ws : List (List Nat)} (h : Bk ws) {t : List Nat} (ht : Ltr t) (hl : t.length ≤ 12) : Q_with_beginning [.d (bookD ws), .d (.str (ofL t))] = .ok (.d (bookD (withB ws t))) [] := by
  have e1 : Q_check_text [.d (.str (ofL t))] = .ok (.d .none) [] := by
    unfold Q_check_text k_check_text
    simp -implicitDefEqProofs (disch := (first | assumption | omega | decide)) only [DL.PV0, DL.PV1, DL.PV2, DL.PV3, DL.PV4, DL.PV5, DL.PV6, DL.PV7, DL.PV8, DL.PV9, DL.PV10, DL.PV11, DL.PV12, DL.PV13, DL.PV14, DL.PV15, DL.PV16, DL.PV17, DL.PV18, DL.PV19, DL.PV20, DL.PV21, DL.PV22, DL.PV23, DL.PV24, DL.PV25, DL.PV26, DL.PV27, List.getElem?_cons_zero, List.getElem?_cons_succ, List.getElem?_nil, List.set_cons_zero, List.set_cons_succ, List.length_cons, List.length_nil, List.map_cons, List.map_nil, List.replicate_succ, List.replicate_zero, List.cons_append, List.nil_append, Nat.reduceAdd, Nat.reduceSub, Nat.reduceLT, Nat.reduceLeDiff, Nat.reduceEqDiff, Int.reduceEq, Int.reduceLT, Int.reduceLE, Int.reduceNeg, decide_true, decide_false, Bool.not_true, Bool.not_false, Bool.and_true, Bool.and_false, Bool.true_and, Bool.false_and, Bool.and_self, Bool.or_true, Bool.or_false, decide_eq_true_eq, if_true, if_false, Int.ofNat_zero, Int.cast_ofNat_Int, Bool.false_eq_true, reduceIte, reduceCtorEq, Option.map_some, Option.map_none, Option.bind_some, List.nodup_nil, Nat.zero_add, Option.some.injEq, and_self, and_true, true_and, and_false, false_and, or_self, or_true, true_or, or_false, false_or, not_true_eq_false, not_false_eq_true, is_letters_ok ht (a := 0) (b := 12) (by omega) (by omega) (by omega)]
  have hc : ∀ ds : List PD, cTup [.list ds] = some (.val (.tuple ds)) := fun _ => rfl
  unfold Q_with_beginning k_with_beginning
  simp -implicitDefEqProofs (disch := (first | assumption | omega | decide)) only [DL.PV0, DL.PV1, DL.PV2, DL.PV3, DL.PV4, DL.PV5, DL.PV6, DL.PV7, DL.PV8, DL.PV9, DL.PV10, DL.PV11, DL.PV12, DL.PV13, DL.PV14, DL.PV15, DL.PV16, DL.PV17, DL.PV18, DL.PV19, DL.PV20, DL.PV21, DL.PV22, DL.PV23, DL.PV24, DL.PV25, DL.PV26, DL.PV27, List.getElem?_cons_zero, List.getElem?_cons_succ, List.getElem?_nil, List.set_cons_zero, List.set_cons_succ, List.length_cons, List.length_nil, List.map_cons, List.map_nil, List.replicate_succ, List.replicate_zero, List.cons_append, List.nil_append, Nat.reduceAdd, Nat.reduceSub, Nat.reduceLT, Nat.reduceLeDiff, Nat.reduceEqDiff, Int.reduceEq, Int.reduceLT, Int.reduceLE, Int.reduceNeg, decide_true, decide_false, Bool.not_true, Bool.not_false, Bool.and_true, Bool.and_false, Bool.true_and, Bool.false_and, Bool.and_self, Bool.or_true, Bool.or_false, decide_eq_true_eq, if_true, if_false, Int.ofNat_zero, Int.cast_ofNat_Int, Bool.false_eq_true, reduceIte, reduceCtorEq, Option.map_some, Option.map_none, Option.bind_some, List.nodup_nil, Nat.zero_add, Option.some.injEq, and_self, and_true, true_and, and_false, false_and, or_self, or_true, true_or, or_false, false_or, not_true_eq_false, not_false_eq_true, check_book_ok h, e1, raw_with_ok h.1 h.2.2 ht (by omega), hc]
  rfl
/-! what is drawn -/
theorem anyS_ok {ds : List PD} (H : HandP ds) (l : List Nat) (h0 : 0 < l.length) (h1 : l.length < 1000) : ∃ c ds', HandP ds' ∧ c ∈ l ∧ ∀ w, Q__law_any [.l w ds, .d (.str (ofL l))] = .ok (.d (.str (ofL [c]))) [ds'] := by
  obtain ⟨k, ds', H', k0, k1, e⟩ := draw_ok H (l.length : Int) (by omega) (by omega)
  have hl : k.toNat < l.length := by omega
  have hx : l[k.toNat]? = some l[k.toNat] := List.getElem?_eq_getElem hl
  have hlb : l.length ≤ 16777216 := by omega
  refine ⟨l[k.toNat], ds', H', List.getElem_mem hl, fun w => ?_⟩
  unfold Q__law_any k__law_any
  simp -implicitDefEqProofs (disch := (first | assumption | omega | decide)) only [DL.PV0, DL.PV1, DL.PV2, DL.PV3, DL.PV4, DL.PV5, DL.PV6, DL.PV7, DL.PV8, DL.PV9, DL.PV10, DL.PV11, DL.PV12, DL.PV13, DL.PV14, DL.PV15, DL.PV16, DL.PV17, DL.PV18, DL.PV19, DL.PV20, DL.PV21, DL.PV22, DL.PV23, DL.PV24, DL.PV25, DL.PV26, DL.PV27, List.getElem?_cons_zero, List.getElem?_cons_succ, List.getElem?_nil, List.set_cons_zero, List.set_cons_succ, List.length_cons, List.length_nil, List.map_cons, List.map_nil, List.replicate_succ, List.replicate_zero, List.cons_append, List.nil_append, Nat.reduceAdd, Nat.reduceSub, Nat.reduceLT, Nat.reduceLeDiff, Nat.reduceEqDiff, Int.reduceEq, Int.reduceLT, Int.reduceLE, Int.reduceNeg, decide_true, decide_false, Bool.not_true, Bool.not_false, Bool.and_true, Bool.and_false, Bool.true_and, Bool.false_and, Bool.and_self, Bool.or_true, Bool.or_false, decide_eq_true_eq, if_true, if_false, Int.ofNat_zero, Int.cast_ofNat_Int, Bool.false_eq_true, reduceIte, reduceCtorEq, Option.map_some, Option.map_none, Option.bind_some, List.nodup_nil, Nat.zero_add, Option.some.injEq, and_self, and_true, true_and, and_false, false_and, or_self, or_true, true_or, or_false, false_or, not_true_eq_false, not_false_eq_true, e, q_ixSn k0 hx hlb]
theorem al2_signs {α : Type} {sg : List Nat} : ∀ {l : List α} {xs : List PD}, Al2 (fun _ x => ∃ c ∈ sg, x = .str (ofL [c])) l xs → ∃ cs : List Nat, xs = cs.map (fun c => .str (ofL [c])) ∧ cs.length = l.length ∧ ∀ c ∈ cs, c ∈ sg
  | _, _, .nil => ⟨[], rfl, rfl, fun c hc => by cases hc⟩
  | _, _, .cons ⟨c, hc, e⟩ t => by
    obtain ⟨cs, e2, e3, e4⟩ := al2_signs t
    refine ⟨c :: cs, by rw [e, e2]; rfl, by rw [List.length_cons, List.length_cons, e3], fun d hd => ?_⟩
    rcases List.mem_cons.mp hd with rfl | hd
    · exact hc
    · exact e4 d hd
theorem law_word_ok {ds : List PD} (H : HandP ds) {sg : List Nat} (h0 : 0 < sg.length) (h1 : sg.length < 1000) {s l : Int} (hs : 1 ≤ s) (hl : s ≤ l) (hm : l ≤ 12) : ∃ (w : List Nat) (ds' : List PD), HandP ds' ∧ (∀ c ∈ w, c ∈ sg) ∧ s ≤ w.length ∧ (w.length : Int) ≤ l ∧ ∀ o, Q__law_word [.l o ds, .d (.str (ofL sg)), .d (.int s), .d (.int l)] = .ok (.d (tx w)) [ds'] := by
  obtain ⟨k, d1, H1, k0, k1, e1⟩ := draw_ok H (l + 1 - s) (by omega) (by omega)
  obtain ⟨xs, env1, g1, ⟨d2, H2, rfl⟩, g3⟩ := pcomp_inv (tg := pgN 5) (tt := fun env => .ok true env) (te := e__law_word_1) (vs := [5]) (fun (i : Nat) => PyData.int (0 + i)) (fun env => ∃ ds', HandP ds' ∧ env = [some (.l false ds'), some (.d (.str (ofL sg))), some (.d (.int s)), some (.d (.int l)), some (.d (.int (s + k))), none]) (fun _ x => ∃ c ∈ sg, x = .str (ofL [c]))
    (fun a env => by
      rintro ⟨d', H', rfl⟩
      obtain ⟨c, d2, H2, hc, e2⟩ := anyS_ok H' sg h0 h1
      refine ⟨.str (ofL [c]), [some (.l false d2), some (.d (.str (ofL sg))), some (.d (.int s)), some (.d (.int l)), some (.d (.int (s + k))), none], ?_, ⟨d2, H2, rfl⟩, c, hc, rfl⟩
      unfold e__law_word_1
      simp -implicitDefEqProofs (disch := (first | assumption | omega | decide)) only [DL.PV0, DL.PV1, DL.PV2, DL.PV3, DL.PV4, DL.PV5, DL.PV6, DL.PV7, DL.PV8, DL.PV9, DL.PV10, DL.PV11, DL.PV12, DL.PV13, DL.PV14, DL.PV15, DL.PV16, DL.PV17, DL.PV18, DL.PV19, DL.PV20, DL.PV21, DL.PV22, DL.PV23, DL.PV24, DL.PV25, DL.PV26, DL.PV27, List.getElem?_cons_zero, List.getElem?_cons_succ, List.getElem?_nil, List.set_cons_zero, List.set_cons_succ, List.length_cons, List.length_nil, List.map_cons, List.map_nil, List.replicate_succ, List.replicate_zero, List.cons_append, List.nil_append, Nat.reduceAdd, Nat.reduceSub, Nat.reduceLT, Nat.reduceLeDiff, Nat.reduceEqDiff, Int.reduceEq, Int.reduceLT, Int.reduceLE, Int.reduceNeg, decide_true, decide_false, Bool.not_true, Bool.not_false, Bool.and_true, Bool.and_false, Bool.true_and, Bool.false_and, Bool.and_self, Bool.or_true, Bool.or_false, decide_eq_true_eq, if_true, if_false, Int.ofNat_zero, Int.cast_ofNat_Int, Bool.false_eq_true, reduceIte, reduceCtorEq, Option.map_some, Option.map_none, Option.bind_some, List.nodup_nil, Nat.zero_add, Option.some.injEq, and_self, and_true, true_and, and_false, false_and, or_self, or_true, true_or, or_false, false_or, not_true_eq_false, not_false_eq_true, e2]) (List.range (s + k).toNat) [] _ ⟨d1, H1, rfl⟩ (by rw [List.length_range, List.length_nil]; omega)
  obtain ⟨cs, rfl, hn, hc⟩ := al2_signs g3
  rw [List.length_range] at hn
  have g1 : pcompL (pgN 5) (fun env => .ok true env) e__law_word_1 [5] (rangeL 0 (s + k).toNat) [] _ = _ := g1
  refine ⟨cs, d2, H2, hc, by omega, by omega, fun o => ?_⟩
  unfold Q__law_word k__law_word tx
  simp -implicitDefEqProofs (disch := (first | assumption | omega | decide)) only [DL.PV0, DL.PV1, DL.PV2, DL.PV3, DL.PV4, DL.PV5, DL.PV6, DL.PV7, DL.PV8, DL.PV9, DL.PV10, DL.PV11, DL.PV12, DL.PV13, DL.PV14, DL.PV15, DL.PV16, DL.PV17, DL.PV18, DL.PV19, DL.PV20, DL.PV21, DL.PV22, DL.PV23, DL.PV24, DL.PV25, DL.PV26, DL.PV27, List.getElem?_cons_zero, List.getElem?_cons_succ, List.getElem?_nil, List.set_cons_zero, List.set_cons_succ, List.length_cons, List.length_nil, List.map_cons, List.map_nil, List.replicate_succ, List.replicate_zero, List.cons_append, List.nil_append, Nat.reduceAdd, Nat.reduceSub, Nat.reduceLT, Nat.reduceLeDiff, Nat.reduceEqDiff, Int.reduceEq, Int.reduceLT, Int.reduceLE, Int.reduceNeg, decide_true, decide_false, Bool.not_true, Bool.not_false, Bool.and_true, Bool.and_false, Bool.true_and, Bool.false_and, Bool.and_self, Bool.or_true, Bool.or_false, decide_eq_true_eq, if_true, if_false, Int.ofNat_zero, Int.cast_ofNat_Int, Bool.false_eq_true, reduceIte, reduceCtorEq, Option.map_some, Option.map_none, Option.bind_some, List.nodup_nil, Nat.zero_add, Option.some.injEq, and_self, and_true, true_and, and_false, false_and, or_self, or_true, true_or, or_false, false_or, not_true_eq_false, not_false_eq_true, e1, g1, q_join0 cs (fun c => [c]) (by rw [flat_one]; omega), flat_one]
end P08
namespace P08
open PySem PySem.Spec PyProof.Rows L2 DL
theorem al2_words {α : Type} {sg : List Nat} {l : Int} : ∀ {as : List α} {xs : List PD}, Al2 (fun _ x => ∃ w : List Nat, x = tx w ∧ (∀ c ∈ w, c ∈ sg) ∧ 1 ≤ w.length ∧ (w.length : Int) ≤ l) as xs → ∃ ws : List (List Nat), xs = ws.map tx ∧ ws.length = as.length ∧ ∀ w ∈ ws, (∀ c ∈ w, c ∈ sg) ∧ 1 ≤ w.length ∧ (w.length : Int) ≤ l
  | _, _, .nil => ⟨[], rfl, rfl, fun w hw => by cases hw⟩
  | _, _, .cons ⟨w, e, h⟩ t => by
    obtain ⟨ws, e2, e3, e4⟩ := al2_words t
    refine ⟨w :: ws, by rw [e, e2]; rfl, by rw [List.length_cons, List.length_cons, e3], fun v hv => ?_⟩
    rcases List.mem_cons.mp hv with rfl | hv
    · exact h
    · exact e4 v hv
theorem law_book_ok {ds : List PD} (H : HandP ds) {sg : List Nat} (hsg : Ltr sg) (h0 : 0 < sg.length) (h1 : sg.length < 1000) {most l : Int} (hm0 : 0 ≤ most) (hm : most ≤ 60) (hl1 : 1 ≤ l) (hl : l ≤ 12) : ∃ (bs : List (List Nat)) (ds' : List PD), HandP ds' ∧ Bk bs ∧ (bs.length : Int) ≤ most ∧ (∀ w ∈ bs, (w.length : Int) ≤ l) ∧ ∀ o, Q__law_book [.l o ds, .d (.str (ofL sg)), .d (.int most), .d (.int l)] = .ok (.d (bookD bs)) [ds'] := by
  obtain ⟨k, d1, H1, k0, k1, e1⟩ := draw_ok H (most + 1) (by omega) (by omega)
  obtain ⟨xs, env1, g1, ⟨d2, H2, rfl⟩, g3⟩ := pcomp_inv (tg := pgN 5) (tt := fun env => .ok true env) (te := e__law_book_1) (vs := [5]) (fun (i : Nat) => PyData.int (0 + i)) (fun env => ∃ ds', HandP ds' ∧ env = [some (.l false ds'), some (.d (.str (ofL sg))), some (.d (.int most)), some (.d (.int l)), none, none]) (fun _ x => ∃ w : List Nat, x = tx w ∧ (∀ c ∈ w, c ∈ sg) ∧ 1 ≤ w.length ∧ (w.length : Int) ≤ l)
    (fun a env => by
      rintro ⟨d', H', rfl⟩
      obtain ⟨w, d2, H2, hc, w1, w2, e2⟩ := law_word_ok H' h0 h1 (s := 1) (l := l) (by decide) hl1 hl
      refine ⟨tx w, [some (.l false d2), some (.d (.str (ofL sg))), some (.d (.int most)), some (.d (.int l)), none, none], ?_, ⟨d2, H2, rfl⟩, w, rfl, hc, by omega, w2⟩
      unfold e__law_book_1
      simp -implicitDefEqProofs (disch := (first | assumption | omega | decide)) only [DL.PV0, DL.PV1, DL.PV2, DL.PV3, DL.PV4, DL.PV5, DL.PV6, DL.PV7, DL.PV8, DL.PV9, DL.PV10, DL.PV11, DL.PV12, DL.PV13, DL.PV14, DL.PV15, DL.PV16, DL.PV17, DL.PV18, DL.PV19, DL.PV20, DL.PV21, DL.PV22, DL.PV23, DL.PV24, DL.PV25, DL.PV26, DL.PV27, List.getElem?_cons_zero, List.getElem?_cons_succ, List.getElem?_nil, List.set_cons_zero, List.set_cons_succ, List.length_cons, List.length_nil, List.map_cons, List.map_nil, List.replicate_succ, List.replicate_zero, List.cons_append, List.nil_append, Nat.reduceAdd, Nat.reduceSub, Nat.reduceLT, Nat.reduceLeDiff, Nat.reduceEqDiff, Int.reduceEq, Int.reduceLT, Int.reduceLE, Int.reduceNeg, decide_true, decide_false, Bool.not_true, Bool.not_false, Bool.and_true, Bool.and_false, Bool.true_and, Bool.false_and, Bool.and_self, Bool.or_true, Bool.or_false, decide_eq_true_eq, if_true, if_false, Int.ofNat_zero, Int.cast_ofNat_Int, Bool.false_eq_true, reduceIte, reduceCtorEq, Option.map_some, Option.map_none, Option.bind_some, List.nodup_nil, Nat.zero_add, Option.some.injEq, and_self, and_true, true_and, and_false, false_and, or_self, or_true, true_or, or_false, false_or, not_true_eq_false, not_false_eq_true, e2]) (List.range k.toNat) [] _ ⟨d1, H1, rfl⟩ (by rw [List.length_range, List.length_nil]; omega)
  obtain ⟨ws, rfl, hn, hw⟩ := al2_words g3
  rw [List.length_range] at hn
  have g1 : pcompL (pgN 5) (fun env => .ok true env) e__law_book_1 [5] (rangeL 0 k.toNat) [] _ = _ := g1
  have hwd : ∀ w ∈ ws, Wd w := fun w hm => ⟨fun c hc => hsg c ((hw w hm).1 c hc), (hw w hm).2.1, by have := (hw w hm).2.2; omega⟩
  have es := q_ssetL (ws := ws) (by omega)
  have hc : ∀ ds : List PD, cTup [.list ds] = some (.val (.tuple ds)) := fun _ => rfl
  refine ⟨ss ws, d2, H2, ss_book hwd (by omega), (by have := ss_len ws; omega), fun w hm => (hw w (mem_ss.mp hm)).2.2, fun o => ?_⟩
  unfold Q__law_book k__law_book
  simp -implicitDefEqProofs (disch := (first | assumption | omega | decide)) only [DL.PV0, DL.PV1, DL.PV2, DL.PV3, DL.PV4, DL.PV5, DL.PV6, DL.PV7, DL.PV8, DL.PV9, DL.PV10, DL.PV11, DL.PV12, DL.PV13, DL.PV14, DL.PV15, DL.PV16, DL.PV17, DL.PV18, DL.PV19, DL.PV20, DL.PV21, DL.PV22, DL.PV23, DL.PV24, DL.PV25, DL.PV26, DL.PV27, List.getElem?_cons_zero, List.getElem?_cons_succ, List.getElem?_nil, List.set_cons_zero, List.set_cons_succ, List.length_cons, List.length_nil, List.map_cons, List.map_nil, List.replicate_succ, List.replicate_zero, List.cons_append, List.nil_append, Nat.reduceAdd, Nat.reduceSub, Nat.reduceLT, Nat.reduceLeDiff, Nat.reduceEqDiff, Int.reduceEq, Int.reduceLT, Int.reduceLE, Int.reduceNeg, decide_true, decide_false, Bool.not_true, Bool.not_false, Bool.and_true, Bool.and_false, Bool.true_and, Bool.false_and, Bool.and_self, Bool.or_true, Bool.or_false, decide_eq_true_eq, if_true, if_false, Int.ofNat_zero, Int.cast_ofNat_Int, Bool.false_eq_true, reduceIte, reduceCtorEq, Option.map_some, Option.map_none, Option.bind_some, List.nodup_nil, Nat.zero_add, Option.some.injEq, and_self, and_true, true_and, and_false, false_and, or_self, or_true, true_or, or_false, false_or, not_true_eq_false, not_false_eq_true, e1, g1, es, hc]
  rfl
end P08
namespace P08
open PySem PySem.Spec PyProof.Rows L2 DL
/-! all beginnings -/
def bg (w : List Nat) : List (List Nat) := (List.range (w.length + 1)).map fun i => w.take i
def begs (ws : List (List Nat)) : List (List Nat) := ws.flatMap bg
theorem bg_len (w : List Nat) : (bg w).length = w.length + 1 := by unfold bg; rw [List.length_map, List.length_range]
theorem begs_len {ws : List (List Nat)} (h : ∀ w ∈ ws, Wd w) (hn : ws.length ≤ 61) : (begs ws).length < 4000 := by
  have := flat_len bg 13 ws fun w hw => by rw [bg_len]; have := (h w hw).2.2; omega
  unfold begs; omega
theorem bg_ltr {w t : List Nat} (hw : Wd w) (h : t ∈ bg w) : Ltr t ∧ t.length ≤ 12 := by
  obtain ⟨i, _, rfl⟩ := List.mem_map.mp h
  have := hw.2.2
  exact ⟨hw.1.take i, by rw [List.length_take]; omega⟩
theorem begs_ltr {ws : List (List Nat)} (h : ∀ w ∈ ws, Wd w) {t : List Nat} (ht : t ∈ begs ws) : Ltr t ∧ t.length ≤ 12 := by
  obtain ⟨w, hw, h2⟩ := List.mem_flatMap.mp ht
  exact bg_ltr (h w hw) h2
theorem bg_map (w : List Nat) : (bg w).map tx = (List.range (w.length + 1)).map fun i => tx (w.take i) := by unfold bg; rw [List.map_map]; rfl
theorem all_beginnings_ok {ws : List (List Nat)} (h : ∀ w ∈ ws, Wd w) (hn : ws.length ≤ 61) : Q_all_beginnings [.d (bookD ws)] = .ok (.l true ((ss (begs ws)).map tx)) [] := by
  have hl := begs_len h hn
  have c1 : ∀ env, env = ([some (.d (bookD ws)), none, none] : DL.Env) → pcompL2 (pgN 1) (fun env => .ok true env) i_all_beginnings_1 (pgN 2) (fun env => .ok true env) e_all_beginnings_2 [1, 2] [2] (ws.map tx) [] env = .ok ([] ++ ws.flatMap fun w => (bg w).map tx) env := by
    rintro env rfl
    refine pcomp2_flat _ tx (fun w => (bg w).map tx) ws [] (fun w hw acc ha => ?_) ?_
    · have hwl := (h w hw).2.2
      have hr : rangeL 0 ((w.length : Int) + 1).toNat = _ := rangeN_eq (n := w.length + 1) (by omega)
      rw [List.length_map, bg_len] at ha
      have c2 : ∀ env, env = ([some (.d (bookD ws)), some (.d (.str (ofL w))), none] : DL.Env) → pcompL (pgN 2) (fun env => .ok true env) e_all_beginnings_2 [2] ((List.range (w.length + 1)).map fun (i : Nat) => .int (0 + i)) acc env = .ok (acc ++ (bg w).map tx) env := by
        rintro env rfl
        rw [bg_map]
        refine pcomp_map _ (fun (i : Nat) => PyData.int (0 + i)) (fun i => tx (w.take i)) (List.range (w.length + 1)) acc (fun i hi => ?_) (by rw [List.length_range]; omega)
        have e0 : (0 : Int) + (i : Int) = (i : Int) := by omega
        simp -implicitDefEqProofs (disch := (first | assumption | omega | decide)) only [DL.PV0, DL.PV1, DL.PV2, DL.PV3, DL.PV4, DL.PV5, DL.PV6, DL.PV7, DL.PV8, DL.PV9, DL.PV10, DL.PV11, DL.PV12, DL.PV13, DL.PV14, DL.PV15, DL.PV16, DL.PV17, DL.PV18, DL.PV19, DL.PV20, DL.PV21, DL.PV22, DL.PV23, DL.PV24, DL.PV25, DL.PV26, DL.PV27, List.getElem?_cons_zero, List.getElem?_cons_succ, List.getElem?_nil, List.set_cons_zero, List.set_cons_succ, List.length_cons, List.length_nil, List.map_cons, List.map_nil, List.replicate_succ, List.replicate_zero, List.cons_append, List.nil_append, Nat.reduceAdd, Nat.reduceSub, Nat.reduceLT, Nat.reduceLeDiff, Nat.reduceEqDiff, Int.reduceEq, Int.reduceLT, Int.reduceLE, Int.reduceNeg, decide_true, decide_false, Bool.not_true, Bool.not_false, Bool.and_true, Bool.and_false, Bool.true_and, Bool.false_and, Bool.and_self, Bool.or_true, Bool.or_false, decide_eq_true_eq, if_true, if_false, Int.ofNat_zero, Int.cast_ofNat_Int, Bool.false_eq_true, reduceIte, reduceCtorEq, Option.map_some, Option.map_none, Option.bind_some, List.nodup_nil, Nat.zero_add, Option.some.injEq, and_self, and_true, true_and, and_false, false_and, or_self, or_true, true_or, or_false, false_or, not_true_eq_false, not_false_eq_true, e_all_beginnings_2, e0, cutL_to w i]
      unfold tx i_all_beginnings_1
      simp -implicitDefEqProofs (disch := (first | assumption | omega | decide)) only [DL.PV0, DL.PV1, DL.PV2, DL.PV3, DL.PV4, DL.PV5, DL.PV6, DL.PV7, DL.PV8, DL.PV9, DL.PV10, DL.PV11, DL.PV12, DL.PV13, DL.PV14, DL.PV15, DL.PV16, DL.PV17, DL.PV18, DL.PV19, DL.PV20, DL.PV21, DL.PV22, DL.PV23, DL.PV24, DL.PV25, DL.PV26, DL.PV27, List.getElem?_cons_zero, List.getElem?_cons_succ, List.getElem?_nil, List.set_cons_zero, List.set_cons_succ, List.length_cons, List.length_nil, List.map_cons, List.map_nil, List.replicate_succ, List.replicate_zero, List.cons_append, List.nil_append, Nat.reduceAdd, Nat.reduceSub, Nat.reduceLT, Nat.reduceLeDiff, Nat.reduceEqDiff, Int.reduceEq, Int.reduceLT, Int.reduceLE, Int.reduceNeg, decide_true, decide_false, Bool.not_true, Bool.not_false, Bool.and_true, Bool.and_false, Bool.true_and, Bool.false_and, Bool.and_self, Bool.or_true, Bool.or_false, decide_eq_true_eq, if_true, if_false, Int.ofNat_zero, Int.cast_ofNat_Int, Bool.false_eq_true, reduceIte, reduceCtorEq, Option.map_some, Option.map_none, Option.bind_some, List.nodup_nil, Nat.zero_add, Option.some.injEq, and_self, and_true, true_and, and_false, false_and, or_self, or_true, true_or, or_false, false_or, not_true_eq_false, not_false_eq_true, v_p2S, v_p2a, v_p2b, v_p2c, v_p2d, hr, c2 _ rfl]
      rfl
    · have := flat_len (fun w => (bg w).map tx) 13 ws fun w hw => by rw [List.length_map, bg_len]; have := (h w hw).2.2; omega
      rw [List.length_nil]; omega
  have em : (ws.flatMap fun w => (bg w).map tx) = (begs ws).map tx := by unfold begs; rw [List.map_flatMap]
  rw [em] at c1
  unfold Q_all_beginnings k_all_beginnings
  simp -implicitDefEqProofs (disch := (first | assumption | omega | decide)) only [DL.PV0, DL.PV1, DL.PV2, DL.PV3, DL.PV4, DL.PV5, DL.PV6, DL.PV7, DL.PV8, DL.PV9, DL.PV10, DL.PV11, DL.PV12, DL.PV13, DL.PV14, DL.PV15, DL.PV16, DL.PV17, DL.PV18, DL.PV19, DL.PV20, DL.PV21, DL.PV22, DL.PV23, DL.PV24, DL.PV25, DL.PV26, DL.PV27, List.getElem?_cons_zero, List.getElem?_cons_succ, List.getElem?_nil, List.set_cons_zero, List.set_cons_succ, List.length_cons, List.length_nil, List.map_cons, List.map_nil, List.replicate_succ, List.replicate_zero, List.cons_append, List.nil_append, Nat.reduceAdd, Nat.reduceSub, Nat.reduceLT, Nat.reduceLeDiff, Nat.reduceEqDiff, Int.reduceEq, Int.reduceLT, Int.reduceLE, Int.reduceNeg, decide_true, decide_false, Bool.not_true, Bool.not_false, Bool.and_true, Bool.and_false, Bool.true_and, Bool.false_and, Bool.and_self, Bool.or_true, Bool.or_false, decide_eq_true_eq, if_true, if_false, Int.ofNat_zero, Int.cast_ofNat_Int, Bool.false_eq_true, reduceIte, reduceCtorEq, Option.map_some, Option.map_none, Option.bind_some, List.nodup_nil, Nat.zero_add, Option.some.injEq, and_self, and_true, true_and, and_false, false_and, or_self, or_true, true_or, or_false, false_or, not_true_eq_false, not_false_eq_true, q_itB, c1 _ rfl, q_ssetL hl]
theorem beginnings_many_ok {ws : List (List Nat)} (h : Bk ws) : Q_beginnings_many [.d (bookD ws)] = .ok (.d (.int (((ss (begs ws)).length : Nat) : Int))) [] := by
  unfold Q_beginnings_many k_beginnings_many
  simp -implicitDefEqProofs (disch := (first | assumption | omega | decide)) only [DL.PV0, DL.PV1, DL.PV2, DL.PV3, DL.PV4, DL.PV5, DL.PV6, DL.PV7, DL.PV8, DL.PV9, DL.PV10, DL.PV11, DL.PV12, DL.PV13, DL.PV14, DL.PV15, DL.PV16, DL.PV17, DL.PV18, DL.PV19, DL.PV20, DL.PV21, DL.PV22, DL.PV23, DL.PV24, DL.PV25, DL.PV26, DL.PV27, List.getElem?_cons_zero, List.getElem?_cons_succ, List.getElem?_nil, List.set_cons_zero, List.set_cons_succ, List.length_cons, List.length_nil, List.map_cons, List.map_nil, List.replicate_succ, List.replicate_zero, List.cons_append, List.nil_append, Nat.reduceAdd, Nat.reduceSub, Nat.reduceLT, Nat.reduceLeDiff, Nat.reduceEqDiff, Int.reduceEq, Int.reduceLT, Int.reduceLE, Int.reduceNeg, decide_true, decide_false, Bool.not_true, Bool.not_false, Bool.and_true, Bool.and_false, Bool.true_and, Bool.false_and, Bool.and_self, Bool.or_true, Bool.or_false, decide_eq_true_eq, if_true, if_false, Int.ofNat_zero, Int.cast_ofNat_Int, Bool.false_eq_true, reduceIte, reduceCtorEq, Option.map_some, Option.map_none, Option.bind_some, List.nodup_nil, Nat.zero_add, Option.some.injEq, and_self, and_true, true_and, and_false, false_and, or_self, or_true, true_or, or_false, false_or, not_true_eq_false, not_false_eq_true, check_book_ok h, all_beginnings_ok h.1 (by have := h.2.2; omega), List.length_map]
theorem law_begun_ok {ws : List (List Nat)} (h : Bk ws) : Q__law_begun [.d (bookD ws)] = .ok (.l true ((ss (begs ws)).map tx)) [] := by
  have hl := begs_len h.1 (by have := h.2.2; omega)
  have key : ∀ (r : List (List Nat)) (acc : List (List Nat)) (x : Option Cell), (∀ w ∈ r, Wd w) → acc.length + r.length * 13 ≤ 4000 → ∃ x', pforL (pgN 2) b__law_begun_2 (r.map tx) [some (.d (bookD ws)), some (.l true (acc.map tx)), x, none] = .nx [some (.d (bookD ws)), some (.l true ((acc ++ begs r).map tx)), x', none] := by
    intro r
    induction r with
    | nil => intro acc x _ _; exact ⟨x, by unfold begs; rw [List.flatMap_nil, List.append_nil]; rfl⟩
    | cons w r ih =>
      intro acc x hw hn
      have hwd := hw w (List.mem_cons_self ..)
      have hwl := hwd.2.2
      have hr : rangeL 0 ((w.length : Int) + 1).toNat = _ := rangeN_eq (n := w.length + 1) (by omega)
      rw [List.length_cons] at hn
      have c2 : ∀ env, env = ([some (.d (bookD ws)), some (.l true (acc.map tx)), some (.d (.str (ofL w))), none] : DL.Env) → pcompL (pgN 3) (fun env => .ok true env) e__law_begun_1 [3] ((List.range (w.length + 1)).map fun (i : Nat) => .int (0 + i)) [] env = .ok ([] ++ (bg w).map tx) env := by
        rintro env rfl
        rw [bg_map]
        refine pcomp_map _ (fun (i : Nat) => PyData.int (0 + i)) (fun i => tx (w.take i)) (List.range (w.length + 1)) [] (fun i hi => ?_) (by rw [List.length_range, List.length_nil]; omega)
        have e0 : (0 : Int) + (i : Int) = (i : Int) := by omega
        simp -implicitDefEqProofs (disch := (first | assumption | omega | decide)) only [DL.PV0, DL.PV1, DL.PV2, DL.PV3, DL.PV4, DL.PV5, DL.PV6, DL.PV7, DL.PV8, DL.PV9, DL.PV10, DL.PV11, DL.PV12, DL.PV13, DL.PV14, DL.PV15, DL.PV16, DL.PV17, DL.PV18, DL.PV19, DL.PV20, DL.PV21, DL.PV22, DL.PV23, DL.PV24, DL.PV25, DL.PV26, DL.PV27, List.getElem?_cons_zero, List.getElem?_cons_succ, List.getElem?_nil, List.set_cons_zero, List.set_cons_succ, List.length_cons, List.length_nil, List.map_cons, List.map_nil, List.replicate_succ, List.replicate_zero, List.cons_append, List.nil_append, Nat.reduceAdd, Nat.reduceSub, Nat.reduceLT, Nat.reduceLeDiff, Nat.reduceEqDiff, Int.reduceEq, Int.reduceLT, Int.reduceLE, Int.reduceNeg, decide_true, decide_false, Bool.not_true, Bool.not_false, Bool.and_true, Bool.and_false, Bool.true_and, Bool.false_and, Bool.and_self, Bool.or_true, Bool.or_false, decide_eq_true_eq, if_true, if_false, Int.ofNat_zero, Int.cast_ofNat_Int, Bool.false_eq_true, reduceIte, reduceCtorEq, Option.map_some, Option.map_none, Option.bind_some, List.nodup_nil, Nat.zero_add, Option.some.injEq, and_self, and_true, true_and, and_false, false_and, or_self, or_true, true_or, or_false, false_or, not_true_eq_false, not_false_eq_true, e__law_begun_1, e0, cutL_to w i]
      have hx := q_ext (ds := acc.map tx) (es := (bg w).map tx) (by rw [List.length_map, List.length_map, bg_len]; omega)
      have e : pf1 (pgN 2) b__law_begun_2 (tx w) [some (.d (bookD ws)), some (.l true (acc.map tx)), x, none] = .nx [some (.d (bookD ws)), some (.l true ((acc ++ bg w).map tx)), some (.d (.str (ofL w))), none] := by
        unfold b__law_begun_2
        rw [List.map_append]
        unfold tx at c2 hx ⊢
        simp -implicitDefEqProofs (disch := (first | assumption | omega | decide)) only [DL.PV0, DL.PV1, DL.PV2, DL.PV3, DL.PV4, DL.PV5, DL.PV6, DL.PV7, DL.PV8, DL.PV9, DL.PV10, DL.PV11, DL.PV12, DL.PV13, DL.PV14, DL.PV15, DL.PV16, DL.PV17, DL.PV18, DL.PV19, DL.PV20, DL.PV21, DL.PV22, DL.PV23, DL.PV24, DL.PV25, DL.PV26, DL.PV27, List.getElem?_cons_zero, List.getElem?_cons_succ, List.getElem?_nil, List.set_cons_zero, List.set_cons_succ, List.length_cons, List.length_nil, List.map_cons, List.map_nil, List.replicate_succ, List.replicate_zero, List.cons_append, List.nil_append, Nat.reduceAdd, Nat.reduceSub, Nat.reduceLT, Nat.reduceLeDiff, Nat.reduceEqDiff, Int.reduceEq, Int.reduceLT, Int.reduceLE, Int.reduceNeg, decide_true, decide_false, Bool.not_true, Bool.not_false, Bool.and_true, Bool.and_false, Bool.true_and, Bool.false_and, Bool.and_self, Bool.or_true, Bool.or_false, decide_eq_true_eq, if_true, if_false, Int.ofNat_zero, Int.cast_ofNat_Int, Bool.false_eq_true, reduceIte, reduceCtorEq, Option.map_some, Option.map_none, Option.bind_some, List.nodup_nil, Nat.zero_add, Option.some.injEq, and_self, and_true, true_and, and_false, false_and, or_self, or_true, true_or, or_false, false_or, not_true_eq_false, not_false_eq_true, hr, c2 _ rfl, hx]
      obtain ⟨x', h2⟩ := ih (acc ++ bg w) (some (.d (.str (ofL w)))) (fun v hv => hw v (List.mem_cons_of_mem _ hv)) (by rw [List.length_append, bg_len]; omega)
      refine ⟨x', ?_⟩
      rw [List.map_cons, pfor_cons, e]
      show pforL _ _ _ _ = _
      rw [h2, List.append_assoc]; rfl
  obtain ⟨x', e⟩ := key ws [] none h.1 (by rw [List.length_nil]; have := h.2.2; omega)
  rw [List.nil_append] at e
  have e : pforL (pgN 2) b__law_begun_2 (ws.map tx) [some (.d (bookD ws)), some (.l true []), none, none] = _ := e
  unfold Q__law_begun k__law_begun
  simp -implicitDefEqProofs (disch := (first | assumption | omega | decide)) only [DL.PV0, DL.PV1, DL.PV2, DL.PV3, DL.PV4, DL.PV5, DL.PV6, DL.PV7, DL.PV8, DL.PV9, DL.PV10, DL.PV11, DL.PV12, DL.PV13, DL.PV14, DL.PV15, DL.PV16, DL.PV17, DL.PV18, DL.PV19, DL.PV20, DL.PV21, DL.PV22, DL.PV23, DL.PV24, DL.PV25, DL.PV26, DL.PV27, List.getElem?_cons_zero, List.getElem?_cons_succ, List.getElem?_nil, List.set_cons_zero, List.set_cons_succ, List.length_cons, List.length_nil, List.map_cons, List.map_nil, List.replicate_succ, List.replicate_zero, List.cons_append, List.nil_append, Nat.reduceAdd, Nat.reduceSub, Nat.reduceLT, Nat.reduceLeDiff, Nat.reduceEqDiff, Int.reduceEq, Int.reduceLT, Int.reduceLE, Int.reduceNeg, decide_true, decide_false, Bool.not_true, Bool.not_false, Bool.and_true, Bool.and_false, Bool.true_and, Bool.false_and, Bool.and_self, Bool.or_true, Bool.or_false, decide_eq_true_eq, if_true, if_false, Int.ofNat_zero, Int.cast_ofNat_Int, Bool.false_eq_true, reduceIte, reduceCtorEq, Option.map_some, Option.map_none, Option.bind_some, List.nodup_nil, Nat.zero_add, Option.some.injEq, and_self, and_true, true_and, and_false, false_and, or_self, or_true, true_or, or_false, false_or, not_true_eq_false, not_false_eq_true, q_itB, e, q_ssetL hl]
end P08
namespace P08
open PySem PySem.Spec PyProof.Rows L2 DL
/-! what comes next -/
def nxw (ws : List (List Nat)) (t : List Nat) : List (List Nat) := ((withB ws t).filter fun w => decide (t.length < w.length)).map fun w => [w.getD t.length 0]
def nx (ws : List (List Nat)) (t : List Nat) : List (List Nat) := ss (nxw ws t)
theorem withB_sub (ws : List (List Nat)) (t : List Nat) : (withB ws t).Sublist ws := List.filter_sublist
theorem nxw_len (ws : List (List Nat)) (t : List Nat) : (nxw ws t).length ≤ ws.length := by
  unfold nxw
  rw [List.length_map]
  exact Nat.le_trans (List.length_filter_le ..) (withB_sub ws t).length_le
theorem nx_one {ws : List (List Nat)} {t w : List Nat} (h : w ∈ nx ws t) : ∃ c, w = [c] := by
  obtain ⟨v, _, e⟩ := List.mem_map.mp (mem_ss.mp h)
  exact ⟨_, e.symm⟩
theorem ones_flat : ∀ {l : List (List Nat)}, (∀ w ∈ l, ∃ c, w = [c]) → l.flatten.length = l.length ∧ l = l.flatten.map fun c => [c]
  | [], _ => ⟨rfl, rfl⟩
  | w :: r, h => by
    obtain ⟨c, rfl⟩ := h w (List.mem_cons_self ..)
    obtain ⟨h1, h2⟩ := ones_flat (l := r) fun v hv => h v (List.mem_cons_of_mem _ hv)
    refine ⟨by rw [List.flatten_cons, List.length_append, h1, List.length_cons, List.length_cons, List.length_nil]; omega, ?_⟩
    rw [List.flatten_cons, List.map_append, ← h2]; rfl
def nl (ws : List (List Nat)) (t : List Nat) : List Nat := (nx ws t).flatten
theorem nl_len (ws : List (List Nat)) (t : List Nat) : (nl ws t).length = (nx ws t).length := (ones_flat fun _ h => nx_one h).1
theorem nx_nl (ws : List (List Nat)) (t : List Nat) : nx ws t = (nl ws t).map fun c => [c] := (ones_flat fun _ h => nx_one h).2
theorem nx_len (ws : List (List Nat)) (t : List Nat) : (nx ws t).length ≤ ws.length := Nat.le_trans (ss_len _) (nxw_len ws t)
theorem raw_next_ok {ws : List (List Nat)} (h : ∀ w ∈ ws, Wd w) (hn : ws.length ≤ 60) {t : List Nat} (ht : Ltr t) (htl : t.length ≤ 100) : Q_raw_next [.d (bookD ws), .d (.str (ofL t))] = .ok (.l true ((nx ws t).map tx)) [] := by
  have hnil : ([] : List PD).length + (withB ws t).length ≤ 16777216 := by rw [List.length_nil]; have := (withB_sub ws t).length_le; omega
  have c1 : ∀ env, env = ([some (.d (bookD ws)), some (.d (.str (ofL t))), none] : DL.Env) → pcompL (pgN 2) (ptOf (p2 gGt (pCall cLen (pCons (pV 2) pN)) (pCall cLen (pCons (pV 1) pN)))) e_raw_next_1 [2] ((withB ws t).map tx) [] env = .ok ([] ++ (nxw ws t).map tx) env := by
    rintro env rfl
    have em : (nxw ws t).map tx = (((withB ws t).filter fun w => decide (t.length < w.length))).map fun w => tx [w.getD t.length 0] := by unfold nxw; rw [List.map_map]; rfl
    rw [em]
    refine pcomp_filt _ tx (fun w => tx [w.getD t.length 0]) (fun w => decide (t.length < w.length)) (withB ws t) [] (fun w hm => ?_) hnil
    have hw := h w ((withB_sub ws t).subset hm)
    have hwl := hw.2.2
    unfold tx
    by_cases e : t.length < w.length
    · have e' : (t.length : Int) < (w.length : Int) := by omega
      have hx : w[(t.length : Int).toNat]? = some (w.getD t.length 0) := by rw [Int.toNat_natCast, List.getElem?_eq_getElem e, List.getD_eq_getElem?_getD, List.getElem?_eq_getElem e]; rfl
      simp -implicitDefEqProofs (disch := (first | assumption | omega | decide)) only [DL.PV0, DL.PV1, DL.PV2, DL.PV3, DL.PV4, DL.PV5, DL.PV6, DL.PV7, DL.PV8, DL.PV9, DL.PV10, DL.PV11, DL.PV12, DL.PV13, DL.PV14, DL.PV15, DL.PV16, DL.PV17, DL.PV18, DL.PV19, DL.PV20, DL.PV21, DL.PV22, DL.PV23, DL.PV24, DL.PV25, DL.PV26, DL.PV27, List.getElem?_cons_zero, List.getElem?_cons_succ, List.getElem?_nil, List.set_cons_zero, List.set_cons_succ, List.length_cons, List.length_nil, List.map_cons, List.map_nil, List.replicate_succ, List.replicate_zero, List.cons_append, List.nil_append, Nat.reduceAdd, Nat.reduceSub, Nat.reduceLT, Nat.reduceLeDiff, Nat.reduceEqDiff, Int.reduceEq, Int.reduceLT, Int.reduceLE, Int.reduceNeg, decide_true, decide_false, Bool.not_true, Bool.not_false, Bool.and_true, Bool.and_false, Bool.true_and, Bool.false_and, Bool.and_self, Bool.or_true, Bool.or_false, decide_eq_true_eq, if_true, if_false, Int.ofNat_zero, Int.cast_ofNat_Int, Bool.false_eq_true, reduceIte, reduceCtorEq, Option.map_some, Option.map_none, Option.bind_some, List.nodup_nil, Nat.zero_add, Option.some.injEq, and_self, and_true, true_and, and_false, false_and, or_self, or_true, true_or, or_false, false_or, not_true_eq_false, not_false_eq_true, e_raw_next_1, e, e', q_ixSn (Int.natCast_nonneg _) hx]
    · have e' : ¬ (t.length : Int) < (w.length : Int) := by omega
      simp -implicitDefEqProofs (disch := (first | assumption | omega | decide)) only [DL.PV0, DL.PV1, DL.PV2, DL.PV3, DL.PV4, DL.PV5, DL.PV6, DL.PV7, DL.PV8, DL.PV9, DL.PV10, DL.PV11, DL.PV12, DL.PV13, DL.PV14, DL.PV15, DL.PV16, DL.PV17, DL.PV18, DL.PV19, DL.PV20, DL.PV21, DL.PV22, DL.PV23, DL.PV24, DL.PV25, DL.PV26, DL.PV27, List.getElem?_cons_zero, List.getElem?_cons_succ, List.getElem?_nil, List.set_cons_zero, List.set_cons_succ, List.length_cons, List.length_nil, List.map_cons, List.map_nil, List.replicate_succ, List.replicate_zero, List.cons_append, List.nil_append, Nat.reduceAdd, Nat.reduceSub, Nat.reduceLT, Nat.reduceLeDiff, Nat.reduceEqDiff, Int.reduceEq, Int.reduceLT, Int.reduceLE, Int.reduceNeg, decide_true, decide_false, Bool.not_true, Bool.not_false, Bool.and_true, Bool.and_false, Bool.true_and, Bool.false_and, Bool.and_self, Bool.or_true, Bool.or_false, decide_eq_true_eq, if_true, if_false, Int.ofNat_zero, Int.cast_ofNat_Int, Bool.false_eq_true, reduceIte, reduceCtorEq, Option.map_some, Option.map_none, Option.bind_some, List.nodup_nil, Nat.zero_add, Option.some.injEq, and_self, and_true, true_and, and_false, false_and, or_self, or_true, true_or, or_false, false_or, not_true_eq_false, not_false_eq_true, e_raw_next_1, e, e']
  have hl : (nxw ws t).length < 4000 := by have := nxw_len ws t; omega
  unfold Q_raw_next k_raw_next
  simp -implicitDefEqProofs (disch := (first | assumption | omega | decide)) only [DL.PV0, DL.PV1, DL.PV2, DL.PV3, DL.PV4, DL.PV5, DL.PV6, DL.PV7, DL.PV8, DL.PV9, DL.PV10, DL.PV11, DL.PV12, DL.PV13, DL.PV14, DL.PV15, DL.PV16, DL.PV17, DL.PV18, DL.PV19, DL.PV20, DL.PV21, DL.PV22, DL.PV23, DL.PV24, DL.PV25, DL.PV26, DL.PV27, List.getElem?_cons_zero, List.getElem?_cons_succ, List.getElem?_nil, List.set_cons_zero, List.set_cons_succ, List.length_cons, List.length_nil, List.map_cons, List.map_nil, List.replicate_succ, List.replicate_zero, List.cons_append, List.nil_append, Nat.reduceAdd, Nat.reduceSub, Nat.reduceLT, Nat.reduceLeDiff, Nat.reduceEqDiff, Int.reduceEq, Int.reduceLT, Int.reduceLE, Int.reduceNeg, decide_true, decide_false, Bool.not_true, Bool.not_false, Bool.and_true, Bool.and_false, Bool.true_and, Bool.false_and, Bool.and_self, Bool.or_true, Bool.or_false, decide_eq_true_eq, if_true, if_false, Int.ofNat_zero, Int.cast_ofNat_Int, Bool.false_eq_true, reduceIte, reduceCtorEq, Option.map_some, Option.map_none, Option.bind_some, List.nodup_nil, Nat.zero_add, Option.some.injEq, and_self, and_true, true_and, and_false, false_and, or_self, or_true, true_or, or_false, false_or, not_true_eq_false, not_false_eq_true, raw_with_ok h hn ht htl, c1 _ rfl, q_ssetL hl]
  rfl
theorem next_letters_ok {ws : List (List Nat)} (h : Bk ws) {t : List Nat} (ht : Ltr t) (hl : t.length ≤ 12) : Q_next_letters [.d (bookD ws), .d (.str (ofL t))] = .ok (.d (.str (ofL (nl ws t)))) [] := by
  have e1 : Q_check_text [.d (.str (ofL t))] = .ok (.d .none) [] := by
    unfold Q_check_text k_check_text
    simp -implicitDefEqProofs (disch := (first | assumption | omega | decide)) only [DL.PV0, DL.PV1, DL.PV2, DL.PV3, DL.PV4, DL.PV5, DL.PV6, DL.PV7, DL.PV8, DL.PV9, DL.PV10, DL.PV11, DL.PV12, DL.PV13, DL.PV14, DL.PV15, DL.PV16, DL.PV17, DL.PV18, DL.PV19, DL.PV20, DL.PV21, DL.PV22, DL.PV23, DL.PV24, DL.PV25, DL.PV26, DL.PV27, List.getElem?_cons_zero, List.getElem?_cons_succ, List.getElem?_nil, List.set_cons_zero, List.set_cons_succ, List.length_cons, List.length_nil, List.map_cons, List.map_nil, List.replicate_succ, List.replicate_zero, List.cons_append, List.nil_append, Nat.reduceAdd, Nat.reduceSub, Nat.reduceLT, Nat.reduceLeDiff, Nat.reduceEqDiff, Int.reduceEq, Int.reduceLT, Int.reduceLE, Int.reduceNeg, decide_true, decide_false, Bool.not_true, Bool.not_false, Bool.and_true, Bool.and_false, Bool.true_and, Bool.false_and, Bool.and_self, Bool.or_true, Bool.or_false, decide_eq_true_eq, if_true, if_false, Int.ofNat_zero, Int.cast_ofNat_Int, Bool.false_eq_true, reduceIte, reduceCtorEq, Option.map_some, Option.map_none, Option.bind_some, List.nodup_nil, Nat.zero_add, Option.some.injEq, and_self, and_true, true_and, and_false, false_and, or_self, or_true, true_or, or_false, false_or, not_true_eq_false, not_false_eq_true, is_letters_ok ht (a := 0) (b := 12) (by omega) (by omega) (by omega)]
  have hj := q_join1 (cs := nx ws t) (by rw [show (nx ws t).flatten = nl ws t from rfl, nl_len]; have := nx_len ws t; have := h.2.2; omega)
  unfold Q_next_letters k_next_letters
  simp -implicitDefEqProofs (disch := (first | assumption | omega | decide)) only [DL.PV0, DL.PV1, DL.PV2, DL.PV3, DL.PV4, DL.PV5, DL.PV6, DL.PV7, DL.PV8, DL.PV9, DL.PV10, DL.PV11, DL.PV12, DL.PV13, DL.PV14, DL.PV15, DL.PV16, DL.PV17, DL.PV18, DL.PV19, DL.PV20, DL.PV21, DL.PV22, DL.PV23, DL.PV24, DL.PV25, DL.PV26, DL.PV27, List.getElem?_cons_zero, List.getElem?_cons_succ, List.getElem?_nil, List.set_cons_zero, List.set_cons_succ, List.length_cons, List.length_nil, List.map_cons, List.map_nil, List.replicate_succ, List.replicate_zero, List.cons_append, List.nil_append, Nat.reduceAdd, Nat.reduceSub, Nat.reduceLT, Nat.reduceLeDiff, Nat.reduceEqDiff, Int.reduceEq, Int.reduceLT, Int.reduceLE, Int.reduceNeg, decide_true, decide_false, Bool.not_true, Bool.not_false, Bool.and_true, Bool.and_false, Bool.true_and, Bool.false_and, Bool.and_self, Bool.or_true, Bool.or_false, decide_eq_true_eq, if_true, if_false, Int.ofNat_zero, Int.cast_ofNat_Int, Bool.false_eq_true, reduceIte, reduceCtorEq, Option.map_some, Option.map_none, Option.bind_some, List.nodup_nil, Nat.zero_add, Option.some.injEq, and_self, and_true, true_and, and_false, false_and, or_self, or_true, true_or, or_false, false_or, not_true_eq_false, not_false_eq_true, check_book_ok h, e1, raw_next_ok h.1 h.2.2 ht (by omega), hj]
  rfl
theorem law_next_ok {ws : List (List Nat)} (h : Bk ws) {t : List Nat} (ht : Ltr t) (htl : t.length ≤ 12) : Q__law_next [.d (bookD ws), .d (.str (ofL t))] = .ok (.d (.str (ofL (nl ws t)))) [] := by
  have hnil : ([] : List PD).length + ws.length ≤ 16777216 := by rw [List.length_nil]; have := h.2.2; omega
  have c1 : ∀ env, env = ([some (.d (bookD ws)), some (.d (.str (ofL t))), none, none] : DL.Env) → pcompL (pgN 3) (ptAnd (ptOf (p2 gEq (pSl gSl (pV 3) none (some (pCall cLen (pCons (pV 1) pN)))) (pV 1))) (ptOf (p2 gGt (pCall cLen (pCons (pV 3) pN)) (pCall cLen (pCons (pV 1) pN))))) e__law_next_1 [3] (ws.map tx) [] env = .ok ([] ++ (nxw ws t).map tx) env := by
    rintro env rfl
    have em : (nxw ws t).map tx = (ws.filter fun w => decide (w.take t.length = t) && decide (t.length < w.length)).map fun w => tx [w.getD t.length 0] := by
      unfold nxw withB
      rw [List.map_map, List.filter_filter]
      have : (fun w : List Nat => decide (t.length < w.length) && decide (List.take t.length w = t)) = fun w => decide (w.take t.length = t) && decide (t.length < w.length) := by funext w; rw [Bool.and_comm]
      rw [this]; rfl
    rw [em]
    refine pcomp_filt _ tx (fun w => tx [w.getD t.length 0]) (fun w => decide (w.take t.length = t) && decide (t.length < w.length)) ws [] (fun w hm => ?_) hnil
    have hw := h.1 w hm
    have hwl := hw.2.2
    have p1 := (hw.1.take t.length).pl
    have p2 := ht.pl
    unfold tx
    by_cases e2 : w.take t.length = t
    · by_cases e : t.length < w.length
      · have e' : (t.length : Int) < (w.length : Int) := by omega
        have hx : w[(t.length : Int).toNat]? = some (w.getD t.length 0) := by rw [Int.toNat_natCast, List.getElem?_eq_getElem e, List.getD_eq_getElem?_getD, List.getElem?_eq_getElem e]; rfl
        simp -implicitDefEqProofs (disch := (first | assumption | omega | decide)) only [DL.PV0, DL.PV1, DL.PV2, DL.PV3, DL.PV4, DL.PV5, DL.PV6, DL.PV7, DL.PV8, DL.PV9, DL.PV10, DL.PV11, DL.PV12, DL.PV13, DL.PV14, DL.PV15, DL.PV16, DL.PV17, DL.PV18, DL.PV19, DL.PV20, DL.PV21, DL.PV22, DL.PV23, DL.PV24, DL.PV25, DL.PV26, DL.PV27, List.getElem?_cons_zero, List.getElem?_cons_succ, List.getElem?_nil, List.set_cons_zero, List.set_cons_succ, List.length_cons, List.length_nil, List.map_cons, List.map_nil, List.replicate_succ, List.replicate_zero, List.cons_append, List.nil_append, Nat.reduceAdd, Nat.reduceSub, Nat.reduceLT, Nat.reduceLeDiff, Nat.reduceEqDiff, Int.reduceEq, Int.reduceLT, Int.reduceLE, Int.reduceNeg, decide_true, decide_false, Bool.not_true, Bool.not_false, Bool.and_true, Bool.and_false, Bool.true_and, Bool.false_and, Bool.and_self, Bool.or_true, Bool.or_false, decide_eq_true_eq, if_true, if_false, Int.ofNat_zero, Int.cast_ofNat_Int, Bool.false_eq_true, reduceIte, reduceCtorEq, Option.map_some, Option.map_none, Option.bind_some, List.nodup_nil, Nat.zero_add, Option.some.injEq, and_self, and_true, true_and, and_false, false_and, or_self, or_true, true_or, or_false, false_or, not_true_eq_false, not_false_eq_true, e__law_next_1, cutL_to w t.length, e2, e, e', q_ixSn (Int.natCast_nonneg _) hx]
      · have e' : ¬ (t.length : Int) < (w.length : Int) := by omega
        simp -implicitDefEqProofs (disch := (first | assumption | omega | decide)) only [DL.PV0, DL.PV1, DL.PV2, DL.PV3, DL.PV4, DL.PV5, DL.PV6, DL.PV7, DL.PV8, DL.PV9, DL.PV10, DL.PV11, DL.PV12, DL.PV13, DL.PV14, DL.PV15, DL.PV16, DL.PV17, DL.PV18, DL.PV19, DL.PV20, DL.PV21, DL.PV22, DL.PV23, DL.PV24, DL.PV25, DL.PV26, DL.PV27, List.getElem?_cons_zero, List.getElem?_cons_succ, List.getElem?_nil, List.set_cons_zero, List.set_cons_succ, List.length_cons, List.length_nil, List.map_cons, List.map_nil, List.replicate_succ, List.replicate_zero, List.cons_append, List.nil_append, Nat.reduceAdd, Nat.reduceSub, Nat.reduceLT, Nat.reduceLeDiff, Nat.reduceEqDiff, Int.reduceEq, Int.reduceLT, Int.reduceLE, Int.reduceNeg, decide_true, decide_false, Bool.not_true, Bool.not_false, Bool.and_true, Bool.and_false, Bool.true_and, Bool.false_and, Bool.and_self, Bool.or_true, Bool.or_false, decide_eq_true_eq, if_true, if_false, Int.ofNat_zero, Int.cast_ofNat_Int, Bool.false_eq_true, reduceIte, reduceCtorEq, Option.map_some, Option.map_none, Option.bind_some, List.nodup_nil, Nat.zero_add, Option.some.injEq, and_self, and_true, true_and, and_false, false_and, or_self, or_true, true_or, or_false, false_or, not_true_eq_false, not_false_eq_true, e__law_next_1, cutL_to w t.length, e2, e, e']
    · simp -implicitDefEqProofs (disch := (first | assumption | omega | decide)) only [DL.PV0, DL.PV1, DL.PV2, DL.PV3, DL.PV4, DL.PV5, DL.PV6, DL.PV7, DL.PV8, DL.PV9, DL.PV10, DL.PV11, DL.PV12, DL.PV13, DL.PV14, DL.PV15, DL.PV16, DL.PV17, DL.PV18, DL.PV19, DL.PV20, DL.PV21, DL.PV22, DL.PV23, DL.PV24, DL.PV25, DL.PV26, DL.PV27, List.getElem?_cons_zero, List.getElem?_cons_succ, List.getElem?_nil, List.set_cons_zero, List.set_cons_succ, List.length_cons, List.length_nil, List.map_cons, List.map_nil, List.replicate_succ, List.replicate_zero, List.cons_append, List.nil_append, Nat.reduceAdd, Nat.reduceSub, Nat.reduceLT, Nat.reduceLeDiff, Nat.reduceEqDiff, Int.reduceEq, Int.reduceLT, Int.reduceLE, Int.reduceNeg, decide_true, decide_false, Bool.not_true, Bool.not_false, Bool.and_true, Bool.and_false, Bool.true_and, Bool.false_and, Bool.and_self, Bool.or_true, Bool.or_false, decide_eq_true_eq, if_true, if_false, Int.ofNat_zero, Int.cast_ofNat_Int, Bool.false_eq_true, reduceIte, reduceCtorEq, Option.map_some, Option.map_none, Option.bind_some, List.nodup_nil, Nat.zero_add, Option.some.injEq, and_self, and_true, true_and, and_false, false_and, or_self, or_true, true_or, or_false, false_or, not_true_eq_false, not_false_eq_true, e__law_next_1, cutL_to w t.length, e2]
  have hl : (nxw ws t).length < 4000 := by have := nxw_len ws t; have := h.2.2; omega
  have hj := q_join1 (cs := nx ws t) (by rw [show (nx ws t).flatten = nl ws t from rfl, nl_len]; have := nx_len ws t; have := h.2.2; omega)
  have hs := q_ssetL hl
  rw [show ss (nxw ws t) = nx ws t from rfl] at hs
  unfold Q__law_next k__law_next
  simp -implicitDefEqProofs (disch := (first | assumption | omega | decide)) only [DL.PV0, DL.PV1, DL.PV2, DL.PV3, DL.PV4, DL.PV5, DL.PV6, DL.PV7, DL.PV8, DL.PV9, DL.PV10, DL.PV11, DL.PV12, DL.PV13, DL.PV14, DL.PV15, DL.PV16, DL.PV17, DL.PV18, DL.PV19, DL.PV20, DL.PV21, DL.PV22, DL.PV23, DL.PV24, DL.PV25, DL.PV26, DL.PV27, List.getElem?_cons_zero, List.getElem?_cons_succ, List.getElem?_nil, List.set_cons_zero, List.set_cons_succ, List.length_cons, List.length_nil, List.map_cons, List.map_nil, List.replicate_succ, List.replicate_zero, List.cons_append, List.nil_append, Nat.reduceAdd, Nat.reduceSub, Nat.reduceLT, Nat.reduceLeDiff, Nat.reduceEqDiff, Int.reduceEq, Int.reduceLT, Int.reduceLE, Int.reduceNeg, decide_true, decide_false, Bool.not_true, Bool.not_false, Bool.and_true, Bool.and_false, Bool.true_and, Bool.false_and, Bool.and_self, Bool.or_true, Bool.or_false, decide_eq_true_eq, if_true, if_false, Int.ofNat_zero, Int.cast_ofNat_Int, Bool.false_eq_true, reduceIte, reduceCtorEq, Option.map_some, Option.map_none, Option.bind_some, List.nodup_nil, Nat.zero_add, Option.some.injEq, and_self, and_true, true_and, and_false, false_and, or_self, or_true, true_or, or_false, false_or, not_true_eq_false, not_false_eq_true, q_itB, c1 _ rfl, hs, hj]
  rfl
/-! where it parts -/
def spl (ws : List (List Nat)) : List (List Nat) := (ss (begs ws)).filter fun t => decide (1 < (nx ws t).length)
theorem split_points_ok {ws : List (List Nat)} (h : Bk ws) : Q_split_points [.d (bookD ws)] = .ok (.d (bookD (spl ws))) [] := by
  have hlen : (ss (begs ws)).length ≤ 4000 := by have := ss_len (begs ws); have := begs_len h.1 (by have := h.2.2; omega); omega
  have c1 : ∀ env, env = ([some (.d (bookD ws)), none] : DL.Env) → pcompL (pgN 1) (ptOf (p2 gGt (pCall cLen (pCons (pDef Q_raw_next [false, false] 2 (pCons (pV 0) (pCons (pV 1) pN))) pN)) (pC (.int 1)))) e_split_points_1 [1] ((ss (begs ws)).map tx) [] env = .ok ([] ++ (spl ws).map tx) env := by
    rintro env rfl
    refine pcomp_filt _ tx tx (fun t => decide (1 < (nx ws t).length)) (ss (begs ws)) [] (fun t hm => ?_) (by rw [List.length_nil]; omega)
    obtain ⟨ht, htl⟩ := begs_ltr h.1 (mem_ss.mp hm)
    have hr := raw_next_ok h.1 h.2.2 ht (by omega : t.length ≤ 100)
    unfold tx at *
    by_cases e : 1 < (nx ws t).length
    · have e' : (1 : Int) < ((nx ws t).length : Int) := by omega
      simp -implicitDefEqProofs (disch := (first | assumption | omega | decide)) only [DL.PV0, DL.PV1, DL.PV2, DL.PV3, DL.PV4, DL.PV5, DL.PV6, DL.PV7, DL.PV8, DL.PV9, DL.PV10, DL.PV11, DL.PV12, DL.PV13, DL.PV14, DL.PV15, DL.PV16, DL.PV17, DL.PV18, DL.PV19, DL.PV20, DL.PV21, DL.PV22, DL.PV23, DL.PV24, DL.PV25, DL.PV26, DL.PV27, List.getElem?_cons_zero, List.getElem?_cons_succ, List.getElem?_nil, List.set_cons_zero, List.set_cons_succ, List.length_cons, List.length_nil, List.map_cons, List.map_nil, List.replicate_succ, List.replicate_zero, List.cons_append, List.nil_append, Nat.reduceAdd, Nat.reduceSub, Nat.reduceLT, Nat.reduceLeDiff, Nat.reduceEqDiff, Int.reduceEq, Int.reduceLT, Int.reduceLE, Int.reduceNeg, decide_true, decide_false, Bool.not_true, Bool.not_false, Bool.and_true, Bool.and_false, Bool.true_and, Bool.false_and, Bool.and_self, Bool.or_true, Bool.or_false, decide_eq_true_eq, if_true, if_false, Int.ofNat_zero, Int.cast_ofNat_Int, Bool.false_eq_true, reduceIte, reduceCtorEq, Option.map_some, Option.map_none, Option.bind_some, List.nodup_nil, Nat.zero_add, Option.some.injEq, and_self, and_true, true_and, and_false, false_and, or_self, or_true, true_or, or_false, false_or, not_true_eq_false, not_false_eq_true, e_split_points_1, hr, List.length_map, e, e']
    · have e' : ¬ (1 : Int) < ((nx ws t).length : Int) := by omega
      simp -implicitDefEqProofs (disch := (first | assumption | omega | decide)) only [DL.PV0, DL.PV1, DL.PV2, DL.PV3, DL.PV4, DL.PV5, DL.PV6, DL.PV7, DL.PV8, DL.PV9, DL.PV10, DL.PV11, DL.PV12, DL.PV13, DL.PV14, DL.PV15, DL.PV16, DL.PV17, DL.PV18, DL.PV19, DL.PV20, DL.PV21, DL.PV22, DL.PV23, DL.PV24, DL.PV25, DL.PV26, DL.PV27, List.getElem?_cons_zero, List.getElem?_cons_succ, List.getElem?_nil, List.set_cons_zero, List.set_cons_succ, List.length_cons, List.length_nil, List.map_cons, List.map_nil, List.replicate_succ, List.replicate_zero, List.cons_append, List.nil_append, Nat.reduceAdd, Nat.reduceSub, Nat.reduceLT, Nat.reduceLeDiff, Nat.reduceEqDiff, Int.reduceEq, Int.reduceLT, Int.reduceLE, Int.reduceNeg, decide_true, decide_false, Bool.not_true, Bool.not_false, Bool.and_true, Bool.and_false, Bool.true_and, Bool.false_and, Bool.and_self, Bool.or_true, Bool.or_false, decide_eq_true_eq, if_true, if_false, Int.ofNat_zero, Int.cast_ofNat_Int, Bool.false_eq_true, reduceIte, reduceCtorEq, Option.map_some, Option.map_none, Option.bind_some, List.nodup_nil, Nat.zero_add, Option.some.injEq, and_self, and_true, true_and, and_false, false_and, or_self, or_true, true_or, or_false, false_or, not_true_eq_false, not_false_eq_true, e_split_points_1, hr, List.length_map, e, e']
  unfold Q_split_points k_split_points
  simp -implicitDefEqProofs (disch := (first | assumption | omega | decide)) only [DL.PV0, DL.PV1, DL.PV2, DL.PV3, DL.PV4, DL.PV5, DL.PV6, DL.PV7, DL.PV8, DL.PV9, DL.PV10, DL.PV11, DL.PV12, DL.PV13, DL.PV14, DL.PV15, DL.PV16, DL.PV17, DL.PV18, DL.PV19, DL.PV20, DL.PV21, DL.PV22, DL.PV23, DL.PV24, DL.PV25, DL.PV26, DL.PV27, List.getElem?_cons_zero, List.getElem?_cons_succ, List.getElem?_nil, List.set_cons_zero, List.set_cons_succ, List.length_cons, List.length_nil, List.map_cons, List.map_nil, List.replicate_succ, List.replicate_zero, List.cons_append, List.nil_append, Nat.reduceAdd, Nat.reduceSub, Nat.reduceLT, Nat.reduceLeDiff, Nat.reduceEqDiff, Int.reduceEq, Int.reduceLT, Int.reduceLE, Int.reduceNeg, decide_true, decide_false, Bool.not_true, Bool.not_false, Bool.and_true, Bool.and_false, Bool.true_and, Bool.false_and, Bool.and_self, Bool.or_true, Bool.or_false, decide_eq_true_eq, if_true, if_false, Int.ofNat_zero, Int.cast_ofNat_Int, Bool.false_eq_true, reduceIte, reduceCtorEq, Option.map_some, Option.map_none, Option.bind_some, List.nodup_nil, Nat.zero_add, Option.some.injEq, and_self, and_true, true_and, and_false, false_and, or_self, or_true, true_or, or_false, false_or, not_true_eq_false, not_false_eq_true, check_book_ok h, all_beginnings_ok h.1 (by have := h.2.2; omega), c1 _ rfl, q_tupB]
/-! what goes on from a beginning is it and what goes on from each next one -/
theorem mem_withB {ws : List (List Nat)} {t w : List Nat} : w ∈ withB ws t ↔ w ∈ ws ∧ w.take t.length = t := by
  unfold withB
  rw [List.mem_filter, decide_eq_true_eq]
theorem mem_nl {ws : List (List Nat)} {t : List Nat} {c : Nat} : c ∈ nl ws t ↔ ∃ w ∈ ws, w.take t.length = t ∧ w[t.length]? = some c := by
  have h1 : c ∈ nl ws t ↔ [c] ∈ nx ws t := by
    rw [nx_nl, List.mem_map]
    exact ⟨fun h => ⟨c, h, rfl⟩, fun ⟨d, hd, e⟩ => by injection e with e; rw [← e]; exact hd⟩
  rw [h1]
  unfold nx
  rw [mem_ss]
  unfold nxw
  rw [List.mem_map]
  constructor
  · rintro ⟨w, hw, e⟩
    obtain ⟨h2, h3⟩ := List.mem_filter.mp hw
    rw [decide_eq_true_eq] at h3
    obtain ⟨h4, h5⟩ := mem_withB.mp h2
    refine ⟨w, h4, h5, ?_⟩
    injection e with e
    rw [List.getElem?_eq_getElem h3, ← e, List.getD_eq_getElem?_getD, List.getElem?_eq_getElem h3]; rfl
  · rintro ⟨w, h4, h5, h6⟩
    have hlt : t.length < w.length := (List.getElem?_eq_some_iff.mp h6).1
    refine ⟨w, List.mem_filter.mpr ⟨mem_withB.mpr ⟨h4, h5⟩, decide_eq_true hlt⟩, ?_⟩
    rw [List.getD_eq_getElem?_getD, h6]; rfl
theorem take_snoc {w t : List Nat} {c : Nat} : w.take (t ++ [c]).length = t ++ [c] ↔ w.take t.length = t ∧ w[t.length]? = some c := by
  rw [List.length_append, List.length_cons, List.length_nil, Nat.zero_add]
  rw [List.take_succ]
  constructor
  · intro h
    cases hx : w[t.length]? with
    | none =>
      rw [hx] at h
      have := congrArg List.length h
      have hl : w.length ≤ t.length := List.getElem?_eq_none_iff.mp hx
      simp only [Option.toList, List.append_nil, List.length_take, List.length_append, List.length_cons, List.length_nil] at this
      omega
    | some d =>
      rw [hx] at h
      have hl : (w.take t.length).length = t.length := by
        have := (List.getElem?_eq_some_iff.mp hx).1
        rw [List.length_take]; omega
      obtain ⟨h1, h2⟩ := List.append_inj h hl
      injection h2 with h2
      exact ⟨h1, by rw [h2]⟩
  · rintro ⟨h1, h2⟩
    rw [h1, h2]; rfl
def parts (ws : List (List Nat)) (t : List Nat) : List (List Nat) := (if t ∈ ws then [t] else []) ++ (nl ws t).flatMap fun c => withB ws (t ++ [c])
theorem nl_asc (ws : List (List Nat)) (t : List Nat) : (nl ws t).Pairwise (fun a b => a < b) := by
  obtain ⟨cs, e, h⟩ := ss_ones (l := nxw ws t) fun w hw => by obtain ⟨v, _, e⟩ := List.mem_map.mp hw; exact ⟨_, e.symm⟩
  have : nl ws t = cs := by
    show (ss (nxw ws t)).flatten = cs
    rw [e, flat_one]
  rw [this]; exact h
theorem parts_perm {ws : List (List Nat)} (hn : ws.Nodup) (t : List Nat) : (parts ws t).Perm (withB ws t) := by
  refine (List.perm_ext_iff_of_nodup ?_ (hn.sublist (withB_sub ws t))).mpr fun w => ?_
  · unfold parts
    rw [List.nodup_append]
    refine ⟨?_, ?_, ?_⟩
    · split <;> simp
    · refine List.pairwise_flatMap.mpr ⟨fun c _ => hn.sublist (withB_sub ws _), (nl_asc ws t).imp fun {a b} hab x hx y hy e => ?_⟩
      have h1 := (take_snoc.mp (mem_withB.mp hx).2).2
      have h2 := (take_snoc.mp (mem_withB.mp hy).2).2
      rw [e, h2] at h1
      injection h1 with h1
      omega
    · intro x hx y hy e
      split at hx
      · rw [List.mem_singleton] at hx
        obtain ⟨c, _, hc⟩ := List.mem_flatMap.mp hy
        have h2 := (take_snoc.mp (mem_withB.mp hc).2).2
        rw [← e, hx] at h2
        have := (List.getElem?_eq_some_iff.mp h2).1
        omega
      · cases hx
  · unfold parts
    rw [List.mem_append, mem_withB, List.mem_flatMap]
    constructor
    · rintro (h | ⟨c, hc, h⟩)
      · split at h
        · rw [List.mem_singleton] at h
          subst h
          exact ⟨by assumption, List.take_length⟩
        · cases h
      · obtain ⟨h1, h2⟩ := mem_withB.mp h
        exact ⟨h1, (take_snoc.mp h2).1⟩
    · rintro ⟨h1, h2⟩
      by_cases hlt : t.length < w.length
      · refine .inr ⟨w[t.length], mem_nl.mpr ⟨w, h1, h2, List.getElem?_eq_getElem hlt⟩, mem_withB.mpr ⟨h1, take_snoc.mpr ⟨h2, List.getElem?_eq_getElem hlt⟩⟩⟩
      · have e : w = t := by rw [← h2, List.take_of_length_le (by omega)]
        rw [e] at h1
        exact .inl (by rw [if_pos h1, e]; exact List.mem_singleton.mpr rfl)
end P08
namespace P08
open PySem PySem.Spec PyProof.Rows L2 DL
/-! things that are no books -/
/-- what no word is -/
def NoW : PD → Prop
  | .none => True
  | .int _ => True
  | .list _ => True
  | .tuple _ => True
  | .str x => x = ofL [88]
  | _ => False
theorem is_word_no {x : PD} (h : NoW x) : Q_is_word [.d x] = .ok (.d (.bool false)) [] := by
  match x, h with
  | .none, _ => rfl
  | .int i, _ =>
    unfold Q_is_word k_is_word
    have e : Q_is_letters [.d (.int i), .d (.int 1), .d (.int 12)] = .ok (.d (.bool false)) [] := by unfold Q_is_letters k_is_letters; simp -implicitDefEqProofs (disch := (first | assumption | omega | decide)) only [DL.PV0, DL.PV1, DL.PV2, DL.PV3, DL.PV4, DL.PV5, DL.PV6, DL.PV7, DL.PV8, DL.PV9, DL.PV10, DL.PV11, DL.PV12, DL.PV13, DL.PV14, DL.PV15, DL.PV16, DL.PV17, DL.PV18, DL.PV19, DL.PV20, DL.PV21, DL.PV22, DL.PV23, DL.PV24, DL.PV25, DL.PV26, DL.PV27, List.getElem?_cons_zero, List.getElem?_cons_succ, List.getElem?_nil, List.set_cons_zero, List.set_cons_succ, List.length_cons, List.length_nil, List.map_cons, List.map_nil, List.replicate_succ, List.replicate_zero, List.cons_append, List.nil_append, Nat.reduceAdd, Nat.reduceSub, Nat.reduceLT, Nat.reduceLeDiff, Nat.reduceEqDiff, Int.reduceEq, Int.reduceLT, Int.reduceLE, Int.reduceNeg, decide_true, decide_false, Bool.not_true, Bool.not_false, Bool.and_true, Bool.and_false, Bool.true_and, Bool.false_and, Bool.and_self, Bool.or_true, Bool.or_false, decide_eq_true_eq, if_true, if_false, Int.ofNat_zero, Int.cast_ofNat_Int, Bool.false_eq_true, reduceIte, reduceCtorEq, Option.map_some, Option.map_none, Option.bind_some, List.nodup_nil, Nat.zero_add, Option.some.injEq, and_self, and_true, true_and, and_false, false_and, or_self, or_true, true_or, or_false, false_or, not_true_eq_false, not_false_eq_true]
    simp -implicitDefEqProofs (disch := (first | assumption | omega | decide)) only [DL.PV0, DL.PV1, DL.PV2, DL.PV3, DL.PV4, DL.PV5, DL.PV6, DL.PV7, DL.PV8, DL.PV9, DL.PV10, DL.PV11, DL.PV12, DL.PV13, DL.PV14, DL.PV15, DL.PV16, DL.PV17, DL.PV18, DL.PV19, DL.PV20, DL.PV21, DL.PV22, DL.PV23, DL.PV24, DL.PV25, DL.PV26, DL.PV27, List.getElem?_cons_zero, List.getElem?_cons_succ, List.getElem?_nil, List.set_cons_zero, List.set_cons_succ, List.length_cons, List.length_nil, List.map_cons, List.map_nil, List.replicate_succ, List.replicate_zero, List.cons_append, List.nil_append, Nat.reduceAdd, Nat.reduceSub, Nat.reduceLT, Nat.reduceLeDiff, Nat.reduceEqDiff, Int.reduceEq, Int.reduceLT, Int.reduceLE, Int.reduceNeg, decide_true, decide_false, Bool.not_true, Bool.not_false, Bool.and_true, Bool.and_false, Bool.true_and, Bool.false_and, Bool.and_self, Bool.or_true, Bool.or_false, decide_eq_true_eq, if_true, if_false, Int.ofNat_zero, Int.cast_ofNat_Int, Bool.false_eq_true, reduceIte, reduceCtorEq, Option.map_some, Option.map_none, Option.bind_some, List.nodup_nil, Nat.zero_add, Option.some.injEq, and_self, and_true, true_and, and_false, false_and, or_self, or_true, true_or, or_false, false_or, not_true_eq_false, not_false_eq_true, e]
  | .list ds, _ =>
    unfold Q_is_word k_is_word
    have e : Q_is_letters [.d (.list ds), .d (.int 1), .d (.int 12)] = .ok (.d (.bool false)) [] := by unfold Q_is_letters k_is_letters; simp -implicitDefEqProofs (disch := (first | assumption | omega | decide)) only [DL.PV0, DL.PV1, DL.PV2, DL.PV3, DL.PV4, DL.PV5, DL.PV6, DL.PV7, DL.PV8, DL.PV9, DL.PV10, DL.PV11, DL.PV12, DL.PV13, DL.PV14, DL.PV15, DL.PV16, DL.PV17, DL.PV18, DL.PV19, DL.PV20, DL.PV21, DL.PV22, DL.PV23, DL.PV24, DL.PV25, DL.PV26, DL.PV27, List.getElem?_cons_zero, List.getElem?_cons_succ, List.getElem?_nil, List.set_cons_zero, List.set_cons_succ, List.length_cons, List.length_nil, List.map_cons, List.map_nil, List.replicate_succ, List.replicate_zero, List.cons_append, List.nil_append, Nat.reduceAdd, Nat.reduceSub, Nat.reduceLT, Nat.reduceLeDiff, Nat.reduceEqDiff, Int.reduceEq, Int.reduceLT, Int.reduceLE, Int.reduceNeg, decide_true, decide_false, Bool.not_true, Bool.not_false, Bool.and_true, Bool.and_false, Bool.true_and, Bool.false_and, Bool.and_self, Bool.or_true, Bool.or_false, decide_eq_true_eq, if_true, if_false, Int.ofNat_zero, Int.cast_ofNat_Int, Bool.false_eq_true, reduceIte, reduceCtorEq, Option.map_some, Option.map_none, Option.bind_some, List.nodup_nil, Nat.zero_add, Option.some.injEq, and_self, and_true, true_and, and_false, false_and, or_self, or_true, true_or, or_false, false_or, not_true_eq_false, not_false_eq_true]
    simp -implicitDefEqProofs (disch := (first | assumption | omega | decide)) only [DL.PV0, DL.PV1, DL.PV2, DL.PV3, DL.PV4, DL.PV5, DL.PV6, DL.PV7, DL.PV8, DL.PV9, DL.PV10, DL.PV11, DL.PV12, DL.PV13, DL.PV14, DL.PV15, DL.PV16, DL.PV17, DL.PV18, DL.PV19, DL.PV20, DL.PV21, DL.PV22, DL.PV23, DL.PV24, DL.PV25, DL.PV26, DL.PV27, List.getElem?_cons_zero, List.getElem?_cons_succ, List.getElem?_nil, List.set_cons_zero, List.set_cons_succ, List.length_cons, List.length_nil, List.map_cons, List.map_nil, List.replicate_succ, List.replicate_zero, List.cons_append, List.nil_append, Nat.reduceAdd, Nat.reduceSub, Nat.reduceLT, Nat.reduceLeDiff, Nat.reduceEqDiff, Int.reduceEq, Int.reduceLT, Int.reduceLE, Int.reduceNeg, decide_true, decide_false, Bool.not_true, Bool.not_false, Bool.and_true, Bool.and_false, Bool.true_and, Bool.false_and, Bool.and_self, Bool.or_true, Bool.or_false, decide_eq_true_eq, if_true, if_false, Int.ofNat_zero, Int.cast_ofNat_Int, Bool.false_eq_true, reduceIte, reduceCtorEq, Option.map_some, Option.map_none, Option.bind_some, List.nodup_nil, Nat.zero_add, Option.some.injEq, and_self, and_true, true_and, and_false, false_and, or_self, or_true, true_or, or_false, false_or, not_true_eq_false, not_false_eq_true, e]
  | .tuple ds, _ =>
    unfold Q_is_word k_is_word
    have e : Q_is_letters [.d (.tuple ds), .d (.int 1), .d (.int 12)] = .ok (.d (.bool false)) [] := by unfold Q_is_letters k_is_letters; simp -implicitDefEqProofs (disch := (first | assumption | omega | decide)) only [DL.PV0, DL.PV1, DL.PV2, DL.PV3, DL.PV4, DL.PV5, DL.PV6, DL.PV7, DL.PV8, DL.PV9, DL.PV10, DL.PV11, DL.PV12, DL.PV13, DL.PV14, DL.PV15, DL.PV16, DL.PV17, DL.PV18, DL.PV19, DL.PV20, DL.PV21, DL.PV22, DL.PV23, DL.PV24, DL.PV25, DL.PV26, DL.PV27, List.getElem?_cons_zero, List.getElem?_cons_succ, List.getElem?_nil, List.set_cons_zero, List.set_cons_succ, List.length_cons, List.length_nil, List.map_cons, List.map_nil, List.replicate_succ, List.replicate_zero, List.cons_append, List.nil_append, Nat.reduceAdd, Nat.reduceSub, Nat.reduceLT, Nat.reduceLeDiff, Nat.reduceEqDiff, Int.reduceEq, Int.reduceLT, Int.reduceLE, Int.reduceNeg, decide_true, decide_false, Bool.not_true, Bool.not_false, Bool.and_true, Bool.and_false, Bool.true_and, Bool.false_and, Bool.and_self, Bool.or_true, Bool.or_false, decide_eq_true_eq, if_true, if_false, Int.ofNat_zero, Int.cast_ofNat_Int, Bool.false_eq_true, reduceIte, reduceCtorEq, Option.map_some, Option.map_none, Option.bind_some, List.nodup_nil, Nat.zero_add, Option.some.injEq, and_self, and_true, true_and, and_false, false_and, or_self, or_true, true_or, or_false, false_or, not_true_eq_false, not_false_eq_true]
    simp -implicitDefEqProofs (disch := (first | assumption | omega | decide)) only [DL.PV0, DL.PV1, DL.PV2, DL.PV3, DL.PV4, DL.PV5, DL.PV6, DL.PV7, DL.PV8, DL.PV9, DL.PV10, DL.PV11, DL.PV12, DL.PV13, DL.PV14, DL.PV15, DL.PV16, DL.PV17, DL.PV18, DL.PV19, DL.PV20, DL.PV21, DL.PV22, DL.PV23, DL.PV24, DL.PV25, DL.PV26, DL.PV27, List.getElem?_cons_zero, List.getElem?_cons_succ, List.getElem?_nil, List.set_cons_zero, List.set_cons_succ, List.length_cons, List.length_nil, List.map_cons, List.map_nil, List.replicate_succ, List.replicate_zero, List.cons_append, List.nil_append, Nat.reduceAdd, Nat.reduceSub, Nat.reduceLT, Nat.reduceLeDiff, Nat.reduceEqDiff, Int.reduceEq, Int.reduceLT, Int.reduceLE, Int.reduceNeg, decide_true, decide_false, Bool.not_true, Bool.not_false, Bool.and_true, Bool.and_false, Bool.true_and, Bool.false_and, Bool.and_self, Bool.or_true, Bool.or_false, decide_eq_true_eq, if_true, if_false, Int.ofNat_zero, Int.cast_ofNat_Int, Bool.false_eq_true, reduceIte, reduceCtorEq, Option.map_some, Option.map_none, Option.bind_some, List.nodup_nil, Nat.zero_add, Option.some.injEq, and_self, and_true, true_and, and_false, false_and, or_self, or_true, true_or, or_false, false_or, not_true_eq_false, not_false_eq_true, e]
  | .str x, h => rw [show x = ofL [88] from h]; rfl
/-- deep things: a thing that is no word, in a row of one -/
def Deep (x : PD) : Prop := ∃ y, NoW y ∧ (x = .list [y] ∨ x = .tuple [y])
theorem Deep.now {x : PD} (h : Deep x) : NoW x := by
  obtain ⟨y, _, rfl | rfl⟩ := h <;> trivial
theorem check_deep {x : PD} (h : Deep x) : Q_check_book [.d x] = .er ⟨Str.ofString "NoBook", []⟩ [] := by
  obtain ⟨y, hy, rfl | rfl⟩ := h
  · have e : Q_is_book [.d (.list [y])] = .ok (.d (.bool false)) [] := by unfold Q_is_book k_is_book; simp -implicitDefEqProofs (disch := (first | assumption | omega | decide)) only [DL.PV0, DL.PV1, DL.PV2, DL.PV3, DL.PV4, DL.PV5, DL.PV6, DL.PV7, DL.PV8, DL.PV9, DL.PV10, DL.PV11, DL.PV12, DL.PV13, DL.PV14, DL.PV15, DL.PV16, DL.PV17, DL.PV18, DL.PV19, DL.PV20, DL.PV21, DL.PV22, DL.PV23, DL.PV24, DL.PV25, DL.PV26, DL.PV27, List.getElem?_cons_zero, List.getElem?_cons_succ, List.getElem?_nil, List.set_cons_zero, List.set_cons_succ, List.length_cons, List.length_nil, List.map_cons, List.map_nil, List.replicate_succ, List.replicate_zero, List.cons_append, List.nil_append, Nat.reduceAdd, Nat.reduceSub, Nat.reduceLT, Nat.reduceLeDiff, Nat.reduceEqDiff, Int.reduceEq, Int.reduceLT, Int.reduceLE, Int.reduceNeg, decide_true, decide_false, Bool.not_true, Bool.not_false, Bool.and_true, Bool.and_false, Bool.true_and, Bool.false_and, Bool.and_self, Bool.or_true, Bool.or_false, decide_eq_true_eq, if_true, if_false, Int.ofNat_zero, Int.cast_ofNat_Int, Bool.false_eq_true, reduceIte, reduceCtorEq, Option.map_some, Option.map_none, Option.bind_some, List.nodup_nil, Nat.zero_add, Option.some.injEq, and_self, and_true, true_and, and_false, false_and, or_self, or_true, true_or, or_false, false_or, not_true_eq_false, not_false_eq_true]
    unfold Q_check_book k_check_book
    simp -implicitDefEqProofs (disch := (first | assumption | omega | decide)) only [DL.PV0, DL.PV1, DL.PV2, DL.PV3, DL.PV4, DL.PV5, DL.PV6, DL.PV7, DL.PV8, DL.PV9, DL.PV10, DL.PV11, DL.PV12, DL.PV13, DL.PV14, DL.PV15, DL.PV16, DL.PV17, DL.PV18, DL.PV19, DL.PV20, DL.PV21, DL.PV22, DL.PV23, DL.PV24, DL.PV25, DL.PV26, DL.PV27, List.getElem?_cons_zero, List.getElem?_cons_succ, List.getElem?_nil, List.set_cons_zero, List.set_cons_succ, List.length_cons, List.length_nil, List.map_cons, List.map_nil, List.replicate_succ, List.replicate_zero, List.cons_append, List.nil_append, Nat.reduceAdd, Nat.reduceSub, Nat.reduceLT, Nat.reduceLeDiff, Nat.reduceEqDiff, Int.reduceEq, Int.reduceLT, Int.reduceLE, Int.reduceNeg, decide_true, decide_false, Bool.not_true, Bool.not_false, Bool.and_true, Bool.and_false, Bool.true_and, Bool.false_and, Bool.and_self, Bool.or_true, Bool.or_false, decide_eq_true_eq, if_true, if_false, Int.ofNat_zero, Int.cast_ofNat_Int, Bool.false_eq_true, reduceIte, reduceCtorEq, Option.map_some, Option.map_none, Option.bind_some, List.nodup_nil, Nat.zero_add, Option.some.injEq, and_self, and_true, true_and, and_false, false_and, or_self, or_true, true_or, or_false, false_or, not_true_eq_false, not_false_eq_true, e]
  · have e : Q_is_book [.d (.tuple [y])] = .ok (.d (.bool false)) [] := by
      have c1 : ∀ env, env = ([some (.d (.tuple [y])), none, none] : DL.Env) → pcompL (pgN 1) (fun env => .ok true env) e_is_book_1 [1] [y] [] env = .ok [.bool false] env := by
        rintro env rfl
        have q := pcomp_map (tg := pgN 1) (tt := fun env => .ok true env) (te := e_is_book_1) (vs := [1]) [some (.d (.tuple [y])), none, none] (fun z : PD => z) (fun _ => .bool false) [y] [] (fun z hz => by
          rw [List.mem_singleton.mp hz]
          simp -implicitDefEqProofs (disch := (first | assumption | omega | decide)) only [DL.PV0, DL.PV1, DL.PV2, DL.PV3, DL.PV4, DL.PV5, DL.PV6, DL.PV7, DL.PV8, DL.PV9, DL.PV10, DL.PV11, DL.PV12, DL.PV13, DL.PV14, DL.PV15, DL.PV16, DL.PV17, DL.PV18, DL.PV19, DL.PV20, DL.PV21, DL.PV22, DL.PV23, DL.PV24, DL.PV25, DL.PV26, DL.PV27, List.getElem?_cons_zero, List.getElem?_cons_succ, List.getElem?_nil, List.set_cons_zero, List.set_cons_succ, List.length_cons, List.length_nil, List.map_cons, List.map_nil, List.replicate_succ, List.replicate_zero, List.cons_append, List.nil_append, Nat.reduceAdd, Nat.reduceSub, Nat.reduceLT, Nat.reduceLeDiff, Nat.reduceEqDiff, Int.reduceEq, Int.reduceLT, Int.reduceLE, Int.reduceNeg, decide_true, decide_false, Bool.not_true, Bool.not_false, Bool.and_true, Bool.and_false, Bool.true_and, Bool.false_and, Bool.and_self, Bool.or_true, Bool.or_false, decide_eq_true_eq, if_true, if_false, Int.ofNat_zero, Int.cast_ofNat_Int, Bool.false_eq_true, reduceIte, reduceCtorEq, Option.map_some, Option.map_none, Option.bind_some, List.nodup_nil, Nat.zero_add, Option.some.injEq, and_self, and_true, true_and, and_false, false_and, or_self, or_true, true_or, or_false, false_or, not_true_eq_false, not_false_eq_true, e_is_book_1, is_word_no hy]) (by show 0 + 1 ≤ 16777216; decide)
        exact q
      have a : cAll [.list [.bool false]] = some (.val (.bool false)) := rfl
      have g : gGtA (.int 1) (.int 60) = some (.val (.bool false)) := by rw [q_gtAI]; rfl
      unfold Q_is_book k_is_book
      simp -implicitDefEqProofs (disch := (first | assumption | omega | decide)) only [DL.PV0, DL.PV1, DL.PV2, DL.PV3, DL.PV4, DL.PV5, DL.PV6, DL.PV7, DL.PV8, DL.PV9, DL.PV10, DL.PV11, DL.PV12, DL.PV13, DL.PV14, DL.PV15, DL.PV16, DL.PV17, DL.PV18, DL.PV19, DL.PV20, DL.PV21, DL.PV22, DL.PV23, DL.PV24, DL.PV25, DL.PV26, DL.PV27, List.getElem?_cons_zero, List.getElem?_cons_succ, List.getElem?_nil, List.set_cons_zero, List.set_cons_succ, List.length_cons, List.length_nil, List.map_cons, List.map_nil, List.replicate_succ, List.replicate_zero, List.cons_append, List.nil_append, Nat.reduceAdd, Nat.reduceSub, Nat.reduceLT, Nat.reduceLeDiff, Nat.reduceEqDiff, Int.reduceEq, Int.reduceLT, Int.reduceLE, Int.reduceNeg, decide_true, decide_false, Bool.not_true, Bool.not_false, Bool.and_true, Bool.and_false, Bool.true_and, Bool.false_and, Bool.and_self, Bool.or_true, Bool.or_false, decide_eq_true_eq, if_true, if_false, Int.ofNat_zero, Int.cast_ofNat_Int, Bool.false_eq_true, reduceIte, reduceCtorEq, Option.map_some, Option.map_none, Option.bind_some, List.nodup_nil, Nat.zero_add, Option.some.injEq, and_self, and_true, true_and, and_false, false_and, or_self, or_true, true_or, or_false, false_or, not_true_eq_false, not_false_eq_true, c1 _ rfl, a, g]
    unfold Q_check_book k_check_book
    simp -implicitDefEqProofs (disch := (first | assumption | omega | decide)) only [DL.PV0, DL.PV1, DL.PV2, DL.PV3, DL.PV4, DL.PV5, DL.PV6, DL.PV7, DL.PV8, DL.PV9, DL.PV10, DL.PV11, DL.PV12, DL.PV13, DL.PV14, DL.PV15, DL.PV16, DL.PV17, DL.PV18, DL.PV19, DL.PV20, DL.PV21, DL.PV22, DL.PV23, DL.PV24, DL.PV25, DL.PV26, DL.PV27, List.getElem?_cons_zero, List.getElem?_cons_succ, List.getElem?_nil, List.set_cons_zero, List.set_cons_succ, List.length_cons, List.length_nil, List.map_cons, List.map_nil, List.replicate_succ, List.replicate_zero, List.cons_append, List.nil_append, Nat.reduceAdd, Nat.reduceSub, Nat.reduceLT, Nat.reduceLeDiff, Nat.reduceEqDiff, Int.reduceEq, Int.reduceLT, Int.reduceLE, Int.reduceNeg, decide_true, decide_false, Bool.not_true, Bool.not_false, Bool.and_true, Bool.and_false, Bool.true_and, Bool.false_and, Bool.and_self, Bool.or_true, Bool.or_false, decide_eq_true_eq, if_true, if_false, Int.ofNat_zero, Int.cast_ofNat_Int, Bool.false_eq_true, reduceIte, reduceCtorEq, Option.map_some, Option.map_none, Option.bind_some, List.nodup_nil, Nat.zero_add, Option.some.injEq, and_self, and_true, true_and, and_false, false_and, or_self, or_true, true_or, or_false, false_or, not_true_eq_false, not_false_eq_true, e]
def odd12 : List PD := [.none, .list [.str (ofL [97])], .tuple [.str (ofL [98]), .str (ofL [97])], .tuple [.str (ofL [97]), .str (ofL [97])], .tuple [.str (ofL [])], .tuple [.str (ofL [65])], .tuple [.int 1], .str (ofL [97]), .int 0, .dict [], .tuple [.none], .tuple [.str (ofL [97, 98, 99, 100, 101, 102, 103, 104, 105, 106, 107, 108, 109])]]
theorem check_odd {x : PD} (h : x ∈ odd12) : Q_check_book [.d x] = .er ⟨Str.ofString "NoBook", []⟩ [] := by
  unfold odd12 at h
  simp only [List.mem_cons, List.not_mem_nil, or_false] at h
  rcases h with rfl | rfl | rfl | rfl | rfl | rfl | rfl | rfl | rfl | rfl | rfl | rfl <;> rfl
/-- how a deep thing stands in its name -/
def DeepC (c : Cell) : Prop := ∃ y, NoW y ∧ (c = .l true [y] ∨ c = .d (.tuple [y]))
theorem deep_1 {ds : List PD} (H : HandP ds) (c : Cell) (hc : DeepC c ∨ ∃ y, NoW y ∧ c = .d y) (x : Option Cell) (i : PD) : ∃ ds' c', HandP ds' ∧ DeepC c' ∧ pf1 (pgN 2) b__law_deep_1 i [some (.l false ds), some c, x] = .nx [some (.l false ds'), some c', some (.d i)] := by
  obtain ⟨k, d1, H1, k0, k1, e1⟩ := draw_ok H 2 (by decide) (by decide)
  have key : ∃ y, NoW y ∧ (c = .d y ∨ ∃ z, c = .l true [z] ∧ y = .list [z]) := by
    rcases hc with ⟨y, hy, rfl | rfl⟩ | ⟨y, hy, rfl⟩
    · exact ⟨.list [y], trivial, .inr ⟨y, rfl, rfl⟩⟩
    · exact ⟨.tuple [y], trivial, .inl rfl⟩
    · exact ⟨y, hy, .inl rfl⟩
  obtain ⟨y, hy, hcy⟩ := key
  by_cases hk : k = 0
  · refine ⟨d1, .l true [y], H1, ⟨y, hy, .inl rfl⟩, ?_⟩
    unfold b__law_deep_1
    rcases hcy with rfl | ⟨z, rfl, rfl⟩ <;> simp -implicitDefEqProofs (disch := (first | assumption | omega | decide)) only [DL.PV0, DL.PV1, DL.PV2, DL.PV3, DL.PV4, DL.PV5, DL.PV6, DL.PV7, DL.PV8, DL.PV9, DL.PV10, DL.PV11, DL.PV12, DL.PV13, DL.PV14, DL.PV15, DL.PV16, DL.PV17, DL.PV18, DL.PV19, DL.PV20, DL.PV21, DL.PV22, DL.PV23, DL.PV24, DL.PV25, DL.PV26, DL.PV27, List.getElem?_cons_zero, List.getElem?_cons_succ, List.getElem?_nil, List.set_cons_zero, List.set_cons_succ, List.length_cons, List.length_nil, List.map_cons, List.map_nil, List.replicate_succ, List.replicate_zero, List.cons_append, List.nil_append, Nat.reduceAdd, Nat.reduceSub, Nat.reduceLT, Nat.reduceLeDiff, Nat.reduceEqDiff, Int.reduceEq, Int.reduceLT, Int.reduceLE, Int.reduceNeg, decide_true, decide_false, Bool.not_true, Bool.not_false, Bool.and_true, Bool.and_false, Bool.true_and, Bool.false_and, Bool.and_self, Bool.or_true, Bool.or_false, decide_eq_true_eq, if_true, if_false, Int.ofNat_zero, Int.cast_ofNat_Int, Bool.false_eq_true, reduceIte, reduceCtorEq, Option.map_some, Option.map_none, Option.bind_some, List.nodup_nil, Nat.zero_add, Option.some.injEq, and_self, and_true, true_and, and_false, false_and, or_self, or_true, true_or, or_false, false_or, not_true_eq_false, not_false_eq_true, e1, hk]
  · refine ⟨d1, .d (.tuple [y]), H1, ⟨y, hy, .inr rfl⟩, ?_⟩
    unfold b__law_deep_1
    rcases hcy with rfl | ⟨z, rfl, rfl⟩ <;> simp -implicitDefEqProofs (disch := (first | assumption | omega | decide)) only [DL.PV0, DL.PV1, DL.PV2, DL.PV3, DL.PV4, DL.PV5, DL.PV6, DL.PV7, DL.PV8, DL.PV9, DL.PV10, DL.PV11, DL.PV12, DL.PV13, DL.PV14, DL.PV15, DL.PV16, DL.PV17, DL.PV18, DL.PV19, DL.PV20, DL.PV21, DL.PV22, DL.PV23, DL.PV24, DL.PV25, DL.PV26, DL.PV27, List.getElem?_cons_zero, List.getElem?_cons_succ, List.getElem?_nil, List.set_cons_zero, List.set_cons_succ, List.length_cons, List.length_nil, List.map_cons, List.map_nil, List.replicate_succ, List.replicate_zero, List.cons_append, List.nil_append, Nat.reduceAdd, Nat.reduceSub, Nat.reduceLT, Nat.reduceLeDiff, Nat.reduceEqDiff, Int.reduceEq, Int.reduceLT, Int.reduceLE, Int.reduceNeg, decide_true, decide_false, Bool.not_true, Bool.not_false, Bool.and_true, Bool.and_false, Bool.true_and, Bool.false_and, Bool.and_self, Bool.or_true, Bool.or_false, decide_eq_true_eq, if_true, if_false, Int.ofNat_zero, Int.cast_ofNat_Int, Bool.false_eq_true, reduceIte, reduceCtorEq, Option.map_some, Option.map_none, Option.bind_some, List.nodup_nil, Nat.zero_add, Option.some.injEq, and_self, and_true, true_and, and_false, false_and, or_self, or_true, true_or, or_false, false_or, not_true_eq_false, not_false_eq_true, e1, hk]
theorem deep_ok {ds : List PD} (H : HandP ds) : ∃ ds' c, HandP ds' ∧ DeepC c ∧ ∀ w, Q__law_deep [.l w ds] = .ok c [ds'] := by
  obtain ⟨x, d1, H1, hx, e1⟩ := any_ok H [.none, .str (ofL [88]), .int (-1)] (by decide) (by decide)
  obtain ⟨k, d2, H2, k0, k1, e2⟩ := draw_ok H1 30 (by decide) (by decide)
  have hx0 : NoW x := by
    simp only [List.mem_cons, List.not_mem_nil, or_false] at hx
    rcases hx with rfl | rfl | rfl
    · trivial
    · rfl
    · trivial
  obtain ⟨e', g1, d3, c3, z3, H3, g3, g4, rfl⟩ := pfor_inv (tg := pgN 2) (body := b__law_deep_1)
    (fun items env => ∃ ds c z, HandP ds ∧ (DeepC c ∨ ∃ y, NoW y ∧ c = .d y) ∧ (items = [] → DeepC c) ∧ env = [some (.l false ds), some c, z])
    (fun d r env => by
      rintro ⟨ds, c, z, H, hc, _, rfl⟩
      obtain ⟨ds', c', H', hc', e⟩ := deep_1 H c hc z d
      exact ⟨_, e, ds', c', some (.d d), H', .inl hc', fun _ => hc', rfl⟩)
    (rangeL 0 (1 + k).toNat) [some (.l false d2), some (.d x), none]
    ⟨d2, .d x, none, H2, .inr ⟨x, hx0, rfl⟩, (fun h => by
      have := congrArg List.length h
      unfold rangeL at this
      rw [List.length_map, List.length_range, List.length_nil] at this
      omega), rfl⟩
  have hc := g4 rfl
  refine ⟨d3, c3, H3, hc, fun w => ?_⟩
  unfold Q__law_deep k__law_deep
  simp -implicitDefEqProofs (disch := (first | assumption | omega | decide)) only [DL.PV0, DL.PV1, DL.PV2, DL.PV3, DL.PV4, DL.PV5, DL.PV6, DL.PV7, DL.PV8, DL.PV9, DL.PV10, DL.PV11, DL.PV12, DL.PV13, DL.PV14, DL.PV15, DL.PV16, DL.PV17, DL.PV18, DL.PV19, DL.PV20, DL.PV21, DL.PV22, DL.PV23, DL.PV24, DL.PV25, DL.PV26, DL.PV27, List.getElem?_cons_zero, List.getElem?_cons_succ, List.getElem?_nil, List.set_cons_zero, List.set_cons_succ, List.length_cons, List.length_nil, List.map_cons, List.map_nil, List.replicate_succ, List.replicate_zero, List.cons_append, List.nil_append, Nat.reduceAdd, Nat.reduceSub, Nat.reduceLT, Nat.reduceLeDiff, Nat.reduceEqDiff, Int.reduceEq, Int.reduceLT, Int.reduceLE, Int.reduceNeg, decide_true, decide_false, Bool.not_true, Bool.not_false, Bool.and_true, Bool.and_false, Bool.true_and, Bool.false_and, Bool.and_self, Bool.or_true, Bool.or_false, decide_eq_true_eq, if_true, if_false, Int.ofNat_zero, Int.cast_ofNat_Int, Bool.false_eq_true, reduceIte, reduceCtorEq, Option.map_some, Option.map_none, Option.bind_some, List.nodup_nil, Nat.zero_add, Option.some.injEq, and_self, and_true, true_and, and_false, false_and, or_self, or_true, true_or, or_false, false_or, not_true_eq_false, not_false_eq_true, e1, e2, g1]
  obtain ⟨y, hy, rfl | rfl⟩ := hc <;> simp -implicitDefEqProofs (disch := (first | assumption | omega | decide)) only [DL.PV0, DL.PV1, DL.PV2, DL.PV3, DL.PV4, DL.PV5, DL.PV6, DL.PV7, DL.PV8, DL.PV9, DL.PV10, DL.PV11, DL.PV12, DL.PV13, DL.PV14, DL.PV15, DL.PV16, DL.PV17, DL.PV18, DL.PV19, DL.PV20, DL.PV21, DL.PV22, DL.PV23, DL.PV24, DL.PV25, DL.PV26, DL.PV27, List.getElem?_cons_zero, List.getElem?_cons_succ, List.getElem?_nil, List.set_cons_zero, List.set_cons_succ, List.length_cons, List.length_nil, List.map_cons, List.map_nil, List.replicate_succ, List.replicate_zero, List.cons_append, List.nil_append, Nat.reduceAdd, Nat.reduceSub, Nat.reduceLT, Nat.reduceLeDiff, Nat.reduceEqDiff, Int.reduceEq, Int.reduceLT, Int.reduceLE, Int.reduceNeg, decide_true, decide_false, Bool.not_true, Bool.not_false, Bool.and_true, Bool.and_false, Bool.true_and, Bool.false_and, Bool.and_self, Bool.or_true, Bool.or_false, decide_eq_true_eq, if_true, if_false, Int.ofNat_zero, Int.cast_ofNat_Int, Bool.false_eq_true, reduceIte, reduceCtorEq, Option.map_some, Option.map_none, Option.bind_some, List.nodup_nil, Nat.zero_add, Option.some.injEq, and_self, and_true, true_and, and_false, false_and, or_self, or_true, true_or, or_false, false_or, not_true_eq_false, not_false_eq_true]
theorem no_book_ok {ds : List PD} (H : HandP ds) : ∃ x ds', HandP ds' ∧ Q_check_book [.d x] = .er ⟨Str.ofString "NoBook", []⟩ [] ∧ ∀ w, Q__law_no_book [.l w ds] = .ok (.d x) [ds'] := by
  obtain ⟨d1, c, H1, ⟨y, hy, hc⟩, e1⟩ := deep_ok H
  have key : ∃ v, Deep v ∧ (c = .d v ∨ ∃ z, c = .l true [z] ∧ v = .list [z]) := by
    rcases hc with rfl | rfl
    · exact ⟨.list [y], ⟨y, hy, .inl rfl⟩, .inr ⟨y, rfl, rfl⟩⟩
    · exact ⟨.tuple [y], ⟨y, hy, .inr rfl⟩, .inl rfl⟩
  obtain ⟨v, hv, hcv⟩ := key
  obtain ⟨x, d2, H2, hx, e2⟩ := any_ok H1 (odd12 ++ [v]) (by simp) (by rw [List.length_append]; show 12 + 1 < _; decide)
  refine ⟨x, d2, H2, ?_, fun w => ?_⟩
  · rcases List.mem_append.mp hx with h | h
    · exact check_odd h
    · rw [List.mem_singleton.mp h]; exact check_deep hv
  · have hadd : gAdd (.list odd12) (.list [v]) = some (.nls (odd12 ++ [v])) := q_addL odd12 [v] (by show 12 + 1 ≤ 16777216; decide)
    generalize hA : odd12 ++ [v] = A at *
    unfold odd12 at hadd
    unfold Q__law_no_book k__law_no_book
    rcases hcv with rfl | ⟨z, rfl, rfl⟩ <;> simp -implicitDefEqProofs (disch := (first | assumption | omega | decide)) only [DL.PV0, DL.PV1, DL.PV2, DL.PV3, DL.PV4, DL.PV5, DL.PV6, DL.PV7, DL.PV8, DL.PV9, DL.PV10, DL.PV11, DL.PV12, DL.PV13, DL.PV14, DL.PV15, DL.PV16, DL.PV17, DL.PV18, DL.PV19, DL.PV20, DL.PV21, DL.PV22, DL.PV23, DL.PV24, DL.PV25, DL.PV26, DL.PV27, List.getElem?_cons_zero, List.getElem?_cons_succ, List.getElem?_nil, List.set_cons_zero, List.set_cons_succ, List.length_cons, List.length_nil, List.map_cons, List.map_nil, List.replicate_succ, List.replicate_zero, List.cons_append, List.nil_append, Nat.reduceAdd, Nat.reduceSub, Nat.reduceLT, Nat.reduceLeDiff, Nat.reduceEqDiff, Int.reduceEq, Int.reduceLT, Int.reduceLE, Int.reduceNeg, decide_true, decide_false, Bool.not_true, Bool.not_false, Bool.and_true, Bool.and_false, Bool.true_and, Bool.false_and, Bool.and_self, Bool.or_true, Bool.or_false, decide_eq_true_eq, if_true, if_false, Int.ofNat_zero, Int.cast_ofNat_Int, Bool.false_eq_true, reduceIte, reduceCtorEq, Option.map_some, Option.map_none, Option.bind_some, List.nodup_nil, Nat.zero_add, Option.some.injEq, and_self, and_true, true_and, and_false, false_and, or_self, or_true, true_or, or_false, false_or, not_true_eq_false, not_false_eq_true, e1, e2, hadd]
end P08
namespace P08
open PySem PySem.Spec PyProof.Rows L2 DL
theorem wh_nil {ws : List (List Nat)} (h : ∀ w ∈ ws, Wd w) {t : List Nat} (htl : t.length ≤ 12) : nl ws t = [] ∨ t.length < 12 := by
  by_cases e : t.length < 12
  · exact .inr e
  · left
    cases hn : nl ws t with
    | nil => rfl
    | cons c r =>
      obtain ⟨w, hw, _, h3⟩ := mem_nl.mp (show c ∈ nl ws t by rw [hn]; exact List.mem_cons_self ..)
      have := (h w hw).2.2
      have := (List.getElem?_eq_some_iff.mp h3).1
      omega
theorem parts_for {ws : List (List Nat)} (hB : Bk ws) {t : List Nat} (ht : Ltr t) (a b c d e f g : Option Cell) (z : Option Cell) : ∀ (cs : List Nat) (acc : List (List Nat)) (x : Option Cell), (∀ q ∈ cs, 97 ≤ q ∧ q ≤ 122) → (cs = [] ∨ t.length < 12) → acc.length + cs.length * 60 ≤ 16777216 →
    ∃ x', pforL (pgN 10) b__law_is_right_4 (cs.map fun q => .str (ofL [q])) [a, some (.d (bookD ws)), b, c, some (.d (.str (ofL t))), d, e, f, g, some (.l true (acc.map tx)), x, z] = .nx [a, some (.d (bookD ws)), b, c, some (.d (.str (ofL t))), d, e, f, g, some (.l true ((acc ++ cs.flatMap fun q => withB ws (t ++ [q])).map tx)), x', z]
  | [], acc, x, _, _, _ => ⟨x, by rw [List.flatMap_nil, List.append_nil]; rfl⟩
  | q :: cs, acc, x, hq, hl, hn => by
    have hl : t.length < 12 := hl.resolve_left (by simp)
    have hqq := hq q (List.mem_cons_self ..)
    have hlq : Ltr (t ++ [q]) := ht.app fun v hv => by rw [List.mem_singleton.mp hv]; exact hqq
    rw [List.length_cons] at hn
    have hws : (withB ws (t ++ [q])).length ≤ 60 := Nat.le_trans (withB_sub ws _).length_le hB.2.2
    have hx := q_ext (ds := acc.map tx) (es := (withB ws (t ++ [q])).map tx) (by rw [List.length_map, List.length_map]; omega)
    have hw := with_beginning_ok hB hlq (by rw [List.length_append]; simp only [List.length_cons, List.length_nil]; omega)
    have hcl : cList [bookD (withB ws (t ++ [q]))] = some (.nls ((withB ws (t ++ [q])).map tx)) := rfl
    have hadd := q_addS (l := t) (m := [q]) (by simp only [List.length_cons, List.length_nil]; omega)
    have hl' : (t.length : Int) < 12 := by omega
    have e1 : pf1 (pgN 10) b__law_is_right_4 (.str (ofL [q])) [a, some (.d (bookD ws)), b, c, some (.d (.str (ofL t))), d, e, f, g, some (.l true (acc.map tx)), x, z] = .nx [a, some (.d (bookD ws)), b, c, some (.d (.str (ofL t))), d, e, f, g, some (.l true ((acc ++ withB ws (t ++ [q])).map tx)), some (.d (.str (ofL [q]))), z] := by
      unfold b__law_is_right_4
      rw [List.map_append]
      simp -implicitDefEqProofs (disch := (first | assumption | omega | decide)) only [DL.PV0, DL.PV1, DL.PV2, DL.PV3, DL.PV4, DL.PV5, DL.PV6, DL.PV7, DL.PV8, DL.PV9, DL.PV10, DL.PV11, DL.PV12, DL.PV13, DL.PV14, DL.PV15, DL.PV16, DL.PV17, DL.PV18, DL.PV19, DL.PV20, DL.PV21, DL.PV22, DL.PV23, DL.PV24, DL.PV25, DL.PV26, DL.PV27, List.getElem?_cons_zero, List.getElem?_cons_succ, List.getElem?_nil, List.set_cons_zero, List.set_cons_succ, List.length_cons, List.length_nil, List.map_cons, List.map_nil, List.replicate_succ, List.replicate_zero, List.cons_append, List.nil_append, Nat.reduceAdd, Nat.reduceSub, Nat.reduceLT, Nat.reduceLeDiff, Nat.reduceEqDiff, Int.reduceEq, Int.reduceLT, Int.reduceLE, Int.reduceNeg, decide_true, decide_false, Bool.not_true, Bool.not_false, Bool.and_true, Bool.and_false, Bool.true_and, Bool.false_and, Bool.and_self, Bool.or_true, Bool.or_false, decide_eq_true_eq, if_true, if_false, Int.ofNat_zero, Int.cast_ofNat_Int, Bool.false_eq_true, reduceIte, reduceCtorEq, Option.map_some, Option.map_none, Option.bind_some, List.nodup_nil, Nat.zero_add, Option.some.injEq, and_self, and_true, true_and, and_false, false_and, or_self, or_true, true_or, or_false, false_or, not_true_eq_false, not_false_eq_true, hl', hadd, hw, hcl, hx]
    obtain ⟨x', h2⟩ := parts_for hB ht a b c d e f g z cs (acc ++ withB ws (t ++ [q])) (some (.d (.str (ofL [q])))) (fun v hv => hq v (List.mem_cons_of_mem _ hv)) (.inr hl) (by rw [List.length_append]; omega)
    refine ⟨x', ?_⟩
    rw [List.map_cons, pfor_cons, e1]
    show pforL _ _ _ _ = _
    rw [h2, List.flatMap_cons, List.append_assoc]
theorem right_5 {ws : List (List Nat)} (hB : Bk ws) {t : List Nat} (ht : Ltr t) (htl : t.length ≤ 12) (a b c d x4 x6 x7 x9 x10 x11 : Option Cell) : ∃ y7 y9 y10, pf1 (pgN 4) b__law_is_right_5 (tx t) [a, some (.d (bookD ws)), b, c, x4, d, x6, x7, none, x9, x10, x11] = .nx [a, some (.d (bookD ws)), b, c, some (.d (tx t)), d, x6, y7, none, y9, y10, x11] := by
  have hnil : ([] : List PD).length + ws.length ≤ 16777216 := by rw [List.length_nil]; have := hB.2.2; omega
  have pt := ht.pl
  have c1 : ∀ env, env = ([a, some (.d (bookD ws)), b, c, some (.d (.str (ofL t))), d, x6, x7, none, x9, x10, x11] : DL.Env) → pcompL (pgN 8) (ptOf (p2 gEq (pSl gSl (pV 8) none (some (pCall cLen (pCons (pV 4) pN)))) (pV 4))) e__law_is_right_3 [8] (ws.map tx) [] env = .ok ([] ++ (withB ws t).map tx) env := by
    rintro env rfl
    refine pcomp_filt _ tx tx (fun w => decide (w.take t.length = t)) ws [] (fun w hm => ?_) hnil
    have hw := hB.1 w hm
    have hwl := hw.2.2
    have p1 := (hw.1.take t.length).pl
    unfold tx
    by_cases e : w.take t.length = t
    · simp -implicitDefEqProofs (disch := (first | assumption | omega | decide)) only [DL.PV0, DL.PV1, DL.PV2, DL.PV3, DL.PV4, DL.PV5, DL.PV6, DL.PV7, DL.PV8, DL.PV9, DL.PV10, DL.PV11, DL.PV12, DL.PV13, DL.PV14, DL.PV15, DL.PV16, DL.PV17, DL.PV18, DL.PV19, DL.PV20, DL.PV21, DL.PV22, DL.PV23, DL.PV24, DL.PV25, DL.PV26, DL.PV27, List.getElem?_cons_zero, List.getElem?_cons_succ, List.getElem?_nil, List.set_cons_zero, List.set_cons_succ, List.length_cons, List.length_nil, List.map_cons, List.map_nil, List.replicate_succ, List.replicate_zero, List.cons_append, List.nil_append, Nat.reduceAdd, Nat.reduceSub, Nat.reduceLT, Nat.reduceLeDiff, Nat.reduceEqDiff, Int.reduceEq, Int.reduceLT, Int.reduceLE, Int.reduceNeg, decide_true, decide_false, Bool.not_true, Bool.not_false, Bool.and_true, Bool.and_false, Bool.true_and, Bool.false_and, Bool.and_self, Bool.or_true, Bool.or_false, decide_eq_true_eq, if_true, if_false, Int.ofNat_zero, Int.cast_ofNat_Int, Bool.false_eq_true, reduceIte, reduceCtorEq, Option.map_some, Option.map_none, Option.bind_some, List.nodup_nil, Nat.zero_add, Option.some.injEq, and_self, and_true, true_and, and_false, false_and, or_self, or_true, true_or, or_false, false_or, not_true_eq_false, not_false_eq_true, e__law_is_right_3, cutL_to w t.length, e]
    · simp -implicitDefEqProofs (disch := (first | assumption | omega | decide)) only [DL.PV0, DL.PV1, DL.PV2, DL.PV3, DL.PV4, DL.PV5, DL.PV6, DL.PV7, DL.PV8, DL.PV9, DL.PV10, DL.PV11, DL.PV12, DL.PV13, DL.PV14, DL.PV15, DL.PV16, DL.PV17, DL.PV18, DL.PV19, DL.PV20, DL.PV21, DL.PV22, DL.PV23, DL.PV24, DL.PV25, DL.PV26, DL.PV27, List.getElem?_cons_zero, List.getElem?_cons_succ, List.getElem?_nil, List.set_cons_zero, List.set_cons_succ, List.length_cons, List.length_nil, List.map_cons, List.map_nil, List.replicate_succ, List.replicate_zero, List.cons_append, List.nil_append, Nat.reduceAdd, Nat.reduceSub, Nat.reduceLT, Nat.reduceLeDiff, Nat.reduceEqDiff, Int.reduceEq, Int.reduceLT, Int.reduceLE, Int.reduceNeg, decide_true, decide_false, Bool.not_true, Bool.not_false, Bool.and_true, Bool.and_false, Bool.true_and, Bool.false_and, Bool.and_self, Bool.or_true, Bool.or_false, decide_eq_true_eq, if_true, if_false, Int.ofNat_zero, Int.cast_ofNat_Int, Bool.false_eq_true, reduceIte, reduceCtorEq, Option.map_some, Option.map_none, Option.bind_some, List.nodup_nil, Nat.zero_add, Option.some.injEq, and_self, and_true, true_and, and_false, false_and, or_self, or_true, true_or, or_false, false_or, not_true_eq_false, not_false_eq_true, e__law_is_right_3, cutL_to w t.length, e]
  have hwp : ∀ w ∈ withB ws t, Pl w := fun w hw => (hB.1 w ((withB_sub ws t).subset hw)).pl
  have gW := gd_row hwp
  have n1 : gNe (.list [bookD (withB ws t), bookD (withB ws t)]) (.list [bookD (withB ws t), bookD (withB ws t)]) = some (.val (.bool false)) := q_neF (n := 2) (gd_list (gd_cons gW (gd_cons gW (gd_nil 1)))) (by decide)
  have n2 : gNe (bookD (withB ws t)) (bookD (withB ws t)) = some (.val (.bool false)) := q_neF gW (by decide)
  have pn : Pl (nl ws t) := fun q hq => by
    obtain ⟨w, hw, _, h3⟩ := mem_nl.mp hq
    exact (hB.1 w hw).pl q (List.mem_of_getElem? h3)
  have hcs : ∀ q ∈ nl ws t, 97 ≤ q ∧ q ≤ 122 := fun q hq => by
    obtain ⟨w, hw, _, h3⟩ := mem_nl.mp hq
    exact (hB.1 w hw).1 q (List.mem_of_getElem? h3)
  have hnl := nl_len ws t
  have hnx := nx_len ws t
  have hb60 := hB.2.2
  have hsr := srt_eq ((hB.2.1).sublist (withB_sub ws t)) (parts_perm hB.nodup t)
  have hpl : (parts ws t).length ≤ 16777216 := by rw [(parts_perm hB.nodup t).length_eq]; have := (withB_sub ws t).length_le; omega
  have hsort := q_srt hpl
  rw [hsr] at hsort
  have hnlen : (nl ws t).length ≤ 16777216 := by omega
  have hin := q_inB t ws
  unfold tx
  by_cases hm : t ∈ ws
  · obtain ⟨x', hf⟩ := parts_for hB ht a b c d x6 (some (.d (bookD (withB ws t)))) none x11 (nl ws t) [t] x10 hcs (wh_nil hB.1 htl) (by rw [List.length_cons, List.length_nil]; omega)
    have hp : [t] ++ ((nl ws t).flatMap fun q => withB ws (t ++ [q])) = parts ws t := by unfold parts; rw [if_pos hm]
    rw [hp] at hf
    have hf : pforL (pgN 10) b__law_is_right_4 _ [a, some (.d (bookD ws)), b, c, some (.d (.str (ofL t))), d, x6, some (.d (bookD (withB ws t))), none, some (.l true [.str (ofL t)]), x10, x11] = _ := hf
    refine ⟨some (.d (bookD (withB ws t))), some (.l true ((parts ws t).map tx)), x', ?_⟩
    unfold b__law_is_right_5
    simp -implicitDefEqProofs (disch := (first | assumption | omega | decide)) only [DL.PV0, DL.PV1, DL.PV2, DL.PV3, DL.PV4, DL.PV5, DL.PV6, DL.PV7, DL.PV8, DL.PV9, DL.PV10, DL.PV11, DL.PV12, DL.PV13, DL.PV14, DL.PV15, DL.PV16, DL.PV17, DL.PV18, DL.PV19, DL.PV20, DL.PV21, DL.PV22, DL.PV23, DL.PV24, DL.PV25, DL.PV26, DL.PV27, List.getElem?_cons_zero, List.getElem?_cons_succ, List.getElem?_nil, List.set_cons_zero, List.set_cons_succ, List.length_cons, List.length_nil, List.map_cons, List.map_nil, List.replicate_succ, List.replicate_zero, List.cons_append, List.nil_append, Nat.reduceAdd, Nat.reduceSub, Nat.reduceLT, Nat.reduceLeDiff, Nat.reduceEqDiff, Int.reduceEq, Int.reduceLT, Int.reduceLE, Int.reduceNeg, decide_true, decide_false, Bool.not_true, Bool.not_false, Bool.and_true, Bool.and_false, Bool.true_and, Bool.false_and, Bool.and_self, Bool.or_true, Bool.or_false, decide_eq_true_eq, if_true, if_false, Int.ofNat_zero, Int.cast_ofNat_Int, Bool.false_eq_true, reduceIte, reduceCtorEq, Option.map_some, Option.map_none, Option.bind_some, List.nodup_nil, Nat.zero_add, Option.some.injEq, and_self, and_true, true_and, and_false, false_and, or_self, or_true, true_or, or_false, false_or, not_true_eq_false, not_false_eq_true, q_itB, c1 _ rfl, q_tupB, with_beginning_ok hB ht htl, n1, next_letters_ok hB ht htl, law_next_ok hB ht htl, hin, hm, hf, hsort, n2]
  · obtain ⟨x', hf⟩ := parts_for hB ht a b c d x6 (some (.d (bookD (withB ws t)))) none x11 (nl ws t) [] x10 hcs (wh_nil hB.1 htl) (by rw [List.length_nil]; omega)
    have hp : [] ++ ((nl ws t).flatMap fun q => withB ws (t ++ [q])) = parts ws t := by unfold parts; rw [if_neg hm]
    rw [hp] at hf
    have hf : pforL (pgN 10) b__law_is_right_4 _ [a, some (.d (bookD ws)), b, c, some (.d (.str (ofL t))), d, x6, some (.d (bookD (withB ws t))), none, some (.l true []), x10, x11] = _ := hf
    refine ⟨some (.d (bookD (withB ws t))), some (.l true ((parts ws t).map tx)), x', ?_⟩
    unfold b__law_is_right_5
    simp -implicitDefEqProofs (disch := (first | assumption | omega | decide)) only [DL.PV0, DL.PV1, DL.PV2, DL.PV3, DL.PV4, DL.PV5, DL.PV6, DL.PV7, DL.PV8, DL.PV9, DL.PV10, DL.PV11, DL.PV12, DL.PV13, DL.PV14, DL.PV15, DL.PV16, DL.PV17, DL.PV18, DL.PV19, DL.PV20, DL.PV21, DL.PV22, DL.PV23, DL.PV24, DL.PV25, DL.PV26, DL.PV27, List.getElem?_cons_zero, List.getElem?_cons_succ, List.getElem?_nil, List.set_cons_zero, List.set_cons_succ, List.length_cons, List.length_nil, List.map_cons, List.map_nil, List.replicate_succ, List.replicate_zero, List.cons_append, List.nil_append, Nat.reduceAdd, Nat.reduceSub, Nat.reduceLT, Nat.reduceLeDiff, Nat.reduceEqDiff, Int.reduceEq, Int.reduceLT, Int.reduceLE, Int.reduceNeg, decide_true, decide_false, Bool.not_true, Bool.not_false, Bool.and_true, Bool.and_false, Bool.true_and, Bool.false_and, Bool.and_self, Bool.or_true, Bool.or_false, decide_eq_true_eq, if_true, if_false, Int.ofNat_zero, Int.cast_ofNat_Int, Bool.false_eq_true, reduceIte, reduceCtorEq, Option.map_some, Option.map_none, Option.bind_some, List.nodup_nil, Nat.zero_add, Option.some.injEq, and_self, and_true, true_and, and_false, false_and, or_self, or_true, true_or, or_false, false_or, not_true_eq_false, not_false_eq_true, q_itB, c1 _ rfl, q_tupB, with_beginning_ok hB ht htl, n1, next_letters_ok hB ht htl, law_next_ok hB ht htl, hin, hm, hf, hsort, n2]
theorem begs_mono {ws vs : List (List Nat)} (h : ∀ w ∈ ws, w ∈ vs) : ∀ x ∈ begs ws, x ∈ begs vs := fun x hx => by
  obtain ⟨w, hw, h2⟩ := List.mem_flatMap.mp hx
  exact List.mem_flatMap.mpr ⟨w, h w hw, h2⟩
theorem is_right_ok {ds : List PD} (H : HandP ds) {ws : List (List Nat)} (hB : Bk ws) (hn : ws.length ≤ 59) : ∃ ds', HandP ds' ∧ ∀ o, Q__law_is_right [.l o ds, .d (bookD ws)] = .ok (.d (.bool true)) [ds'] := by
  have habc : Ltr [97, 98, 99] := by decide
  obtain ⟨w0, d1, H1, hw0, w1, w2, e1⟩ := law_word_ok H (sg := [97, 98, 99]) (by decide) (by decide) (s := 1) (l := 4) (by decide) (by decide) (by decide)
  have hw0 : Ltr w0 := fun c hc => habc c (hw0 c hc)
  generalize hE : ss (begs ws) = E at *
  have hEl : ∀ t ∈ E, Ltr t ∧ t.length ≤ 12 := fun t ht => begs_ltr hB.1 (mem_ss.mp (by rw [hE]; exact ht))
  have hE4 : E.length < 4000 := by rw [← hE]; have := ss_len (begs ws); have := begs_len hB.1 (by omega); omega
  have hbeg := law_begun_ok hB
  have hmany := beginnings_many_ok hB
  have hspl := split_points_ok hB
  rw [hE] at hbeg hmany
  have gI : ∀ i : Int, gNe (.list [.int i, .int i]) (.list [.int i, .int i]) = some (.val (.bool false)) := fun i => q_neF (n := 1) (gd_list (gd_cons (gd_int 0 i) (gd_cons (gd_int 0 i) (gd_nil 0)))) (by decide)
  have hsp : ∀ w ∈ spl ws, Pl w := fun w hw => (hEl w (by rw [← hE]; exact (List.mem_filter.mp hw).1)).1.pl
  have gS := gd_row hsp
  have n1 : gNe (.list [bookD (spl ws), bookD (spl ws)]) (.list [bookD (spl ws), bookD (spl ws)]) = some (.val (.bool false)) := q_neF (n := 2) (gd_list (gd_cons gS (gd_cons gS (gd_nil 1)))) (by decide)
  have c1 : ∀ env, env = ([some (.l false ds), some (.d (bookD ws)), some (.d (.list (E.map tx))), none, none, none, none, none, none, none, none, none] : DL.Env) → pcompL (pgN 4) (ptOf (p2 gGt (pCall cLen (pCons (pDef Q__law_next [false, false] 2 (pCons (pV 1) (pCons (pV 4) pN))) pN)) (pC (.int 1)))) e__law_is_right_1 [4] (E.map tx) [] env = .ok ([] ++ (spl ws).map tx) env := by
    rintro env rfl
    unfold spl
    rw [hE]
    refine pcomp_filt _ tx tx (fun t => decide (1 < (nx ws t).length)) E [] (fun t hm => ?_) (by rw [List.length_nil]; omega)
    obtain ⟨ht, htl⟩ := hEl t hm
    have hr := law_next_ok hB ht htl
    have hnl := nl_len ws t
    have hnx := nx_len ws t
    have hnb : (nl ws t).length ≤ 16777216 := by omega
    unfold tx
    by_cases e : 1 < (nx ws t).length
    · have e' : (1 : Int) < ((nl ws t).length : Int) := by omega
      simp -implicitDefEqProofs (disch := (first | assumption | omega | decide)) only [DL.PV0, DL.PV1, DL.PV2, DL.PV3, DL.PV4, DL.PV5, DL.PV6, DL.PV7, DL.PV8, DL.PV9, DL.PV10, DL.PV11, DL.PV12, DL.PV13, DL.PV14, DL.PV15, DL.PV16, DL.PV17, DL.PV18, DL.PV19, DL.PV20, DL.PV21, DL.PV22, DL.PV23, DL.PV24, DL.PV25, DL.PV26, DL.PV27, List.getElem?_cons_zero, List.getElem?_cons_succ, List.getElem?_nil, List.set_cons_zero, List.set_cons_succ, List.length_cons, List.length_nil, List.map_cons, List.map_nil, List.replicate_succ, List.replicate_zero, List.cons_append, List.nil_append, Nat.reduceAdd, Nat.reduceSub, Nat.reduceLT, Nat.reduceLeDiff, Nat.reduceEqDiff, Int.reduceEq, Int.reduceLT, Int.reduceLE, Int.reduceNeg, decide_true, decide_false, Bool.not_true, Bool.not_false, Bool.and_true, Bool.and_false, Bool.true_and, Bool.false_and, Bool.and_self, Bool.or_true, Bool.or_false, decide_eq_true_eq, if_true, if_false, Int.ofNat_zero, Int.cast_ofNat_Int, Bool.false_eq_true, reduceIte, reduceCtorEq, Option.map_some, Option.map_none, Option.bind_some, List.nodup_nil, Nat.zero_add, Option.some.injEq, and_self, and_true, true_and, and_false, false_and, or_self, or_true, true_or, or_false, false_or, not_true_eq_false, not_false_eq_true, e__law_is_right_1, hr, e, e']
    · have e' : ¬ (1 : Int) < ((nl ws t).length : Int) := by omega
      simp -implicitDefEqProofs (disch := (first | assumption | omega | decide)) only [DL.PV0, DL.PV1, DL.PV2, DL.PV3, DL.PV4, DL.PV5, DL.PV6, DL.PV7, DL.PV8, DL.PV9, DL.PV10, DL.PV11, DL.PV12, DL.PV13, DL.PV14, DL.PV15, DL.PV16, DL.PV17, DL.PV18, DL.PV19, DL.PV20, DL.PV21, DL.PV22, DL.PV23, DL.PV24, DL.PV25, DL.PV26, DL.PV27, List.getElem?_cons_zero, List.getElem?_cons_succ, List.getElem?_nil, List.set_cons_zero, List.set_cons_succ, List.length_cons, List.length_nil, List.map_cons, List.map_nil, List.replicate_succ, List.replicate_zero, List.cons_append, List.nil_append, Nat.reduceAdd, Nat.reduceSub, Nat.reduceLT, Nat.reduceLeDiff, Nat.reduceEqDiff, Int.reduceEq, Int.reduceLT, Int.reduceLE, Int.reduceNeg, decide_true, decide_false, Bool.not_true, Bool.not_false, Bool.and_true, Bool.and_false, Bool.true_and, Bool.false_and, Bool.and_self, Bool.or_true, Bool.or_false, decide_eq_true_eq, if_true, if_false, Int.ofNat_zero, Int.cast_ofNat_Int, Bool.false_eq_true, reduceIte, reduceCtorEq, Option.map_some, Option.map_none, Option.bind_some, List.nodup_nil, Nat.zero_add, Option.some.injEq, and_self, and_true, true_and, and_false, false_and, or_self, or_true, true_or, or_false, false_or, not_true_eq_false, not_false_eq_true, e__law_is_right_1, hr, e, e']
  have hfor : ∀ (d : List PD) (ts : List (List Nat)) (x6 : Option Cell), (∀ t ∈ ts, Ltr t ∧ t.length ≤ 12) → ∃ y4 y7 y9 y10, pforL (pgN 4) b__law_is_right_5 (ts.map tx) [some (.l false d), some (.d (bookD ws)), some (.d (.list (E.map tx))), some (.d (bookD (spl ws))), none, some (.d (.list (ts.map tx))), x6, none, none, none, none, none] = .nx [some (.l false d), some (.d (bookD ws)), some (.d (.list (E.map tx))), some (.d (bookD (spl ws))), y4, some (.d (.list (ts.map tx))), x6, y7, none, y9, y10, none] := by
    intro d ts x6 hts
    obtain ⟨_, g1, _, y4, y7, y9, y10, rfl⟩ := pfor_inv (tg := pgN 4) (body := b__law_is_right_5)
      (fun items env => (∀ x ∈ items, ∃ t, x = tx t ∧ Ltr t ∧ t.length ≤ 12) ∧ ∃ y4 y7 y9 y10, env = [some (.l false d), some (.d (bookD ws)), some (.d (.list (E.map tx))), some (.d (bookD (spl ws))), y4, some (.d (.list (ts.map tx))), x6, y7, none, y9, y10, none])
      (fun x r env => by
        rintro ⟨hx, y4, y7, y9, y10, rfl⟩
        obtain ⟨t, rfl, h1, h2⟩ := hx x (List.mem_cons_self ..)
        obtain ⟨z7, z9, z10, e⟩ := right_5 hB h1 h2 (some (.l false d)) (some (.d (.list (E.map tx)))) (some (.d (bookD (spl ws)))) (some (.d (.list (ts.map tx)))) y4 x6 y7 y9 y10 none
        exact ⟨_, e, fun v hv => hx v (List.mem_cons_of_mem _ hv), _, _, _, _, rfl⟩)
      (ts.map tx) [some (.l false d), some (.d (bookD ws)), some (.d (.list (E.map tx))), some (.d (bookD (spl ws))), none, some (.d (.list (ts.map tx))), x6, none, none, none, none, none]
      ⟨fun x hx => by obtain ⟨t, ht, rfl⟩ := List.mem_map.mp hx; exact ⟨t, rfl, hts t ht⟩, _, _, _, _, rfl⟩
    exact ⟨y4, y7, y9, y10, g1⟩
  have h12 : Ltr [97, 98, 99, 97, 98, 99, 97, 98, 99, 97, 98, 99] := by decide
  have ht3 : ∀ t ∈ [w0, [], [97, 98, 99, 97, 98, 99, 97, 98, 99, 97, 98, 99]], Ltr t ∧ t.length ≤ 12 := fun t ht => by
    simp only [List.mem_cons, List.not_mem_nil, or_false] at ht
    rcases ht with rfl | rfl | rfl
    · exact ⟨hw0, by omega⟩
    · exact ⟨fun c hc => (by cases hc), Nat.zero_le _⟩
    · exact ⟨h12, by decide⟩
  have last : ∀ d2, HandP d2 → ∃ (w : List Nat) (d3 : List PD), HandP d3 ∧ Wd w ∧ (∀ o, Q__law_word [.l o d2, .d (.str (ofL [97, 98, 99])), .d (.int 1), .d (.int 4)] = .ok (.d (tx w)) [d3]) ∧ gAdd (bookD ws) (.tuple [.str (ofL w)]) = some (.val (bookD (ws ++ [w]))) ∧ gSortSet (bookD (ws ++ [w])) = some (.nls ((ss (ws ++ [w])).map tx)) ∧ Q_beginnings_many [.d (bookD (ss (ws ++ [w])))] = .ok (.d (.int (((ss (begs (ss (ws ++ [w])))).length : Nat) : Int))) [] ∧ (E.length : Int) ≤ (((ss (begs (ss (ws ++ [w])))).length : Nat) : Int) := by
    intro d2 H2
    obtain ⟨w, d3, H3, hw, v1, v2, e3⟩ := law_word_ok H2 (sg := [97, 98, 99]) (by decide) (by decide) (s := 1) (l := 4) (by decide) (by decide) (by decide)
    have hwd : Wd w := ⟨fun c hc => habc c (hw c hc), by omega, by omega⟩
    have hall : ∀ v ∈ ws ++ [w], Wd v := fun v hv => by
      rcases List.mem_append.mp hv with h | h
      · exact hB.1 v h
      · rw [List.mem_singleton.mp h]; exact hwd
    have hl : (ws ++ [w]).length ≤ 60 := by rw [List.length_append, List.length_cons, List.length_nil]; omega
    refine ⟨w, d3, H3, hwd, e3, gAdd_book (ws := ws) (vs := [w]) (by rw [List.length_cons, List.length_nil]; omega), q_ssetT (by omega), beginnings_many_ok (ss_book hall hl), ?_⟩
    have := ss_mono (begs_mono (ws := ws) (vs := ss (ws ++ [w])) fun v hv => mem_ss.mpr (List.mem_append_left _ hv))
    rw [hE] at this
    omega
  by_cases h0 : 0 < E.length
  · -- three drawn beginnings
    obtain ⟨xs, _, g1, ⟨d2, H2, rfl⟩, g3⟩ := pcomp_inv (tg := pgN 6) (tt := fun env => .ok true env) (te := e__law_is_right_2) (vs := [6]) (fun (i : Nat) => PyData.int (0 + i))
      (fun env => ∃ d2, HandP d2 ∧ env = [some (.l false d2), some (.d (bookD ws)), some (.d (.list (E.map tx))), some (.d (bookD (spl ws))), none, some (.l true [.str (ofL w0), .str (ofL []), .str (ofL [97, 98, 99, 97, 98, 99, 97, 98, 99, 97, 98, 99])]), none, none, none, none, none, none])
      (fun _ x => ∃ t, x = tx t ∧ t ∈ E)
      (fun a env => by
        rintro ⟨d2, H2, rfl⟩
        obtain ⟨x, d3, H3, hx, e3⟩ := any_ok H2 (E.map tx) (by rw [List.length_map]; exact h0) (by rw [List.length_map]; omega)
        obtain ⟨t, ht, rfl⟩ := List.mem_map.mp hx
        refine ⟨tx t, _, ?_, ⟨d3, H3, rfl⟩, t, rfl, ht⟩
        unfold e__law_is_right_2
        simp -implicitDefEqProofs (disch := (first | assumption | omega | decide)) only [DL.PV0, DL.PV1, DL.PV2, DL.PV3, DL.PV4, DL.PV5, DL.PV6, DL.PV7, DL.PV8, DL.PV9, DL.PV10, DL.PV11, DL.PV12, DL.PV13, DL.PV14, DL.PV15, DL.PV16, DL.PV17, DL.PV18, DL.PV19, DL.PV20, DL.PV21, DL.PV22, DL.PV23, DL.PV24, DL.PV25, DL.PV26, DL.PV27, List.getElem?_cons_zero, List.getElem?_cons_succ, List.getElem?_nil, List.set_cons_zero, List.set_cons_succ, List.length_cons, List.length_nil, List.map_cons, List.map_nil, List.replicate_succ, List.replicate_zero, List.cons_append, List.nil_append, Nat.reduceAdd, Nat.reduceSub, Nat.reduceLT, Nat.reduceLeDiff, Nat.reduceEqDiff, Int.reduceEq, Int.reduceLT, Int.reduceLE, Int.reduceNeg, decide_true, decide_false, Bool.not_true, Bool.not_false, Bool.and_true, Bool.and_false, Bool.true_and, Bool.false_and, Bool.and_self, Bool.or_true, Bool.or_false, decide_eq_true_eq, if_true, if_false, Int.ofNat_zero, Int.cast_ofNat_Int, Bool.false_eq_true, reduceIte, reduceCtorEq, Option.map_some, Option.map_none, Option.bind_some, List.nodup_nil, Nat.zero_add, Option.some.injEq, and_self, and_true, true_and, and_false, false_and, or_self, or_true, true_or, or_false, false_or, not_true_eq_false, not_false_eq_true, e3]) (List.range 3) [] _ ⟨d1, H1, rfl⟩ (by decide)
    obtain ⟨ts, rfl, hts1, hts2⟩ := al2_map tx g3
    obtain ⟨w, d3, H3, hwd, e3, ha, hs, hm, hge⟩ := last d2 H2
    have htl : ts.length = 3 := by rw [hts1]; rfl
    have hall : ∀ t ∈ [w0, [], [97, 98, 99, 97, 98, 99, 97, 98, 99, 97, 98, 99]] ++ ts, Ltr t ∧ t.length ≤ 12 := fun t ht => by
      rcases List.mem_append.mp ht with h | h
      · exact ht3 t h
      · obtain ⟨_, _, h⟩ := hts2 t h
        exact hEl t h
    obtain ⟨y4, y7, y9, y10, hf⟩ := hfor d2 _ none hall
    have hadd : gAdd (.list [.str (ofL w0), .str (ofL []), .str (ofL [97, 98, 99, 97, 98, 99, 97, 98, 99, 97, 98, 99])]) (.list (ts.map tx)) = some (.nls (([w0, [], [97, 98, 99, 97, 98, 99, 97, 98, 99, 97, 98, 99]] ++ ts).map tx)) := by
      rw [List.map_append]
      exact q_addL _ _ (by rw [List.length_map, htl]; show 3 + 3 ≤ 16777216; decide)
    have g1 : pcompL (pgN 6) (fun env => .ok true env) e__law_is_right_2 [6] (rangeL 0 (3 : Int).toNat) [] _ = _ := g1
    rw [List.nil_append] at g1
    have h0' : (0 : Int) < (E.length : Int) := by omega
    generalize hT : ([w0, [], [97, 98, 99, 97, 98, 99, 97, 98, 99, 97, 98, 99]] ++ ts) = TT at *
    refine ⟨d3, H3, fun o => ?_⟩
    unfold Q__law_is_right k__law_is_right
    simp -implicitDefEqProofs (disch := (first | assumption | omega | decide)) only [DL.PV0, DL.PV1, DL.PV2, DL.PV3, DL.PV4, DL.PV5, DL.PV6, DL.PV7, DL.PV8, DL.PV9, DL.PV10, DL.PV11, DL.PV12, DL.PV13, DL.PV14, DL.PV15, DL.PV16, DL.PV17, DL.PV18, DL.PV19, DL.PV20, DL.PV21, DL.PV22, DL.PV23, DL.PV24, DL.PV25, DL.PV26, DL.PV27, List.getElem?_cons_zero, List.getElem?_cons_succ, List.getElem?_nil, List.set_cons_zero, List.set_cons_succ, List.length_cons, List.length_nil, List.map_cons, List.map_nil, List.replicate_succ, List.replicate_zero, List.cons_append, List.nil_append, Nat.reduceAdd, Nat.reduceSub, Nat.reduceLT, Nat.reduceLeDiff, Nat.reduceEqDiff, Int.reduceEq, Int.reduceLT, Int.reduceLE, Int.reduceNeg, decide_true, decide_false, Bool.not_true, Bool.not_false, Bool.and_true, Bool.and_false, Bool.true_and, Bool.false_and, Bool.and_self, Bool.or_true, Bool.or_false, decide_eq_true_eq, if_true, if_false, Int.ofNat_zero, Int.cast_ofNat_Int, Bool.false_eq_true, reduceIte, reduceCtorEq, Option.map_some, Option.map_none, Option.bind_some, List.nodup_nil, Nat.zero_add, Option.some.injEq, and_self, and_true, true_and, and_false, false_and, or_self, or_true, true_or, or_false, false_or, not_true_eq_false, not_false_eq_true, hbeg, hmany, List.length_map, gI, c1 _ rfl, q_tupB, hspl, n1, e1, h0', g1, hadd, hf, e3, ha, hs, hm, hge]
  · have h0' : ¬ (0 : Int) < (E.length : Int) := by omega
    obtain ⟨y4, y7, y9, y10, hf⟩ := hfor d1 _ none ht3
    obtain ⟨w, d3, H3, hwd, e3, ha, hs, hm, hge⟩ := last d1 H1
    have hf : pforL (pgN 4) b__law_is_right_5 [.str (ofL w0), .str (ofL []), .str (ofL [97, 98, 99, 97, 98, 99, 97, 98, 99, 97, 98, 99])] [some (.l false d1), some (.d (bookD ws)), some (.d (.list (E.map tx))), some (.d (bookD (spl ws))), none, some (.d (.list [.str (ofL w0), .str (ofL []), .str (ofL [97, 98, 99, 97, 98, 99, 97, 98, 99, 97, 98, 99])])), none, none, none, none, none, none] = _ := hf
    refine ⟨d3, H3, fun o => ?_⟩
    unfold Q__law_is_right k__law_is_right
    simp -implicitDefEqProofs (disch := (first | assumption | omega | decide)) only [DL.PV0, DL.PV1, DL.PV2, DL.PV3, DL.PV4, DL.PV5, DL.PV6, DL.PV7, DL.PV8, DL.PV9, DL.PV10, DL.PV11, DL.PV12, DL.PV13, DL.PV14, DL.PV15, DL.PV16, DL.PV17, DL.PV18, DL.PV19, DL.PV20, DL.PV21, DL.PV22, DL.PV23, DL.PV24, DL.PV25, DL.PV26, DL.PV27, List.getElem?_cons_zero, List.getElem?_cons_succ, List.getElem?_nil, List.set_cons_zero, List.set_cons_succ, List.length_cons, List.length_nil, List.map_cons, List.map_nil, List.replicate_succ, List.replicate_zero, List.cons_append, List.nil_append, Nat.reduceAdd, Nat.reduceSub, Nat.reduceLT, Nat.reduceLeDiff, Nat.reduceEqDiff, Int.reduceEq, Int.reduceLT, Int.reduceLE, Int.reduceNeg, decide_true, decide_false, Bool.not_true, Bool.not_false, Bool.and_true, Bool.and_false, Bool.true_and, Bool.false_and, Bool.and_self, Bool.or_true, Bool.or_false, decide_eq_true_eq, if_true, if_false, Int.ofNat_zero, Int.cast_ofNat_Int, Bool.false_eq_true, reduceIte, reduceCtorEq, Option.map_some, Option.map_none, Option.bind_some, List.nodup_nil, Nat.zero_add, Option.some.injEq, and_self, and_true, true_and, and_false, false_and, or_self, or_true, true_or, or_false, false_or, not_true_eq_false, not_false_eq_true, hbeg, hmany, List.length_map, gI, c1 _ rfl, q_tupB, hspl, n1, e1, h0', hf, e3, ha, hs, hm, hge]
end P08
namespace P08
open PySem PySem.Spec PyProof.Rows L2 DL
theorem told_book : hv__law_told (.er ⟨Str.ofString "NoBook", []⟩) = some (.str (ofL [98, 111, 111, 107])) := by rfl
theorem told_text : hv__law_told (.er ⟨Str.ofString "NoText", []⟩) = some (.str (ofL [116, 101, 120, 116])) := by rfl
theorem told_es1 : esN es__law_told ⟨Str.ofString "NoBook", []⟩ = true := by decide +kernel
theorem told_es2 : esN es__law_told ⟨Str.ofString "NoText", []⟩ = true := by decide +kernel
def badT : List PD := [.none, .str (ofL [65]), .str (ofL [97, 32, 98]), .str (ofL [97, 98, 99, 97, 98, 99, 97, 98, 99, 97, 98, 99, 97]), .int 1, .tuple [.str (ofL [97])], .list [], .dict []]
theorem text_bad {x : PD} (h : x ∈ badT) : Q_check_text [.d x] = .er ⟨Str.ofString "NoText", []⟩ [] := by
  unfold badT at h
  simp only [List.mem_cons, List.not_mem_nil, or_false] at h
  rcases h with rfl | rfl | rfl | rfl | rfl | rfl | rfl | rfl <;> rfl
theorem text_deep {x : PD} (h : Deep x) : Q_check_text [.d x] = .er ⟨Str.ofString "NoText", []⟩ [] := by
  obtain ⟨y, hy, rfl | rfl⟩ := h
  · have e : Q_is_letters [.d (.list [y]), .d (.int 0), .d (.int 12)] = .ok (.d (.bool false)) [] := by unfold Q_is_letters k_is_letters; simp -implicitDefEqProofs (disch := (first | assumption | omega | decide)) only [DL.PV0, DL.PV1, DL.PV2, DL.PV3, DL.PV4, DL.PV5, DL.PV6, DL.PV7, DL.PV8, DL.PV9, DL.PV10, DL.PV11, DL.PV12, DL.PV13, DL.PV14, DL.PV15, DL.PV16, DL.PV17, DL.PV18, DL.PV19, DL.PV20, DL.PV21, DL.PV22, DL.PV23, DL.PV24, DL.PV25, DL.PV26, DL.PV27, List.getElem?_cons_zero, List.getElem?_cons_succ, List.getElem?_nil, List.set_cons_zero, List.set_cons_succ, List.length_cons, List.length_nil, List.map_cons, List.map_nil, List.replicate_succ, List.replicate_zero, List.cons_append, List.nil_append, Nat.reduceAdd, Nat.reduceSub, Nat.reduceLT, Nat.reduceLeDiff, Nat.reduceEqDiff, Int.reduceEq, Int.reduceLT, Int.reduceLE, Int.reduceNeg, decide_true, decide_false, Bool.not_true, Bool.not_false, Bool.and_true, Bool.and_false, Bool.true_and, Bool.false_and, Bool.and_self, Bool.or_true, Bool.or_false, decide_eq_true_eq, if_true, if_false, Int.ofNat_zero, Int.cast_ofNat_Int, Bool.false_eq_true, reduceIte, reduceCtorEq, Option.map_some, Option.map_none, Option.bind_some, List.nodup_nil, Nat.zero_add, Option.some.injEq, and_self, and_true, true_and, and_false, false_and, or_self, or_true, true_or, or_false, false_or, not_true_eq_false, not_false_eq_true]
    unfold Q_check_text k_check_text
    simp -implicitDefEqProofs (disch := (first | assumption | omega | decide)) only [DL.PV0, DL.PV1, DL.PV2, DL.PV3, DL.PV4, DL.PV5, DL.PV6, DL.PV7, DL.PV8, DL.PV9, DL.PV10, DL.PV11, DL.PV12, DL.PV13, DL.PV14, DL.PV15, DL.PV16, DL.PV17, DL.PV18, DL.PV19, DL.PV20, DL.PV21, DL.PV22, DL.PV23, DL.PV24, DL.PV25, DL.PV26, DL.PV27, List.getElem?_cons_zero, List.getElem?_cons_succ, List.getElem?_nil, List.set_cons_zero, List.set_cons_succ, List.length_cons, List.length_nil, List.map_cons, List.map_nil, List.replicate_succ, List.replicate_zero, List.cons_append, List.nil_append, Nat.reduceAdd, Nat.reduceSub, Nat.reduceLT, Nat.reduceLeDiff, Nat.reduceEqDiff, Int.reduceEq, Int.reduceLT, Int.reduceLE, Int.reduceNeg, decide_true, decide_false, Bool.not_true, Bool.not_false, Bool.and_true, Bool.and_false, Bool.true_and, Bool.false_and, Bool.and_self, Bool.or_true, Bool.or_false, decide_eq_true_eq, if_true, if_false, Int.ofNat_zero, Int.cast_ofNat_Int, Bool.false_eq_true, reduceIte, reduceCtorEq, Option.map_some, Option.map_none, Option.bind_some, List.nodup_nil, Nat.zero_add, Option.some.injEq, and_self, and_true, true_and, and_false, false_and, or_self, or_true, true_or, or_false, false_or, not_true_eq_false, not_false_eq_true, e]
  · have e : Q_is_letters [.d (.tuple [y]), .d (.int 0), .d (.int 12)] = .ok (.d (.bool false)) [] := by unfold Q_is_letters k_is_letters; simp -implicitDefEqProofs (disch := (first | assumption | omega | decide)) only [DL.PV0, DL.PV1, DL.PV2, DL.PV3, DL.PV4, DL.PV5, DL.PV6, DL.PV7, DL.PV8, DL.PV9, DL.PV10, DL.PV11, DL.PV12, DL.PV13, DL.PV14, DL.PV15, DL.PV16, DL.PV17, DL.PV18, DL.PV19, DL.PV20, DL.PV21, DL.PV22, DL.PV23, DL.PV24, DL.PV25, DL.PV26, DL.PV27, List.getElem?_cons_zero, List.getElem?_cons_succ, List.getElem?_nil, List.set_cons_zero, List.set_cons_succ, List.length_cons, List.length_nil, List.map_cons, List.map_nil, List.replicate_succ, List.replicate_zero, List.cons_append, List.nil_append, Nat.reduceAdd, Nat.reduceSub, Nat.reduceLT, Nat.reduceLeDiff, Nat.reduceEqDiff, Int.reduceEq, Int.reduceLT, Int.reduceLE, Int.reduceNeg, decide_true, decide_false, Bool.not_true, Bool.not_false, Bool.and_true, Bool.and_false, Bool.true_and, Bool.false_and, Bool.and_self, Bool.or_true, Bool.or_false, decide_eq_true_eq, if_true, if_false, Int.ofNat_zero, Int.cast_ofNat_Int, Bool.false_eq_true, reduceIte, reduceCtorEq, Option.map_some, Option.map_none, Option.bind_some, List.nodup_nil, Nat.zero_add, Option.some.injEq, and_self, and_true, true_and, and_false, false_and, or_self, or_true, true_or, or_false, false_or, not_true_eq_false, not_false_eq_true]
    unfold Q_check_text k_check_text
    simp -implicitDefEqProofs (disch := (first | assumption | omega | decide)) only [DL.PV0, DL.PV1, DL.PV2, DL.PV3, DL.PV4, DL.PV5, DL.PV6, DL.PV7, DL.PV8, DL.PV9, DL.PV10, DL.PV11, DL.PV12, DL.PV13, DL.PV14, DL.PV15, DL.PV16, DL.PV17, DL.PV18, DL.PV19, DL.PV20, DL.PV21, DL.PV22, DL.PV23, DL.PV24, DL.PV25, DL.PV26, DL.PV27, List.getElem?_cons_zero, List.getElem?_cons_succ, List.getElem?_nil, List.set_cons_zero, List.set_cons_succ, List.length_cons, List.length_nil, List.map_cons, List.map_nil, List.replicate_succ, List.replicate_zero, List.cons_append, List.nil_append, Nat.reduceAdd, Nat.reduceSub, Nat.reduceLT, Nat.reduceLeDiff, Nat.reduceEqDiff, Int.reduceEq, Int.reduceLT, Int.reduceLE, Int.reduceNeg, decide_true, decide_false, Bool.not_true, Bool.not_false, Bool.and_true, Bool.and_false, Bool.true_and, Bool.false_and, Bool.and_self, Bool.or_true, Bool.or_false, decide_eq_true_eq, if_true, if_false, Int.ofNat_zero, Int.cast_ofNat_Int, Bool.false_eq_true, reduceIte, reduceCtorEq, Option.map_some, Option.map_none, Option.bind_some, List.nodup_nil, Nat.zero_add, Option.some.injEq, and_self, and_true, true_and, and_false, false_and, or_self, or_true, true_or, or_false, false_or, not_true_eq_false, not_false_eq_true, e]
theorem ask_1 {x y : PD} (h : Q_check_book [.d x] = .er ⟨Str.ofString "NoBook", []⟩ []) : Q_with_beginning [.d x, .d y] = .er ⟨Str.ofString "NoBook", []⟩ [] := by
  unfold Q_with_beginning k_with_beginning
  simp -implicitDefEqProofs (disch := (first | assumption | omega | decide)) only [DL.PV0, DL.PV1, DL.PV2, DL.PV3, DL.PV4, DL.PV5, DL.PV6, DL.PV7, DL.PV8, DL.PV9, DL.PV10, DL.PV11, DL.PV12, DL.PV13, DL.PV14, DL.PV15, DL.PV16, DL.PV17, DL.PV18, DL.PV19, DL.PV20, DL.PV21, DL.PV22, DL.PV23, DL.PV24, DL.PV25, DL.PV26, DL.PV27, List.getElem?_cons_zero, List.getElem?_cons_succ, List.getElem?_nil, List.set_cons_zero, List.set_cons_succ, List.length_cons, List.length_nil, List.map_cons, List.map_nil, List.replicate_succ, List.replicate_zero, List.cons_append, List.nil_append, Nat.reduceAdd, Nat.reduceSub, Nat.reduceLT, Nat.reduceLeDiff, Nat.reduceEqDiff, Int.reduceEq, Int.reduceLT, Int.reduceLE, Int.reduceNeg, decide_true, decide_false, Bool.not_true, Bool.not_false, Bool.and_true, Bool.and_false, Bool.true_and, Bool.false_and, Bool.and_self, Bool.or_true, Bool.or_false, decide_eq_true_eq, if_true, if_false, Int.ofNat_zero, Int.cast_ofNat_Int, Bool.false_eq_true, reduceIte, reduceCtorEq, Option.map_some, Option.map_none, Option.bind_some, List.nodup_nil, Nat.zero_add, Option.some.injEq, and_self, and_true, true_and, and_false, false_and, or_self, or_true, true_or, or_false, false_or, not_true_eq_false, not_false_eq_true, h]
theorem ask_2 {x y : PD} (h : Q_check_book [.d x] = .er ⟨Str.ofString "NoBook", []⟩ []) : Q_next_letters [.d x, .d y] = .er ⟨Str.ofString "NoBook", []⟩ [] := by
  unfold Q_next_letters k_next_letters
  simp -implicitDefEqProofs (disch := (first | assumption | omega | decide)) only [DL.PV0, DL.PV1, DL.PV2, DL.PV3, DL.PV4, DL.PV5, DL.PV6, DL.PV7, DL.PV8, DL.PV9, DL.PV10, DL.PV11, DL.PV12, DL.PV13, DL.PV14, DL.PV15, DL.PV16, DL.PV17, DL.PV18, DL.PV19, DL.PV20, DL.PV21, DL.PV22, DL.PV23, DL.PV24, DL.PV25, DL.PV26, DL.PV27, List.getElem?_cons_zero, List.getElem?_cons_succ, List.getElem?_nil, List.set_cons_zero, List.set_cons_succ, List.length_cons, List.length_nil, List.map_cons, List.map_nil, List.replicate_succ, List.replicate_zero, List.cons_append, List.nil_append, Nat.reduceAdd, Nat.reduceSub, Nat.reduceLT, Nat.reduceLeDiff, Nat.reduceEqDiff, Int.reduceEq, Int.reduceLT, Int.reduceLE, Int.reduceNeg, decide_true, decide_false, Bool.not_true, Bool.not_false, Bool.and_true, Bool.and_false, Bool.true_and, Bool.false_and, Bool.and_self, Bool.or_true, Bool.or_false, decide_eq_true_eq, if_true, if_false, Int.ofNat_zero, Int.cast_ofNat_Int, Bool.false_eq_true, reduceIte, reduceCtorEq, Option.map_some, Option.map_none, Option.bind_some, List.nodup_nil, Nat.zero_add, Option.some.injEq, and_self, and_true, true_and, and_false, false_and, or_self, or_true, true_or, or_false, false_or, not_true_eq_false, not_false_eq_true, h]
theorem ask_3 {x : PD} (h : Q_check_book [.d x] = .er ⟨Str.ofString "NoBook", []⟩ []) : Q_beginnings_many [.d x] = .er ⟨Str.ofString "NoBook", []⟩ [] := by
  unfold Q_beginnings_many k_beginnings_many
  simp -implicitDefEqProofs (disch := (first | assumption | omega | decide)) only [DL.PV0, DL.PV1, DL.PV2, DL.PV3, DL.PV4, DL.PV5, DL.PV6, DL.PV7, DL.PV8, DL.PV9, DL.PV10, DL.PV11, DL.PV12, DL.PV13, DL.PV14, DL.PV15, DL.PV16, DL.PV17, DL.PV18, DL.PV19, DL.PV20, DL.PV21, DL.PV22, DL.PV23, DL.PV24, DL.PV25, DL.PV26, DL.PV27, List.getElem?_cons_zero, List.getElem?_cons_succ, List.getElem?_nil, List.set_cons_zero, List.set_cons_succ, List.length_cons, List.length_nil, List.map_cons, List.map_nil, List.replicate_succ, List.replicate_zero, List.cons_append, List.nil_append, Nat.reduceAdd, Nat.reduceSub, Nat.reduceLT, Nat.reduceLeDiff, Nat.reduceEqDiff, Int.reduceEq, Int.reduceLT, Int.reduceLE, Int.reduceNeg, decide_true, decide_false, Bool.not_true, Bool.not_false, Bool.and_true, Bool.and_false, Bool.true_and, Bool.false_and, Bool.and_self, Bool.or_true, Bool.or_false, decide_eq_true_eq, if_true, if_false, Int.ofNat_zero, Int.cast_ofNat_Int, Bool.false_eq_true, reduceIte, reduceCtorEq, Option.map_some, Option.map_none, Option.bind_some, List.nodup_nil, Nat.zero_add, Option.some.injEq, and_self, and_true, true_and, and_false, false_and, or_self, or_true, true_or, or_false, false_or, not_true_eq_false, not_false_eq_true, h]
theorem ask_4 {x : PD} (h : Q_check_book [.d x] = .er ⟨Str.ofString "NoBook", []⟩ []) : Q_split_points [.d x] = .er ⟨Str.ofString "NoBook", []⟩ [] := by
  unfold Q_split_points k_split_points
  simp -implicitDefEqProofs (disch := (first | assumption | omega | decide)) only [DL.PV0, DL.PV1, DL.PV2, DL.PV3, DL.PV4, DL.PV5, DL.PV6, DL.PV7, DL.PV8, DL.PV9, DL.PV10, DL.PV11, DL.PV12, DL.PV13, DL.PV14, DL.PV15, DL.PV16, DL.PV17, DL.PV18, DL.PV19, DL.PV20, DL.PV21, DL.PV22, DL.PV23, DL.PV24, DL.PV25, DL.PV26, DL.PV27, List.getElem?_cons_zero, List.getElem?_cons_succ, List.getElem?_nil, List.set_cons_zero, List.set_cons_succ, List.length_cons, List.length_nil, List.map_cons, List.map_nil, List.replicate_succ, List.replicate_zero, List.cons_append, List.nil_append, Nat.reduceAdd, Nat.reduceSub, Nat.reduceLT, Nat.reduceLeDiff, Nat.reduceEqDiff, Int.reduceEq, Int.reduceLT, Int.reduceLE, Int.reduceNeg, decide_true, decide_false, Bool.not_true, Bool.not_false, Bool.and_true, Bool.and_false, Bool.true_and, Bool.false_and, Bool.and_self, Bool.or_true, Bool.or_false, decide_eq_true_eq, if_true, if_false, Int.ofNat_zero, Int.cast_ofNat_Int, Bool.false_eq_true, reduceIte, reduceCtorEq, Option.map_some, Option.map_none, Option.bind_some, List.nodup_nil, Nat.zero_add, Option.some.injEq, and_self, and_true, true_and, and_false, false_and, or_self, or_true, true_or, or_false, false_or, not_true_eq_false, not_false_eq_true, h]
theorem ask_5 {ws : List (List Nat)} (hB : Bk ws) {y : PD} (h : Q_check_text [.d y] = .er ⟨Str.ofString "NoText", []⟩ []) : Q_with_beginning [.d (bookD ws), .d y] = .er ⟨Str.ofString "NoText", []⟩ [] := by
  unfold Q_with_beginning k_with_beginning
  simp -implicitDefEqProofs (disch := (first | assumption | omega | decide)) only [DL.PV0, DL.PV1, DL.PV2, DL.PV3, DL.PV4, DL.PV5, DL.PV6, DL.PV7, DL.PV8, DL.PV9, DL.PV10, DL.PV11, DL.PV12, DL.PV13, DL.PV14, DL.PV15, DL.PV16, DL.PV17, DL.PV18, DL.PV19, DL.PV20, DL.PV21, DL.PV22, DL.PV23, DL.PV24, DL.PV25, DL.PV26, DL.PV27, List.getElem?_cons_zero, List.getElem?_cons_succ, List.getElem?_nil, List.set_cons_zero, List.set_cons_succ, List.length_cons, List.length_nil, List.map_cons, List.map_nil, List.replicate_succ, List.replicate_zero, List.cons_append, List.nil_append, Nat.reduceAdd, Nat.reduceSub, Nat.reduceLT, Nat.reduceLeDiff, Nat.reduceEqDiff, Int.reduceEq, Int.reduceLT, Int.reduceLE, Int.reduceNeg, decide_true, decide_false, Bool.not_true, Bool.not_false, Bool.and_true, Bool.and_false, Bool.true_and, Bool.false_and, Bool.and_self, Bool.or_true, Bool.or_false, decide_eq_true_eq, if_true, if_false, Int.ofNat_zero, Int.cast_ofNat_Int, Bool.false_eq_true, reduceIte, reduceCtorEq, Option.map_some, Option.map_none, Option.bind_some, List.nodup_nil, Nat.zero_add, Option.some.injEq, and_self, and_true, true_and, and_false, false_and, or_self, or_true, true_or, or_false, false_or, not_true_eq_false, not_false_eq_true, check_book_ok hB, h]
theorem ask_6 {ws : List (List Nat)} (hB : Bk ws) {y : PD} (h : Q_check_text [.d y] = .er ⟨Str.ofString "NoText", []⟩ []) : Q_next_letters [.d (bookD ws), .d y] = .er ⟨Str.ofString "NoText", []⟩ [] := by
  unfold Q_next_letters k_next_letters
  simp -implicitDefEqProofs (disch := (first | assumption | omega | decide)) only [DL.PV0, DL.PV1, DL.PV2, DL.PV3, DL.PV4, DL.PV5, DL.PV6, DL.PV7, DL.PV8, DL.PV9, DL.PV10, DL.PV11, DL.PV12, DL.PV13, DL.PV14, DL.PV15, DL.PV16, DL.PV17, DL.PV18, DL.PV19, DL.PV20, DL.PV21, DL.PV22, DL.PV23, DL.PV24, DL.PV25, DL.PV26, DL.PV27, List.getElem?_cons_zero, List.getElem?_cons_succ, List.getElem?_nil, List.set_cons_zero, List.set_cons_succ, List.length_cons, List.length_nil, List.map_cons, List.map_nil, List.replicate_succ, List.replicate_zero, List.cons_append, List.nil_append, Nat.reduceAdd, Nat.reduceSub, Nat.reduceLT, Nat.reduceLeDiff, Nat.reduceEqDiff, Int.reduceEq, Int.reduceLT, Int.reduceLE, Int.reduceNeg, decide_true, decide_false, Bool.not_true, Bool.not_false, Bool.and_true, Bool.and_false, Bool.true_and, Bool.false_and, Bool.and_self, Bool.or_true, Bool.or_false, decide_eq_true_eq, if_true, if_false, Int.ofNat_zero, Int.cast_ofNat_Int, Bool.false_eq_true, reduceIte, reduceCtorEq, Option.map_some, Option.map_none, Option.bind_some, List.nodup_nil, Nat.zero_add, Option.some.injEq, and_self, and_true, true_and, and_false, false_and, or_self, or_true, true_or, or_false, false_or, not_true_eq_false, not_false_eq_true, check_book_ok hB, h]
theorem law_1 {ns : List Int} {ds : List PD} (H : HandP ds) (i : Nat) (x2 x3 x4 x5 x6 : Option Cell) : ∃ ds' y2 y3 y4 y5 y6, HandP ds' ∧ pf1 (pgN 3) b_law_1 (.int (0 + i)) [some (.d (scrD ns)), some (.l true ds), x2, x3, x4, x5, x6] = .nx [some (.d (scrD ns)), some (.l true ds'), y2, y3, y4, y5, y6] := by
  have habc : Ltr [97, 98, 99] := by decide
  obtain ⟨bs, d1, H1, hB, hn, hl, e1⟩ := law_book_ok H habc (by decide) (by decide) (most := 10) (l := 4) (by decide) (by decide) (by decide) (by decide)
  obtain ⟨d2, H2, e2⟩ := is_right_ok H1 hB (by omega)
  obtain ⟨d3, c, H3, ⟨y, hy, hc⟩, e3⟩ := deep_ok H2
  have key : ∃ v, Deep v ∧ (c = .d v ∨ ∃ z, c = .l true [z] ∧ v = .list [z]) := by
    rcases hc with rfl | rfl
    · exact ⟨.list [y], ⟨y, hy, .inl rfl⟩, .inr ⟨y, rfl, rfl⟩⟩
    · exact ⟨.tuple [y], ⟨y, hy, .inr rfl⟩, .inl rfl⟩
  obtain ⟨v, hv, hcv⟩ := key
  obtain ⟨x, d4, H4, hx, e4⟩ := no_book_ok H3
  obtain ⟨t, d5, H5, ht, e5⟩ := any_ok H4 (badT ++ [v]) (by simp) (by rw [List.length_append]; show 8 + 1 < _; decide)
  have ht : Q_check_text [.d t] = .er ⟨Str.ofString "NoText", []⟩ [] := by
    rcases List.mem_append.mp ht with h | h
    · exact text_bad h
    · rw [List.mem_singleton.mp h]; exact text_deep hv
  have h1 := ask_1 (y := t) hx
  have h2 := ask_2 (y := t) hx
  have h3 := ask_3 hx
  have h4 := ask_4 hx
  have h5 := ask_5 hB ht
  have h6 := ask_6 hB ht
  have hb : badT ++ [v] = [.none, .str (ofL [65]), .str (ofL [97, 32, 98]), .str (ofL [97, 98, 99, 97, 98, 99, 97, 98, 99, 97, 98, 99, 97]), .int 1, .tuple [.str (ofL [97])], .list [], .dict [], v] := rfl
  rw [hb] at e5
  have hmul : gMul (.list [.str (ofL [98, 111, 111, 107]), .str (ofL [116, 101, 120, 116])]) (.int 2) = some (.nls [.str (ofL [98, 111, 111, 107]), .str (ofL [116, 101, 120, 116]), .str (ofL [98, 111, 111, 107]), .str (ofL [116, 101, 120, 116])]) := by rfl
  have hadd : gAdd (.list [.str (ofL [98, 111, 111, 107]), .str (ofL [116, 101, 120, 116]), .str (ofL [98, 111, 111, 107]), .str (ofL [116, 101, 120, 116])]) (.list [.str (ofL [98, 111, 111, 107]), .str (ofL [98, 111, 111, 107])]) = some (.nls [.str (ofL [98, 111, 111, 107]), .str (ofL [116, 101, 120, 116]), .str (ofL [98, 111, 111, 107]), .str (ofL [116, 101, 120, 116]), .str (ofL [98, 111, 111, 107]), .str (ofL [98, 111, 111, 107])]) := rfl
  have hne : gNe (.list [.str (ofL [98, 111, 111, 107]), .str (ofL [116, 101, 120, 116]), .str (ofL [98, 111, 111, 107]), .str (ofL [116, 101, 120, 116]), .str (ofL [98, 111, 111, 107]), .str (ofL [98, 111, 111, 107])]) (.list [.str (ofL [98, 111, 111, 107]), .str (ofL [116, 101, 120, 116]), .str (ofL [98, 111, 111, 107]), .str (ofL [116, 101, 120, 116]), .str (ofL [98, 111, 111, 107]), .str (ofL [98, 111, 111, 107])]) = some (.val (.bool false)) := q_neF (n := 1) (gd_list (gd_cons (gd_str 0 (by decide)) (gd_cons (gd_str 0 (by decide)) (gd_cons (gd_str 0 (by decide)) (gd_cons (gd_str 0 (by decide)) (gd_cons (gd_str 0 (by decide)) (gd_cons (gd_str 0 (by decide)) (gd_nil 0)))))))) (by decide)
  have hap : ∀ ds : List PD, ∀ x, ds.length < 16777216 → uAppend ds [x] = some (.none, ds ++ [x]) := fun ds x h => q_app h
  refine ⟨d5, some (.d (bookD bs)), some (.d (.int (0 + i))), some (.d t), some (.d x), some (.l true [.str (ofL [98, 111, 111, 107]), .str (ofL [116, 101, 120, 116]), .str (ofL [98, 111, 111, 107]), .str (ofL [116, 101, 120, 116]), .str (ofL [98, 111, 111, 107]), .str (ofL [98, 111, 111, 107])]), H5, ?_⟩
  unfold b_law_1
  rcases hcv with rfl | ⟨z, rfl, rfl⟩ <;> simp -implicitDefEqProofs (disch := (first | assumption | omega | decide)) only [DL.PV0, DL.PV1, DL.PV2, DL.PV3, DL.PV4, DL.PV5, DL.PV6, DL.PV7, DL.PV8, DL.PV9, DL.PV10, DL.PV11, DL.PV12, DL.PV13, DL.PV14, DL.PV15, DL.PV16, DL.PV17, DL.PV18, DL.PV19, DL.PV20, DL.PV21, DL.PV22, DL.PV23, DL.PV24, DL.PV25, DL.PV26, DL.PV27, List.getElem?_cons_zero, List.getElem?_cons_succ, List.getElem?_nil, List.set_cons_zero, List.set_cons_succ, List.length_cons, List.length_nil, List.map_cons, List.map_nil, List.replicate_succ, List.replicate_zero, List.cons_append, List.nil_append, Nat.reduceAdd, Nat.reduceSub, Nat.reduceLT, Nat.reduceLeDiff, Nat.reduceEqDiff, Int.reduceEq, Int.reduceLT, Int.reduceLE, Int.reduceNeg, decide_true, decide_false, Bool.not_true, Bool.not_false, Bool.and_true, Bool.and_false, Bool.true_and, Bool.false_and, Bool.and_self, Bool.or_true, Bool.or_false, decide_eq_true_eq, if_true, if_false, Int.ofNat_zero, Int.cast_ofNat_Int, Bool.false_eq_true, reduceIte, reduceCtorEq, Option.map_some, Option.map_none, Option.bind_some, List.nodup_nil, Nat.zero_add, Option.some.injEq, and_self, and_true, true_and, and_false, false_and, or_self, or_true, true_or, or_false, false_or, not_true_eq_false, not_false_eq_true, e1, e2, e3, e4, e5, h1, h2, h3, h4, h5, h6, told_book, told_text, told_es1, told_es2, hmul, hadd, hne, hap]
theorem told_1 : Q_beginnings_many [.d (.tuple [.str (ofL [97, 98]), .str (ofL [97, 98, 99]), .str (ofL [97, 99]), .str (ofL [98])])] = .ok (.d (.int 6)) [] :=
  (beginnings_many_ok (ws := [[97, 98], [97, 98, 99], [97, 99], [98]]) (by decide)).trans (by rfl)
theorem told_2 : Q_split_points [.d (.tuple [.str (ofL [97, 98]), .str (ofL [97, 98, 99]), .str (ofL [97, 99]), .str (ofL [98])])] = .ok (.d (.tuple [.str (ofL []), .str (ofL [97])])) [] :=
  (split_points_ok (ws := [[97, 98], [97, 98, 99], [97, 99], [98]]) (by decide)).trans (by rfl)
theorem told_3 : Q_next_letters [.d (.tuple [.str (ofL [97, 98]), .str (ofL [97, 98, 99]), .str (ofL [97, 99]), .str (ofL [98])]), .d (.str (ofL [97, 98]))] = .ok (.d (.str (ofL [99]))) [] :=
  (next_letters_ok (ws := [[97, 98], [97, 98, 99], [97, 99], [98]]) (t := [97, 98]) (by decide) (by decide) (by decide)).trans (by rfl)
theorem told_4 : Q_with_beginning [.d (.tuple [.str (ofL [97, 98]), .str (ofL [97, 98, 99]), .str (ofL [97, 99]), .str (ofL [98])]), .d (.str (ofL [97, 99]))] = .ok (.d (.tuple [.str (ofL [97, 99])])) [] :=
  (with_beginning_ok (ws := [[97, 98], [97, 98, 99], [97, 99], [98]]) (t := [97, 99]) (by decide) (by decide) (by decide)).trans (by rfl)
theorem plainQ (ns : List Int) (hn : ns.length ≤ 63) : Q_law [.d (scrD ns)] = .ok (.d (.bool true)) [] := by
  obtain ⟨ds, H, e⟩ := hand_ok ns hn
  have g1 : gNe (.tuple [.str (ofL []), .str (ofL [97])]) (.tuple [.str (ofL []), .str (ofL [97])]) = some (.val (.bool false)) := q_neF (n := 1) (gd_tup (gd_cons (gd_str 0 (by decide)) (gd_cons (gd_str 0 (by decide)) (gd_nil 0)))) (by decide)
  have g2 : gNe (.tuple [.str (ofL [97, 99])]) (.tuple [.str (ofL [97, 99])]) = some (.val (.bool false)) := q_neF (n := 1) (gd_tup (gd_cons (gd_str 0 (by decide)) (gd_nil 0))) (by decide)
  obtain ⟨_, h1, _, ds', H', y2, y3, y4, y5, y6, rfl⟩ := pfor_inv (tg := pgN 3) (body := b_law_1)
    (fun items env => (∃ l : List Nat, items = l.map fun (i : Nat) => PyData.int (0 + i)) ∧ ∃ ds' , HandP ds' ∧ ∃ y2 y3 y4 y5 y6, env = [some (.d (scrD ns)), some (.l true ds'), y2, y3, y4, y5, y6])
    (fun d r env => by
      rintro ⟨⟨l, hl⟩, ds', H', y2, y3, y4, y5, y6, rfl⟩
      match l, hl with
      | i :: l, hl =>
        rw [List.map_cons, List.cons.injEq] at hl
        obtain ⟨rfl, rfl⟩ := hl
        obtain ⟨d1, z2, z3, z4, z5, z6, H1, e1⟩ := law_1 (ns := ns) H' i y2 y3 y4 y5 y6
        exact ⟨_, e1, ⟨l, rfl⟩, d1, H1, _, _, _, _, _, rfl⟩) (rangeL 0 (8 : Int).toNat) [some (.d (scrD ns)), some (.l true ds), some (.d (.tuple [.str (ofL [97, 98]), .str (ofL [97, 98, 99]), .str (ofL [97, 99]), .str (ofL [98])])), none, none, none, none]
    ⟨⟨List.range 8, rfl⟩, ds, H, _, _, _, _, _, rfl⟩
  unfold Q_law k_law
  simp -implicitDefEqProofs (disch := (first | assumption | omega | decide)) only [DL.PV0, DL.PV1, DL.PV2, DL.PV3, DL.PV4, DL.PV5, DL.PV6, DL.PV7, DL.PV8, DL.PV9, DL.PV10, DL.PV11, DL.PV12, DL.PV13, DL.PV14, DL.PV15, DL.PV16, DL.PV17, DL.PV18, DL.PV19, DL.PV20, DL.PV21, DL.PV22, DL.PV23, DL.PV24, DL.PV25, DL.PV26, DL.PV27, List.getElem?_cons_zero, List.getElem?_cons_succ, List.getElem?_nil, List.set_cons_zero, List.set_cons_succ, List.length_cons, List.length_nil, List.map_cons, List.map_nil, List.replicate_succ, List.replicate_zero, List.cons_append, List.nil_append, Nat.reduceAdd, Nat.reduceSub, Nat.reduceLT, Nat.reduceLeDiff, Nat.reduceEqDiff, Int.reduceEq, Int.reduceLT, Int.reduceLE, Int.reduceNeg, decide_true, decide_false, Bool.not_true, Bool.not_false, Bool.and_true, Bool.and_false, Bool.true_and, Bool.false_and, Bool.and_self, Bool.or_true, Bool.or_false, decide_eq_true_eq, if_true, if_false, Int.ofNat_zero, Int.cast_ofNat_Int, Bool.false_eq_true, reduceIte, reduceCtorEq, Option.map_some, Option.map_none, Option.bind_some, List.nodup_nil, Nat.zero_add, Option.some.injEq, and_self, and_true, true_and, and_false, false_and, or_self, or_true, true_or, or_false, false_or, not_true_eq_false, not_false_eq_true, e, told_1, told_2, told_3, told_4, g1, g2, h1]
theorem plain : ∀ ns : List Int, ns.length ≤ 63 → (∀ z ∈ ns, Builtin.Int.intBits z ≤ 1048576) → F_law [.d (DL.scrD ns)] = .ok (.d (.bool true)) [] :=
  fun ns h _ => law_end sf_law (plainQ ns h)
end P08
open PySem PySem.W PyProof.Rows DL in
set_option maxHeartbeats 0 in
theorem PySem.Challenge.cw_letterfair_k08_whole_beginnings_and_what_holds : PySem.Challenge.rw_letterfair_k08_whole_beginnings_and_what.Holds := by
  w_on; o_law; k_head; (case hw => w_witness2)
  k_fill
  refine LamX.walk_ofTs (l := PySem.Challenge.rw_letterfair_k08_whole_beginnings_and_what) (n := 63) (k := 8) (x := (Str.ofString "script")) (CX := fun w => L2.CX PySem.Challenge.rw_letterfair_k08_whole_beginnings_and_what.prog w) rfl (by decide) rfl ⟨rfl, by decide, by decide⟩ (fun w h Y => PySem.W.km_in_of Y) ?F cx_none
  case F =>
    intro w mg fa h Y KX G hmg
    have ft : P08.Ft _ mg := {
      m_isinstance := PySem.W.mg_none_of KX G (by k_is),
      m_str := PySem.W.mg_none_of KX G (by k_is),
      m_len := PySem.W.mg_none_of KX G (by k_is),
      m_all := PySem.W.mg_none_of KX G (by k_is),
      g_LETTERS := ⟨_, PySem.W.mg_of KX G (by k_is)⟩,
      f_is_letters := FunAt.mk KX G (by k_is) (by k_is) (by k_is) (by k_is),
      g_MOST_LETTERS := ⟨_, PySem.W.mg_of KX G (by k_is)⟩,
      f_is_word := FunAt.mk KX G (by k_is) (by k_is) (by k_is) (by k_is),
      m_tuple := PySem.W.mg_none_of KX G (by k_is),
      g_MOST_WORDS := ⟨_, PySem.W.mg_of KX G (by k_is)⟩,
      m_zip := PySem.W.mg_none_of KX G (by k_is),
      f_is_book := FunAt.mk KX G (by k_is) (by k_is) (by k_is) (by k_is),
      e_NoBook := ErrAt.mk' KX G PySem.F.excBase_ValueError (by k_is) (by k_is) (by k_exc) (by k_is) (by k_is),
      f_check_book := FunAt.mk KX G (by k_is) (by k_is) (by k_is) (by k_is),
      g_MOST_TEXT := ⟨_, PySem.W.mg_of KX G (by k_is)⟩,
      e_NoText := ErrAt.mk' KX G PySem.F.excBase_ValueError (by k_is) (by k_is) (by k_exc) (by k_is) (by k_is),
      f_check_text := FunAt.mk KX G (by k_is) (by k_is) (by k_is) (by k_is),
      m_sorted := PySem.W.mg_none_of KX G (by k_is),
      m_set := PySem.W.mg_none_of KX G (by k_is),
      m_range := PySem.W.mg_none_of KX G (by k_is),
      f_all_beginnings := FunAt.mk KX G (by k_is) (by k_is) (by k_is) (by k_is),
      f_beginnings_many := FunAt.mk KX G (by k_is) (by k_is) (by k_is) (by k_is),
      f_raw_with := FunAt.mk KX G (by k_is) (by k_is) (by k_is) (by k_is),
      f_with_beginning := FunAt.mk KX G (by k_is) (by k_is) (by k_is) (by k_is),
      f_raw_next := FunAt.mk KX G (by k_is) (by k_is) (by k_is) (by k_is),
      f_next_letters := FunAt.mk KX G (by k_is) (by k_is) (by k_is) (by k_is),
      f_split_points := FunAt.mk KX G (by k_is) (by k_is) (by k_is) (by k_is),
      m_abs := PySem.W.mg_none_of KX G (by k_is),
      m_int := PySem.W.mg_none_of KX G (by k_is),
      f__law_hand := FunAt.mk KX G (by k_is) (by k_is) (by k_is) (by k_is),
      f__law_draw := FunAt.mk KX G (by k_is) (by k_is) (by k_is) (by k_is),
      f__law_any := FunAt.mk KX G (by k_is) (by k_is) (by k_is) (by k_is),
      f__law_word := FunAt.mk KX G (by k_is) (by k_is) (by k_is) (by k_is),
      f__law_book := FunAt.mk KX G (by k_is) (by k_is) (by k_is) (by k_is),
      f__law_deep := FunAt.mk KX G (by k_is) (by k_is) (by k_is) (by k_is),
      f__law_no_book := FunAt.mk KX G (by k_is) (by k_is) (by k_is) (by k_is),
      c_NoText := ⟨_, PySem.W.mg_of KX G (by k_is)⟩,
      c_NoBook := ⟨_, PySem.W.mg_of KX G (by k_is)⟩,
      m_ValueError := PySem.W.mg_none_of KX G (by k_is),
      c_WordError := ⟨_, PySem.W.mg_of KX G (by k_is)⟩,
      x_NoBook := ExcAt.mk KX G (by k_is) ⟨by k_is, by k_is, by k_is, by k_is, by k_is, by k_is, by k_is, by k_is⟩,
      h_NoBook_WordError := ExmAt.mk KX G (by k_is) (by k_is) (by first | rfl | kernel_rfl),
      x_NoText := ExcAt.mk KX G (by k_is) ⟨by k_is, by k_is, by k_is, by k_is, by k_is, by k_is, by k_is, by k_is⟩,
      h_NoText_WordError := ExmAt.mk KX G (by k_is) (by k_is) (by first | rfl | kernel_rfl),
      i_NoBook_NoBook := IsAt.mk KX G (by k_is) (by k_is) (by first | rfl | kernel_rfl),
      i_NoText_NoBook := IsAt.mk KX G (by k_is) (by k_is) (by first | rfl | kernel_rfl),
      i_NoBook_NoText := IsAt.mk KX G (by k_is) (by k_is) (by first | rfl | kernel_rfl),
      i_NoText_NoText := IsAt.mk KX G (by k_is) (by k_is) (by first | rfl | kernel_rfl),
      i_NoBook_ValueError := IsTyAt.mk KX G (by k_is) (by first | rfl | kernel_rfl),
      i_NoText_ValueError := IsTyAt.mk KX G (by k_is) (by first | rfl | kernel_rfl),
      f__law_told := FunAt.mk KX G (by k_is) (by k_is) (by k_is) (by k_is),
      f__law_begun := FunAt.mk KX G (by k_is) (by k_is) (by k_is) (by k_is),
      f__law_next := FunAt.mk KX G (by k_is) (by k_is) (by k_is) (by k_is),
      m_list := PySem.W.mg_none_of KX G (by k_is),
      f__law_is_right := FunAt.mk KX G (by k_is) (by k_is) (by k_is) (by k_is) }
    refine' P08.atLaw (l := PySem.Challenge.rw_letterfair_k08_whole_beginnings_and_what) KX G hmg ?aL ?lL ?cL ?kL ft ?tt0 ?nt0 ?cd0 P08.plain
    (case aL => k_is); (case lL => k_is); (case cL => k_is); (case kL => k_is)
    (case tt0 => exact PySem.W.km_tabs_of Y _ (.head _)); (case cd0 => exact PySem.W.codeHd_of_K KX (by kernel_rfl))
    (case nt0 => rfl)
