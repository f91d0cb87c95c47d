import PyProof.Rows.All
import Wide.All
import OpenK.AllK
import Wide.FinOn
import HandS.ForMost
import HandS.ForExc
import HandS.Wide
import HandS.Walk
import HandS.CallSlots
import HandS.IsInst
import HandS.Style
import HandS.Deep
import HandS.Codes
import HandS.StrMore
import HandS.StrSplit
import HandS.WideBits
import HandS.TupAny
import HandS.NoneIn
import HandS.Defaults
import HandS.Head0
import HandS.Head1
import HandS.Head2
import HandS.HeadEnd
import HandS.HeadHook1
import HandS.HeadHook2
import HandS.EndBits
import HandS.WordsExc
import HandS.Comp
import HandS.More
import HandS.SortKw
import PyProof.WalkInts
import PyProof.AutoSeq1
import HandS.SortInts
import HandS.ExcInit
import HandS.ExcField
import HandS.ExcIs
import KE.KExcIs
import HandS.HeadHook4
import KE.KEqDict
import PyProof.ListMulRoad
import HandS.SuiteRaise
import HandS.RaiseFrom
import HandS.ExcInitHot
import PySem.Challenge.RW_twobytwo_k10_cells_as_texts
set_option Elab.async false
set_option linter.all false
set_option maxRecDepth 100000
set_option maxHeartbeats 4000000
namespace Dn
open PySem PySem.Spec PyProof.Rows L2

/-! ### data, cells, results -/
abbrev D := PyData
structure Exn where
  cls : String
  arg : Option (Str × D)
/-- what may change within -/
inductive Tr where
  | im (d : D)
  | ls (ts : List Tr)
inductive L where
  | im (d : D)
  | ow (ds : List D)
  | bo (ds : List D)
  | ot (t : Tr)
  | bt (t : Tr)
  | xn (a : Addr) (dx : Option Addr) (c : Exn)
def L.own : L → Bool
  | .ow _ => true
  | .ot _ => true
  | .xn _ _ _ => true
  | _ => false
def L.mu : L → Bool
  | .im _ => false
  | .xn _ _ _ => false
  | _ => true
abbrev En := List (Option L)
inductive R (α : Type) where
  | ok (a : α) (ρ : En)
  | ex (c : Exn) (ρ : En)
  | no
def R.bind {α β : Type} : R α → (α → En → R β) → R β
  | .ok a ρ, g => g a ρ
  | .ex c ρ, _ => .ex c ρ
  | .no, _ => .no

/-! ### how data stands in a heap -/
def kD : Key → PyData
  | .inl i => .int i
  | .inr s => .str s
mutual
inductive DR (K : PySem.W.Frag) (H : Hp) : V → PyData → Prop
  | non : DR K H .non .none
  | bl (b : Bool) : DR K H (.bl b) (.bool b)
  | int (i : Int) : DR K H (.int i) (.int i)
  | str (x : Str) : DR K H (.str x) (.str x)
  | lst {a : Addr} {xs : List V} {ds : List PyData} : SqL K H a xs → DRs K H xs ds → DR K H (.ref a) (.list ds)
  | tup {a : Addr} {xs : List V} {ds : List PyData} : SqT K H a xs → DRs K H xs ds → DR K H (.ref a) (.tuple ds)
  | dic {a : Addr} {kvs : List (Key × V)} {ds : List PyData} : H a = some (.dK kvs) → DRs K H (kvs.map (·.2)) ds → DR K H (.ref a) (.dict ((kvs.map fun p => kD p.1).zip ds))
inductive DRs (K : PySem.W.Frag) (H : Hp) : List V → List PyData → Prop
  | nil : DRs K H [] []
  | cons {v : V} {vs : List V} {d : PyData} {ds : List PyData} : DR K H v d → DRs K H vs ds → DRs K H (v :: vs) (d :: ds)
end

theorem Same.rd {H H' : Hp} {a : Addr} {o : HO} (e : Same H H') (h : Rd H a o) : Rd H' a o := by
  rcases h with h | ⟨o, h⟩
  · exact .inl (e _ _ h)
  · exact .inr ⟨o, e _ _ h⟩
theorem Same.tup {K : PySem.W.Frag} {H H' : Hp} {a : Addr} {xs : List V} (e : Same H H') (h : SqT K H a xs) : SqT K H' a xs := by
  rcases h with (h | ⟨o, h⟩) | h
  · exact .inl (.inl (e _ _ h))
  · exact .inl (.inr ⟨o, e _ _ h⟩)
  · exact .inr h
section
variable {K : PySem.W.Frag} {G H H' : Hp}
mutual
theorem DR.mono (e : Same H H') : ∀ {v : V} {d : PyData}, DR K H v d → DR K H' v d
  | _, _, .non => .non
  | _, _, .bl b => .bl b
  | _, _, .int i => .int i
  | _, _, .str x => .str x
  | _, _, .lst h hs => .lst (e.seq h) (DRs.mono e hs)
  | _, _, .tup h hs => .tup (Same.tup e h) (DRs.mono e hs)
  | _, _, .dic h hs => .dic (e _ _ h) (DRs.mono e hs)
theorem DRs.mono (e : Same H H') : ∀ {vs : List V} {ds : List PyData}, DRs K H vs ds → DRs K H' vs ds
  | _, _, .nil => .nil
  | _, _, .cons h t => .cons (DR.mono e h) (DRs.mono e t)
end
theorem DRs.length : ∀ {vs : List V} {ds : List PyData}, DRs K H vs ds → vs.length = ds.length
  | _, _, .nil => rfl
  | _, _, .cons _ t => by rw [List.length_cons, List.length_cons, DRs.length t]
theorem DRs.get : ∀ {vs : List V} {ds : List PyData} {i : Nat} {d : PyData}, DRs K H vs ds → ds[i]? = some d → ∃ v, vs[i]? = some v ∧ DR K H v d
  | _, _, _, _, .nil, e => by simp at e
  | _, _, 0, _, .cons h _, e => by simp at e; subst e; exact ⟨_, rfl, h⟩
  | _, _, i + 1, _, .cons _ t, e => by
    obtain ⟨v, h1, h2⟩ := DRs.get (i := i) t (by simpa using e)
    exact ⟨v, by simpa using h1, h2⟩
theorem DRs.append : ∀ {vs ws : List V} {ds es : List PyData}, DRs K H vs ds → DRs K H ws es → DRs K H (vs ++ ws) (ds ++ es)
  | _, _, _, _, .nil, s => s
  | _, _, _, _, .cons h t, s => .cons h (DRs.append t s)
theorem DRs.take : ∀ {vs : List V} {ds : List PyData} (n : Nat), DRs K H vs ds → DRs K H (vs.take n) (ds.take n)
  | _, _, 0, _ => .nil
  | _, _, _ + 1, .nil => .nil
  | _, _, n + 1, .cons h t => .cons h (DRs.take n t)
theorem DRs.drop : ∀ {vs : List V} {ds : List PyData} (n : Nat), DRs K H vs ds → DRs K H (vs.drop n) (ds.drop n)
  | _, _, 0, r => r
  | _, _, _ + 1, .nil => .nil
  | _, _, n + 1, .cons _ t => DRs.drop n t
theorem DRs.set {v : V} {d : PyData} (hv : DR K H v d) : ∀ {vs : List V} {ds : List PyData} (i : Nat), DRs K H vs ds → DRs K H (vs.set i v) (ds.set i d)
  | _, _, _, .nil => .nil
  | _, _, 0, .cons _ t => .cons hv t
  | _, _, i + 1, .cons h t => .cons h (DRs.set hv i t)
theorem DRs.erase : ∀ {vs : List V} {ds : List PyData} (i : Nat), DRs K H vs ds → DRs K H (vs.eraseIdx i) (ds.eraseIdx i)
  | _, _, _, .nil => .nil
  | _, _, 0, .cons _ t => t
  | _, _, i + 1, .cons h t => .cons h (DRs.erase i t)
theorem DRs.dropLast : ∀ {vs : List V} {ds : List PyData}, DRs K H vs ds → DRs K H vs.dropLast ds.dropLast := fun {vs ds} h => by
  rw [List.dropLast_eq_take, List.dropLast_eq_take, h.length]
  exact h.take _
theorem DRs.reverse : ∀ {vs : List V} {ds : List PyData}, DRs K H vs ds → DRs K H vs.reverse ds.reverse
  | _, _, .nil => .nil
  | _, _, .cons h t => by
    rw [List.reverse_cons, List.reverse_cons]
    exact DRs.append (DRs.reverse t) (.cons h .nil)
theorem DRs.ints : ∀ {vs : List V} {ns : List Int}, DRs K H vs (ns.map PyData.int) → vs = ns.map V.int
  | _, [], .nil => rfl
  | _, n :: r, .cons h t => by
    cases h
    rw [DRs.ints t]
    rfl
theorem DRs.ofInts : ∀ (ns : List Int), DRs K H (ns.map V.int) (ns.map PyData.int)
  | [] => .nil
  | n :: r => .cons (.int n) (DRs.ofInts r)
theorem DRs.strs : ∀ {vs : List V} {ns : List Str}, DRs K H vs (ns.map PyData.str) → vs = ns.map V.str
  | _, [], .nil => rfl
  | _, n :: r, .cons h t => by
    cases h
    rw [DRs.strs t]
    rfl
theorem DRs.ofStrs : ∀ (ns : List Str), DRs K H (ns.map V.str) (ns.map PyData.str)
  | [] => .nil
  | n :: r => .cons (.str n) (DRs.ofStrs r)
theorem DRs.bools : ∀ {vs : List V} {ns : List Bool}, DRs K H vs (ns.map PyData.bool) → vs = ns.map V.bl
  | _, [], .nil => rfl
  | _, n :: r, .cons h t => by
    cases h
    rw [DRs.bools t]
    rfl
end

/-! ### the frame's relation -/
/-- the addresses of what may change -/
inductive Foot (H : Hp) : V → Tr → Addr → Prop
  | here {a : Addr} {ts : List Tr} : Foot H (.ref a) (.ls ts) a
  | sub {o : Addr} {vs : List V} {ts : List Tr} {k : Nat} {v : V} {t : Tr} {a : Addr} : H o = some (.lst vs) → vs[k]? = some v → ts[k]? = some t → Foot H v t a → Foot H (.ref o) (.ls ts) a
inductive TR (K : PySem.W.Frag) (G H : Hp) : V → Tr → Prop
  | im {v : V} {d : D} : DR K G v d → TR K G H v (.im d)
  | ls {o : Addr} {vs : List V} {ts : List Tr} : G o = none → H o = some (.lst vs) → vs.length = ts.length → (∀ (k : Nat) (v : V) (t : Tr), vs[k]? = some v → ts[k]? = some t → TR K G H v t) →
      (∀ (k : Nat) (v : V) (t : Tr), vs[k]? = some v → ts[k]? = some t → ¬ Foot H v t o) →
      (∀ (j k : Nat) (v u : V) (t s : Tr) (a : Addr), vs[j]? = some v → ts[j]? = some t → vs[k]? = some u → ts[k]? = some s → Foot H v t a → Foot H u s a → j = k) → TR K G H (.ref o) (.ls ts)
section
variable {K : PySem.W.Frag} {G H G' H' : Hp}
theorem TR.foot {v : V} {t : Tr} {a : Addr} (r : TR K G H v t) (f : Foot H v t a) : G a = none ∧ ∃ vs, H a = some (.lst vs) := by
  induction f with
  | here => cases r with | ls g h _ _ _ _ => exact ⟨g, _, h⟩
  | sub h e1 e2 _ ih =>
    cases r with
    | ls g h' _ c _ _ =>
      rw [h] at h'; cases h'
      exact ih (c _ _ _ e1 e2)
theorem Foot.to {v : V} {t : Tr} {a : Addr} (f : Foot H v t a) : (∀ a, Foot H v t a → H' a = H a) → Foot H' v t a := by
  induction f with
  | here => exact fun _ => .here
  | sub h e1 e2 _ ih => exact fun k => .sub (by rw [k _ .here]; exact h) e1 e2 (ih fun a q => k a (.sub h e1 e2 q))
theorem Foot.from {v : V} {t : Tr} {a : Addr} (f : Foot H' v t a) : (∀ a, Foot H v t a → H' a = H a) → Foot H v t a := by
  induction f with
  | here => exact fun _ => .here
  | sub h e1 e2 _ ih =>
    intro k
    have h' := h
    rw [k _ .here] at h'
    exact .sub h' e1 e2 (ih fun a q => k a (.sub h' e1 e2 q))
theorem TR.keep {v : V} {t : Tr} (r : TR K G H v t) (sg : Same G G') : (∀ a, Foot H v t a → G' a = none) → (∀ a, Foot H v t a → H' a = H a) → TR K G' H' v t := by
  induction r with
  | im h => exact fun _ _ => .im (h.mono sg)
  | @ls o vs ts g h l c n d ih =>
    intro hg hk
    have ck : ∀ (k : Nat) (v : V) (t : Tr), vs[k]? = some v → ts[k]? = some t → ∀ a, Foot H v t a → H' a = H a := fun k v t e1 e2 a q => hk a (.sub h e1 e2 q)
    exact .ls (hg _ .here) (by rw [hk _ .here]; exact h) l (fun k v t e1 e2 => ih k v t e1 e2 (fun a q => hg a (.sub h e1 e2 q)) (ck k v t e1 e2))
      (fun k v t e1 e2 q => n k v t e1 e2 (q.from (ck k v t e1 e2))) (fun j k v u t s a e1 e2 e3 e4 q1 q2 => d j k v u t s a e1 e2 e3 e4 (q1.from (ck j v t e1 e2)) (q2.from (ck k u s e3 e4)))
def cellR (K : PySem.W.Frag) (G H : Hp) (v : V) : L → Prop
  | .im d => DR K G v d
  | .ow ds => ∃ o vs, v = .ref o ∧ G o = none ∧ H o = some (.lst vs) ∧ DRs K G vs ds
  | .bo ds => ∃ o vs, v = .ref o ∧ G o = none ∧ H o = some (.lst vs) ∧ DRs K G vs ds
  | .ot t => TR K G H v t
  | .bt t => TR K G H v t
  | .xn a dx c => v = .ref a ∧ ∀ f d, c.arg = some (f, d) → ∃ o y, dx = some o ∧ G o = some (.xd [(f, y)]) ∧ DR K G y d
def Fo (H : Hp) (l : L) (v : V) (a : Addr) : Prop := match l with
  | .im _ => False
  | .ow _ => v = .ref a
  | .bo _ => v = .ref a
  | .ot t => Foot H v t a
  | .bt t => Foot H v t a
  | .xn _ _ _ => False
theorem Fo.some {l : L} {v : V} {a : Addr} (c : cellR K G H v l) (f : Fo H l v a) : G a = none ∧ ∃ vs, H a = some (.lst vs) := by
  cases l with
  | im d => exact f.elim
  | ow ds => obtain ⟨o, vs, e, g, q, _⟩ := c; subst e; cases (show V.ref o = V.ref a from f); exact ⟨g, vs, q⟩
  | bo ds => obtain ⟨o, vs, e, g, q, _⟩ := c; subst e; cases (show V.ref o = V.ref a from f); exact ⟨g, vs, q⟩
  | ot t => exact TR.foot c f
  | bt t => exact TR.foot c f
  | xn _ _ _ => exact f.elim
theorem Fo.to {l : L} {v : V} {a : Addr} (f : Fo H l v a) (k : ∀ a, Fo H l v a → H' a = H a) : Fo H' l v a := by
  cases l with
  | ot t => exact Foot.to f k
  | bt t => exact Foot.to f k
  | _ => exact f
theorem Fo.from {l : L} {v : V} {a : Addr} (f : Fo H' l v a) (k : ∀ a, Fo H l v a → H' a = H a) : Fo H l v a := by
  cases l with
  | ot t => exact Foot.from f k
  | bt t => exact Foot.from f k
  | _ => exact f
theorem Fo.mu {l : L} {v : V} {a : Addr} (f : Fo H l v a) : l.mu = true := by cases l <;> first | rfl | exact f.elim
theorem cell_keep {l : L} {v : V} (c : cellR K G H v l) (sg : Same G G') (hg : ∀ a, Fo H l v a → G' a = none) (hk : ∀ a, Fo H l v a → H' a = H a) : cellR K G' H' v l := by
  cases l with
  | im d => exact DR.mono sg c
  | ow ds => obtain ⟨o, vs, e, g, q, hd⟩ := c; subst e; exact ⟨o, vs, rfl, hg o rfl, by rw [hk o rfl]; exact q, DRs.mono sg hd⟩
  | bo ds => obtain ⟨o, vs, e, g, q, hd⟩ := c; subst e; exact ⟨o, vs, rfl, hg o rfl, by rw [hk o rfl]; exact q, DRs.mono sg hd⟩
  | ot t => exact TR.keep c sg hg hk
  | bt t => exact TR.keep c sg hg hk
  | xn a dx c0 => exact ⟨c.1, fun f d e => by obtain ⟨o, y, h1, h2, h3⟩ := c.2 f d e; exact ⟨o, y, h1, sg _ _ h2, DR.mono sg h3⟩⟩
end
/-- the mutable ones' addresses -/
def Own (H : Hp) (σ : L2.St) (ρ : En) (a : Addr) : Prop := ∃ (i : Nat) (l : L) (v : V), ρ[i]? = some (some l) ∧ σ[i]? = some (some v) ∧ Fo H l v a
/-- those of the other slots -/
def OwnX (H : Hp) (σ : L2.St) (ρ : En) (i : Nat) (a : Addr) : Prop := ∃ (j : Nat) (l : L) (v : V), j ≠ i ∧ ρ[j]? = some (some l) ∧ σ[j]? = some (some v) ∧ Fo H l v a
structure Rel (K : PySem.W.Frag) (G H : Hp) (σ : L2.St) (ρ : En) : Prop where
  sub : Same G H
  len : σ.length = ρ.length
  cell : ∀ (i : Nat) (l : L), ρ[i]? = some (some l) → ∃ v, σ[i]? = some (some v) ∧ cellR K G H v l
  apart : ∀ (i j : Nat) (l m : L) (v u : V) (a : Addr), ρ[i]? = some (some l) → ρ[j]? = some (some m) → σ[i]? = some (some v) → σ[j]? = some (some u) → Fo H l v a → Fo H m u a → i = j
structure Stp (G H : Hp) (σ : L2.St) (ρ : En) (G' H' : Hp) (σ' : L2.St) (ρ' : En) : Prop where
  g : Same G G'
  h : ∀ a o, H a = some o → ¬ Own H σ ρ a → H' a = some o
  fr : ∀ a, G' a ≠ none → G a ≠ none ∨ H a = none ∨ Own H σ ρ a
  ow : ∀ a, Own H' σ' ρ' a → Own H σ ρ a ∨ H a = none
  tr : ∀ a, H a ≠ none → H' a ≠ none
  ln : ρ'.length = ρ.length
  bo : ∀ (i : Nat) (ds : List D), ρ[i]? = some (some (L.bo ds)) → σ'[i]? = σ[i]? ∧ ∃ ds', ρ'[i]? = some (some (L.bo ds'))
  bt : ∀ (i : Nat) (t : Tr), ρ[i]? = some (some (L.bt t)) → σ'[i]? = σ[i]? ∧ ∃ t', ρ'[i]? = some (some (L.bt t')) ∧ ∀ v a, σ[i]? = some (some v) → Foot H v t a → Foot H' v t' a

section
variable {K : PySem.W.Frag} {G H G1 H1 G2 H2 G' H' : Hp} {σ σ1 σ2 : L2.St} {ρ ρ1 ρ2 : En}
theorem tracked_upd {p : Addr} {o : HO} : ∀ a, H a ≠ none → upd H p o a ≠ none := fun a h => by
  by_cases e : a = p
  · subst e; rw [upd_same]; exact fun z => nomatch z
  · rw [upd_ne e]; exact h
theorem Rel.at_ (r : Rel K G H σ ρ) {i : Nat} {l : L} {v : V} (e : ρ[i]? = some (some l)) (s : σ[i]? = some (some v)) : cellR K G H v l := by
  obtain ⟨v', s', c⟩ := r.cell i l e
  rw [s] at s'; cases s'; exact c
theorem Rel.own (r : Rel K G H σ ρ) {a : Addr} (h : Own H σ ρ a) : G a = none ∧ ∃ vs, H a = some (.lst vs) := by
  obtain ⟨i, l, v, e, s, f⟩ := h
  exact f.some (r.at_ e s)
theorem OwnX.own {i : Nat} {a : Addr} (h : OwnX H σ ρ i a) : Own H σ ρ a := let ⟨j, l, v, _, e, s, f⟩ := h; ⟨j, l, v, e, s, f⟩
theorem Rel.notX (r : Rel K G H σ ρ) {i : Nat} {l : L} {v : V} {a : Addr} (e : ρ[i]? = some (some l)) (s : σ[i]? = some (some v)) (f : Fo H l v a) : ¬ OwnX H σ ρ i a := fun ⟨j, m, u, hj, e', s', f'⟩ => hj (r.apart j i m l u v a e' e s' s f' f)
theorem Stp.refl : Stp G H σ ρ G H σ ρ := ⟨Same.refl _, fun _ _ h _ => h, fun _ h => .inl h, fun _ h => .inl h, fun _ h => h, rfl, fun _ ds h => ⟨rfl, ds, h⟩, fun _ t h => ⟨rfl, t, h, fun _ _ _ f => f⟩⟩
theorem Stp.trans (r : Rel K G H σ ρ) (a : Stp G H σ ρ G1 H1 σ1 ρ1) (b : Stp G1 H1 σ1 ρ1 G2 H2 σ2 ρ2) : Stp G H σ ρ G2 H2 σ2 ρ2 := by
  refine ⟨a.g.trans b.g, fun x o h n => ?_, fun x h => ?_, fun x h => ?_, fun x h => b.tr x (a.tr x h), b.ln.trans a.ln, fun i ds h => ?_, fun i t h => ?_⟩
  · refine b.h x o (a.h x o h n) fun h1 => ?_
    rcases a.ow x h1 with z | z
    · exact n z
    · rw [h] at z; cases z
  · by_cases hx : Own H σ ρ x
    · exact .inr (.inr hx)
    · rcases b.fr x h with z | z | z
      · exact a.fr x z
      · cases q : H x with
        | none => exact .inr (.inl rfl)
        | some o => rw [a.h x o q hx] at z; cases z
      · rcases a.ow x z with z | z
        · exact .inr (.inr z)
        · exact .inr (.inl z)
  · by_cases hx : Own H σ ρ x
    · exact .inl hx
    · rcases b.ow x h with z | z
      · exact a.ow x z
      · cases q : H x with
        | none => exact .inr rfl
        | some o => rw [a.h x o q hx] at z; cases z
  · obtain ⟨e1, ds1, h1⟩ := a.bo i ds h
    obtain ⟨e2, ds2, h2⟩ := b.bo i ds1 h1
    exact ⟨e2.trans e1, ds2, h2⟩
  · obtain ⟨e1, t1, h1, f1⟩ := a.bt i t h
    obtain ⟨e2, t2, h2, f2⟩ := b.bt i t1 h1
    exact ⟨e2.trans e1, t2, h2, fun v x s f => f2 v x (e1.trans s) (f1 v x s f)⟩
/-- what the immutable part knows stays -/
theorem Rel.g_h (r : Rel K G H σ ρ) : Same G H := r.sub
/-- what the slots own is not touched -/
theorem Rel.keep (r : Rel K G H σ ρ) (sg : Same G G') (sb : Same G' H') (hg : ∀ a, Own H σ ρ a → G' a = none) (hk : ∀ a, Own H σ ρ a → H' a = H a) : Rel K G' H' σ ρ ∧ ∀ a, Own H' σ ρ a ↔ Own H σ ρ a := by
  have ck : ∀ (i : Nat) (l : L) (v : V), ρ[i]? = some (some l) → σ[i]? = some (some v) → ∀ a, Fo H l v a → H' a = H a := fun i l v e s a f => hk a ⟨i, l, v, e, s, f⟩
  refine ⟨⟨sb, r.len, fun i l e => ?_, fun i j l m v u a ei ej si sj fi fj => r.apart i j l m v u a ei ej si sj (fi.from (ck i l v ei si)) (fj.from (ck j m u ej sj))⟩, fun a => ⟨fun ⟨i, l, v, e, s, f⟩ => ⟨i, l, v, e, s, f.from (ck i l v e s)⟩, fun ⟨i, l, v, e, s, f⟩ => ⟨i, l, v, e, s, f.to (ck i l v e s)⟩⟩⟩
  obtain ⟨v, s, c⟩ := r.cell i l e
  exact ⟨v, s, cell_keep c sg (fun a f => hg a ⟨i, l, v, e, s, f⟩) (ck i l v e s)⟩
theorem ne_own (r : Rel K G H σ ρ) {p a : Addr} (hp : H p = none) (h : Own H σ ρ a) : a ≠ p := fun z => by
  obtain ⟨_, vs, q⟩ := r.own h
  rw [z, hp] at q; cases q
/-- a new immutable object -/
theorem Rel.laid (r : Rel K G H σ ρ) {p : Addr} {o : HO} (hp : H p = none) : Rel K (upd G p o) (upd H p o) σ ρ ∧ Stp G H σ ρ (upd G p o) (upd H p o) σ ρ := by
  have hg : G p = none := Same.free r.sub hp
  have sg : Same G (upd G p o) := fun b x e => by rw [upd_ne (ne_of_none e hg)]; exact e
  have sh : Same H (upd H p o) := fun b x e => by rw [upd_ne (ne_of_none e hp)]; exact e
  obtain ⟨r', ow⟩ := r.keep (G' := upd G p o) (H' := upd H p o) sg (fun b x e => by
    by_cases hb : b = p
    · subst hb; rw [upd_same] at e; rw [upd_same]; exact e
    · rw [upd_ne hb] at e; rw [upd_ne hb]; exact r.sub b x e) (fun a h => by rw [upd_ne (ne_own r hp h)]; exact (r.own h).1) (fun a h => upd_ne (ne_own r hp h))
  refine ⟨r', ⟨sg, fun a x e _ => sh a x e, fun a h => ?_, fun a h => .inl ((ow a).mp h), tracked_upd, rfl, fun i ds h => ⟨rfl, ds, h⟩, fun i t h => ⟨rfl, t, h, fun v a s f => f.to fun b q => upd_ne (ne_own r hp ⟨i, _, v, h, s, q⟩)⟩⟩⟩
  by_cases ha : a = p
  · subst ha; exact .inr (.inl hp)
  · rw [upd_ne ha] at h; exact .inl h
/-- a new mutable object, not yet at a slot -/
theorem Rel.laidM (r : Rel K G H σ ρ) {p : Addr} {o : HO} (hp : H p = none) : Rel K G (upd H p o) σ ρ ∧ Stp G H σ ρ G (upd H p o) σ ρ := by
  have sh : Same H (upd H p o) := fun b x e => by rw [upd_ne (ne_of_none e hp)]; exact e
  obtain ⟨r', ow⟩ := r.keep (G' := G) (H' := upd H p o) (Same.refl _) (fun b x e => sh b x (r.sub b x e)) (fun a h => (r.own h).1) (fun a h => upd_ne (ne_own r hp h))
  exact ⟨r', ⟨Same.refl _, fun a x e _ => sh a x e, fun a h => .inl h, fun a h => .inl ((ow a).mp h), tracked_upd, rfl, fun i ds h => ⟨rfl, ds, h⟩, fun i t h => ⟨rfl, t, h, fun v a s f => f.to fun b q => upd_ne (ne_own r hp ⟨i, _, v, h, s, q⟩)⟩⟩⟩
theorem own_upd (r : Rel K G H σ ρ) {p : Addr} {o : HO} (hp : H p = none) (a : Addr) : Own (upd H p o) σ ρ a ↔ Own H σ ρ a :=
  (r.keep (G' := G) (H' := upd H p o) (Same.refl _) (fun b x e => by rw [upd_ne (ne_of_none (r.sub b x e) hp)]; exact r.sub b x e) (fun a h => (r.own h).1) (fun a h => upd_ne (ne_own r hp h))).2 a
theorem not_own (r : Rel K G H σ ρ) {p : Addr} (hp : H p = none) : ¬ Own H σ ρ p := fun h => ne_own r hp h rfl
/-- one slot is stored into -/
theorem Rel.set1 (r : Rel K G H σ ρ) {i : Nat} {c : Option L} (hi : ρ[i]? = some c) {v' : V} {l' : L} (sg : Same G G') (sb : Same G' H') (hg : ∀ a, OwnX H σ ρ i a → G' a = none) (hk : ∀ a, OwnX H σ ρ i a → H' a = H a)
    (hc : cellR K G' H' v' l') (hd : ∀ a, Fo H' l' v' a → ¬ OwnX H σ ρ i a) : Rel K G' H' (σ.set i (some v')) (ρ.set i (some l')) ∧ ∀ a, Own H' (σ.set i (some v')) (ρ.set i (some l')) a → OwnX H σ ρ i a ∨ Fo H' l' v' a := by
  have hσ : i < σ.length := by rw [r.len]; exact (List.getElem?_eq_some_iff.mp hi).1
  have lk : ∀ j, j ≠ i → (ρ.set i (some l'))[j]? = ρ[j]? := fun j hj => List.getElem?_set_ne (Ne.symm hj)
  have ls : ∀ j, j ≠ i → (σ.set i (some v'))[j]? = σ[j]? := fun j hj => List.getElem?_set_ne (Ne.symm hj)
  have lki : (ρ.set i (some l'))[i]? = some (some l') := List.getElem?_set_self (List.getElem?_eq_some_iff.mp hi).1
  have lsi : (σ.set i (some v'))[i]? = some (some v') := List.getElem?_set_self hσ
  have ck : ∀ (j : Nat) (l : L) (v : V), j ≠ i → ρ[j]? = some (some l) → σ[j]? = some (some v) → ∀ a, Fo H l v a → H' a = H a := fun j l v hj e s a f => hk a ⟨j, l, v, hj, e, s, f⟩
  refine ⟨⟨sb, by rw [List.length_set, List.length_set]; exact r.len, fun j l e => ?_, fun j k l m v u a ej ek sj sk fj fk => ?_⟩, fun a ⟨j, l, v, e, s, f⟩ => ?_⟩
  · by_cases hj : j = i
    · subst hj; rw [lki] at e; cases e; exact ⟨v', lsi, hc⟩
    · rw [lk j hj] at e
      obtain ⟨v, s, c⟩ := r.cell j l e
      exact ⟨v, by rw [ls j hj]; exact s, cell_keep c sg (fun a f => hg a ⟨j, l, v, hj, e, s, f⟩) (ck j l v hj e s)⟩
  · by_cases hj : j = i
    · by_cases hk' : k = i
      · rw [hj, hk']
      · subst hj
        rw [lki] at ej; cases ej
        rw [lsi] at sj; cases sj
        rw [lk k hk'] at ek; rw [ls k hk'] at sk
        exact absurd ⟨k, m, u, hk', ek, sk, fk.from (ck k m u hk' ek sk)⟩ (hd a fj)
    · rw [lk j hj] at ej; rw [ls j hj] at sj
      by_cases hk' : k = i
      · subst hk'
        rw [lki] at ek; cases ek
        rw [lsi] at sk; cases sk
        exact absurd ⟨j, l, v, hj, ej, sj, fj.from (ck j l v hj ej sj)⟩ (hd a fk)
      · rw [lk k hk'] at ek; rw [ls k hk'] at sk
        exact r.apart j k l m v u a ej ek sj sk (fj.from (ck j l v hj ej sj)) (fk.from (ck k m u hk' ek sk))
  · by_cases hj : j = i
    · subst hj; rw [lki] at e; cases e; rw [lsi] at s; cases s; exact .inr f
    · rw [lk j hj] at e; rw [ls j hj] at s
      exact .inl ⟨j, l, v, hj, e, s, f.from (ck j l v hj e s)⟩
theorem set_id {α : Type} {l : List α} {i : Nat} {a : α} (h : l[i]? = some a) : l.set i a = l := by
  obtain ⟨hi, e⟩ := List.getElem?_eq_some_iff.mp h
  rw [← e]; exact List.set_getElem_self hi
end
end Dn
namespace Dn
open PySem PySem.Spec PyProof.Rows L2

theorem PE.imp {X : Cx} {e : Expr} {t t' : TE} (h : PE X e t) (i : ∀ σ H Q, t' σ H Q → t σ H Q) : PE X e t' := ⟨fun pins s σ H Q I q => h.run pins s σ H Q I (i _ _ _ q)⟩
theorem PT.imp {X : Cx} {e : Expr} {t t' : TT} (h : PT X e t) (i : ∀ σ H Q, t' σ H Q → t σ H Q) : PT X e t' := ⟨fun pins s σ H Q I q => h.run pins s σ H Q I (i _ _ _ q)⟩
theorem PW.imp {X : Cx} {e : Expr} {t t' : TT} (h : PW X e t) (i : ∀ σ H Q, t' σ H Q → t σ H Q) : PW X e t' := ⟨fun w pins s σ H Q I q => h.run w pins s σ H Q I (i _ _ _ q)⟩
theorem PA.imp {X : Cx} {es : List Expr} {t t' : TA} (h : PA X es t) (i : ∀ σ H Q, t' σ H Q → t σ H Q) : PA X es t' := ⟨fun p pins s σ H Q I q => h.run p pins s σ H Q I (i _ _ _ q)⟩
theorem PS.imp {X : Cx} {e : Stmt} {t t' : TS} (h : PS X e t) (i : ∀ D σ H, t' D σ H → t D σ H) : PS X e t' := ⟨fun pins s σ H D I q => h.run pins s σ H D I (i _ _ _ q)⟩
theorem PSs.imp {X : Cx} {e : List Stmt} {t t' : TS} (h : PSs X e t) (i : ∀ D σ H, t' D σ H → t D σ H) : PSs X e t' := ⟨fun pins s σ H D I q => h.run pins s σ H D I (i _ _ _ q)⟩
theorem PO.imp {X : Cx} {e : Option Expr} {t t' : TO} (h : PO X e t) (i : ∀ σ H Q, t' σ H Q → t σ H Q) : PO X e t' := ⟨fun pins s σ H Q I q => h.run pins s σ H Q I (i _ _ _ q)⟩

/-! ### what is wanted: of exceptions too -/
structure Wh where
  ca : String → Option Value
  W : WX
/-- an exception as it lies -/
structure ExR (K : PySem.W.Frag) (w : Wh) (G H : Hp) (c : Exn) (cls : Value) (dx : Option Addr) : Prop where
  hc : w.ca c.cls = some cls
  hn : c.arg = none → dx = none ∨ ∃ n, cls = Value.type n
  hs : ∀ f d, c.arg = some (f, d) → ∃ a v, dx = some a ∧ G a = some (.xd [(f, v)]) ∧ DR K G v d
section
variable {α β : Type}
def Fn (K : PySem.W.Frag) (w : Wh) (G H : Hp) (σ : L2.St) (ρ : En) (r : R α) (P : Hp → Hp → En → α → Prop) : Prop :=
  match r with
  | .no => False
  | .ok a ρ' => ∀ G' H', Rel K G' H' σ ρ' → Stp G H σ ρ G' H' σ ρ' → P G' H' ρ' a
  | .ex c ρ' => ∀ G' H' cls dx, Rel K G' H' σ ρ' → Stp G H σ ρ G' H' σ ρ' → ExR K w G' H' c cls dx → w.W cls dx σ H'
variable {K : PySem.W.Frag} {w : Wh} {G H : Hp} {σ : L2.St} {ρ : En}
theorem Fn.imp {r : R α} {P P' : Hp → Hp → En → α → Prop} (h : Fn K w G H σ ρ r P) (i : ∀ G' H' ρ' a, P G' H' ρ' a → P' G' H' ρ' a) : Fn K w G H σ ρ r P' := by
  cases r with
  | no => exact h
  | ok a ρ' => exact fun G' H' r s => i _ _ _ _ (h G' H' r s)
  | ex c ρ' => exact h
theorem Fn.bind {r : R α} {g : α → En → R β} {P : Hp → Hp → En → β → Prop} (rel : Rel K G H σ ρ) (h : Fn K w G H σ ρ (r.bind g) P) :
    Fn K w G H σ ρ r (fun G1 H1 ρ1 a => Rel K G1 H1 σ ρ1 ∧ Stp G H σ ρ G1 H1 σ ρ1 ∧ Fn K w G1 H1 σ ρ1 (g a ρ1) P) := by
  cases r with
  | no => exact h
  | ex c ρ' => exact h
  | ok a ρ' =>
    intro G1 H1 r1 s1
    refine ⟨r1, s1, ?_⟩
    have h' : Fn K w G H σ ρ (g a ρ') P := h
    cases q : g a ρ' with
    | no => rw [q] at h'; exact h'
    | ex c ρ2 => rw [q] at h'; exact fun G' H' cls dx r2 s2 => h' G' H' cls dx r2 (s1.trans rel s2)
    | ok b ρ2 => rw [q] at h'; exact fun G' H' r2 s2 => h' G' H' r2 (s1.trans rel s2)
def lift (o : Option α) (ρ : En) : R α := match o with
  | some a => .ok a ρ
  | none => .no
theorem Fn.lift {o : Option α} {P : Hp → Hp → En → α → Prop} (h : Fn K w G H σ ρ (lift o ρ) P) : ∃ a, o = some a ∧ ∀ G' H', Rel K G' H' σ ρ → Stp G H σ ρ G' H' σ ρ → P G' H' ρ a := by
  cases o with
  | none => exact h.elim
  | some a => exact ⟨a, rfl, h⟩
theorem Fn.ok {a : α} {P : Hp → Hp → En → α → Prop} (h : Fn K w G H σ ρ (.ok a ρ) P) (rel : Rel K G H σ ρ) : P G H ρ a := h G H rel Stp.refl
end

/-! ### the judgements -/
/-- what is wanted of a value -/
abbrev QD (K : PySem.W.Frag) (Q : VK) : Hp → Hp → En → D → Prop := fun G' H' _ d => ∀ v, DR K G' v d → Q v H'
abbrev QB (Q : Bool → Hp → Prop) : Hp → Hp → En → Bool → Prop := fun _ H' _ b => Q b H'
/-- a new list, nobody else's -/
structure NewL (K : PySem.W.Frag) (H : Hp) (σ : L2.St) (G' H' : Hp) (ρ' : En) (p : Addr) (ds : List D) : Prop where
  g : G' p = none
  own : ¬ Own H' σ ρ' p
  here : ∃ vs, H' p = some (.lst vs) ∧ DRs K G' vs ds
  new : H p = none
abbrev QN (K : PySem.W.Frag) (H : Hp) (σ : L2.St) (Q : VK) : Hp → Hp → En → List D → Prop := fun G' H' ρ' ds => ∀ p, NewL K H σ G' H' ρ' p ds → Q (.ref p) H'
/-- an argument: a value, or a slot lent -/
inductive AV where
  | im (d : D)
  | sl (i : Nat)
inductive AVs (K : PySem.W.Frag) (G : Hp) (σ : L2.St) : List V → List AV → Prop
  | nil : AVs K G σ [] []
  | im {v : V} {vs : List V} {d : D} {as : List AV} : DR K G v d → AVs K G σ vs as → AVs K G σ (v :: vs) (.im d :: as)
  | sl {v : V} {vs : List V} {i : Nat} {as : List AV} : σ[i]? = some (some v) → AVs K G σ vs as → AVs K G σ (v :: vs) (.sl i :: as)
abbrev QA (K : PySem.W.Frag) (σ : L2.St) (Q : List V → Hp → Prop) : Hp → Hp → En → List AV → Prop := fun G' H' _ as => ∀ vs, AVs K G' σ vs as → Q vs H'
abbrev QO (Q : Option Int → Hp → Prop) : Hp → Hp → En → Option Int → Prop := fun _ H' _ b => Q b H'

abbrev teD (K : PySem.W.Frag) (w : Wh) (f : En → R D) : TE := fun σ H Q => ∃ G ρ, Rel K G H σ ρ ∧ Fn K w G H σ ρ (f ρ) (QD K Q)
abbrev teN (K : PySem.W.Frag) (w : Wh) (f : En → R (List D)) : TE := fun σ H Q => ∃ G ρ, Rel K G H σ ρ ∧ Fn K w G H σ ρ (f ρ) (QN K H σ Q)
abbrev teB (K : PySem.W.Frag) (w : Wh) (f : En → R Bool) : TT := fun σ H Q => ∃ G ρ, Rel K G H σ ρ ∧ Fn K w G H σ ρ (f ρ) (QB Q)
abbrev teA (K : PySem.W.Frag) (w : Wh) (f : En → R (List AV)) : TA := fun σ H Q => ∃ G ρ, Rel K G H σ ρ ∧ Fn K w G H σ ρ (f ρ) (QA K σ Q)
abbrev teO (K : PySem.W.Frag) (w : Wh) (f : En → R (Option Int)) : TO := fun σ H Q => ∃ G ρ, Rel K G H σ ρ ∧ Fn K w G H σ ρ (f ρ) (QO Q)
abbrev VE (X : Cx) (w : Wh) (e : Expr) (f : En → R D) : Prop := PE X e (teD X.K w f)
abbrev VN (X : Cx) (w : Wh) (e : Expr) (f : En → R (List D)) : Prop := PE X e (teN X.K w f)
abbrev VT (X : Cx) (w : Wh) (e : Expr) (f : En → R Bool) : Prop := PT X e (teB X.K w f)
abbrev VW (X : Cx) (w : Wh) (e : Expr) (f : En → R Bool) : Prop := PW X e (teB X.K w f)
abbrev VA (X : Cx) (w : Wh) (es : List Expr) (f : En → R (List AV)) : Prop := PA X es (teA X.K w f)
abbrev VO (X : Cx) (w : Wh) (e : Option Expr) (f : En → R (Option Int)) : Prop := PO X e (teO X.K w f)

/-! ### names and constants -/
def frz (i : Nat) (ds : List D) (ρ : En) : En := ρ.set i (some (.im (.list ds)))
def dVar (i : Nat) : En → R D := fun ρ => match ρ[i]? with
  | some (some (.im d)) => .ok d ρ
  | some (some (.ow ds)) => .ok (.list ds) (frz i ds ρ)
  | _ => .no
def dC (d : D) : En → R D := fun ρ => .ok d ρ
section
variable {K : PySem.W.Frag} {G H : Hp} {σ : L2.St} {ρ : En}
/-- a slot's list becomes a datum -/
theorem Rel.freeze (r : Rel K G H σ ρ) {i : Nat} {ds : List D} (h : ρ[i]? = some (some (L.ow ds))) :
    ∃ G' o, σ[i]? = some (some (V.ref o)) ∧ Rel K G' H σ (frz i ds ρ) ∧ Stp G H σ ρ G' H σ (frz i ds ρ) ∧ DR K G' (.ref o) (.list ds) := by
  obtain ⟨v, s, c⟩ := r.cell i _ h
  obtain ⟨o, vs, rfl, g, q, hd⟩ := c
  have sg : Same G (upd G o (.lst vs)) := fun b x e => by rw [upd_ne (ne_of_none e g)]; exact e
  have hDR : DR K (upd G o (.lst vs)) (.ref o) (.list ds) := .lst (.inl (.inl upd_same)) (DRs.mono sg hd)
  have own_o : Own H σ ρ o := ⟨i, _, _, h, s, rfl⟩
  obtain ⟨r', ow⟩ := r.set1 (G' := upd G o (.lst vs)) (H' := H) (v' := .ref o) (l' := .im (.list ds)) h sg (fun b x e => by
    by_cases hb : b = o
    · subst hb; rw [upd_same] at e; cases e; exact q
    · rw [upd_ne hb] at e; exact r.sub b x e) (fun a ha => by
    have : a ≠ o := fun z => by subst z; exact r.notX h s rfl ha
    rw [upd_ne this]; exact (r.own ha.own).1) (fun a ha => rfl) hDR (fun a f => f.elim)
  rw [set_id s] at r' ow
  refine ⟨upd G o (.lst vs), o, s, r', ⟨sg, fun a x e _ => e, fun a ha => ?_, fun a ha => ?_, fun _ h => h, by unfold frz; rw [List.length_set], fun j es e => ⟨rfl, es, ?_⟩, fun j t e => ⟨rfl, t, ?_, fun _ _ _ f => f⟩⟩, hDR⟩
  · by_cases hb : a = o
    · subst hb; exact .inr (.inr own_o)
    · rw [upd_ne hb] at ha; exact .inl ha
  · rcases ow a ha with z | z
    · exact .inl z.own
    · exact z.elim
  · have hj : j ≠ i := fun z => by subst z; rw [h] at e; cases e
    unfold frz; rw [List.getElem?_set_ne (Ne.symm hj)]; exact e
  · have hj : j ≠ i := fun z => by subst z; rw [h] at e; cases e
    unfold frz; rw [List.getElem?_set_ne (Ne.symm hj)]; exact e
end
section
variable {X : Cx} {w : Wh}
theorem ve_var (i : Nat) {x : Str} {pos : Pos} (hN : X.N[i]? = some x := by rfl) (hv : Vis X.env.scope x := by first | exact Or.inl rfl | exact Or.inr (Or.inl rfl) | exact Or.inr (Or.inr rfl)) (hd : (x == ("__debug__" : Str)) = false := by decide)
    (hcd : (x == ("__classdict__" : Str)) = false := by decide) : VE X w (.Name x pos) (dVar i) := by
  refine PE.imp (pe_var hN hv hd hcd) fun σ H Q ⟨G, ρ, r, h⟩ => ?_
  unfold dVar at h
  cases e : ρ[i]? with
  | none => rw [e] at h; exact h.elim
  | some o =>
    rw [e] at h
    cases o with
    | none => exact h.elim
    | some l =>
      cases l with
      | im d =>
        obtain ⟨v, s, c⟩ := r.cell i _ e
        exact ⟨v, s, h.ok r v c⟩
      | ow ds =>
        obtain ⟨G', o, s, r', st, hd⟩ := r.freeze e
        exact ⟨.ref o, s, h G' H r' st _ hd⟩
      | _ => exact h.elim
theorem ve_int {i : Int} {j : Nat} {pos : Pos} : VE X w (.Constant (.int i) j pos) (dC (.int i)) := PE.imp pe_int fun _ _ _ ⟨_, _, r, h⟩ => h.ok r _ (.int i)
end
end Dn
namespace Dn
open PySem PySem.Spec PyProof.Rows L2

/-! ### what operators do to data -/
def gAdd : D → D → Option D
  | .int i, .int j => some (.int (i + j))
  | .str a, .str b => if a.length + b.length ≤ sizeLine then some (.str (a ++ b)) else none
  | .list a, .list b => if a.length + b.length ≤ sizeLine then some (.list (a ++ b)) else none
  | .tuple a, .tuple b => if a.length + b.length ≤ sizeLine then some (.tuple (a ++ b)) else none
  | _, _ => none
def gSub : D → D → Option D
  | .int i, .int j => some (.int (i - j))
  | _, _ => none
def gMul : D → D → Option D
  | .int i, .int j => if i.natAbs.log2 + j.natAbs.log2 < 100000000 then some (.int (i * j)) else none
  | _, _ => none
def gFdiv : D → D → Option D
  | .int i, .int j => if j ≠ 0 ∧ j.natAbs.log2 < 9000 then some (.int (i.fdiv j)) else none
  | _, _ => none
def gMod : D → D → Option D
  | .int i, .int j => if j ≠ 0 then some (.int (i.fmod j)) else none
  | _, _ => none
def gPow : D → D → Option D
  | .int i, .int j => if 0 ≤ j ∧ (Builtin.Int.intBits i : Int) * j ≤ 2 ^ 27 then some (.int (i ^ j.toNat)) else none
  | _, _ => none
def OpS (K : PySem.W.Frag) (r : R2) (g : D → D → Option D) : Prop :=
  ∀ (w : Wh) (x y : V) (dx dy d : D) (G H : Hp) (σ : L2.St) (ρ : En) (Q : VK), Rel K G H σ ρ → DR K G x dx → DR K G y dy → g dx dy = some d →
    (∀ G' H', Rel K G' H' σ ρ → Stp G H σ ρ G' H' σ ρ → ∀ v, DR K G' v d → Q v H') → r x y H Q
def dOp (g : D → D → Option D) (fa fb : En → R D) : En → R D := fun ρ => (fa ρ).bind fun x ρ1 => (fb ρ1).bind fun y ρ2 => lift (g x y) ρ2
section
variable {K : PySem.W.Frag} {G H : Hp} {σ : L2.St} {ρ : En}
/-- a new immutable thing is handed on -/
theorem hand_new (r : Rel K G H σ ρ) {Q : VK} {d : D} (q : ∀ G' H', Rel K G' H' σ ρ → Stp G H σ ρ G' H' σ ρ → ∀ v, DR K G' v d → Q v H') {o : HO}
    (mk : ∀ p, H p = none → DR K (upd G p o) (.ref p) d) : ∀ p, H p = none → Q (.ref p) (upd H p o) := fun p hp => by
  obtain ⟨r', s'⟩ := r.laid (o := o) hp
  exact q _ _ r' s' _ (mk p hp)
theorem same_laid (r : Rel K G H σ ρ) {p : Addr} {o : HO} (hp : H p = none) : Same G (upd G p o) := (r.laid (o := o) hp).2.g
theorem DR.newT (r : Rel K G H σ ρ) {vs : List V} {ds : List D} (h : DRs K G vs ds) : ∀ p, H p = none → DR K (upd G p (.tup vs)) (.ref p) (.tuple ds) := fun p hp =>
  .tup (.inl (.inl upd_same)) (h.mono (same_laid r hp))
theorem DR.newL (r : Rel K G H σ ρ) {vs : List V} {ds : List D} (h : DRs K G vs ds) : ∀ p, H p = none → DR K (upd G p (.lst vs)) (.ref p) (.list ds) := fun p hp =>
  .lst (.inl (.inl upd_same)) (h.mono (same_laid r hp))
end
section
variable {X : Cx} {w : Wh}
/-- lists that are read -/
def rCatR (K : PySem.W.Frag) : R2 := fun x y H Q => ∃ l b xs zs, x = .ref l ∧ y = .ref b ∧ SqL K H l xs ∧ SqL K H b zs ∧ xs.length + zs.length ≤ sizeLine ∧ ∀ p, H p = none → Q (.ref p) (upd H p (.lst (xs ++ zs)))
theorem op_catR : OpR X (binaryOp .Add) (rCatR X.K) := by
  intro pins s σ H x y v u Q I rx ry h
  obtain ⟨l, b, xs, zs, rfl, rfl, hH, hB, hz, q⟩ := h
  cases rx
  cases ry
  obtain ⟨its, r, ⟨⟨cls, dd, data, sl⟩, n, ho, hc, hdn, hd⟩, z⟩ := I.list hH
  obtain ⟨its2, r2, ⟨⟨cls2, dd2, data2, sl2⟩, n2, ho2, hc2, hdn2, hd2⟩, z2⟩ := I.list hB
  simp only at hc hd hc2 hd2
  subst hc hd hc2 hd2
  have hl := r.length
  have hl2 := r2.length
  have ea : its.toArray ++ its2.toArray = (its ++ its2).toArray := by simp
  refine concat_meets ⟨_, ho, rfl⟩ ⟨_, ho2, rfl⟩ noFill_list_add seq_list_add PySem.F.slot_list_add PySem.F.entry_list_add (PySem.F.args_list_add_2 _ _) (list_addW l b its.toArray its2.toArray n n2 dd dd2 sl sl2 (by rw [List.size_toArray, List.size_toArray]; omega)) ⟨ho, ho2, ?_⟩
  rw [ea]
  exact ⟨.ref _, _, I.lnew (t' := s.toks) (r.append r2) (by rw [List.length_append]; omega), rfl, q _ I.fresh⟩
def rAddA (K : PySem.W.Frag) : R2 := fun x y H Q => (∃ i j, x = .int i ∧ y = .int j ∧ Q (.int (i + j)) H) ∨ (∃ i j, x = .str i ∧ y = .str j ∧ i.length + j.length ≤ sizeLine ∧ Q (.str (i ++ j)) H) ∨ rCatR K x y H Q ∨ rCatA K x y H Q
theorem op_addA : OpR X (binaryOp .Add) (rAddA X.K) := op_add.or (op_add_str.or (op_catR.or op_catA))
theorem os_add : OpS X.K (rAddA X.K) gAdd := by
  intro w x y dx dy d G H σ ρ Q r hx hy e q
  cases hx with
  | int i =>
    cases hy with
    | int j => cases e; exact .inl ⟨i, j, rfl, rfl, q _ _ r Stp.refl _ (.int _)⟩
    | _ => cases e
  | str a =>
    cases hy with
    | str b =>
      simp only [gAdd] at e
      split at e
      · cases e; exact .inr (.inl ⟨a, b, rfl, rfl, ‹_›, q _ _ r Stp.refl _ (.str _)⟩)
      · cases e
    | _ => cases e
  | @lst a xs ds h hs =>
    cases hy with
    | @lst b ys es h' hs' =>
      simp only [gAdd] at e
      split at e
      · rename_i hz
        cases e
        refine .inr (.inr (.inl ⟨a, b, xs, ys, rfl, rfl, r.sub.seq h, r.sub.seq h', ?_, hand_new r q (DR.newL r (hs.append hs'))⟩))
        rw [hs.length, hs'.length]; exact hz
      · cases e
    | _ => cases e
  | @tup a xs ds h hs =>
    cases hy with
    | @tup b ys es h' hs' =>
      simp only [gAdd] at e
      split at e
      · rename_i hz
        cases e
        refine .inr (.inr (.inr ⟨a, b, xs, ys, rfl, rfl, Same.tup r.sub h, Same.tup r.sub h', ?_, fun hn => ?_, fun _ hn => ?_, fun _ _ => hand_new r q (DR.newT r (hs.append hs'))⟩))
        · rw [hs.length, hs'.length]; exact hz
        · subst hn; cases hs
          rw [List.nil_append] at q
          exact q _ _ r Stp.refl _ (.tup h' hs')
        · subst hn; cases hs'
          rw [List.append_nil] at q
          exact q _ _ r Stp.refl _ (.tup h hs)
      · cases e
    | _ => cases e
  | _ => cases e
/-- ints alone -/
theorem os_int {C : Int → Int → Prop} {g : Int → Int → Int} {gd : D → D → Option D} {K : PySem.W.Frag} (hg : ∀ a b d, gd a b = some d → ∃ i j, a = .int i ∧ b = .int j ∧ C i j ∧ d = .int (g i j)) : OpS K (rI C fun i j => .int (g i j)) gd := by
  intro w x y dx dy d G H σ ρ Q r hx hy e q
  obtain ⟨i, j, rfl, rfl, c, rfl⟩ := hg _ _ _ e
  cases hx
  cases hy
  exact ⟨i, j, rfl, rfl, c, q _ _ r Stp.refl _ (.int _)⟩
theorem op_subA : OpR X (binaryOp .Sub) (rI (fun _ _ => True) fun i j => .int (i - j)) := opI fun _ _ _ _ _ _ _ _ q => sub_int q
theorem os_sub {K : PySem.W.Frag} : OpS K (rI (fun _ _ => True) fun i j => .int (i - j)) gSub := os_int fun a b d e => by
  cases a <;> cases b <;> first | (cases e; done) | (cases e; exact ⟨_, _, rfl, rfl, trivial, rfl⟩)
theorem mulX_log {i j : Int} (h : i.natAbs.log2 + j.natAbs.log2 < 100000000) : CMulX i j :=
  mulx_ok (a := i.natAbs.log2 + 1) (b := j.natAbs.log2 + 1) Nat.lt_log2_self Nat.lt_log2_self (by omega)
theorem os_mul {K : PySem.W.Frag} : OpS K (rI CMulX fun i j => .int (i * j)) gMul := os_int fun a b d e => by
  cases a <;> cases b <;> first | (cases e; done) | (simp only [gMul] at e; split at e <;> cases e; exact ⟨_, _, rfl, rfl, mulX_log ‹_›, rfl⟩)
def CDivX (_ j : Int) : Prop := j ≠ 0 ∧ j.natAbs.log2 < 9000
theorem op_fdivX : OpR X (binaryOp .FloorDiv) (rI CDivX fun i j => .int (i.fdiv j)) := opI fun _ _ _ _ _ _ _ hc q => floordiv_int hc.1 q (.inl (PyProof.noPylong_of_log2 hc.2))
theorem os_fdiv {K : PySem.W.Frag} : OpS K (rI CDivX fun i j => .int (i.fdiv j)) gFdiv := os_int fun a b d e => by
  cases a <;> cases b <;> first | (cases e; done) | (simp only [gFdiv] at e; split at e <;> cases e; exact ⟨_, _, rfl, rfl, ‹_›, rfl⟩)
theorem os_mod {K : PySem.W.Frag} : OpS K (rI (fun _ j => j ≠ 0) fun i j => .int (i.fmod j)) gMod := os_int fun a b d e => by
  cases a <;> cases b <;> first | (cases e; done) | (simp only [gMod] at e; split at e <;> cases e; exact ⟨_, _, rfl, rfl, ‹_›, rfl⟩)
theorem op_powB : OpR X (binaryOp .Pow) (rI (fun i j => 0 ≤ j ∧ (Builtin.Int.intBits i : Int) * j ≤ 2 ^ 27) fun i j => .int (i ^ j.toNat)) := opI fun _ _ _ _ _ _ _ hc q => pow_int hc.1 hc.2 q
theorem os_pow {K : PySem.W.Frag} : OpS K (rI (fun i j => 0 ≤ j ∧ (Builtin.Int.intBits i : Int) * j ≤ 2 ^ 27) fun i j => .int (i ^ j.toNat)) gPow := os_int fun a b d e => by
  cases a <;> cases b <;> first | (cases e; done) | (simp only [gPow] at e; split at e <;> cases e; exact ⟨_, _, rfl, rfl, ‹_›, rfl⟩)

theorem ve_op {op : Operator} {r : R2} {g : D → D → Option D} {a b : Expr} {fa fb : En → R D} {pos : Pos} (ho : OpR X (binaryOp op) r) (hs : OpS X.K r g) (ha : VE X w a fa) (hb : VE X w b fb) : VE X w (.BinOp a op b pos) (dOp g fa fb) := by
  refine PE.imp (pe_op ho ha hb) fun σ H Q ⟨G, ρ, rel, h⟩ => ⟨G, ρ, rel, (Fn.bind rel h).imp fun G1 H1 ρ1 dx ⟨r1, s1, h1⟩ x hx => ⟨G1, ρ1, r1, (Fn.bind r1 h1).imp fun G2 H2 ρ2 dy ⟨r2, s2, h2⟩ y hy => ?_⟩⟩
  obtain ⟨d, e, q⟩ := Fn.lift h2
  exact hs w x y dx dy d G2 H2 σ ρ2 Q r2 (hx.mono s2.g) hy e q
theorem ve_add {a b : Expr} {fa fb : En → R D} {pos : Pos} (ha : VE X w a fa) (hb : VE X w b fb) : VE X w (.BinOp a .Add b pos) (dOp gAdd fa fb) := ve_op op_addA os_add ha hb
theorem ve_sub {a b : Expr} {fa fb : En → R D} {pos : Pos} (ha : VE X w a fa) (hb : VE X w b fb) : VE X w (.BinOp a .Sub b pos) (dOp gSub fa fb) := ve_op op_subA os_sub ha hb
theorem ve_mul {a b : Expr} {fa fb : En → R D} {pos : Pos} (ha : VE X w a fa) (hb : VE X w b fb) : VE X w (.BinOp a .Mult b pos) (dOp gMul fa fb) := ve_op op_mulX os_mul ha hb
theorem ve_fdiv {a b : Expr} {fa fb : En → R D} {pos : Pos} (ha : VE X w a fa) (hb : VE X w b fb) : VE X w (.BinOp a .FloorDiv b pos) (dOp gFdiv fa fb) := ve_op op_fdivX os_fdiv ha hb
theorem ve_mod {a b : Expr} {fa fb : En → R D} {pos : Pos} (ha : VE X w a fa) (hb : VE X w b fb) : VE X w (.BinOp a .Mod b pos) (dOp gMod fa fb) := ve_op op_modN os_mod ha hb
theorem ve_pow {a b : Expr} {fa fb : En → R D} {pos : Pos} (ha : VE X w a fa) (hb : VE X w b fb) : VE X w (.BinOp a .Pow b pos) (dOp gPow fa fb) := ve_op op_powB os_pow ha hb

/-! ### one-place operators -/
def gNeg : D → Option D
  | .int i => some (.int (-i))
  | _ => none
def d1 (g : D → Option D) (fa : En → R D) : En → R D := fun ρ => (fa ρ).bind fun x ρ1 => lift (g x) ρ1
theorem ve_neg {a : Expr} {fa : En → R D} {pos : Pos} (ha : VE X w a fa) : VE X w (.UnaryOp .USub a pos) (d1 gNeg fa) := by
  refine PE.imp (pe_un un_neg ha) fun σ H Q ⟨G, ρ, rel, h⟩ => ⟨G, ρ, rel, (Fn.bind rel h).imp fun G1 H1 ρ1 dx ⟨r1, s1, h1⟩ x hx => ?_⟩
  obtain ⟨d, e, q⟩ := Fn.lift h1
  cases hx with
  | int i => cases e; exact ⟨i, rfl, q _ _ r1 Stp.refl _ (.int _)⟩
  | _ => cases e

/-! ### comparisons -/
def shp (d : D) : Bool := SeqAt.shaped d
def gEq (a b : D) : Option Bool := if shp a = true ∧ shp b = true then some (PyData.eqv a b) else none
def gNe (a b : D) : Option Bool := (gEq a b).map (!·)
def gLt : D → D → Option Bool
  | .int i, .int j => some (decide (i < j))
  | .str a, .str b => some (decide (a.cps.toList < b.cps.toList))
  | _, _ => none
def gLe : D → D → Option Bool
  | .int i, .int j => some (decide (i ≤ j))
  | .str a, .str b => some (!decide (b.cps.toList < a.cps.toList))
  | _, _ => none
def gGt : D → D → Option Bool
  | .int i, .int j => some (decide (j < i))
  | .str a, .str b => some (decide (b.cps.toList < a.cps.toList))
  | _, _ => none
def gGe : D → D → Option Bool
  | .int i, .int j => some (decide (j ≤ i))
  | .str a, .str b => some (!decide (a.cps.toList < b.cps.toList))
  | _, _ => none
def gIs : D → D → Option Bool
  | x, .none => some (match x with | .none => true | _ => false)
  | .bool a, .bool b => some (decide (a = b))
  | .none, .bool _ => some false
  | .tuple _, .bool _ => some false
  | .list _, .bool _ => some false
  | _, _ => none
def gIsNot (a b : D) : Option Bool := (gIs a b).map (!·)
def OpB (K : PySem.W.Frag) (r : R2) (g : D → D → Option Bool) : Prop :=
  ∀ (x y : V) (dx dy : D) (b : Bool) (H : Hp) (Q : VK), DR K H x dx → DR K H y dy → g dx dy = some b → Q (.bl b) H → r x y H Q
def dCmp (g : D → D → Option Bool) (fa fb : En → R D) : En → R Bool := fun ρ => (fa ρ).bind fun x ρ1 => (fb ρ1).bind fun y ρ2 => lift (g x y) ρ2
/-- a truth as a value -/
def dB (f : En → R Bool) : En → R D := fun ρ => (f ρ).bind fun b ρ1 => .ok (.bool b) ρ1
theorem vt_cmp {op : CmpOp} {r : R2} {g : D → D → Option Bool} {a b : Expr} {fa fb : En → R D} {pos : Pos} (ho : OpR X (compareOp op) r) (hs : OpB X.K r g) (ha : VE X w a fa) (hb : VE X w b fb) (hm : behindInMarks op b = false) :
    VT X w (.Compare a [op] [b] pos) (dCmp g fa fb) := by
  refine PT.imp (pt_cmpR ho ha hb hm) fun σ H Q ⟨G, ρ, rel, h⟩ => ⟨G, ρ, rel, (Fn.bind rel h).imp fun G1 H1 ρ1 dx ⟨r1, s1, h1⟩ x hx => ⟨G1, ρ1, r1, (Fn.bind r1 h1).imp fun G2 H2 ρ2 dy ⟨r2, s2, h2⟩ y hy => ?_⟩⟩
  obtain ⟨d, e, q⟩ := Fn.lift h2
  exact hs x y dx dy d H2 _ ((hx.mono s2.g).mono r2.sub) (hy.mono r2.sub) e ⟨d, rfl, q _ _ r2 Stp.refl⟩
theorem ve_cmp {op : CmpOp} {r : R2} {g : D → D → Option Bool} {a b : Expr} {fa fb : En → R D} {pos : Pos} (ho : OpR X (compareOp op) r) (hs : OpB X.K r g) (ha : VE X w a fa) (hb : VE X w b fb) (hm : behindInMarks op b = false) :
    VE X w (.Compare a [op] [b] pos) (dB (dCmp g fa fb)) := by
  refine PE.imp (pe_cmpR ho ha hb hm) fun σ H Q ⟨G, ρ, rel, h⟩ => ⟨G, ρ, rel, (Fn.bind rel (Fn.bind rel h |>.imp (P' := fun G1 H1 ρ1 (b : Bool) => ∀ v, DR X.K G1 v (.bool b) → Q v H1) (fun G1 H1 ρ1 b ⟨r1, s1, h1⟩ => fun v hv => h1.ok r1 v hv))).imp fun G1 H1 ρ1 dx ⟨r1, s1, h1⟩ x hx => ⟨G1, ρ1, r1, (Fn.bind r1 h1).imp fun G2 H2 ρ2 dy ⟨r2, s2, h2⟩ y hy => ?_⟩⟩
  obtain ⟨d, e, q⟩ := Fn.lift h2
  exact hs x y dx dy d H2 _ ((hx.mono s2.g).mono r2.sub) (hy.mono r2.sub) e (q _ _ r2 Stp.refl _ (.bl d))
end
end Dn
namespace Dn
open PySem PySem.Spec PyProof.Rows L2

/-! ### data that == and in take -/
section
variable {K : PySem.W.Frag} {H : Hp}
mutual
theorem DR.dp : ∀ {d : PyData} {v : V}, DR K H v d → d.canLay0 = true → Dp K H v d
  | _, _, .non, _ => .non
  | _, _, .bl b, _ => .bl b
  | _, _, .int i, _ => .int i
  | _, _, .str x, _ => .str x
  | _, _, .lst h hs, c => .lst h (DRs.dp hs (by simpa [PyData.canLay0] using c))
  | _, _, .tup h hs, c => .tup h (DRs.dp hs (by simpa [PyData.canLay0] using c))
  | _, _, .dic _ _, c => by simp [PyData.canLay0] at c
theorem DRs.dp : ∀ {ds : List PyData} {vs : List V}, DRs K H vs ds → PyData.canLayAll0 ds = true → DpAll K H vs ds
  | _, _, .nil, _ => .nil
  | _, _, .cons h t, c => by
    have c' := c
    simp only [PyData.canLayAll0, Bool.and_eq_true] at c'
    exact .cons (DR.dp h c'.1) (DRs.dp t c'.2)
end
theorem shp_can {d : PyData} (h : shp d = true) : d.canLay0 = true := SeqAt.canLay_of_shaped h
end
theorem room_in_shaped' {A : Around} {xs : List PyData} {d : PyData} (hd : shp d = true) (hu : A.units + 65 < cLine) : A.units + 1 + min (PyData.depthAll xs) d.depth < cLine := by
  have h1 : d.depth ≤ 64 := SeqAt.depth_of_shaped hd
  have h2 : min (PyData.depthAll xs) d.depth ≤ d.depth := Nat.min_le_right _ _
  omega
def gInD (x : D) (y : D) : Option Bool := match y with
  | .list ds => if shp x = true ∧ shp (.list ds) = true then some (ds.any fun z => PyData.eqv z x) else none
  | .tuple ds => if shp x = true ∧ shp (.tuple ds) = true then some (ds.any fun z => PyData.eqv z x) else none
  | _ => none
def gInS (x : D) (y : D) : Option Bool := match x, y with
  | .str a, .str b => some (match a.cps.toList with
    | [c] => decide (c ∈ b.cps.toList)
    | _ => !(Builtin.Str.occurrences b a 0 b.length 1).isEmpty)
  | _, _ => none
def gIn (x y : D) : Option Bool := match y with
  | .str _ => gInS x y
  | _ => gInD x y
def gNotIn (x y : D) : Option Bool := (gIn x y).map (!·)
section
variable {X : Cx} {w : Wh}
theorem ob_eq : OpB X.K (rEqD X.K) gEq := by
  intro x y dx dy b H Q hx hy e q
  simp only [gEq] at e
  split at e
  · rename_i h
    cases e
    exact ⟨dx, dy, hx.dp (shp_can h.1), hy.dp (shp_can h.2), h.1, h.2, q⟩
  · cases e
theorem ob_ne : OpB X.K (rNeD X.K) gNe := by
  intro x y dx dy b H Q hx hy e q
  simp only [gNe, gEq] at e
  split at e
  · rename_i h
    cases e
    exact ⟨dx, dy, hx.dp (shp_can h.1), hy.dp (shp_can h.2), h.1, h.2, q⟩
  · cases e
def rOrdA (p : Int → Int → Bool) (q : Str → Str → Bool) : R2 := fun x y H Q => (∃ i j, x = .int i ∧ y = .int j ∧ Q (.bl (p i j)) H) ∨ (∃ i j, x = .str i ∧ y = .str j ∧ Q (.bl (q i j)) H)
theorem op_ltA : OpR X (compareOp .Lt) (rOrdA (fun i j => decide (i < j)) fun a b => decide (a.cps.toList < b.cps.toList)) := op_lt.or op_lt_str
theorem op_leA : OpR X (compareOp .LtE) (rOrdA (fun i j => decide (i ≤ j)) fun a b => !decide (b.cps.toList < a.cps.toList)) := op_le.or op_le_str
theorem op_gtA : OpR X (compareOp .Gt) (rOrdA (fun i j => decide (j < i)) fun a b => decide (b.cps.toList < a.cps.toList)) := op_gt.or op_gt_str
theorem op_geA : OpR X (compareOp .GtE) (rOrdA (fun i j => decide (j ≤ i)) fun a b => !decide (a.cps.toList < b.cps.toList)) := op_ge.or op_ge_str
theorem ob_ord {p : Int → Int → Bool} {q : Str → Str → Bool} {g : D → D → Option Bool} {K : PySem.W.Frag} (h1 : ∀ i j, g (.int i) (.int j) = some (p i j)) (h2 : ∀ i j, g (.str i) (.str j) = some (q i j))
    (h3 : ∀ x y b, g x y = some b → (∃ i j, x = .int i ∧ y = .int j) ∨ ∃ i j, x = .str i ∧ y = .str j) : OpB K (rOrdA p q) g := by
  intro x y dx dy b H Q hx hy e k
  rcases h3 _ _ _ e with ⟨i, j, rfl, rfl⟩ | ⟨i, j, rfl, rfl⟩
  · cases hx; cases hy
    rw [h1] at e; cases e
    exact .inl ⟨i, j, rfl, rfl, k⟩
  · cases hx; cases hy
    rw [h2] at e; cases e
    exact .inr ⟨i, j, rfl, rfl, k⟩
theorem ob_lt {K : PySem.W.Frag} : OpB K (rOrdA (fun i j => decide (i < j)) fun a b => decide (a.cps.toList < b.cps.toList)) gLt := ob_ord (fun _ _ => rfl) (fun _ _ => rfl) fun x y b e => by
  cases x <;> cases y <;> first | (cases e; done) | exact .inl ⟨_, _, rfl, rfl⟩ | exact .inr ⟨_, _, rfl, rfl⟩
theorem ob_le {K : PySem.W.Frag} : OpB K (rOrdA (fun i j => decide (i ≤ j)) fun a b => !decide (b.cps.toList < a.cps.toList)) gLe := ob_ord (fun _ _ => rfl) (fun _ _ => rfl) fun x y b e => by
  cases x <;> cases y <;> first | (cases e; done) | exact .inl ⟨_, _, rfl, rfl⟩ | exact .inr ⟨_, _, rfl, rfl⟩
theorem ob_gt {K : PySem.W.Frag} : OpB K (rOrdA (fun i j => decide (j < i)) fun a b => decide (b.cps.toList < a.cps.toList)) gGt := ob_ord (fun _ _ => rfl) (fun _ _ => rfl) fun x y b e => by
  cases x <;> cases y <;> first | (cases e; done) | exact .inl ⟨_, _, rfl, rfl⟩ | exact .inr ⟨_, _, rfl, rfl⟩
theorem ob_ge {K : PySem.W.Frag} : OpB K (rOrdA (fun i j => decide (j ≤ i)) fun a b => !decide (a.cps.toList < b.cps.toList)) gGe := ob_ord (fun _ _ => rfl) (fun _ _ => rfl) fun x y b e => by
  cases x <;> cases y <;> first | (cases e; done) | exact .inl ⟨_, _, rfl, rfl⟩ | exact .inr ⟨_, _, rfl, rfl⟩

/-! #### is -/
def plV : V → V → Bool
  | _, .non => true
  | .non, .bl _ => true
  | .bl _, .bl _ => true
  | .ref _, .bl _ => true
  | _, _ => false
def rIsP (neg : Bool) : R2 := fun x y H Q => plV x y = true ∧ Q (.bl (if neg then !decide (x = y) else decide (x = y))) H
theorem plV_is {x y : V} {v u : Value} (h : plV x y = true) (rx : RelV x v) (ry : RelV y u) : plainIs v u = true ∧ (v = u ↔ x = y) := by
  cases y with
  | non =>
    cases (show u = Value.none from ry)
    cases x with
    | non => cases (show v = Value.none from rx); exact ⟨rfl, by simp⟩
    | bl b => cases (show v = Value.bool b from rx); exact ⟨rfl, by simp⟩
    | int i => obtain ⟨t, rfl⟩ := rx; exact ⟨rfl, by simp⟩
    | str i => obtain ⟨t, rfl⟩ := rx; exact ⟨rfl, by simp⟩
    | byt i => obtain ⟨t, rfl⟩ := rx; exact ⟨rfl, by simp⟩
    | flt i => obtain ⟨t, rfl⟩ := rx; exact ⟨rfl, by simp⟩
    | ref a => cases (show v = Value.ref a from rx); exact ⟨rfl, by simp⟩
    | ty n => cases (show v = Value.type n from rx); exact ⟨rfl, by simp⟩
  | bl c =>
    cases (show u = Value.bool c from ry)
    cases x with
    | non => cases (show v = Value.none from rx); exact ⟨rfl, by simp⟩
    | bl b => cases (show v = Value.bool b from rx); exact ⟨rfl, by simp⟩
    | ref a => cases (show v = Value.ref a from rx); exact ⟨rfl, by simp⟩
    | _ => cases h
  | _ => cases x <;> cases h
theorem op_isP : OpR X (compareOp .Is) (rIsP false) := by
  intro pins s σ H x y v u Q I rx ry h
  obtain ⟨hp, q⟩ := h
  obtain ⟨h1, h2⟩ := plV_is hp rx ry
  refine wpAny_is_plain h1 ⟨.bl (decide (x = y)), H, I, ?_, q⟩
  show _ = Value.bool _
  congr 1
  rw [Bool.eq_iff_iff]; simp [h2]
theorem op_isNotP : OpR X (compareOp .IsNot) (rIsP true) := by
  intro pins s σ H x y v u Q I rx ry h
  obtain ⟨hp, q⟩ := h
  obtain ⟨h1, h2⟩ := plV_is hp rx ry
  refine wpAny_isNot_plain h1 ⟨.bl (!decide (x = y)), H, I, ?_, q⟩
  show _ = Value.bool _
  congr 2
  rw [Bool.eq_iff_iff]; simp [h2]
theorem gIs_ok {K : PySem.W.Frag} {H : Hp} {x y : V} {dx dy : D} {b : Bool} (hx : DR K H x dx) (hy : DR K H y dy) (e : gIs dx dy = some b) : plV x y = true ∧ decide (x = y) = b := by
  cases hy with
  | non => cases hx <;> (cases e; exact ⟨rfl, by simp⟩)
  | bl c => cases hx <;> first | (cases e; done) | (cases e; exact ⟨rfl, by simp⟩)
  | _ => cases hx <;> cases e
theorem ob_is {K : PySem.W.Frag} : OpB K (rIsP false) gIs := fun x y dx dy b H Q hx hy e q => by
  obtain ⟨h1, h2⟩ := gIs_ok hx hy e
  exact ⟨h1, by rw [if_neg Bool.false_ne_true, h2]; exact q⟩
theorem ob_isNot {K : PySem.W.Frag} : OpB K (rIsP true) gIsNot := fun x y dx dy b H Q hx hy e q => by
  simp only [gIsNot, Option.map_eq_some_iff] at e
  obtain ⟨c, e, rfl⟩ := e
  obtain ⟨h1, h2⟩ := gIs_ok hx hy e
  exact ⟨h1, by rw [if_pos rfl, h2]; exact q⟩

/-! #### in -/
def rInS (neg : Bool) : R2 := fun x y H Q => ∃ i j : Str, x = .str i ∧ y = .str j ∧ ∃ b, gInS (.str i) (.str j) = some b ∧ Q (.bl (if neg then !b else b)) H
theorem op_inS : OpR X (compareOp .In) (rInS false) := by
  intro pins s σ H x y v u Q I rx ry h
  obtain ⟨i, j, rfl, rfl, b, e, q⟩ := h
  simp only [gInS] at e
  split at e
  · rename_i c hc
    cases e
    have ei : i = ⟨#[c]⟩ := by
      obtain ⟨⟨l⟩⟩ := i
      have hc : l = [c] := hc
      subst hc
      rfl
    subst ei
    exact op_in_sign pins s σ H _ _ v u Q I rx ry ⟨c, j, rfl, rfl, q⟩
  · cases e
    exact op_in_str pins s σ H _ _ v u Q I rx ry ⟨i, j, rfl, rfl, q⟩
theorem op_notInS : OpR X (compareOp .NotIn) (rInS true) := by
  intro pins s σ H x y v u Q I rx ry h
  obtain ⟨i, j, rfl, rfl, b, e, q⟩ := h
  simp only [gInS] at e
  split at e
  · rename_i c hc
    cases e
    have ei : i = ⟨#[c]⟩ := by
      obtain ⟨⟨l⟩⟩ := i
      have hc : l = [c] := hc
      subst hc
      rfl
    subst ei
    exact op_notIn_sign pins s σ H _ _ v u Q I rx ry ⟨c, j, rfl, rfl, q⟩
  · cases e
    exact op_notin_str pins s σ H _ _ v u Q I rx ry ⟨i, j, rfl, rfl, q⟩
def rInT (K : PySem.W.Frag) (neg : Bool) : R2 := fun x y H Q => ∃ d e b, Dp K H x d ∧ Dp K H y e ∧ gInD d e = some b ∧ Q (.bl (if neg then !b else b)) H
theorem op_inT (hu : X.A.units + 65 < cLine) : OpR X (compareOp .In) (rInT X.K false) := by
  intro pins s σ H x y v u Q I rx ry h
  obtain ⟨d, e, b, hd, he, eb, q⟩ := h
  obtain ⟨as, r1⟩ := Dp.reads I d x v hd rx
  obtain ⟨bs, r2⟩ := Dp.reads I e y u he ry
  cases e with
  | list ds =>
    simp only [gInD] at eb
    split at eb
    · rename_i h; cases eb
      exact SeqAt.in_list_reads r2 r1 (shp_can h.2) (shp_can h.1) (room_in_shaped' h.1 hu) ⟨.bl _, H, I, rfl, q⟩
    · cases eb
  | tuple ds =>
    simp only [gInD] at eb
    split at eb
    · rename_i h; cases eb
      exact SeqAt.in_tuple_reads r2 r1 (shp_can h.2) (shp_can h.1) (room_in_shaped' h.1 hu) ⟨.bl _, H, I, rfl, q⟩
    · cases eb
  | _ => cases eb
theorem op_notInT (hu : X.A.units + 65 < cLine) : OpR X (compareOp .NotIn) (rInT X.K true) := by
  intro pins s σ H x y v u Q I rx ry h
  obtain ⟨d, e, b, hd, he, eb, q⟩ := h
  obtain ⟨as, r1⟩ := Dp.reads I d x v hd rx
  obtain ⟨bs, r2⟩ := Dp.reads I e y u he ry
  cases e with
  | list ds =>
    simp only [gInD] at eb
    split at eb
    · rename_i h; cases eb
      exact SeqAt.notIn_list_reads r2 r1 (shp_can h.2) (shp_can h.1) (room_in_shaped' h.1 hu) ⟨.bl _, H, I, rfl, q⟩
    · cases eb
  | tuple ds =>
    simp only [gInD] at eb
    split at eb
    · rename_i h; cases eb
      exact SeqAt.notIn_tuple_reads r2 r1 (shp_can h.2) (shp_can h.1) (room_in_shaped' h.1 hu) ⟨.bl _, H, I, rfl, q⟩
    · cases eb
  | _ => cases eb
def rInA (K : PySem.W.Frag) (neg : Bool) : R2 := fun x y H Q => rInS neg x y H Q ∨ rInT K neg x y H Q
theorem op_inA (hu : X.A.units + 65 < cLine) : OpR X (compareOp .In) (rInA X.K false) := op_inS.or (op_inT hu)
theorem op_notInA (hu : X.A.units + 65 < cLine) : OpR X (compareOp .NotIn) (rInA X.K true) := op_notInS.or (op_notInT hu)
theorem gInD_can {x y : D} {b : Bool} (e : gInD x y = some b) : x.canLay0 = true ∧ y.canLay0 = true := by
  cases y with
  | list ds =>
    simp only [gInD] at e
    split at e
    · rename_i h; exact ⟨shp_can h.1, shp_can h.2⟩
    · cases e
  | tuple ds =>
    simp only [gInD] at e
    split at e
    · rename_i h; exact ⟨shp_can h.1, shp_can h.2⟩
    · cases e
  | _ => cases e
theorem gIn_ok {K : PySem.W.Frag} {H : Hp} {x y : V} {dx dy : D} {b : Bool} {neg : Bool} {Q : VK} (hx : DR K H x dx) (hy : DR K H y dy) (e : gIn dx dy = some b) (q : Q (.bl (if neg then !b else b)) H) : rInA K neg x y H Q := by
  cases dy with
  | str j =>
    simp only [gIn] at e
    cases dx with
    | str i => cases hx; cases hy; exact .inl ⟨i, j, rfl, rfl, b, e, q⟩
    | _ => cases e
  | list ds =>
    have e' : gInD dx (.list ds) = some b := e
    exact .inr ⟨dx, _, b, hx.dp (gInD_can e').1, hy.dp (gInD_can e').2, e', q⟩
  | tuple ds =>
    have e' : gInD dx (.tuple ds) = some b := e
    exact .inr ⟨dx, _, b, hx.dp (gInD_can e').1, hy.dp (gInD_can e').2, e', q⟩
  | _ => cases e
theorem ob_in {K : PySem.W.Frag} : OpB K (rInA K false) gIn := fun x y dx dy b H Q hx hy e q => gIn_ok hx hy e (by rw [if_neg Bool.false_ne_true]; exact q)
theorem ob_notIn {K : PySem.W.Frag} : OpB K (rInA K true) gNotIn := fun x y dx dy b H Q hx hy e q => by
  simp only [gNotIn, Option.map_eq_some_iff] at e
  obtain ⟨c, e, rfl⟩ := e
  exact gIn_ok hx hy e (by rw [if_pos rfl]; exact q)

/-! ### truths: and, or, not, if else -/
def dNot (f : En → R Bool) : En → R Bool := fun ρ => (f ρ).bind fun b ρ1 => .ok (!b) ρ1
def dAnd (f g : En → R Bool) : En → R Bool := fun ρ => (f ρ).bind fun b ρ1 => if b = true then g ρ1 else .ok false ρ1
def dOr (f g : En → R Bool) : En → R Bool := fun ρ => (f ρ).bind fun b ρ1 => if b = true then .ok true ρ1 else g ρ1
def dIfE {α : Type} (c : En → R Bool) (f g : En → R α) : En → R α := fun ρ => (c ρ).bind fun b ρ1 => if b = true then f ρ1 else g ρ1
variable {a b c e : Expr} {rest : List Expr} {fa fb fc : En → R D} {ga gb gc : En → R Bool} {pos : Pos}
theorem vt_not (ha : VT X w a ga) : VT X w (.UnaryOp .Not a pos) (dNot ga) :=
  PT.imp (pt_not ha) fun σ H Q ⟨G, ρ, rel, h⟩ => ⟨G, ρ, rel, (Fn.bind rel h).imp fun G1 H1 ρ1 b ⟨r1, s1, h1⟩ => h1.ok r1⟩
theorem vw_and1 (ha : VT X w a ga) : VW X w (.BoolOp .And [a] pos) ga := pw_and1 ha
theorem vw_or1 (ha : VT X w a ga) : VW X w (.BoolOp .Or [a] pos) ga := pw_or1 ha
theorem vw_and (ha : VT X w a ga) (hb : VW X w (.BoolOp .And (b :: rest) pos) gb) : VW X w (.BoolOp .And (a :: b :: rest) pos) (dAnd ga gb) :=
  PW.imp (pw_and ha hb) fun σ H Q ⟨G, ρ, rel, h⟩ => ⟨G, ρ, rel, (Fn.bind rel h).imp fun G1 H1 ρ1 b ⟨r1, s1, h1⟩ => by
    cases b with
    | true => exact iteT ⟨G1, ρ1, r1, h1⟩
    | false => exact iteF (Fn.ok (show Fn X.K w G1 H1 σ ρ1 (.ok false ρ1) (QB Q) from h1) r1)⟩
theorem vw_or (ha : VT X w a ga) (hb : VW X w (.BoolOp .Or (b :: rest) pos) gb) : VW X w (.BoolOp .Or (a :: b :: rest) pos) (dOr ga gb) :=
  PW.imp (pw_or ha hb) fun σ H Q ⟨G, ρ, rel, h⟩ => ⟨G, ρ, rel, (Fn.bind rel h).imp fun G1 H1 ρ1 b ⟨r1, s1, h1⟩ => by
    cases b with
    | true => exact iteT (Fn.ok (show Fn X.K w G1 H1 σ ρ1 (.ok true ρ1) (QB Q) from h1) r1)
    | false => exact iteF ⟨G1, ρ1, r1, h1⟩⟩
theorem vt_w (h : VW X w e ga) : VT X w e ga := PW.pt h
/-- a truth that is a value -/
theorem Fn.dB {K : PySem.W.Frag} {G H : Hp} {σ : L2.St} {ρ : En} {Q : VK} (rel : Rel K G H σ ρ) (h : Fn K w G H σ ρ (dB ga ρ) (QD K Q)) : Fn K w G H σ ρ (ga ρ) (fun G1 H1 ρ1 b => Rel K G1 H1 σ ρ1 ∧ Stp G H σ ρ G1 H1 σ ρ1 ∧ Q (.bl b) H1) :=
  (Fn.bind rel h).imp fun G1 H1 ρ1 b ⟨r1, s1, h1⟩ => ⟨r1, s1, h1.ok r1 _ (.bl b)⟩
theorem Fn.toB {K : PySem.W.Frag} {G H : Hp} {σ : L2.St} {ρ : En} {P : Hp → Hp → En → D → Prop} {g : En → R Bool} (rel : Rel K G H σ ρ) (h : Fn K w G H σ ρ (g ρ) (fun G1 H1 ρ1 b => P G1 H1 ρ1 (.bool b))) : Fn K w G H σ ρ (Dn.dB g ρ) P := by
  unfold Dn.dB
  cases q : g ρ with
  | no => rw [q] at h; exact h
  | ex c ρ' => rw [q] at h; exact h
  | ok b ρ' => rw [q] at h; exact h
theorem ve_not (ha : VE X w a (dB ga)) : VE X w (.UnaryOp .Not a pos) (dB (dNot ga)) :=
  PE.imp (pe_not ha) fun σ H Q ⟨G, ρ, rel, h⟩ => ⟨G, ρ, rel, Fn.toB rel ((Fn.bind rel (Fn.dB rel h)).imp fun G1 H1 ρ1 b ⟨r1, s1, h1⟩ v hv => by
    cases hv
    exact ⟨b, rfl, (h1.ok r1).2.2⟩)⟩
theorem ve_and1 (ha : VE X w a fa) : VE X w (.BoolOp .And [a] pos) fa := pe_one ha
theorem ve_or1 (ha : VE X w a fa) : VE X w (.BoolOp .Or [a] pos) fa := pe_one ha
def dAndV (f : En → R Bool) (g : En → R D) : En → R D := fun ρ => (f ρ).bind fun b ρ1 => if b = true then g ρ1 else .ok (.bool false) ρ1
def dOrV (f : En → R Bool) (g : En → R D) : En → R D := fun ρ => (f ρ).bind fun b ρ1 => if b = true then .ok (.bool true) ρ1 else g ρ1
theorem ve_and (ha : VE X w a (dB ga)) (hb : VE X w (.BoolOp .And (b :: rest) pos) fb) : VE X w (.BoolOp .And (a :: b :: rest) pos) (dAndV ga fb) :=
  PE.imp (pe_and ha hb) fun σ H Q ⟨G, ρ, rel, h⟩ => ⟨G, ρ, rel, Fn.toB rel ((Fn.bind rel h).imp fun G1 H1 ρ1 b ⟨r1, s1, h1⟩ v hv => by
    cases hv
    refine ⟨b, rfl, ?_⟩
    cases b with
    | true => exact iteT ⟨G1, ρ1, r1, h1⟩
    | false => exact iteF (Fn.ok (show Fn X.K w G1 H1 σ ρ1 (.ok (.bool false) ρ1) (QD X.K Q) from h1) r1 _ (.bl false)))⟩
theorem ve_or (ha : VE X w a (dB ga)) (hb : VE X w (.BoolOp .Or (b :: rest) pos) fb) : VE X w (.BoolOp .Or (a :: b :: rest) pos) (dOrV ga fb) :=
  PE.imp (pe_or ha hb) fun σ H Q ⟨G, ρ, rel, h⟩ => ⟨G, ρ, rel, Fn.toB rel ((Fn.bind rel h).imp fun G1 H1 ρ1 b ⟨r1, s1, h1⟩ v hv => by
    cases hv
    refine ⟨b, rfl, ?_⟩
    cases b with
    | true => exact iteT (Fn.ok (show Fn X.K w G1 H1 σ ρ1 (.ok (.bool true) ρ1) (QD X.K Q) from h1) r1 _ (.bl true))
    | false => exact iteF ⟨G1, ρ1, r1, h1⟩)⟩
theorem ve_ifE (hc : VT X w c gc) (ha : VE X w a fa) (hb : VE X w b fb) : VE X w (.IfExp c a b pos) (dIfE gc fa fb) :=
  PE.imp (pe_ifExp hc ha hb) fun σ H Q ⟨G, ρ, rel, h⟩ => ⟨G, ρ, rel, (Fn.bind rel h).imp fun G1 H1 ρ1 b ⟨r1, s1, h1⟩ => by
    cases b with
    | true => exact iteT ⟨G1, ρ1, r1, h1⟩
    | false => exact iteF ⟨G1, ρ1, r1, h1⟩⟩
/-- a value's truth -/
def truD : D → Option Bool
  | .none => some false
  | .bool b => some b
  | .int i => some (i != 0)
  | .str s => if s.length ≤ sizeLine then some ((s.length : Int) != 0) else none
  | .list l => some (!l.isEmpty)
  | .tuple l => some (!l.isEmpty)
  | .dict _ => none
def asB : D → Option Bool
  | .bool b => some b
  | _ => none
/-- a value that is a truth, as one -/
def dUB (f : En → R D) : En → R Bool := fun ρ => (f ρ).bind fun d ρ1 => lift (asB d) ρ1
def dTru (f : En → R D) : En → R Bool := fun ρ => (f ρ).bind fun d ρ1 => lift (truD d) ρ1
theorem DRs.emp {K : PySem.W.Frag} {H : Hp} {vs : List V} {ds : List D} (h : DRs K H vs ds) : vs.isEmpty = ds.isEmpty := by cases h <;> rfl
theorem truD_ok {K : PySem.W.Frag} {H : Hp} {v : V} {d : D} {b : Bool} (h : DR K H v d) (e : truD d = some b) : TruV K v H b := by
  cases h with
  | non => cases e; rfl
  | bl b => cases e; rfl
  | int i => cases e; rfl
  | str s =>
    simp only [truD] at e
    split at e
    · cases e; exact ⟨‹_›, rfl⟩
    · cases e
  | lst h hs => cases e; exact .inl ⟨_, h, by rw [hs.emp]⟩
  | tup h hs => cases e; exact .inr (.inl ⟨_, h, by rw [hs.emp]⟩)
  | dic _ _ => cases e
theorem vt_tru (ha : VE X w a fa) (he : ∀ whole, isTrue a X.env whole = (do let v ← whole; standAt a.pos; holding [v] (truthy v)) := by intro _; rfl) : VT X w a (dTru fa) :=
  PT.imp (pt_truth ha he) fun σ H Q ⟨G, ρ, rel, h⟩ => ⟨G, ρ, rel, (Fn.bind rel h).imp fun G1 H1 ρ1 d ⟨r1, s1, h1⟩ v hv => by
    obtain ⟨b, e, q⟩ := Fn.lift h1
    exact ⟨b, truD_ok (hv.mono r1.sub) e, q _ _ r1 Stp.refl⟩⟩
/-- a value seen as a truth -/
theorem ve_ub (ha : VE X w a fa) : VE X w a (dB (dUB fa)) :=
  PE.imp ha fun σ H Q ⟨G, ρ, rel, h⟩ => ⟨G, ρ, rel, (Fn.bind rel (Fn.dB rel h)).imp fun G1 H1 ρ1 d ⟨r1, s1, h1⟩ v hv => by
    obtain ⟨b, e, q⟩ := Fn.lift h1
    cases hv with
    | bl c => cases e; exact (q _ _ r1 Stp.refl).2.2
    | _ => cases e⟩
end
end Dn
namespace Dn
open PySem PySem.Spec PyProof.Rows L2

/-! ### reading -/
def L.toD : L → D
  | .im d => d
  | .ow ds => .list ds
  | .bo ds => .list ds
  | .ot _ => .none
  | .bt _ => .none
  | .xn _ _ _ => .none
def L.tree : L → Bool
  | .ot _ => true
  | .bt _ => true
  | .xn _ _ _ => true
  | _ => false
/-- what may be read as d now -/
inductive DV (K : PySem.W.Frag) (G H : Hp) : V → D → Prop where
  | im {v : V} {d : D} (h : DR K G v d) : DV K G H v d
  | mu {o : Addr} {vs : List V} {ds : List D} (e : H o = some (.lst vs)) (h : DRs K G vs ds) : DV K G H (.ref o) (.list ds)
section
variable {K : PySem.W.Frag} {G H : Hp} {σ : L2.St} {ρ : En}
theorem Rel.view (r : Rel K G H σ ρ) {i : Nat} {l : L} (h : ρ[i]? = some (some l)) (hf : l.tree = false) : ∃ v, σ[i]? = some (some v) ∧ DV K G H v l.toD := by
  obtain ⟨v, s, c⟩ := r.cell i l h
  refine ⟨v, s, ?_⟩
  cases l with
  | im d => exact .im c
  | ow ds => obtain ⟨o, vs, rfl, g, q, hd⟩ := c; exact .mu q hd
  | bo ds => obtain ⟨o, vs, rfl, g, q, hd⟩ := c; exact .mu q hd
  | ot t => cases hf
  | bt t => cases hf
  | xn _ _ _ => cases hf
/-- a list or a tuple that is read -/
theorem DV.list (r : Rel K G H σ ρ) {v : V} {ds : List D} (h : DV K G H v (.list ds)) : ∃ o vs, v = .ref o ∧ SqL K H o vs ∧ DRs K G vs ds := by
  cases h with
  | im h => cases h with | lst h hs => exact ⟨_, _, rfl, r.sub.seq h, hs⟩
  | mu e h => exact ⟨_, _, rfl, .inl (.inl e), h⟩
theorem DV.tuple (r : Rel K G H σ ρ) {v : V} {ds : List D} (h : DV K G H v (.tuple ds)) : ∃ o vs, v = .ref o ∧ SqT K H o vs ∧ DRs K G vs ds := by
  cases h with
  | im h => cases h with | tup h hs => exact ⟨_, _, rfl, Same.tup r.sub h, hs⟩
theorem DV.str {v : V} {s : Str} (h : DV K G H v (.str s)) : v = .str s := by
  cases h with
  | im h => cases h; rfl
theorem DV.int {v : V} {s : Int} (h : DV K G H v (.int s)) : v = .int s := by
  cases h with
  | im h => cases h; rfl
theorem DV.bool {v : V} {s : Bool} (h : DV K G H v (.bool s)) : v = .bl s := by
  cases h with
  | im h => cases h; rfl
end
def gIx : D → D → Option D
  | .list ds, .int i => atI ds i
  | .tuple ds, .int i => atI ds i
  | .str s, .int i => if s.length ≤ sizeLine then (atI s.cps.toList i).map fun c => .str ⟨#[c]⟩ else none
  | _, _ => none
theorem DRs.atI {K : PySem.W.Frag} {G : Hp} {vs : List V} {ds : List D} {i : Int} {d : D} (h : DRs K G vs ds) (e : L2.atI ds i = some d) : ∃ v, L2.atI vs i = some v ∧ DR K G v d := by
  unfold L2.atI at e ⊢
  rw [h.length]
  cases q : ixN ds.length i with
  | none => rw [q] at e; cases e
  | some j =>
    rw [q] at e
    exact h.get e
theorem gIx_ok {K : PySem.W.Frag} {G H : Hp} {σ : L2.St} {ρ : En} {x y : V} {dx dy d : D} {Q : VK} (r : Rel K G H σ ρ) (hx : DV K G H x dx) (hy : DR K G y dy) (e : gIx dx dy = some d) (q : ∀ v, DR K G v d → Q v H) : rIx K x y H Q := by
  cases dy with
  | int i =>
    cases hy
    cases dx with
    | list ds =>
      obtain ⟨o, vs, rfl, h, hs⟩ := hx.list r
      obtain ⟨v, e', hv⟩ := hs.atI e
      exact .inl ⟨o, vs, i, v, rfl, rfl, h, e', q v hv⟩
    | tuple ds =>
      obtain ⟨o, vs, rfl, h, hs⟩ := hx.tuple r
      obtain ⟨v, e', hv⟩ := hs.atI e
      exact .inr (.inl ⟨o, vs, i, v, rfl, rfl, h, e', q v hv⟩)
    | str s =>
      have := hx.str
      subst this
      simp only [gIx] at e
      split at e
      · simp only [Option.map_eq_some_iff] at e
        obtain ⟨c, e, rfl⟩ := e
        exact .inr (.inr ⟨s, i, c, rfl, rfl, ‹_›, e, q _ (.str _)⟩)
      · cases e
    | _ => cases e
  | _ => cases dx <;> cases e
/-- the slot i, read when what follows is done -/
def atSlot {α β : Type} (i : Nat) (f : En → R β) (g : L → β → En → R α) : En → R α := fun ρ => match ρ[i]? with
  | some (some _) => (f ρ).bind fun y ρ1 => match ρ1[i]? with
    | some (some l) => if l.tree = true then .no else g l y ρ1
    | _ => .no
  | _ => .no
section
variable {X : Cx} {w : Wh} {a b : Expr} {fa fb : En → R D} {pos : Pos}
theorem ve_ix (ha : VE X w a fa) (hb : VE X w b fb) (hp : PlainIx b := by exact fun _ _ => rfl) : VE X w (.Subscript a b pos) (dOp gIx fa fb) := by
  refine PE.imp (pe_ix ix_seq ha hb hp) fun σ H Q ⟨G, ρ, rel, h⟩ => ⟨G, ρ, rel, (Fn.bind rel h).imp fun G1 H1 ρ1 dx ⟨r1, s1, h1⟩ x hx => ⟨G1, ρ1, r1, (Fn.bind r1 h1).imp fun G2 H2 ρ2 dy ⟨r2, s2, h2⟩ y hy => ?_⟩⟩
  obtain ⟨d, e, q⟩ := Fn.lift h2
  exact gIx_ok r2 (.im (hx.mono s2.g)) hy e fun v hv => q _ _ r2 Stp.refl v hv
theorem Fn.slot {α β : Type} {K : PySem.W.Frag} {G H : Hp} {σ : L2.St} {ρ : En} {i : Nat} {f : En → R β} {g : L → β → En → R α} {P : Hp → Hp → En → α → Prop} (rel : Rel K G H σ ρ) (h : Fn K w G H σ ρ (atSlot i f g ρ) P) :
    ∃ v, σ[i]? = some (some v) ∧ Fn K w G H σ ρ (f ρ) (fun G1 H1 ρ1 y => ∃ l, ρ1[i]? = some (some l) ∧ DV K G1 H1 v l.toD ∧ Rel K G1 H1 σ ρ1 ∧ Stp G H σ ρ G1 H1 σ ρ1 ∧ Fn K w G1 H1 σ ρ1 (g l y ρ1) P) := by
  unfold atSlot at h
  split at h
  · rename_i l0 e0
    obtain ⟨v, s, _⟩ := rel.cell i _ e0
    refine ⟨v, s, (Fn.bind rel h).imp fun G1 H1 ρ1 y ⟨r1, s1, h1⟩ => ?_⟩
    split at h1
    · rename_i l e1
      split at h1
      · exact h1.elim
      · rename_i hf
        obtain ⟨v', s', dv⟩ := r1.view e1 (by simpa using hf)
        rw [s] at s'; cases s'
        exact ⟨l, e1, dv, r1, s1, h1⟩
    · exact h1.elim
  · exact h.elim
def dIxN (i : Nat) (fb : En → R D) : En → R D := atSlot i fb fun l y ρ => lift (gIx l.toD y) ρ
theorem ve_ixN (i : Nat) {x : Str} {p : Pos} (hb : VE X w b fb) (hN : X.N[i]? = some x := by rfl) (hv : Vis X.env.scope x := by first | exact Or.inl rfl | exact Or.inr (Or.inl rfl) | exact Or.inr (Or.inr rfl))
    (hp : PlainIx b := by exact fun _ _ => rfl) (hd : (x == ("__debug__" : Str)) = false := by decide) (hcd : (x == ("__classdict__" : Str)) = false := by decide) : VE X w (.Subscript (.Name x p) b pos) (dIxN i fb) := by
  refine PE.imp (pe_ix ix_seq (pe_var hN hv hd hcd) hb hp) fun σ H Q ⟨G, ρ, rel, h⟩ => ?_
  obtain ⟨v, s, h⟩ := Fn.slot rel h
  refine ⟨v, s, G, ρ, rel, h.imp fun G1 H1 ρ1 dy ⟨l, e, dv, r1, s1, h1⟩ y hy => ?_⟩
  obtain ⟨d, e', q⟩ := Fn.lift h1
  exact gIx_ok r1 dv hy e' fun v hv => q _ _ r1 Stp.refl v hv

/-! ### slices -/
def gSl : D → Option Int → Option Int → Option D
  | .list ds, lo, hi => some (.list ((ds.drop (HT.sIx ds.length 0 lo)).take (HT.sIx ds.length ds.length hi - HT.sIx ds.length 0 lo)))
  | .tuple ds, lo, hi => some (.tuple ((ds.drop (HT.sIx ds.length 0 lo)).take (HT.sIx ds.length ds.length hi - HT.sIx ds.length 0 lo)))
  | .str s, lo, hi => if s.length ≤ sizeLine then some (.str (cutS s lo hi)) else none
  | _, _, _ => none
def rSlA (K : PySem.W.Frag) : V → Option Int → Option Int → Hp → VK → Prop := fun x lo hi H Q => rSlL K x lo hi H Q ∨ L2.rSlA K x lo hi H Q ∨ rSlS x lo hi H Q
theorem sl_all : SlR X (rSlA X.K) := sl_list.or (sl_tupA.or sl_str)
theorem DRs.cut {K : PySem.W.Frag} {G : Hp} {vs : List V} {ds : List D} (h : DRs K G vs ds) (lo hi : Option Int) : DRs K G (cutV vs lo hi) ((ds.drop (HT.sIx ds.length 0 lo)).take (HT.sIx ds.length ds.length hi - HT.sIx ds.length 0 lo)) := by
  unfold cutV
  rw [h.length]
  exact (h.drop _).take _
theorem gSl_ok {K : PySem.W.Frag} {G H : Hp} {σ : L2.St} {ρ : En} {x : V} {dx d : D} {lo hi : Option Int} {Q : VK} (r : Rel K G H σ ρ) (hx : DV K G H x dx) (e : gSl dx lo hi = some d)
    (q : ∀ G' H', Rel K G' H' σ ρ → Stp G H σ ρ G' H' σ ρ → ∀ v, DR K G' v d → Q v H') : rSlA K x lo hi H Q := by
  cases dx with
  | list ds =>
    cases e
    obtain ⟨o, vs, rfl, h, hs⟩ := hx.list r
    exact .inl ⟨o, vs, rfl, h, hand_new r q (DR.newL r (hs.cut lo hi))⟩
  | tuple ds =>
    cases e
    obtain ⟨o, vs, rfl, h, hs⟩ := hx.tuple r
    refine .inr (.inl ⟨o, vs, rfl, h, fun hw => ?_, fun _ => hand_new r q (DR.newT r (hs.cut lo hi))⟩)
    rw [hs.length] at hw
    rw [hw.1, hw.2, Nat.sub_zero, List.drop_zero, List.take_length] at q
    cases hx with
    | im hx => exact q _ _ r Stp.refl _ hx
  | str s =>
    simp only [gSl] at e
    split at e
    · cases e
      have := hx.str
      subst this
      exact .inr (.inr ⟨s, rfl, ‹_›, q _ _ r Stp.refl _ (.str _)⟩)
    · cases e
  | _ => cases e
def oN : En → R (Option Int) := fun ρ => .ok none ρ
def asI : D → Option Int
  | .int i => some i
  | _ => none
def oI (f : En → R D) : En → R (Option Int) := fun ρ => (f ρ).bind fun d ρ1 => lift ((asI d).map some) ρ1
theorem vo_none : VO X w none oN := PO.imp po_none fun σ H Q ⟨G, ρ, rel, h⟩ => Fn.ok (show Fn X.K w G H σ ρ (.ok none ρ) (QO Q) from h) rel
theorem vo_some {e : Expr} {f : En → R D} (he : VE X w e f) : VO X w (some e) (oI f) :=
  PO.imp (po_some he) fun σ H Q ⟨G, ρ, rel, h⟩ => ⟨G, ρ, rel, (Fn.bind rel h).imp fun G1 H1 ρ1 d ⟨r1, s1, h1⟩ v hv => by
    obtain ⟨o, e', q⟩ := Fn.lift h1
    simp only [Option.map_eq_some_iff] at e'
    obtain ⟨i, ei, rfl⟩ := e'
    cases hv with
    | int j => cases ei; exact ⟨i, rfl, q _ _ r1 Stp.refl⟩
    | _ => cases ei⟩
def dPair {α β : Type} (f : En → R α) (g : En → R β) : En → R (α × β) := fun ρ => (f ρ).bind fun a ρ1 => (g ρ1).bind fun b ρ2 => .ok (a, b) ρ2
def dSl (fa : En → R D) (l u : En → R (Option Int)) : En → R D := fun ρ => (fa ρ).bind fun x ρ1 => (l ρ1).bind fun lo ρ2 => (u ρ2).bind fun hi ρ3 => lift (gSl x lo hi) ρ3
theorem ve_sl {lo hi : Option Expr} {l u : En → R (Option Int)} {p2 : Pos} (ha : VE X w a fa) (hl : VO X w lo l) (hu : VO X w hi u) : VE X w (.Subscript a (.Slice lo hi none p2) pos) (dSl fa l u) := by
  refine PE.imp (pe_slice sl_all ha hl hu) fun σ H Q ⟨G, ρ, rel, h⟩ => ⟨G, ρ, rel, (Fn.bind rel h).imp fun G1 H1 ρ1 dx ⟨r1, s1, h1⟩ x hx => ⟨G1, ρ1, r1, (Fn.bind r1 h1).imp fun G2 H2 ρ2 lo ⟨r2, s2, h2⟩ => ⟨G2, ρ2, r2, (Fn.bind r2 h2).imp fun G3 H3 ρ3 hi ⟨r3, s3, h3⟩ => ?_⟩⟩⟩
  obtain ⟨d, e, q⟩ := Fn.lift h3
  exact gSl_ok r3 (.im ((hx.mono s2.g).mono s3.g)) e q
def dSlN (i : Nat) (l u : En → R (Option Int)) : En → R D := atSlot i (dPair l u) fun x p ρ => lift (gSl x.toD p.1 p.2) ρ
theorem ve_slN (i : Nat) {x : Str} {p : Pos} {lo hi : Option Expr} {l u : En → R (Option Int)} {p2 : Pos} (hl : VO X w lo l) (hu : VO X w hi u) (hN : X.N[i]? = some x := by rfl) (hv : Vis X.env.scope x := by first | exact Or.inl rfl | exact Or.inr (Or.inl rfl) | exact Or.inr (Or.inr rfl))
    (hd : (x == ("__debug__" : Str)) = false := by decide) (hcd : (x == ("__classdict__" : Str)) = false := by decide) : VE X w (.Subscript (.Name x p) (.Slice lo hi none p2) pos) (dSlN i l u) := by
  refine PE.imp (pe_slice sl_all (pe_var hN hv hd hcd) hl hu) fun σ H Q ⟨G, ρ, rel, h⟩ => ?_
  obtain ⟨v, s, h⟩ := Fn.slot rel h
  refine ⟨v, s, G, ρ, rel, (Fn.bind rel h).imp fun G1 H1 ρ1 lo ⟨r1, s1, h1⟩ => ⟨G1, ρ1, r1, (Fn.bind r1 h1).imp fun G2 H2 ρ2 hi ⟨r2, s2, h2⟩ => ?_⟩⟩
  obtain ⟨L, e, dv, r3, s3, h3⟩ := h2.ok r2
  obtain ⟨d, e', q⟩ := Fn.lift h3
  exact gSl_ok r3 dv e' q

/-! ### arguments, displays -/
def aNil : En → R (List AV) := fun ρ => .ok [] ρ
def aIm (f : En → R D) (g : En → R (List AV)) : En → R (List AV) := fun ρ => (f ρ).bind fun d ρ1 => (g ρ1).bind fun as ρ2 => .ok (.im d :: as) ρ2
def aSl (i : Nat) (g : En → R (List AV)) : En → R (List AV) := fun ρ => match ρ[i]? with
  | some (some _) => (g ρ).bind fun as ρ2 => .ok (.sl i :: as) ρ2
  | _ => .no
theorem AVs.mono {K : PySem.W.Frag} {G G' : Hp} {σ : L2.St} (e : Same G G') : ∀ {vs : List V} {as : List AV}, AVs K G σ vs as → AVs K G' σ vs as
  | _, _, .nil => .nil
  | _, _, .im h t => .im (h.mono e) (AVs.mono e t)
  | _, _, .sl h t => .sl h (AVs.mono e t)
variable {e : Expr} {es : List Expr} {f : En → R D} {ga : En → R (List AV)}
theorem va_nil : VA X w [] aNil := PA.imp pa_nil fun σ H Q ⟨G, ρ, rel, h⟩ => Fn.ok (show Fn X.K w G H σ ρ (.ok [] ρ) (QA X.K σ Q) from h) rel _ .nil
theorem va_im (he : VE X w e f) (ht : VA X w es ga) (hs : starEach (e :: es) X.env = (false, eval e X.env) :: starEach es X.env := by rfl) : VA X w (e :: es) (aIm f ga) :=
  PA.imp (pa_cons he ht hs) fun σ H Q ⟨G, ρ, rel, h⟩ => ⟨G, ρ, rel, (Fn.bind rel h).imp fun G1 H1 ρ1 d ⟨r1, s1, h1⟩ v hv => ⟨G1, ρ1, r1, (Fn.bind r1 h1).imp fun G2 H2 ρ2 as ⟨r2, s2, h2⟩ vs hvs =>
    Fn.ok (show Fn X.K w G2 H2 σ ρ2 (.ok (AV.im d :: as) ρ2) (QA X.K σ Q) from h2) r2 _ (.im (hv.mono s2.g) hvs)⟩⟩
theorem va_sl (i : Nat) {x : Str} {p : Pos} (ht : VA X w es ga) (hN : X.N[i]? = some x := by rfl) (hv : Vis X.env.scope x := by first | exact Or.inl rfl | exact Or.inr (Or.inl rfl) | exact Or.inr (Or.inr rfl))
    (hd : (x == ("__debug__" : Str)) = false := by decide) (hcd : (x == ("__classdict__" : Str)) = false := by decide) (hs : starEach (.Name x p :: es) X.env = (false, eval (.Name x p) X.env) :: starEach es X.env := by rfl) : VA X w (.Name x p :: es) (aSl i ga) :=
  PA.imp (pa_cons (pe_var hN hv hd hcd) ht hs) fun σ H Q ⟨G, ρ, rel, h⟩ => by
    unfold aSl at h
    split at h
    · rename_i l el
      obtain ⟨v, s, _⟩ := rel.cell i _ el
      exact ⟨v, s, G, ρ, rel, (Fn.bind rel h).imp fun G2 H2 ρ2 as ⟨r2, s2, h2⟩ vs hvs => Fn.ok (show Fn X.K w G2 H2 σ ρ2 (.ok (AV.sl i :: as) ρ2) (QA X.K σ Q) from h2) r2 _ (.sl s hvs)⟩
    · exact h.elim
/-- all are values -/
def allIm : List AV → Option (List D)
  | [] => some []
  | .im d :: r => (allIm r).map (d :: ·)
  | .sl _ :: _ => none
theorem AVs.all {K : PySem.W.Frag} {G : Hp} {σ : L2.St} : ∀ {vs : List V} {as : List AV} {ds : List D}, AVs K G σ vs as → allIm as = some ds → DRs K G vs ds
  | _, _, _, .nil, e => by cases e; exact .nil
  | _, _, _, .im h t, e => by
    simp only [allIm, Option.map_eq_some_iff] at e
    obtain ⟨r, e, rfl⟩ := e
    exact .cons h (AVs.all t e)
  | _, _, _, .sl _ _, e => by cases e
def dAll (g : En → R (List AV)) : En → R (List D) := fun ρ => (g ρ).bind fun as ρ1 => lift (allIm as) ρ1
def dTup (g : En → R (List AV)) : En → R D := fun ρ => (dAll g ρ).bind fun ds ρ1 => if ds.length ≤ sizeLine then .ok (.tuple ds) ρ1 else .no
def dLst (g : En → R (List AV)) : En → R D := fun ρ => (dAll g ρ).bind fun ds ρ1 => if ds.length ≤ sizeLine then .ok (.list ds) ρ1 else .no
def nLst (g : En → R (List AV)) : En → R (List D) := fun ρ => (dAll g ρ).bind fun ds ρ1 => if ds.length ≤ sizeLine then .ok ds ρ1 else .no
theorem Fn.all {α : Type} {K : PySem.W.Frag} {G H : Hp} {σ : L2.St} {ρ : En} {g : List D → En → R α} {P : Hp → Hp → En → α → Prop} (rel : Rel K G H σ ρ) (h : Fn K w G H σ ρ ((dAll ga ρ).bind g) P) :
    Fn K w G H σ ρ (ga ρ) (fun G1 H1 ρ1 as => Rel K G1 H1 σ ρ1 ∧ Stp G H σ ρ G1 H1 σ ρ1 ∧ ∃ ds, allIm as = some ds ∧ Fn K w G1 H1 σ ρ1 (g ds ρ1) P) := by
  have h' : Fn K w G H σ ρ ((ga ρ).bind fun as ρ1 => (Dn.lift (allIm as) ρ1 : R (List D)).bind g) P := by
    have : (dAll ga ρ).bind g = (ga ρ).bind fun as ρ1 => (Dn.lift (allIm as) ρ1 : R (List D)).bind g := by
      unfold dAll
      cases ga ρ <;> rfl
    rw [← this]; exact h
  refine (Fn.bind rel h').imp fun G1 H1 ρ1 as ⟨r1, s1, h1⟩ => ⟨r1, s1, ?_⟩
  cases q : allIm as with
  | none => rw [q] at h1; exact h1.elim
  | some ds => rw [q] at h1; exact ⟨ds, rfl, h1⟩
theorem ve_tup {k : Nat} (h : VA X w es ga) : VE X w (.Tuple es k pos) (dTup ga) :=
  PE.imp (pe_tup h) fun σ H Q ⟨G, ρ, rel, h⟩ => ⟨G, ρ, rel, (Fn.all rel h).imp fun G1 H1 ρ1 as ⟨r1, s1, ds, e, h1⟩ vs hvs => by
    have hd := hvs.all e
    split at h1
    · exact ⟨by rw [hd.length]; assumption, hand_new r1 h1 (DR.newT r1 hd)⟩
    · exact h1.elim⟩
theorem ve_lst (h : VA X w es ga) : VE X w (.List es pos) (dLst ga) :=
  PE.imp (pe_lst h) fun σ H Q ⟨G, ρ, rel, h⟩ => ⟨G, ρ, rel, (Fn.all rel h).imp fun G1 H1 ρ1 as ⟨r1, s1, ds, e, h1⟩ vs hvs => by
    have hd := hvs.all e
    split at h1
    · exact ⟨by rw [hd.length]; assumption, hand_new r1 h1 (DR.newL r1 hd)⟩
    · exact h1.elim⟩
theorem NewL.of {K : PySem.W.Frag} {G H G1 H1 : Hp} {σ : L2.St} {ρ ρ1 : En} {p : Addr} {vs : List V} {ds : List D} (rel : Rel K G H σ ρ) (r1 : Rel K G1 H1 σ ρ1) (s1 : Stp G H σ ρ G1 H1 σ ρ1) (hp : H1 p = none) (hd : DRs K G1 vs ds) :
    NewL K H σ G1 (upd H1 p (.lst vs)) ρ1 p ds := by
  refine ⟨Same.free r1.sub hp, fun ho => ?_, ⟨vs, upd_same, hd⟩, ?_⟩
  · exact not_own r1 hp ((own_upd r1 hp p).mp ho)
  · cases q : H p with
    | none => rfl
    | some o => exact absurd hp (s1.tr p (by rw [q]; exact fun z => nomatch z))
theorem vn_lst (h : VA X w es ga) : VN X w (.List es pos) (nLst ga) :=
  PE.imp (pe_lst h) fun σ H Q ⟨G, ρ, rel, h⟩ => ⟨G, ρ, rel, (Fn.all rel h).imp fun G1 H1 ρ1 as ⟨r1, s1, ds, e, h1⟩ vs hvs => by
    have hd := hvs.all e
    split at h1
    · refine ⟨by rw [hd.length]; assumption, fun p hp => ?_⟩
      obtain ⟨r2, s2⟩ := r1.laidM (o := .lst vs) hp
      exact h1 _ _ r2 s2 p (NewL.of rel r1 s1 hp hd)
    · exact h1.elim⟩
end
end Dn
namespace Dn
open PySem PySem.Spec PyProof.Rows L2

/-! ### calls of what is built in -/
def CallS (K : PySem.W.Frag) (r : List V → Hp → VK → Prop) (g : List D → Option D) : Prop :=
  ∀ (vs : List V) (ds : List D) (d : D) (G H : Hp) (σ : L2.St) (ρ : En) (Q : VK), Rel K G H σ ρ → DRs K G vs ds → g ds = some d →
    (∀ G' H', Rel K G' H' σ ρ → Stp G H σ ρ G' H' σ ρ → ∀ v, DR K G' v d → Q v H') → r vs H Q
def dCall (g : List D → Option D) (ga : En → R (List AV)) : En → R D := fun ρ => (dAll ga ρ).bind fun ds ρ1 => lift (g ds) ρ1
section
variable {X : Cx} {w : Wh} {x : Str} {p pos : Pos} {e : Expr} {es : List Expr} {ga : En → R (List AV)} {id T : String} {r : List V → Hp → VK → Prop} {g : List D → Option D}
theorem CallS.run {K : PySem.W.Frag} (hs : CallS K r g) {G H : Hp} {σ : L2.St} {ρ : En} {Q : VK} (rel : Rel K G H σ ρ) (h : Fn K w G H σ ρ (dCall g ga ρ) (QD K Q)) :
    Fn K w G H σ ρ (ga ρ) (QA K σ fun vs H1 => r vs H1 Q) := (Fn.all rel h).imp fun G1 H1 ρ1 as ⟨r1, s1, ds, e, h1⟩ vs hvs => by
  obtain ⟨d, e', q⟩ := Fn.lift h1
  exact hs vs ds d G1 H1 σ ρ1 Q r1 (hvs.all e) e' q
theorem ve_cB (hc : CallR X (.builtin id) r) (hs : CallS X.K r g) (hg : Gl X x) (hm : X.mg x = none) (hv : bootBuiltins x = some (.builtin id)) (ha : VA X w (e :: es) ga) (hn : x ≠ "__name__" := by decide) (hdb : (x == ("__debug__" : Str)) = false := by decide)
    (he : starEach (e :: es) X.env = (false, eval e X.env) :: starEach es X.env := by rfl) (hpl : (backTo pos (starEach es X.env)).any (·.1) = false := by rfl) : VE X w (.Call (.Name x p) (e :: es) [] pos) (dCall g ga) :=
  PE.imp (pe_callB hc hg hm hv ha hn hdb he hpl) fun σ H Q ⟨G, ρ, rel, h⟩ => ⟨G, ρ, rel, hs.run rel h⟩
theorem ve_cT (hc : CallR X (.type T) r) (hs : CallS X.K r g) (hg : Gl X x) (hm : X.mg x = none) (hv : bootBuiltins x = some (.type T)) (ha : VA X w (e :: es) ga) (hn : x ≠ "__name__" := by decide) (hdb : (x == ("__debug__" : Str)) = false := by decide)
    (he : starEach (e :: es) X.env = (false, eval e X.env) :: starEach es X.env := by rfl) (hpl : (backTo pos (starEach es X.env)).any (·.1) = false := by rfl) : VE X w (.Call (.Name x p) (e :: es) [] pos) (dCall g ga) :=
  PE.imp (pe_callTy hc hg hm hv ha hn hdb he hpl) fun σ H Q ⟨G, ρ, rel, h⟩ => ⟨G, ρ, rel, hs.run rel h⟩

/-! #### len -/
def gLen1 : D → Option D
  | .str s => if s.length ≤ sizeLine then some (.int s.length) else none
  | .list l => some (.int l.length)
  | .tuple l => some (.int l.length)
  | _ => none
def gLen : List D → Option D
  | [d] => gLen1 d
  | _ => none
abbrev rLen (K : PySem.W.Frag) : List V → Hp → VK → Prop := fun xs H Q => ∃ x n, xs = [x] ∧ LenV K x H n ∧ Q (.int n) H
theorem gLen_ok {K : PySem.W.Frag} {G H : Hp} {σ : L2.St} {ρ : En} {v : V} {d d' : D} {Q : VK} (r : Rel K G H σ ρ) (hv : DV K G H v d) (e : gLen1 d = some d') (q : ∀ v, DR K G v d' → Q v H) : rLen K [v] H Q := by
  cases d with
  | str s =>
    have := hv.str
    subst this
    simp only [gLen1] at e
    split at e
    · cases e; exact ⟨_, s.length, rfl, ⟨‹_›, rfl⟩, q _ (.int _)⟩
    · cases e
  | list l =>
    cases e
    obtain ⟨o, vs, rfl, h, hs⟩ := hv.list r
    exact ⟨_, l.length, rfl, .inl ⟨vs, h, hs.length.symm⟩, q _ (.int _)⟩
  | tuple l =>
    cases e
    obtain ⟨o, vs, rfl, h, hs⟩ := hv.tuple r
    exact ⟨_, l.length, rfl, .inr ⟨vs, h, hs.length.symm⟩, q _ (.int _)⟩
  | _ => cases e
theorem cs_len {K : PySem.W.Frag} : CallS K (rLen K) gLen := fun vs ds d G H σ ρ Q r h e q => by
  cases h with
  | nil => cases e
  | cons h1 t =>
    cases t with
    | nil => exact gLen_ok r (.im h1) e (q _ _ r Stp.refl)
    | cons _ _ => cases e
theorem ve_len (hg : Gl X "len") (hm : X.mg "len" = none) (ha : VA X w (e :: es) ga) (he : starEach (e :: es) X.env = (false, eval e X.env) :: starEach es X.env := by rfl) (hpl : (backTo pos (starEach es X.env)).any (·.1) = false := by rfl) :
    VE X w (.Call (.Name "len" p) (e :: es) [] pos) (dCall gLen ga) := ve_cB call_len cs_len hg hm PySem.boot_len ha (by decide) (by decide) he hpl
def dLenN (i : Nat) : En → R D := atSlot i (fun ρ => .ok () ρ) fun l _ ρ => lift (gLen1 l.toD) ρ
theorem ve_lenN (i : Nat) {y : Str} {p2 : Pos} (hg : Gl X "len") (hm : X.mg "len" = none) (hN : X.N[i]? = some y := by rfl) (hv : Vis X.env.scope y := by first | exact Or.inl rfl | exact Or.inr (Or.inl rfl) | exact Or.inr (Or.inr rfl))
    (hd : (y == ("__debug__" : Str)) = false := by decide) (hcd : (y == ("__classdict__" : Str)) = false := by decide)
    (he : starEach [Expr.Name y p2] X.env = [(false, eval (.Name y p2) X.env)] := by rfl) : VE X w (.Call (.Name "len" p) [.Name y p2] [] pos) (dLenN i) := by
  refine PE.imp (pe_callB call_len hg hm PySem.boot_len (pa_cons (pe_var hN hv hd hcd) pa_nil (by rw [he]; rfl)) (by decide) (by decide) (by rw [he]; rfl) (by rfl)) fun σ H Q ⟨G, ρ, rel, h⟩ => ?_
  obtain ⟨v, s, h⟩ := Fn.slot rel h
  obtain ⟨l, e, dv, r1, s1, h1⟩ := h.ok rel
  obtain ⟨d, e', q⟩ := Fn.lift h1
  exact ⟨v, s, gLen_ok r1 dv e' (q _ _ r1 Stp.refl)⟩

/-! #### ints -/
def gAbs : List D → Option D
  | [.int i] => some (.int (if i < 0 then -i else i))
  | _ => none
def gInt : List D → Option D
  | [.int i] => some (.int i)
  | [.bool k] => some (.int (if k then 1 else 0))
  | [.str s] => if s.length ≤ 640 then (PySem.intText? s).map .int else none
  | _ => none
def gStr : List D → Option D
  | [.int i] => if i.natAbs.log2 < 1920 then some (.str (toString i)) else none
  | _ => none
def gMax2 : List D → Option D
  | [.int i, .int j] => some (.int (if j > i then j else i))
  | _ => none
def gMin2 : List D → Option D
  | [.int i, .int j] => some (.int (if j < i then j else i))
  | _ => none
theorem cs1 {K : PySem.W.Frag} {r : List V → Hp → VK → Prop} {g : List D → Option D} (hg : ∀ ds d, g ds = some d → ∃ x, ds = [x])
    (h : ∀ v x d G H σ ρ Q, Rel K G H σ ρ → DR K G v x → g [x] = some d → (∀ v, DR K G v d → Q v H) → r [v] H Q) : CallS K r g := fun vs ds d G H σ ρ Q rel hv e q => by
  obtain ⟨x, rfl⟩ := hg _ _ e
  cases hv with
  | cons h1 t =>
    cases t
    exact h _ x d G H σ ρ Q rel h1 e (q _ _ rel Stp.refl)
theorem cs2 {K : PySem.W.Frag} {r : List V → Hp → VK → Prop} {g : List D → Option D} (hg : ∀ ds d, g ds = some d → ∃ x y, ds = [x, y])
    (h : ∀ v u x y d G H σ ρ Q, Rel K G H σ ρ → DR K G v x → DR K G u y → g [x, y] = some d → (∀ v, DR K G v d → Q v H) → r [v, u] H Q) : CallS K r g := fun vs ds d G H σ ρ Q rel hv e q => by
  obtain ⟨x, y, rfl⟩ := hg _ _ e
  cases hv with
  | cons h1 t =>
    cases t with
    | cons h2 t => cases t; exact h _ _ x y d G H σ ρ Q rel h1 h2 e (q _ _ rel Stp.refl)
theorem cs_abs {K : PySem.W.Frag} : CallS K (fun xs H Q => ∃ i, xs = [.int i] ∧ Q (.int (if i < 0 then -i else i)) H) gAbs :=
  cs1 (fun ds d e => by rcases ds with _ | ⟨x, _ | ⟨y, t⟩⟩ <;> first | exact ⟨_, rfl⟩ | (cases e; done) | (cases x <;> cases e)) fun v x d G H σ ρ Q rel h e q => by
    cases h with
    | int i => cases e; exact ⟨i, rfl, q _ (.int _)⟩
    | _ => cases e
theorem cs_max2 {K : PySem.W.Frag} : CallS K (fun xs H Q => ∃ i j, xs = [.int i, .int j] ∧ Q (.int (if j > i then j else i)) H) gMax2 :=
  cs2 (fun ds d e => by rcases ds with _ | ⟨x, _ | ⟨y, _ | ⟨z, t⟩⟩⟩ <;> first | exact ⟨_, _, rfl⟩ | (cases e; done) | (cases x <;> cases e; done) | (cases x <;> cases y <;> cases e)) fun v u x y d G H σ ρ Q rel h1 h2 e q => by
    cases h1 with
    | int i =>
      cases h2 with
      | int j => cases e; exact ⟨i, j, rfl, q _ (.int _)⟩
      | _ => cases e
    | _ => cases h2 <;> cases e
theorem cs_min2 {K : PySem.W.Frag} : CallS K (fun xs H Q => ∃ i j, xs = [.int i, .int j] ∧ Q (.int (if j < i then j else i)) H) gMin2 :=
  cs2 (fun ds d e => by rcases ds with _ | ⟨x, _ | ⟨y, _ | ⟨z, t⟩⟩⟩ <;> first | exact ⟨_, _, rfl⟩ | (cases e; done) | (cases x <;> cases e; done) | (cases x <;> cases y <;> cases e)) fun v u x y d G H σ ρ Q rel h1 h2 e q => by
    cases h1 with
    | int i =>
      cases h2 with
      | int j => cases e; exact ⟨i, j, rfl, q _ (.int _)⟩
      | _ => cases e
    | _ => cases h2 <;> cases e
abbrev rInt : List V → Hp → VK → Prop := fun xs H Q => ((∃ i, xs = [.int i] ∧ Q (.int i) H) ∨ ∃ k, xs = [.bl k] ∧ Q (.int (if k then 1 else 0)) H) ∨ (∃ a n, xs = [.str a] ∧ PySem.intText? a = some n ∧ a.length ≤ 640 ∧ Q (.int n) H)
theorem call_intA : CallR X (.type "int") rInt := call_int1.or call_int_str
theorem cs_int {K : PySem.W.Frag} : CallS K rInt gInt :=
  cs1 (fun ds d e => by rcases ds with _ | ⟨x, _ | ⟨y, t⟩⟩ <;> first | exact ⟨_, rfl⟩ | (cases e; done) | (cases x <;> cases e)) fun v x d G H σ ρ Q rel h e q => by
    cases h with
    | int i => cases e; exact .inl (.inl ⟨i, rfl, q _ (.int _)⟩)
    | bl k => cases e; exact .inl (.inr ⟨k, rfl, q _ (.int _)⟩)
    | str s =>
      simp only [gInt] at e
      split at e
      · simp only [Option.map_eq_some_iff] at e
        obtain ⟨n, e, rfl⟩ := e
        exact .inr ⟨s, n, rfl, e, ‹_›, q _ (.int _)⟩
      · cases e
    | _ => cases e
theorem cs_str {K : PySem.W.Frag} : CallS K (fun xs H Q => ∃ i, xs = [.int i] ∧ i.natAbs.log2 < 1920 ∧ Q (.str (toString i)) H) gStr :=
  cs1 (fun ds d e => by rcases ds with _ | ⟨x, _ | ⟨y, t⟩⟩ <;> first | exact ⟨_, rfl⟩ | (cases e; done) | (cases x <;> cases e)) fun v x d G H σ ρ Q rel h e q => by
    cases h with
    | int i =>
      simp only [gStr] at e
      split at e
      · cases e; exact ⟨i, rfl, ‹_›, q _ (.str _)⟩
      · cases e
    | _ => cases e

/-! #### isinstance -/
def tyN : D → String
  | .none => "NoneType" | .bool _ => "bool" | .int _ => "int" | .str _ => "str" | .list _ => "list" | .tuple _ => "tuple" | .dict _ => "dict"
def isTy (t : String) : D → Bool
  | .none => t == "NoneType" | .bool _ => t == "bool" || t == "int" | .int _ => t == "int" | .str _ => t == "str" | .list _ => t == "list" | .tuple _ => t == "tuple" | .dict _ => t == "dict"
def dIsi (t : String) (f : En → R D) : En → R Bool := fun ρ => (f ρ).bind fun d ρ1 => .ok (isTy t d) ρ1
theorem DR.ty {K : PySem.W.Frag} {H : Hp} {v : V} {d : D} (h : DR K H v d) : TyX K H v (.type (tyN d)) := by
  cases h with
  | non => exact .base .non
  | bl b => exact .base (.bl b)
  | int i => exact .base (.int i)
  | str s => exact .base (.str s)
  | lst h hs =>
    rcases h with (h | ⟨o, h⟩) | ⟨o, its, n, hk, hc, _⟩
    · exact .base (.lst h)
    · exact .base (.frz h)
    · exact .kList hk hc
  | tup h hs =>
    rcases h with (h | ⟨o, h⟩) | ⟨o, its, n, hk, hc, _⟩
    · exact .base (.tup h)
    · exact .fTuple h
    · exact .kTuple hk hc
  | dic h hs => exact .base (.dK h)
def tyOk (t : String) : Bool := t == "NoneType" || t == "bool" || t == "int" || t == "str" || t == "list" || t == "tuple" || t == "dict"
def isTyS (t n : String) : Bool := t == n || (n == "bool" && t == "int")
theorem isTy_S (t : String) (d : D) : isTy t d = isTyS t (tyN d) := by
  cases d <;> simp [isTy, isTyS, tyN]
theorem isTy_kit {t : String} (ht : tyOk t = true) (d : D) : kitB (tyN d) t = some (isTy t d) := by
  have h : t = "NoneType" ∨ t = "bool" ∨ t = "int" ∨ t = "str" ∨ t = "list" ∨ t = "tuple" ∨ t = "dict" := by
    simpa [tyOk, or_assoc] using ht
  have hn : tyN d = "NoneType" ∨ tyN d = "bool" ∨ tyN d = "int" ∨ tyN d = "str" ∨ tyN d = "list" ∨ tyN d = "tuple" ∨ tyN d = "dict" := by
    cases d <;> simp [tyN]
  rw [isTy_S]
  generalize tyN d = n at hn
  rcases h with rfl | rfl | rfl | rfl | rfl | rfl | rfl <;> rcases hn with rfl | rfl | rfl | rfl | rfl | rfl | rfl <;> decide +kernel
theorem ve_isi {a : Expr} {f : En → R D} {y : Str} {t : String} {p2 : Pos} (hg : Gl X "isinstance") (hm : X.mg "isinstance" = none) (ha : VE X w a f) (hgy : Gl X y) (hmy : X.mg y = none) (hvy : bootBuiltins y = some (.type t)) (ht : tyOk t = true := by rfl)
    (hn : y ≠ "__name__" := by decide) (hdy : (y == ("__debug__" : Str)) = false := by decide)
    (he : starEach [a, Expr.Name y p2] X.env = [(false, eval a X.env), (false, eval (.Name y p2) X.env)] := by rfl)
    (he2 : starEach [Expr.Name y p2] X.env = [(false, eval (.Name y p2) X.env)] := by rfl) :
    VE X w (.Call (.Name "isinstance" p) [a, .Name y p2] [] pos) (dB (dIsi t f)) := by
  refine PE.imp (pe_callB call_isi hg hm (by decide +kernel) (pa_cons ha (pa_cons (pe_bltn (v := .ty t) hgy hmy hvy rfl hn hdy) pa_nil (by rw [he2]; rfl)) (by rw [he, he2])) (by decide) (by decide) (by rw [he, he2]) (by rw [he2]; rfl)) fun σ H Q ⟨G, ρ, rel, h⟩ => ?_
  refine ⟨G, ρ, rel, (Fn.bind rel (Fn.dB rel h)).imp fun G1 H1 ρ1 d ⟨r1, s1, h1⟩ v hv => ?_⟩
  exact ⟨v, .ty t, _, _, _, rfl, .ty t, (hv.mono r1.sub).ty, kit_ty (isTy_kit ht d), (h1.ok r1).2.2⟩
end
end Dn
namespace Dn
open PySem PySem.Spec PyProof.Rows L2

/-! ### statements -/
inductive Fl where
  | nx | bk | ct
  | rt (d : D)
  | rl (ds : List D)
/-- a list that is handed out, nobody else's -/
structure OutL (K : PySem.W.Frag) (G H : Hp) (σ : L2.St) (ρ : En) (G' H' : Hp) (σ' : L2.St) (ρ' : En) (p : Addr) (ds : List D) : Prop where
  g : G' p = none
  own : ¬ Own H' σ' ρ' p
  here : ∃ vs, H' p = some (.lst vs) ∧ DRs K G' vs ds
  new : H p = none ∨ ∃ (i : Nat) (l : L) (v : V), ρ[i]? = some (some l) ∧ l.own = true ∧ σ[i]? = some (some v) ∧ Fo H l v p
def FnS (K : PySem.W.Frag) (w : Wh) (G H : Hp) (σ : L2.St) (ρ : En) (r : R Fl) (D : Ends) : Prop :=
  match r with
  | .no => False
  | .ok .nx ρ' => ∀ G' H' σ', Rel K G' H' σ' ρ' → Stp G H σ ρ G' H' σ' ρ' → D.nx σ' H'
  | .ok .bk ρ' => ∀ G' H' σ', Rel K G' H' σ' ρ' → Stp G H σ ρ G' H' σ' ρ' → D.bk σ' H'
  | .ok .ct ρ' => ∀ G' H' σ', Rel K G' H' σ' ρ' → Stp G H σ ρ G' H' σ' ρ' → D.ct σ' H'
  | .ok (.rt d) ρ' => ∀ G' H' σ' v, Rel K G' H' σ' ρ' → Stp G H σ ρ G' H' σ' ρ' → DR K G' v d → D.rt v H'
  | .ok (.rl ds) ρ' => ∀ G' H' σ' p, Rel K G' H' σ' ρ' → Stp G H σ ρ G' H' σ' ρ' → OutL K G H σ ρ G' H' σ' ρ' p ds → D.rt (.ref p) H'
  | .ex c ρ' => ∀ G' H' σ' cls dx, Rel K G' H' σ' ρ' → Stp G H σ ρ G' H' σ' ρ' → ExR K w G' H' c cls dx → w.W cls dx σ' H'
abbrev tsS (K : PySem.W.Frag) (w : Wh) (f : En → R Fl) : TS := fun D σ H => ∃ G ρ, Rel K G H σ ρ ∧ FnS K w G H σ ρ (f ρ) D
abbrev VS (X : Cx) (w : Wh) (st : Stmt) (f : En → R Fl) : Prop := PS X st (tsS X.K w f)
abbrev VSs (X : Cx) (w : Wh) (sts : List Stmt) (f : En → R Fl) : Prop := PSs X sts (tsS X.K w f)

section
variable {K : PySem.W.Frag} {w : Wh} {G H G1 H1 G2 H2 : Hp} {σ σ1 σ2 : L2.St} {ρ ρ1 ρ2 : En}
/-- an own slot keeps being own and at its place, or goes; here: what is moved out of a later state was new or own before -/
theorem OutL.back (rel : Rel K G H σ ρ) (r1 : Rel K G1 H1 σ1 ρ1) (s1 : Stp G H σ ρ G1 H1 σ1 ρ1) {p : Addr} {ds : List D} (h : OutL K G1 H1 σ1 ρ1 G2 H2 σ2 ρ2 p ds) : OutL K G H σ ρ G2 H2 σ2 ρ2 p ds := by
  refine ⟨h.g, h.own, h.here, ?_⟩
  cases q : H p with
  | none => exact .inl rfl
  | some o =>
    rcases h.new with z | ⟨i, l1, v1, e, lo, s, f1⟩
    · exact absurd z (s1.tr p (by rw [q]; exact fun z => nomatch z))
    · rcases s1.ow p ⟨i, l1, v1, e, s, f1⟩ with ⟨j, l, v, ej, sj, fj⟩ | z
      · have key : ∀ l', ρ1[j]? = some (some l') → σ1[j]? = σ[j]? → Fo H1 l' v p → l' = l1 := fun l' e2 e1 f2 => by
          have := r1.apart i j _ _ _ v p e e2 s (e1.trans sj) f1 f2
          subst this
          rw [e] at e2; cases e2; rfl
        cases l with
        | im d => exact fj.elim
        | xn _ _ _ => exact fj.elim
        | ow es' => exact .inr ⟨j, _, v, ej, rfl, sj, fj⟩
        | ot t => exact .inr ⟨j, _, v, ej, rfl, sj, fj⟩
        | bo es' =>
          obtain ⟨e1, ds', e2⟩ := s1.bo j es' ej
          have := key _ e2 e1 fj
          subst this
          cases lo
        | bt t =>
          obtain ⟨e1, t', e2, f2⟩ := s1.bt j t ej
          have := key _ e2 e1 (f2 v p sj fj)
          subst this
          cases lo
      · rw [q] at z; cases z
/-- behind a first step -/
theorem FnS.after (rel : Rel K G H σ ρ) (r1 : Rel K G1 H1 σ1 ρ1) (s1 : Stp G H σ ρ G1 H1 σ1 ρ1) {r : R Fl} {D : Ends} (h : FnS K w G H σ ρ r D) : FnS K w G1 H1 σ1 ρ1 r D := by
  cases r with
  | no => exact h
  | ex c ρ' => exact fun G' H' σ' cls dx r2 s2 => h G' H' σ' cls dx r2 (s1.trans rel s2)
  | ok f ρ' =>
    cases f with
    | nx => exact fun G' H' σ' r2 s2 => h G' H' σ' r2 (s1.trans rel s2)
    | bk => exact fun G' H' σ' r2 s2 => h G' H' σ' r2 (s1.trans rel s2)
    | ct => exact fun G' H' σ' r2 s2 => h G' H' σ' r2 (s1.trans rel s2)
    | rt d => exact fun G' H' σ' v r2 s2 => h G' H' σ' v r2 (s1.trans rel s2)
    | rl ds => exact fun G' H' σ' p r2 s2 ho => h G' H' σ' p r2 (s1.trans rel s2) (ho.back rel r1 s1)
/-- first an expression -/
theorem FnS.bind {α : Type} {r : R α} {g : α → En → R Fl} {D : Ends} (rel : Rel K G H σ ρ) (h : FnS K w G H σ ρ (r.bind g) D) :
    Fn K w G H σ ρ r (fun G1 H1 ρ1 a => Rel K G1 H1 σ ρ1 ∧ Stp G H σ ρ G1 H1 σ ρ1 ∧ FnS K w G1 H1 σ ρ1 (g a ρ1) D) := by
  cases r with
  | no => exact h
  | ex c ρ' => exact fun G' H' cls dx r1 s1 x => h G' H' σ cls dx r1 s1 x
  | ok a ρ' => exact fun G1 H1 r1 s1 => ⟨r1, s1, FnS.after rel r1 s1 (show FnS K w G H σ ρ (g a ρ') D from h)⟩
theorem FnS.lift {α : Type} {o : Option α} {g : α → R Fl} {D : Ends} (h : FnS K w G H σ ρ (match o with | some a => g a | none => .no) D) : ∃ a, o = some a ∧ FnS K w G H σ ρ (g a) D := by
  cases o with
  | none => exact h.elim
  | some a => exact ⟨a, rfl, h⟩
theorem FnS.nx {D : Ends} (h : FnS K w G H σ ρ (.ok .nx ρ1) D) {σ' : L2.St} (r : Rel K G1 H1 σ' ρ1) (s : Stp G H σ ρ G1 H1 σ' ρ1) : D.nx σ' H1 := h _ _ _ r s
/-- a block's first statement -/
theorem FnS.seq {f g : En → R Fl} {D : Ends} (rel : Rel K G H σ ρ) (h : FnS K w G H σ ρ ((f ρ).bind fun fl ρ1 => match fl with | .nx => g ρ1 | fl => .ok fl ρ1) D) :
    FnS K w G H σ ρ (f ρ) { D with nx := fun σ1 H1 => ∃ G1 ρ1, Rel K G1 H1 σ1 ρ1 ∧ FnS K w G1 H1 σ1 ρ1 (g ρ1) D } := by
  cases q : f ρ with
  | no => rw [q] at h; exact h
  | ex c ρ' => rw [q] at h; exact h
  | ok fl ρ' =>
    rw [q] at h
    cases fl with
    | nx => exact fun G1 H1 σ1 r1 s1 => ⟨G1, ρ', r1, FnS.after rel r1 s1 (show FnS K w G H σ ρ (g ρ') D from h)⟩
    | bk => exact h
    | ct => exact h
    | rt d => exact h
    | rl ds => exact h
end
def dSeq (f g : En → R Fl) : En → R Fl := fun ρ => (f ρ).bind fun fl ρ1 => match fl with
  | .nx => g ρ1
  | fl => .ok fl ρ1
def dNx : En → R Fl := fun ρ => .ok .nx ρ
def dBk : En → R Fl := fun ρ => .ok .bk ρ
def dCt : En → R Fl := fun ρ => .ok .ct ρ
def dRet (f : En → R D) : En → R Fl := fun ρ => (f ρ).bind fun d ρ1 => .ok (.rt d) ρ1
def dRetL (f : En → R (List D)) : En → R Fl := fun ρ => (f ρ).bind fun d ρ1 => .ok (.rl d) ρ1
def dDrop (f : En → R D) : En → R Fl := fun ρ => (f ρ).bind fun _ ρ1 => .ok .nx ρ1
def dIf (c : En → R Bool) (f g : En → R Fl) : En → R Fl := fun ρ => (c ρ).bind fun b ρ1 => if b = true then f ρ1 else g ρ1
section
variable {X : Cx} {w : Wh} {st : Stmt} {rest : List Stmt} {f g : En → R Fl} {pos : Pos} {e : Expr} {fe : En → R D}
theorem vss_nil : VSs X w [] dNx := PSs.imp pss_nil fun D σ H ⟨G, ρ, rel, h⟩ => FnS.nx (show FnS X.K w G H σ ρ (.ok .nx ρ) D from h) rel Stp.refl
theorem vss_cons (h1 : VS X w st f) (h2 : VSs X w rest g) : VSs X w (st :: rest) (dSeq f g) := PSs.imp (pss_cons h1 h2) fun D σ H ⟨G, ρ, rel, h⟩ => ⟨G, ρ, rel, FnS.seq rel h⟩
theorem vss_one (h1 : VS X w st f) : VSs X w [st] f := pss_one h1
theorem vs_pass : VS X w (.Pass pos) dNx := PS.imp ps_pass fun D σ H ⟨G, ρ, rel, h⟩ => FnS.nx (show FnS X.K w G H σ ρ (.ok .nx ρ) D from h) rel Stp.refl
theorem vs_break : VS X w (.Break pos) dBk := PS.imp ps_break fun D σ H ⟨G, ρ, rel, h⟩ => (show FnS X.K w G H σ ρ (.ok .bk ρ) D from h) _ _ _ rel Stp.refl
theorem vs_cont : VS X w (.Continue pos) dCt := PS.imp ps_continue fun D σ H ⟨G, ρ, rel, h⟩ => (show FnS X.K w G H σ ρ (.ok .ct ρ) D from h) _ _ _ rel Stp.refl
theorem vs_ret (he : VE X w e fe) : VS X w (.Return (some e) pos) (dRet fe) := PS.imp (ps_ret he) fun D σ H ⟨G, ρ, rel, h⟩ => ⟨G, ρ, rel, (FnS.bind rel h).imp fun G1 H1 ρ1 d ⟨r1, s1, h1⟩ v hv =>
  (show FnS X.K w G1 H1 σ ρ1 (.ok (.rt d) ρ1) D from h1) _ _ _ _ r1 Stp.refl hv⟩
theorem vs_retN : VS X w (.Return none pos) (dRet (dC .none)) := PS.imp ps_retN fun D σ H ⟨G, ρ, rel, h⟩ => (show FnS X.K w G H σ ρ (.ok (.rt .none) ρ) D from h) _ _ _ _ rel Stp.refl .non
theorem vs_expr (he : VE X w e fe) (hs : swapsWith e none pos.line X.env = pure false := by rfl) : VS X w (.Expr e pos) (dDrop fe) := PS.imp (ps_expr he hs) fun D σ H ⟨G, ρ, rel, h⟩ => ⟨G, ρ, rel, (FnS.bind rel h).imp fun G1 H1 ρ1 d ⟨r1, s1, h1⟩ v hv =>
  FnS.nx (show FnS X.K w G1 H1 σ ρ1 (.ok .nx ρ1) D from h1) r1 Stp.refl⟩
theorem vs_if {c : Expr} {a b : List Stmt} {gc : En → R Bool} (hc : VT X w c gc) (ha : VSs X w a f) (hb : VSs X w b g) : VS X w (.If c a b pos) (dIf gc f g) := PS.imp (ps_if hc ha hb) fun D σ H ⟨G, ρ, rel, h⟩ => ⟨G, ρ, rel, (FnS.bind rel h).imp fun G1 H1 ρ1 b ⟨r1, s1, h1⟩ => by
  cases b with
  | true => exact iteT ⟨G1, ρ1, r1, h1⟩
  | false => exact iteF ⟨G1, ρ1, r1, h1⟩⟩
theorem vs_retL {fl : En → R (List D)} (he : VN X w e fl) : VS X w (.Return (some e) pos) (dRetL fl) := PS.imp (ps_ret he) fun D σ H ⟨G, ρ, rel, h⟩ => ⟨G, ρ, rel, by
  unfold dRetL at h
  cases q : fl ρ with
  | no => rw [q] at h; exact h
  | ex c ρ' => rw [q] at h; exact fun G' H' cls dx r1 s1 x => h G' H' σ cls dx r1 s1 x
  | ok ds ρ' =>
    rw [q] at h
    exact fun G1 H1 r1 s1 p n => h G1 H1 σ p r1 s1 ⟨n.g, n.own, n.here, .inl n.new⟩⟩
end

/-! ### stores into slots -/
section
variable {K : PySem.W.Frag} {G H : Hp} {σ : L2.St} {ρ : En}
theorem set_same {α : Type} {l : List α} {i : Nat} {a b : α} (h : l[i]? = some b) : (l.set i a)[i]? = some a := List.getElem?_set_self (List.getElem?_eq_some_iff.mp h).1
/-- the slot i takes a datum -/
theorem Rel.put (r : Rel K G H σ ρ) {i : Nat} {c : Option L} (hi : ρ[i]? = some c) (hb : ∀ ds, c ≠ some (L.bo ds)) (ht : ∀ t, c ≠ some (L.bt t)) {v : V} {d : D} (hv : DR K G v d) :
    Rel K G H (σ.set i (some v)) (ρ.set i (some (.im d))) ∧ Stp G H σ ρ G H (σ.set i (some v)) (ρ.set i (some (.im d))) := by
  obtain ⟨r', ow⟩ := r.set1 (G' := G) (H' := H) (v' := v) (l' := .im d) hi (Same.refl _) r.sub (fun a h => (r.own h.own).1) (fun a _ => rfl) hv (fun a f => f.elim)
  refine ⟨r', ⟨Same.refl _, fun _ _ h _ => h, fun _ h => .inl h, fun a h => .inl ?_, fun _ h => h, by rw [List.length_set], fun j ds e => ?_, fun j t e => ?_⟩⟩
  · rcases ow a h with z | z
    · exact z.own
    · exact z.elim
  · have hj : j ≠ i := fun z => by subst z; rw [hi] at e; exact hb ds (Option.some.inj e)
    exact ⟨List.getElem?_set_ne (Ne.symm hj), ds, by rw [List.getElem?_set_ne (Ne.symm hj)]; exact e⟩
  · have hj : j ≠ i := fun z => by subst z; rw [hi] at e; exact ht t (Option.some.inj e)
    exact ⟨List.getElem?_set_ne (Ne.symm hj), t, by rw [List.getElem?_set_ne (Ne.symm hj)]; exact e, fun _ _ _ f => f⟩
/-- the slot i takes a new list of its own -/
theorem Rel.putL (r : Rel K G H σ ρ) {i : Nat} {c : Option L} (hi : ρ[i]? = some c) {p : Addr} {ds : List D} (hg : G p = none) (ho : ¬ Own H σ ρ p) (hh : ∃ vs, H p = some (.lst vs) ∧ DRs K G vs ds) :
    Rel K G H (σ.set i (some (.ref p))) (ρ.set i (some (.ow ds))) ∧ ∀ a, Own H (σ.set i (some (.ref p))) (ρ.set i (some (.ow ds))) a → Own H σ ρ a ∨ a = p := by
  obtain ⟨vs, hp, hd⟩ := hh
  obtain ⟨r', ow⟩ := r.set1 (G' := G) (H' := H) (v' := .ref p) (l' := .ow ds) hi (Same.refl _) r.sub (fun a h => (r.own h.own).1) (fun a _ => rfl) ⟨p, vs, rfl, hg, hp, hd⟩ (fun a f z => by
    cases (show V.ref p = V.ref a from f); exact ho z.own)
  refine ⟨r', fun a h => ?_⟩
  rcases ow a h with z | z
  · exact .inl z.own
  · cases (show V.ref p = V.ref a from z); exact .inr rfl
theorem Stp.putL {G0 H0 : Hp} {σ0 : L2.St} {ρ0 : En} (s : Stp G0 H0 σ0 ρ0 G H σ ρ) (r : Rel K G H σ ρ) {i : Nat} {c : Option L} (hi : ρ[i]? = some c) (hb : ∀ ds, c ≠ some (L.bo ds)) (ht : ∀ t, c ≠ some (L.bt t)) {p : Addr} {ds : List D} (hg : G p = none) (ho : ¬ Own H σ ρ p) (hh : ∃ vs, H p = some (.lst vs) ∧ DRs K G vs ds) (hn : H0 p = none) :
    Stp G0 H0 σ0 ρ0 G H (σ.set i (some (.ref p))) (ρ.set i (some (.ow ds))) := by
  obtain ⟨_, ow⟩ := r.putL hi hg ho hh
  refine ⟨s.g, s.h, s.fr, fun a h => ?_, s.tr, by rw [List.length_set]; exact s.ln, fun j es e => ?_, fun j t e => ?_⟩
  · rcases ow a h with z | rfl
    · exact s.ow a z
    · exact .inr hn
  · obtain ⟨e1, ds', e2⟩ := s.bo j es e
    have hj : j ≠ i := fun z => by subst z; rw [hi] at e2; exact hb ds' (Option.some.inj e2)
    exact ⟨(List.getElem?_set_ne (Ne.symm hj)).trans e1, ds', by rw [List.getElem?_set_ne (Ne.symm hj)]; exact e2⟩
  · obtain ⟨e1, t', e2, f2⟩ := s.bt j t e
    have hj : j ≠ i := fun z => by subst z; rw [hi] at e2; exact ht t' (Option.some.inj e2)
    exact ⟨(List.getElem?_set_ne (Ne.symm hj)).trans e1, t', by rw [List.getElem?_set_ne (Ne.symm hj)]; exact e2, f2⟩
end
/-- no lent slot is stored into -/
def free (c : Option (Option L)) : Bool := match c with
  | none => false
  | some (some (.bo _)) => false
  | some (some (.bt _)) => false
  | _ => true
theorem free_ok {ρ : En} {i : Nat} (h : free ρ[i]? = true) : ∃ c, ρ[i]? = some c ∧ (∀ ds, c ≠ some (L.bo ds)) ∧ ∀ t, c ≠ some (L.bt t) := by
  cases q : ρ[i]? with
  | none => rw [q] at h; cases h
  | some c =>
    refine ⟨c, rfl, fun ds e => ?_, fun t e => ?_⟩
    · subst e; rw [q] at h; cases h
    · subst e; rw [q] at h; cases h
def putIm (i : Nat) (d : D) (ρ : En) : R Unit := if free ρ[i]? = true then .ok () (ρ.set i (some (.im d))) else .no
def putOw (i : Nat) (ds : List D) (ρ : En) : R Unit := if free ρ[i]? = true then .ok () (ρ.set i (some (.ow ds))) else .no
/-! targets -/
def FnG (K : PySem.W.Frag) (G H : Hp) (σ : L2.St) (ρ : En) (r : R Unit) (Q : L2.St → Hp → Prop) : Prop :=
  match r with
  | .ok _ ρ' => ∀ G' H' σ', Rel K G' H' σ' ρ' → Stp G H σ ρ G' H' σ' ρ' → Q σ' H'
  | _ => False
abbrev VG (X : Cx) (tg : Expr) (g : D → En → R Unit) : Prop := PG X tg (fun v σ H Q => ∃ G ρ d, Rel X.K G H σ ρ ∧ DR X.K G v d ∧ FnG X.K G H σ ρ (g d ρ) Q)
abbrev VGs (X : Cx) (tgs : List Expr) (g : List D → En → R Unit) : Prop := PGs X tgs (fun vs σ H Q => ∃ G ρ ds, Rel X.K G H σ ρ ∧ DRs X.K G vs ds ∧ FnG X.K G H σ ρ (g ds ρ) Q)
theorem PG.imp {X : Cx} {e : Expr} {t t' : TG} (h : PG X e t) (i : ∀ v σ H Q, t' v σ H Q → t v σ H Q) : PG X e t' := ⟨fun pins s σ H v u Q I r q => h.run pins s σ H v u Q I r (i _ _ _ _ q)⟩
theorem PGs.imp {X : Cx} {e : List Expr} {t t' : TGs} (h : PGs X e t) (i : ∀ v σ H Q, t' v σ H Q → t v σ H Q) : PGs X e t' := ⟨fun pins s σ H v u Q I r q => h.run pins s σ H v u Q I r (i _ _ _ _ q)⟩
def gsNil : List D → En → R Unit := fun ds ρ => match ds with
  | [] => .ok () ρ
  | _ => .no
def gsCons (g : D → En → R Unit) (h : List D → En → R Unit) : List D → En → R Unit := fun ds ρ => match ds with
  | d :: r => (g d ρ).bind fun _ ρ1 => h r ρ1
  | [] => .no
def gTupD (n : Nat) (h : List D → En → R Unit) : D → En → R Unit := fun d ρ => match d with
  | .tuple ds => if ds.length = n then h ds ρ else .no
  | .list ds => if ds.length = n then h ds ρ else .no
  | _ => .no
theorem pgOr {X : Cx} {e : Expr} {t t' : TG} (h : PG X e t) (h' : PG X e t') : PG X e (fun v σ H Q => t v σ H Q ∨ t' v σ H Q) :=
  ⟨fun pins s σ H v u Q I r q => q.elim (fun q => h.run pins s σ H v u Q I r q) (fun q => h'.run pins s σ H v u Q I r q)⟩
section
variable {X : Cx} {w : Wh} {x : Str} {pos p : Pos} {e : Expr} {es : List Expr} {fe : En → R D} {g : D → En → R Unit} {h : List D → En → R Unit}
theorem FnG.put {K : PySem.W.Frag} {G H : Hp} {σ : L2.St} {ρ : En} {i : Nat} {v : V} {d : D} {Q : L2.St → Hp → Prop} (rel : Rel K G H σ ρ) (hv : DR K G v d) (q : FnG K G H σ ρ (putIm i d ρ) Q) : Q (σ.set i (some v)) H := by
  unfold putIm at q
  split at q
  · rename_i hf
    obtain ⟨c, hc, hb, ht⟩ := free_ok hf
    obtain ⟨r1, s1⟩ := rel.put hc hb ht hv
    exact q _ _ _ r1 s1
  · exact q.elim
theorem vg_name (i : Nat) (hN : X.N.Nodup) (hi : X.N[i]? = some x := by rfl) (hx : Loc X.env.scope x := by first | exact Or.inl rfl | exact Or.inr rfl) (hf : X.fn x = true ∨ X.env.scope.names.lookup x = some .local := by first | exact .inl rfl | exact .inr rfl | assumption) : VG X (.Name x pos) (putIm i) :=
  PG.imp (pg_name hN hi hx hf) fun v σ H Q ⟨G, ρ, d, rel, hv, q⟩ => FnG.put rel hv q
theorem vgs_nil : VGs X [] gsNil := PGs.imp pgs_nil fun vs σ H Q ⟨G, ρ, ds, rel, hv, q⟩ => by
  cases hv with
  | nil => exact ⟨rfl, q _ _ _ rel Stp.refl⟩
  | cons _ _ => exact q.elim
theorem vgs_cons (h1 : VG X e g) (h2 : VGs X es h) (hs : (assignEach (e :: es) X.env).map (·.2) = assign e X.env :: (assignEach es X.env).map (·.2) := by rfl) : VGs X (e :: es) (gsCons g h) :=
  PGs.imp (pgs_cons h1 h2 hs) fun vs σ H Q ⟨G, ρ, ds, rel, hv, q⟩ => by
    cases hv with
    | nil => exact q.elim
    | @cons v vs d ds hv1 hvs =>
      have q' : FnG X.K G H σ ρ ((g d ρ).bind fun _ ρ1 => h ds ρ1) Q := q
      refine ⟨v, vs, rfl, G, ρ, d, rel, hv1, ?_⟩
      cases e1 : g d ρ with
      | no => rw [e1] at q'; exact q'
      | ex c ρ' => rw [e1] at q'; exact q'
      | ok u ρ' =>
        rw [e1] at q'
        intro G1 H1 σ1 r1 s1
        refine ⟨G1, ρ', ds, r1, hvs.mono s1.g, ?_⟩
        have q2 : FnG X.K G H σ ρ (h ds ρ') Q := q'
        cases e2 : h ds ρ' with
        | no => rw [e2] at q2; exact q2
        | ex c ρ'' => rw [e2] at q2; exact q2
        | ok u' ρ'' => rw [e2] at q2; exact fun G2 H2 σ2 r2 s2 => q2 G2 H2 σ2 r2 (s1.trans rel s2)
theorem vg_tup {k : Nat} {n : Nat} (hc : X.calm = true) (hs : VGs X es h) (hn : (assignEach es X.env).length = n := by rfl) (hst : (assignEach es X.env).findIdx? (·.1) = none := by rfl) : VG X (.Tuple es k pos) (gTupD n h) :=
  PG.imp (pgOr (pg_tup hc hs hn hst) (pg_unl hc hs hn hst)) fun v σ H Q ⟨G, ρ, d, rel, hv, q⟩ => by
    cases hv with
    | @lst a xs ds hq hds =>
      have q' : FnG X.K G H σ ρ (if ds.length = n then h ds ρ else .no) Q := q
      split at q'
      · rename_i hl
        exact .inr ⟨a, xs, rfl, rel.sub.seq hq, by rw [hds.length]; exact hl, G, ρ, ds, rel, hds, q'⟩
      · exact q'.elim
    | @tup a xs ds hq hds =>
      have q' : FnG X.K G H σ ρ (if ds.length = n then h ds ρ else .no) Q := q
      split at q'
      · rename_i hl
        exact .inl ⟨a, xs, rfl, Same.tup rel.sub hq, by rw [hds.length]; exact hl, G, ρ, ds, rel, hds, q'⟩
      · exact q'.elim
    | _ => exact q.elim
def dAsg (g : D → En → R Unit) (f : En → R D) : En → R Fl := fun ρ => (f ρ).bind fun d ρ1 => (g d ρ1).bind fun _ ρ2 => .ok .nx ρ2
theorem FnS.tg {K : PySem.W.Frag} {G H : Hp} {σ : L2.St} {ρ : En} {r : R Unit} {D : Ends} (h : FnS K w G H σ ρ (r.bind fun _ ρ2 => .ok .nx ρ2) D) (hx : ∀ c ρ', r ≠ .ex c ρ') : FnG K G H σ ρ r D.nx := by
  cases r with
  | no => exact h
  | ex c ρ' => exact absurd rfl (hx c ρ')
  | ok u ρ' => exact h
/-- no target raises -/
def NoX (g : D → En → R Unit) : Prop := ∀ d ρ c ρ', g d ρ ≠ .ex c ρ'
theorem nox_put {i : Nat} : NoX (putIm i) := fun d ρ c ρ' => by
  unfold putIm; split <;> exact fun z => nomatch z
theorem vs_asg {tg : Expr} (he : VE X w e fe) (hg : VG X tg g) (hx : NoX g) (hs : swapsWithSole [tg] e pos.line X.env = pure false := by rfl) (hw : swappedStores [tg] e X.env = pure none := by rfl)
    (h1 : (assignEach [tg] X.env).map (·.2) = [assign tg X.env] := by rfl) : VS X w (.Assign [tg] e pos) (dAsg g fe) :=
  PS.imp (ps_asg he hg hs hw h1) fun D σ H ⟨G, ρ, rel, h⟩ => ⟨G, ρ, rel, (FnS.bind rel h).imp fun G1 H1 ρ1 d ⟨r1, s1, h1⟩ v hv => ⟨G1, ρ1, d, r1, hv, FnS.tg h1 (hx d ρ1)⟩⟩
theorem vs_set (i : Nat) {pos' : Pos} (hN : X.N.Nodup) (he : VE X w e fe) (hi : X.N[i]? = some x := by rfl) (hx : Loc X.env.scope x := by first | exact Or.inl rfl | exact Or.inr rfl) (hs : swapsWith e (some (.Name x pos')) pos.line X.env = pure false := by rfl)
    (hf : X.fn x = true ∨ X.env.scope.names.lookup x = some .local := by first | exact .inl rfl | exact .inr rfl | assumption) : VS X w (.Assign [.Name x pos'] e pos) (dAsg (putIm i) fe) :=
  PS.imp (ps_set hN hi hx he hs hf) fun D σ H ⟨G, ρ, rel, h⟩ => ⟨G, ρ, rel, (FnS.bind rel h).imp fun G1 H1 ρ1 d ⟨r1, s1, h1⟩ v hv => FnG.put r1 hv (FnS.tg h1 (nox_put d ρ1))⟩
def dAsgL (i : Nat) (f : En → R (List D)) : En → R Fl := fun ρ => (f ρ).bind fun ds ρ1 => (putOw i ds ρ1).bind fun _ ρ2 => .ok .nx ρ2
theorem vs_setL (i : Nat) {pos' : Pos} {fl : En → R (List D)} (hN : X.N.Nodup) (he : VN X w e fl) (hi : X.N[i]? = some x := by rfl) (hx : Loc X.env.scope x := by first | exact Or.inl rfl | exact Or.inr rfl) (hs : swapsWith e (some (.Name x pos')) pos.line X.env = pure false := by rfl)
    (hf : X.fn x = true ∨ X.env.scope.names.lookup x = some .local := by first | exact .inl rfl | exact .inr rfl | assumption) : VS X w (.Assign [.Name x pos'] e pos) (dAsgL i fl) :=
  PS.imp (ps_set hN hi hx he hs hf) fun D σ H ⟨G, ρ, rel, h⟩ => ⟨G, ρ, rel, by
    unfold dAsgL at h
    cases q : fl ρ with
    | no => rw [q] at h; exact h
    | ex c ρ' => rw [q] at h; exact fun G' H' cls dx r1 s1 x => h G' H' σ cls dx r1 s1 x
    | ok ds ρ' =>
      rw [q] at h
      intro G1 H1 r1 s1 p n
      have h' : FnS X.K w G H σ ρ ((putOw i ds ρ').bind fun _ ρ2 => .ok .nx ρ2) D := h
      unfold putOw at h'
      split at h'
      · rename_i hf
        obtain ⟨c, hc, hb, ht⟩ := free_ok hf
        exact FnS.nx (show FnS X.K w G H σ ρ (.ok .nx (ρ'.set i (some (.ow ds)))) D from h') (r1.putL hc n.g n.own n.here).1 (s1.putL r1 hc hb ht n.g n.own n.here n.new)
      · exact h'.elim⟩
/-- a, b = x, y -/
def dPar (i j : Nat) (ga : En → R (List AV)) : En → R Fl := fun ρ => (dAll ga ρ).bind fun ds ρ1 => match ds with
  | [a, b] => (putIm i a ρ1).bind fun _ ρ2 => (putIm j b ρ2).bind fun _ ρ3 => .ok .nx ρ3
  | _ => .no
theorem FnS.all {K : PySem.W.Frag} {G H : Hp} {σ : L2.St} {ρ : En} {ga : En → R (List AV)} {g : List D → En → R Fl} {Z : Ends} (rel : Rel K G H σ ρ) (h : FnS K w G H σ ρ ((dAll ga ρ).bind g) Z) :
    Fn K w G H σ ρ (ga ρ) (fun G1 H1 ρ1 as => Rel K G1 H1 σ ρ1 ∧ Stp G H σ ρ G1 H1 σ ρ1 ∧ ∃ ds, allIm as = some ds ∧ FnS K w G1 H1 σ ρ1 (g ds ρ1) Z) := by
  have h' : FnS K w G H σ ρ ((ga ρ).bind fun as ρ1 => (Dn.lift (allIm as) ρ1 : R (List D)).bind g) Z := by
    have : (dAll ga ρ).bind g = (ga ρ).bind fun as ρ1 => (Dn.lift (allIm as) ρ1 : R (List D)).bind g := by
      unfold dAll
      cases ga ρ <;> rfl
    rw [← this]; exact h
  refine (FnS.bind rel h').imp fun G1 H1 ρ1 as ⟨r1, s1, h1⟩ => ⟨r1, s1, ?_⟩
  cases q : allIm as with
  | none => rw [q] at h1; exact h1.elim
  | some ds => rw [q] at h1; exact ⟨ds, rfl, h1⟩
theorem vs_par (i j : Nat) {y : Str} {a b : Expr} {ga : En → R (List AV)} {px py pt : Pos} {kt k2 : Nat} {pt2 : Pos} (hc : X.calm = true) (hN : X.N.Nodup) (ha : VA X w [a, b] ga) (hi : X.N[i]? = some x := by rfl) (hj : X.N[j]? = some y := by rfl) (hij : i ≠ j := by decide)
    (hx : X.env.scope.names.lookup x = some .local := by rfl) (hy : X.env.scope.names.lookup y = some .local := by rfl)
    (hw : swappedStores [.Tuple [.Name x px, .Name y py] kt pt] (.Tuple [a, b] k2 pt2) X.env = pure (some [x, y]) := by rfl)
    (hs : swapsWithSole [.Tuple [.Name x px, .Name y py] kt pt] (.Tuple [a, b] k2 pt2) pos.line X.env = pure false := by rfl) :
    VS X w (.Assign [.Tuple [.Name x px, .Name y py] kt pt] (.Tuple [a, b] k2 pt2) pos) (dPar i j ga) :=
  PS.imp (ps_par hc hN hi hj hij hx hy ha hw hs) fun D σ H ⟨G, ρ, rel, h⟩ => ⟨G, ρ, rel, (FnS.all rel h).imp fun G1 H1 ρ1 as ⟨r1, s1, ds, e, h1⟩ vs hvs => by
    have hd := hvs.all e
    cases hd with
    | nil => exact h1.elim
    | @cons v vs d ds hv hvs' =>
      cases hvs' with
      | nil => exact h1.elim
      | @cons u vs d' ds hu t =>
        cases t with
        | cons _ _ => exact h1.elim
        | nil =>
          refine ⟨v, u, rfl, ?_⟩
          have h2 : FnS X.K w G1 H1 σ ρ1 ((putIm i d ρ1).bind fun _ ρ2 => (putIm j d' ρ2).bind fun _ ρ3 => .ok .nx ρ3) D := h1
          unfold putIm at h2
          split at h2
          · rename_i hf
            obtain ⟨c, hc', hb, ht⟩ := free_ok hf
            obtain ⟨r2, s2⟩ := r1.put hc' hb ht hv
            have h3 : FnS X.K w G1 H1 σ ρ1 ((if free (ρ1.set i (some (.im d)))[j]? = true then R.ok () ((ρ1.set i (some (.im d))).set j (some (.im d'))) else .no).bind fun _ ρ3 => .ok .nx ρ3) D := h2
            split at h3
            · rename_i hf2
              obtain ⟨c2, hc2, hb2, ht2⟩ := free_ok hf2
              obtain ⟨r3, s3⟩ := r2.put hc2 hb2 ht2 hu
              exact FnS.nx (show FnS X.K w G1 H1 σ ρ1 (.ok .nx _) D from h3) r3 (s2.trans r1 s3)
            · exact h3.elim
          · exact h2.elim⟩
end
end Dn
namespace Dn
open PySem PySem.Spec PyProof.Rows L2

/-! ### lists that change -/
def L.put : L → List D → L
  | .ow _, ds => .ow ds
  | .bo _, ds => .bo ds
  | l, _ => l
def L.mine : L → Option (List D)
  | .ow ds => some ds
  | .bo ds => some ds
  | _ => none
section
variable {K : PySem.W.Frag} {w : Wh} {G H : Hp} {σ : L2.St} {ρ : En}
theorem Rel.mine (r : Rel K G H σ ρ) {i : Nat} {l : L} {ds : List D} (h : ρ[i]? = some (some l)) (m : l.mine = some ds) : ∃ o vs, σ[i]? = some (some (V.ref o)) ∧ G o = none ∧ H o = some (.lst vs) ∧ DRs K G vs ds := by
  obtain ⟨v, s, c⟩ := r.cell i l h
  cases l with
  | ow es => cases m; obtain ⟨o, vs, rfl, g, q, hd⟩ := c; exact ⟨o, vs, s, g, q, hd⟩
  | bo es => cases m; obtain ⟨o, vs, rfl, g, q, hd⟩ := c; exact ⟨o, vs, s, g, q, hd⟩
  | _ => cases m
theorem L.mine_fo {l : L} {ds : List D} {v : V} {a : Addr} (m : l.mine = some ds) : Fo H l v a ↔ v = V.ref a := by
  cases l <;> first | (cases m; done) | exact Iff.rfl
theorem L.put_mu {l : L} {ds es : List D} (m : l.mine = some ds) : (l.put es).mu = true ∧ l.mu = true ∧ (l.put es).mine = some es := by
  cases l <;> first | (cases m; done) | exact ⟨rfl, rfl, rfl⟩
theorem Rel.change (r : Rel K G H σ ρ) {i : Nat} {l : L} {ds es : List D} (h : ρ[i]? = some (some l)) (m : l.mine = some ds) {o : Addr} (s : σ[i]? = some (some (V.ref o))) {vs : List V} (hd : DRs K G vs es) :
    Rel K G (upd H o (.lst vs)) σ (ρ.set i (some (l.put es))) ∧ Stp G H σ ρ G (upd H o (.lst vs)) σ (ρ.set i (some (l.put es))) := by
  obtain ⟨o', ws, s', go, ho, _⟩ := r.mine h m
  rw [s] at s'; cases s'
  obtain ⟨pm, lm, pq⟩ := L.put_mu (es := es) m
  have fo : Fo H l (V.ref o) o := (L.mine_fo m).mpr rfl
  have own_o : Own H σ ρ o := ⟨i, l, _, h, s, fo⟩
  have away : ∀ a, OwnX H σ ρ i a → a ≠ o := fun a ha z => by subst z; exact r.notX h s fo ha
  obtain ⟨r', ow⟩ := r.set1 (G' := G) (H' := upd H o (.lst vs)) (v' := V.ref o) (l' := l.put es) h (Same.refl _) (fun b x e => by rw [upd_ne (ne_of_none e go)]; exact r.sub b x e)
    (fun a ha => (r.own ha.own).1) (fun a ha => upd_ne (away a ha)) (by
      cases l with
      | ow _ => exact ⟨o, vs, rfl, go, upd_same, hd⟩
      | bo _ => exact ⟨o, vs, rfl, go, upd_same, hd⟩
      | _ => cases m) (fun a f z => by
      have : V.ref o = V.ref a := (L.mine_fo pq).mp f
      cases this; exact away _ z rfl)
  rw [set_id s] at r' ow
  refine ⟨r', ⟨Same.refl _, fun a x e n => ?_, fun a q => .inl q, fun a q => .inl ?_, tracked_upd, by rw [List.length_set], fun j bs e => ⟨rfl, ?_⟩, fun j t e => ⟨rfl, t, ?_, fun v a sv f => f.to fun b q => upd_ne ?_⟩⟩⟩
  · have ha : a ≠ o := fun z => by subst z; exact n own_o
    rw [upd_ne ha]; exact e
  · rcases ow a q with z | z
    · exact z.own
    · have : V.ref o = V.ref a := (L.mine_fo pq).mp z
      cases this; exact own_o
  · by_cases hj : j = i
    · subst hj
      rw [h] at e; cases e
      exact ⟨es, set_same h⟩
    · exact ⟨bs, by rw [List.getElem?_set_ne (Ne.symm hj)]; exact e⟩
  · have hj : j ≠ i := fun z => by subst z; rw [h] at e; cases e; cases m
    rw [List.getElem?_set_ne (Ne.symm hj)]; exact e
  · have hj : j ≠ i := fun z => by subst z; rw [h] at e; cases e; cases m
    exact away b ⟨j, _, v, hj, e, sv, q⟩
end
/-- at a list of one's own -/
def atMine {α β : Type} (i : Nat) (f : En → R β) (g : L → List D → β → En → R α) : En → R α := fun ρ => match ρ[i]? with
  | some (some l0) => match l0.mine with
    | some _ => (f ρ).bind fun y ρ1 => match ρ1[i]? with
      | some (some l) => match l.mine with
        | some ds => g l ds y ρ1
        | none => .no
      | _ => .no
    | none => .no
  | _ => .no
section
variable {X : Cx} {w : Wh} {x : Str} {p pos : Pos} {e : Expr} {fe fi : En → R D}
theorem FnS.mine {α : Type} {K : PySem.W.Frag} {G H : Hp} {σ : L2.St} {ρ : En} {i : Nat} {f : En → R α} {g : L → List D → α → En → R Fl} {Z : Ends} (rel : Rel K G H σ ρ) (h : FnS K w G H σ ρ (atMine i f g ρ) Z) :
    ∃ o, σ[i]? = some (some (V.ref o)) ∧ (∃ vs, H o = some (.lst vs)) ∧ Fn K w G H σ ρ (f ρ) (fun G1 H1 ρ1 y => ∃ l ds, ρ1[i]? = some (some l) ∧ l.mine = some ds ∧ Rel K G1 H1 σ ρ1 ∧ Stp G H σ ρ G1 H1 σ ρ1 ∧ FnS K w G1 H1 σ ρ1 (g l ds y ρ1) Z) := by
  unfold atMine at h
  split at h
  · rename_i l0 e0
    split at h
    · rename_i es m0
      obtain ⟨o, vs, s, go, ho, hd⟩ := rel.mine e0 m0
      refine ⟨o, s, ⟨vs, ho⟩, (FnS.bind rel h).imp fun G1 H1 ρ1 y ⟨r1, s1, h1⟩ => ?_⟩
      split at h1
      · rename_i l e1
        split at h1
        · rename_i ds m; exact ⟨l, ds, e1, m, r1, s1, h1⟩
        · exact h1.elim
      · exact h1.elim
    · exact h.elim
  · exact h.elim
theorem Fn.mine {α β : Type} {K : PySem.W.Frag} {G H : Hp} {σ : L2.St} {ρ : En} {i : Nat} {f : En → R α} {g : L → List D → α → En → R β} {P : Hp → Hp → En → β → Prop} (rel : Rel K G H σ ρ) (h : Fn K w G H σ ρ (atMine i f g ρ) P) :
    ∃ o, σ[i]? = some (some (V.ref o)) ∧ (∃ vs, H o = some (.lst vs)) ∧ Fn K w G H σ ρ (f ρ) (fun G1 H1 ρ1 y => ∃ l ds, ρ1[i]? = some (some l) ∧ l.mine = some ds ∧ Rel K G1 H1 σ ρ1 ∧ Stp G H σ ρ G1 H1 σ ρ1 ∧ Fn K w G1 H1 σ ρ1 (g l ds y ρ1) P) := by
  unfold atMine at h
  split at h
  · rename_i l0 e0
    split at h
    · rename_i es m0
      obtain ⟨o, vs, s, go, ho, hd⟩ := rel.mine e0 m0
      refine ⟨o, s, ⟨vs, ho⟩, (Fn.bind rel h).imp fun G1 H1 ρ1 y ⟨r1, s1, h1⟩ => ?_⟩
      split at h1
      · rename_i l e1
        split at h1
        · rename_i ds m; exact ⟨l, ds, e1, m, r1, s1, h1⟩
        · exact h1.elim
      · exact h1.elim
    · exact h.elim
  · exact h.elim
/-- x.append(e) -/
def dApp (i : Nat) (f : En → R D) : En → R Fl := atMine i f fun l ds d ρ => if ds.length < sizeLine then .ok .nx (ρ.set i (some (l.put (ds ++ [d])))) else .no
theorem vs_append (i : Nat) {apos : Pos} (he : VE X w e fe) (hN : X.N[i]? = some x := by rfl) (hv : Vis X.env.scope x := by first | exact Or.inl rfl | exact Or.inr (Or.inl rfl) | exact Or.inr (Or.inr rfl)) (hd : (x == ("__debug__" : Str)) = false := by decide) (hcd : (x == ("__classdict__" : Str)) = false := by decide)
    (hbase : attributeBase (.Name x p) "append" X.env (eval (.Name x p) X.env) = eval (.Name x p) X.env := by rfl) (hline : (apos.endLine == pos.line) = true := by rfl)
    (hfew : ((backTo pos (starEach [e] X.env)).all (fun x => !x.1) && (backToKw pos (keywordEach [] X.env)).all (fun x => x.1.isSome) && decide (([e] : List Expr).length + ([] : List Keyword).length + (if ([] : List Keyword).isEmpty then 0 else 1) < 30)) = true := by rfl)
    (hs : starEach [e] X.env = (false, eval e X.env) :: starEach [] X.env := by rfl) {pos2 : Pos} (hsw : swapsWith (.Call (.Attribute (.Name x p) "append" apos) [e] [] pos) none pos2.line X.env = pure false := by rfl) :
    VS X w (.Expr (.Call (.Attribute (.Name x p) "append" apos) [e] [] pos) pos2) (dApp i fe) :=
  PS.imp (ps_expr (pe_bm PySem.F.plainAttrs_list PySem.F.slot_list_append PySem.F.type_list_append mt_append (pe_var hN hv hd hcd) (pa_cons he pa_nil hs) hbase hfew hline hs (by rfl)) hsw) fun Z σ H ⟨G, ρ, rel, h⟩ => by
    obtain ⟨o, s, ⟨vs, ho⟩, h⟩ := FnS.mine rel h
    refine ⟨.ref o, s, .inl ⟨rfl, vs, .inl (.inl ho)⟩, G, ρ, rel, h.imp fun G1 H1 ρ1 d ⟨l, ds, e1, m, r1, s1, h1⟩ v hv => ?_⟩
    obtain ⟨o', ws, s', go, hw, hd⟩ := r1.mine e1 m
    rw [s] at s'; cases s'
    split at h1
    · obtain ⟨r2, s2⟩ := r1.change e1 m s (hd.append (.cons hv .nil))
      exact ⟨o, ws, v, rfl, rfl, hw, by rw [hd.length]; assumption, FnS.nx h1 r2 s2⟩
    · exact h1.elim
/-- x[k] = e -/
def dSetI (i : Nat) (f k : En → R D) : En → R Fl := fun ρ => (f ρ).bind fun d ρ1 => atMine i k (fun l ds y ρ2 => match asI y with
  | some z => match ixN ds.length z with
    | some j => .ok .nx (ρ2.set i (some (l.put (ds.set j d))))
    | none => .no
  | none => .no) ρ1
theorem vs_setI (i : Nat) {k : Expr} {pos2 : Pos} (he : VE X w e fe) (hk : VE X w k fi) (hN : X.N[i]? = some x := by rfl) (hv : Vis X.env.scope x := by first | exact Or.inl rfl | exact Or.inr (Or.inl rfl) | exact Or.inr (Or.inr rfl)) (hd : (x == ("__debug__" : Str)) = false := by decide) (hcd : (x == ("__classdict__" : Str)) = false := by decide)
    (ha : ∀ v, assign (.Subscript (.Name x p) k pos) X.env v = (do
      let ov ← holding [v] (eval (.Name x p) X.env)
      let iv ← holding [v, ov] (eval k X.env)
      standAt pos
      holding [v, ov, iv] (setItem ov iv v)
      release [v, ov, iv] []) := by intro _; rfl)
    (hs : swapsWithSole [.Subscript (.Name x p) k pos] e pos2.line X.env = pure false := by rfl) (hw : swappedStores [.Subscript (.Name x p) k pos] e X.env = pure none := by rfl)
    (h1 : (assignEach [.Subscript (.Name x p) k pos] X.env).map (·.2) = [assign (.Subscript (.Name x p) k pos) X.env] := by rfl) : VS X w (.Assign [.Subscript (.Name x p) k pos] e pos2) (dSetI i fe fi) :=
  PS.imp (ps_asg he (pg_sub (pe_var hN hv hd hcd) hk set_list ha) hs hw h1) fun Z σ H ⟨G, ρ, rel, h⟩ => ⟨G, ρ, rel, (FnS.bind rel h).imp fun G1 H1 ρ1 d ⟨r1, s1, h1⟩ v hv => by
    obtain ⟨o, s, ⟨vs, ho⟩, h2⟩ := FnS.mine r1 h1
    refine ⟨.ref o, s, G1, ρ1, r1, h2.imp fun G2 H2 ρ2 y ⟨l, ds, e2, m, r2, s2, h3⟩ u hu => ?_⟩
    obtain ⟨o', ws, s', go, hw, hd⟩ := r2.mine e2 m
    rw [s] at s'; cases s'
    split at h3
    · rename_i z ez
      split at h3
      · rename_i j ej
        obtain ⟨r3, s3⟩ := r2.change e2 m s (hd.set (hv.mono s2.g) j)
        cases hu with
        | int q => cases ez; exact ⟨o, ws, z, j, rfl, rfl, hw, by rw [hd.length]; exact ej, FnS.nx h3 r3 s3⟩
        | _ => cases ez
      · exact h3.elim
    · exact h3.elim⟩

/-! ### a name that is handed out -/
theorem own_drop {H : Hp} {σ : L2.St} {ρ : En} {i : Nat} (a : Addr) (h : Own H σ (ρ.set i none) a) : OwnX H σ ρ i a := by
  obtain ⟨j, l, v, e, s, f⟩ := h
  have hj : j ≠ i := fun z => by
    subst z
    by_cases hl : j < ρ.length
    · rw [List.getElem?_set_self hl] at e; cases e
    · rw [List.getElem?_eq_none (by rw [List.length_set]; omega)] at e; cases e
  rw [List.getElem?_set_ne (Ne.symm hj)] at e
  exact ⟨j, l, v, hj, e, s, f⟩
theorem Rel.drop0 {K : PySem.W.Frag} {G H : Hp} {σ : L2.St} {ρ : En} (r : Rel K G H σ ρ) (i : Nat) : Rel K G H σ (ρ.set i none) := by
  have old : ∀ (j : Nat) (l : L), (ρ.set i none)[j]? = some (some l) → ρ[j]? = some (some l) := fun j l e => by
    by_cases hj : j = i
    · subst hj
      by_cases hl : j < ρ.length
      · rw [List.getElem?_set_self hl] at e; cases e
      · rw [List.getElem?_eq_none (by rw [List.length_set]; omega)] at e; cases e
    · rw [List.getElem?_set_ne (Ne.symm hj)] at e; exact e
  exact ⟨r.sub, by rw [List.length_set]; exact r.len, fun j l e => r.cell j l (old j l e), fun j k l m v u a ej ek sj sk fj fk => r.apart j k l m v u a (old j l ej) (old k m ek) sj sk fj fk⟩
theorem Rel.drop {K : PySem.W.Frag} {G H : Hp} {σ : L2.St} {ρ : En} (r : Rel K G H σ ρ) {i : Nat} {ds : List D} (h : ρ[i]? = some (some (L.ow ds))) :
    ∃ o, σ[i]? = some (some (V.ref o)) ∧ Rel K G H σ (ρ.set i none) ∧ Stp G H σ ρ G H σ (ρ.set i none) ∧ OutL K G H σ ρ G H σ (ρ.set i none) o ds := by
  obtain ⟨o, vs, s, go, ho, hd⟩ := r.mine h rfl
  refine ⟨o, s, r.drop0 i, ⟨Same.refl _, fun _ _ h _ => h, fun _ h => .inl h, fun a q => .inl (own_drop a q).own, fun _ h => h, by rw [List.length_set], fun j es e => ⟨rfl, es, ?_⟩, fun j t e => ⟨rfl, t, ?_, fun _ _ _ f => f⟩⟩, ⟨go, fun q => ?_, ⟨vs, ho, hd⟩, .inr ⟨i, _, _, h, rfl, s, rfl⟩⟩⟩
  · have hj : j ≠ i := fun z => by subst z; rw [h] at e; cases e
    rw [List.getElem?_set_ne (Ne.symm hj)]; exact e
  · have hj : j ≠ i := fun z => by subst z; rw [h] at e; cases e
    rw [List.getElem?_set_ne (Ne.symm hj)]; exact e
  · exact r.notX h s rfl (own_drop o q)
def dRetV (i : Nat) : En → R Fl := fun ρ => match ρ[i]? with
  | some (some (.ow ds)) => .ok (.rl ds) (ρ.set i none)
  | some (some (.im d)) => .ok (.rt d) ρ
  | _ => .no
theorem vs_retV (i : Nat) (hN : X.N[i]? = some x := by rfl) (hv : Vis X.env.scope x := by first | exact Or.inl rfl | exact Or.inr (Or.inl rfl) | exact Or.inr (Or.inr rfl)) (hd : (x == ("__debug__" : Str)) = false := by decide) (hcd : (x == ("__classdict__" : Str)) = false := by decide) :
    VS X w (.Return (some (.Name x p)) pos) (dRetV i) := PS.imp (ps_ret (pe_var hN hv hd hcd)) fun Z σ H ⟨G, ρ, rel, h⟩ => by
  unfold dRetV at h
  split at h
  · rename_i ds e
    obtain ⟨o, s, r1, s1, ho⟩ := rel.drop e
    exact ⟨.ref o, s, h _ _ _ _ r1 s1 ho⟩
  · rename_i d e
    obtain ⟨v, s, c⟩ := rel.cell i _ e
    exact ⟨v, s, h _ _ _ _ rel Stp.refl c⟩
  · exact h.elim
end
end Dn
namespace Dn
open PySem PySem.Spec PyProof.Rows L2

/-! ### while -/
def isNo {α : Type} : R α → Bool
  | .no => true
  | _ => false
def whN (c : En → R Bool) (b : En → R Fl) : Nat → En → R Fl
  | 0, _ => .no
  | n + 1, ρ => (c ρ).bind fun t ρ1 => if t = true then (b ρ1).bind fun fl ρ2 => match fl with
      | .nx => whN c b n ρ2
      | .ct => whN c b n ρ2
      | .bk => .ok .nx ρ2
      | .rt d => .ok (.rt d) ρ2
      | .rl ds => .ok (.rl ds) ρ2
    else .ok .nx ρ1
open Classical in
noncomputable def dWhile (c : En → R Bool) (b : En → R Fl) : En → R Fl := fun ρ => if h : ∃ n, isNo (whN c b n ρ) = false then whN c b h.choose ρ else .no
theorem whN_succ {c : En → R Bool} {b : En → R Fl} : ∀ {n : Nat} {ρ : En}, isNo (whN c b n ρ) = false → whN c b (n + 1) ρ = whN c b n ρ
  | 0, ρ, h => by cases h
  | n + 1, ρ, h => by
    have h' := h
    show (c ρ).bind _ = (c ρ).bind _
    rw [whN] at h'
    cases q : c ρ with
    | no => rfl
    | ex e ρ1 => rfl
    | ok t ρ1 =>
      rw [q] at h'
      cases t with
      | false => rfl
      | true =>
        show (b ρ1).bind _ = (b ρ1).bind _
        have h2 : isNo ((b ρ1).bind fun fl ρ2 => match fl with | .nx => whN c b n ρ2 | .ct => whN c b n ρ2 | .bk => .ok .nx ρ2 | .rt d => .ok (.rt d) ρ2 | .rl ds => .ok (.rl ds) ρ2) = false := h'
        cases q2 : b ρ1 with
        | no => rfl
        | ex e ρ2 => rfl
        | ok fl ρ2 =>
          rw [q2] at h2
          cases fl with
          | nx => exact whN_succ (n := n) h2
          | ct => exact whN_succ (n := n) h2
          | bk => rfl
          | rt d => rfl
          | rl ds => rfl
theorem whN_le {c : En → R Bool} {b : En → R Fl} {n m : Nat} {ρ : En} (h : isNo (whN c b n ρ) = false) (l : n ≤ m) : whN c b m ρ = whN c b n ρ := by
  induction l with
  | refl => rfl
  | step _ ih => rw [whN_succ (by rw [ih]; exact h), ih]
theorem dWhile_of {c : En → R Bool} {b : En → R Fl} {n : Nat} {ρ : En} (h : isNo (whN c b n ρ) = false) : dWhile c b ρ = whN c b n ρ := by
  unfold dWhile
  have hx : ∃ n, isNo (whN c b n ρ) = false := ⟨n, h⟩
  rw [dif_pos hx]
  rcases Nat.le_total hx.choose n with l | l
  · exact (whN_le hx.choose_spec l).symm
  · exact whN_le h l
theorem dWhile_no {c : En → R Bool} {b : En → R Fl} {ρ : En} (h : isNo (dWhile c b ρ) = false) : ∃ n, whN c b n ρ = dWhile c b ρ := by
  unfold dWhile at h ⊢
  split at h
  · rename_i hx; exact ⟨hx.choose, by rw [dif_pos hx]⟩
  · cases h
/-- one turn -/
theorem dWhile_turn {c : En → R Bool} {b : En → R Fl} {ρ : En} : dWhile c b ρ = (c ρ).bind fun t ρ1 => if t = true then (b ρ1).bind fun fl ρ2 => match fl with
      | .nx => dWhile c b ρ2
      | .ct => dWhile c b ρ2
      | .bk => .ok .nx ρ2
      | .rt d => .ok (.rt d) ρ2
      | .rl ds => .ok (.rl ds) ρ2
    else .ok .nx ρ1 := by
  have key : ∀ {n : Nat}, isNo (whN c b (n + 1) ρ) = false → whN c b (n + 1) ρ = (c ρ).bind fun t ρ1 => if t = true then (b ρ1).bind fun fl ρ2 => match fl with
      | .nx => dWhile c b ρ2
      | .ct => dWhile c b ρ2
      | .bk => .ok .nx ρ2
      | .rt d => .ok (.rt d) ρ2
      | .rl ds => .ok (.rl ds) ρ2
    else .ok .nx ρ1 := fun {n} h => by
    rw [whN] at h ⊢
    cases q : c ρ with
    | no => rfl
    | ex e ρ1 => rfl
    | ok t ρ1 =>
      rw [q] at h
      cases t with
      | false => rfl
      | true =>
        show (b ρ1).bind _ = (b ρ1).bind _
        have h2 : isNo ((b ρ1).bind fun fl ρ2 => match fl with | .nx => whN c b n ρ2 | .ct => whN c b n ρ2 | .bk => .ok .nx ρ2 | .rt d => .ok (.rt d) ρ2 | .rl ds => .ok (.rl ds) ρ2) = false := h
        cases q2 : b ρ1 with
        | no => rfl
        | ex e ρ2 => rfl
        | ok fl ρ2 =>
          rw [q2] at h2
          cases fl with
          | nx => exact (dWhile_of h2).symm
          | ct => exact (dWhile_of h2).symm
          | bk => rfl
          | rt d => rfl
          | rl ds => rfl
  by_cases hx : ∃ n, isNo (whN c b n ρ) = false
  · obtain ⟨n, hn⟩ := hx
    cases n with
    | zero => cases hn
    | succ n => rw [dWhile_of hn, key hn]
  · have e1 : dWhile c b ρ = .no := by unfold dWhile; rw [dif_neg hx]
    rw [e1]
    cases q : c ρ with
    | no => rfl
    | ex e ρ1 => exact absurd ⟨1, by rw [whN, q]; rfl⟩ hx
    | ok t ρ1 =>
      cases t with
      | false => exact absurd ⟨1, by rw [whN, q]; rfl⟩ hx
      | true =>
        show R.no = (b ρ1).bind _
        cases q2 : b ρ1 with
        | no => rfl
        | ex e ρ2 => exact absurd ⟨1, by rw [whN, q]; show isNo ((b ρ1).bind _) = false; rw [q2]; rfl⟩ hx
        | ok fl ρ2 =>
          have hw : ∀ n, isNo (whN c b n ρ2) = false → (fl = .nx ∨ fl = .ct) → False := fun n hn hf => hx ⟨n + 1, by
            rw [whN, q]; show isNo ((b ρ1).bind _) = false; rw [q2]
            rcases hf with rfl | rfl <;> exact hn⟩
          cases fl with
          | nx => show R.no = dWhile c b ρ2; unfold dWhile; rw [dif_neg fun ⟨n, hn⟩ => hw n hn (.inl rfl)]
          | ct => show R.no = dWhile c b ρ2; unfold dWhile; rw [dif_neg fun ⟨n, hn⟩ => hw n hn (.inr rfl)]
          | bk => exact absurd ⟨1, by rw [whN, q]; show isNo ((b ρ1).bind _) = false; rw [q2]; rfl⟩ hx
          | rt d => exact absurd ⟨1, by rw [whN, q]; show isNo ((b ρ1).bind _) = false; rw [q2]; rfl⟩ hx
          | rl d => exact absurd ⟨1, by rw [whN, q]; show isNo ((b ρ1).bind _) = false; rw [q2]; rfl⟩ hx
section
variable {X : Cx} {w : Wh} {pos : Pos}
/-- a loop's body, then what comes -/
theorem FnS.loop {K : PySem.W.Frag} {G H : Hp} {σ : L2.St} {ρ : En} {b : En → R Fl} {k : En → R Fl} {Z : Ends} (rel : Rel K G H σ ρ)
    (h : FnS K w G H σ ρ ((b ρ).bind fun fl ρ2 => match fl with | .nx => k ρ2 | .ct => k ρ2 | .bk => .ok .nx ρ2 | .rt d => .ok (.rt d) ρ2 | .rl ds => .ok (.rl ds) ρ2) Z) {N : L2.St → Hp → Prop}
    (hN : ∀ G1 H1 σ1 ρ1, Rel K G1 H1 σ1 ρ1 → Stp G H σ ρ G1 H1 σ1 ρ1 → FnS K w G1 H1 σ1 ρ1 (k ρ1) Z → N σ1 H1) : FnS K w G H σ ρ (b ρ) { Z with nx := N, ct := N, bk := Z.nx } := by
  cases q : b ρ with
  | no => rw [q] at h; exact h
  | ex c ρ' => rw [q] at h; exact h
  | ok fl ρ' =>
    rw [q] at h
    cases fl with
    | nx => exact fun G1 H1 σ1 r1 s1 => hN _ _ _ _ r1 s1 (FnS.after rel r1 s1 (show FnS K w G H σ ρ (k ρ') Z from h))
    | ct => exact fun G1 H1 σ1 r1 s1 => hN _ _ _ _ r1 s1 (FnS.after rel r1 s1 (show FnS K w G H σ ρ (k ρ') Z from h))
    | bk => exact h
    | rt d => exact h
    | rl ds => exact h
theorem FnS.notNo {K : PySem.W.Frag} {G H : Hp} {σ : L2.St} {ρ : En} {r : R Fl} {Z : Ends} (h : FnS K w G H σ ρ r Z) : isNo r = false := by
  cases r with
  | no => exact h.elim
  | _ => rfl
theorem vs_while {c : Expr} {body : List Stmt} {gc : En → R Bool} {gb : En → R Fl} (hp : PassesOwn (model X.prog X.w) X.A X.env X.xe) (hc : VT X w c gc) (hb : VSs X w body gb) : VS X w (.While c body [] pos) (dWhile gc gb) :=
  PS.imp (ps_while hp hc hb) fun Z σ H ⟨G, ρ, rel, h⟩ => by
    obtain ⟨n, hn⟩ := dWhile_no h.notNo
    rw [← hn] at h
    refine ⟨fun m σ H => ∃ G ρ, Rel X.K G H σ ρ ∧ FnS X.K w G H σ ρ (whN gc gb m ρ) Z, ⟨n, G, ρ, rel, h⟩, ?_⟩
    rintro m σ H ⟨G, ρ, rel, h⟩
    cases m with
    | zero => exact h.elim
    | succ m =>
      rw [whN] at h
      refine ⟨G, ρ, rel, (FnS.bind rel h).imp fun G1 H1 ρ1 t ⟨r1, s1, h1⟩ => ?_⟩
      cases t with
      | false => exact iteF (FnS.nx (show FnS X.K w G1 H1 σ ρ1 (.ok .nx ρ1) Z from h1) r1 Stp.refl)
      | true =>
        refine iteT ⟨fun σ' H' => ∃ G ρ, Rel X.K G H' σ' ρ ∧ FnS X.K w G H' σ' ρ (whN gc gb m ρ) Z, fun σ' H' q => ⟨m, Nat.lt_succ_self m, q⟩, G1, ρ1, r1, ?_⟩
        exact FnS.loop r1 h1 fun G2 H2 σ2 ρ2 r2 s2 h2 => ⟨G2, ρ2, r2, h2⟩
end

/-! ### for -/
structure ItS (K : PySem.W.Frag) (G0 : Hp) (J : It) (ds : List D) : Prop where
  go : ∀ i H, i < ds.length → Same G0 H → J.go i H
  stop : ∀ H, Same G0 H → J.stop ds.length H
  yld : ∀ (i : Nat) (H : Hp) (x : V) (H' : Hp) (d : D), ds[i]? = some d → J.yld i H x H' → ∀ G σ ρ, Same G0 G → Rel K G H σ ρ → ∃ G', Rel K G' H' σ ρ ∧ Stp G H σ ρ G' H' σ ρ ∧ DR K G' x d
abbrev VI (X : Cx) (w : Wh) (tg iter : Expr) (f : En → R (List D)) : Prop := PI X tg iter (fun σ H R => ∃ G ρ, Rel X.K G H σ ρ ∧ Fn X.K w G H σ ρ (f ρ) (fun G1 H1 _ ds => ∀ J, ItS X.K G1 J ds → R J H1))
def dForL (g : D → En → R Unit) (b : En → R Fl) : List D → En → R Fl
  | [], ρ => .ok .nx ρ
  | d :: ds, ρ => (g d ρ).bind fun _ ρ1 => (b ρ1).bind fun fl ρ2 => match fl with
    | .nx => dForL g b ds ρ2
    | .ct => dForL g b ds ρ2
    | .bk => .ok .nx ρ2
    | .rt d => .ok (.rt d) ρ2
    | .rl ds => .ok (.rl ds) ρ2
def dFor (f : En → R (List D)) (g : D → En → R Unit) (b : En → R Fl) : En → R Fl := fun ρ => (f ρ).bind fun ds ρ1 => dForL g b ds ρ1
section
variable {X : Cx} {w : Wh} {pos : Pos}
theorem PI.imp {tg e : Expr} {t t' : TI} (h : PI X tg e t) (i : ∀ σ H R, t' σ H R → t σ H R) : PI X tg e t' := ⟨fun pins s σ H R I q => h.run pins s σ H R I (i _ _ _ q)⟩
theorem vs_for {tg iter : Expr} {body : List Stmt} {fi : En → R (List D)} {g : D → En → R Unit} {gb : En → R Fl} (hp : PassesOwn (model X.prog X.w) X.A X.env X.xe) (hc : X.calm = true) (hi : VI X w tg iter fi) (hg : VG X tg g) (hx : NoX g) (hb : VSs X w body gb)
    (hs : ∀ x, foldedSetIterable iter X.env x = pure x := by intro _; rfl) : VS X w (.For tg iter body [] pos) (dFor fi g gb) :=
  PS.imp (ps_for hp hc hi hg hb hs) fun Z σ H ⟨G, ρ, rel, h⟩ => ⟨G, ρ, rel, (FnS.bind rel h).imp fun G1 H1 ρ1 ds ⟨r1, s1, h1⟩ J hJ => by
    refine ⟨fun i m σ H => m = ds.length - i ∧ i ≤ ds.length ∧ ∃ G ρ, Same G1 G ∧ Rel X.K G H σ ρ ∧ FnS X.K w G H σ ρ (dForL g gb (ds.drop i) ρ) Z, ⟨ds.length, rfl, Nat.zero_le _, G1, ρ1, Same.refl _, r1, by rw [List.drop_zero]; exact h1⟩, ?_⟩
    rintro i m σ H ⟨rfl, hi, G, ρ, sG, r, h⟩
    have sH : Same G1 H := sG.trans r.sub
    by_cases hlt : i < ds.length
    · obtain ⟨d, hd⟩ : ∃ d, ds[i]? = some d := ⟨ds[i], List.getElem?_eq_getElem hlt⟩
      have hdrop : ds.drop i = d :: ds.drop (i + 1) := by
        rw [List.drop_eq_getElem_cons hlt]
        rw [List.getElem?_eq_getElem hlt] at hd; cases hd; rfl
      rw [hdrop] at h
      refine .inr ⟨hJ.go i H hlt sH, fun σ' H' => ∃ G ρ, Same G1 G ∧ Rel X.K G H' σ' ρ ∧ FnS X.K w G H' σ' ρ (dForL g gb (ds.drop (i + 1)) ρ) Z, fun σ' H' q => ⟨_, by omega, rfl, hlt, q⟩, fun x H' hy => ?_⟩
      obtain ⟨G', r', s', hx'⟩ := hJ.yld i H x H' d hd hy G σ ρ sG r
      have h' := FnS.after r r' s' h
      refine ⟨G', ρ, d, r', hx', ?_⟩
      have h2 : FnS X.K w G' H' σ ρ ((g d ρ).bind fun _ ρ1 => (gb ρ1).bind fun fl ρ2 => match fl with | .nx => dForL g gb (ds.drop (i + 1)) ρ2 | .ct => dForL g gb (ds.drop (i + 1)) ρ2 | .bk => .ok .nx ρ2 | .rt d => .ok (.rt d) ρ2 | .rl ds => .ok (.rl ds) ρ2) Z := h'
      cases q : g d ρ with
      | no => rw [q] at h2; exact h2.elim
      | ex c ρ2 => exact absurd q (hx d ρ c ρ2)
      | ok u ρ2 =>
        rw [q] at h2
        intro G2 H2 σ2 r2 s2
        refine ⟨G2, ρ2, r2, FnS.loop r2 (FnS.after r' r2 s2 h2) fun G3 H3 σ3 ρ3 r3 s3 h3 => ⟨G3, ρ3, ((sG.trans s'.g).trans s2.g).trans s3.g, r3, h3⟩⟩
    · have e : i = ds.length := by omega
      subst e
      refine .inl ⟨hJ.stop H sH, ?_⟩
      rw [List.drop_length] at h
      exact FnS.nx (show FnS X.K w G H σ ρ (.ok .nx ρ) Z from h) r Stp.refl⟩
/-! what is walked -/
def iD (f : En → R D) : En → R (List D) := fun ρ => (f ρ).bind fun d ρ1 => match d with
  | .list ds => .ok ds ρ1
  | .tuple ds => .ok ds ρ1
  | .str s => .ok (s.cps.toList.map fun c => .str ⟨#[c]⟩) ρ1
  | _ => .no
theorem its_list {K : PySem.W.Frag} {G0 : Hp} {a : Addr} {vs : List V} {ds : List D} (h : SqL K G0 a vs) (hd : DRs K G0 vs ds) : ItS K G0 (Itl K a) ds where
  go := fun i H hi s => ⟨vs, vs[i]'(by rw [hd.length]; exact hi), s.seq h, List.getElem?_eq_getElem _⟩
  stop := fun H s => ⟨vs, s.seq h, by rw [hd.length]; exact Nat.le_refl _⟩
  yld := fun i H x H' d e y G σ ρ sG r => by
    obtain ⟨rfl, f⟩ := y
    obtain ⟨v, ev, hv⟩ := hd.get e
    have := f vs ((sG.trans r.sub).seq h)
    rw [ev] at this; cases this
    exact ⟨G, r, Stp.refl, hv.mono sG⟩
theorem its_tup {K : PySem.W.Frag} {G0 : Hp} {a : Addr} {vs : List V} {ds : List D} (h : SqT K G0 a vs) (hd : DRs K G0 vs ds) : ItS K G0 (Itt K a) ds where
  go := fun i H hi s => ⟨vs, vs[i]'(by rw [hd.length]; exact hi), Same.tup s h, List.getElem?_eq_getElem _⟩
  stop := fun H s => ⟨vs, Same.tup s h, by rw [hd.length]; exact Nat.le_refl _⟩
  yld := fun i H x H' d e y G σ ρ sG r => by
    obtain ⟨rfl, f⟩ := y
    obtain ⟨v, ev, hv⟩ := hd.get e
    have := f vs (Same.tup (sG.trans r.sub) h)
    rw [ev] at this; cases this
    exact ⟨G, r, Stp.refl, hv.mono sG⟩
def rngD (lo : Int) (n : Nat) : List D := (List.range n).map fun (i : Nat) => PyData.int (lo + (i : Int))
theorem its_range {K : PySem.W.Frag} {G0 : Hp} {lo : Int} {n : Nat} : ItS K G0 (Itr lo n) (rngD lo n) where
  go := fun i H hi s => by show i < n; simpa [rngD] using hi
  stop := fun H s => by show n ≤ _; simp [rngD]
  yld := fun i H x H' d e y G σ ρ sG r => by
    obtain ⟨rfl, rfl⟩ := y
    simp only [rngD, List.getElem?_map, Option.map_eq_some_iff] at e
    obtain ⟨j, ej, rfl⟩ := e
    have hi : i < n := by have := (List.getElem?_eq_some_iff.mp ej).1; simpa using this
    rw [List.getElem?_range hi] at ej
    cases ej; exact ⟨G, r, Stp.refl, .int _⟩
def rngC (lo c : Int) (n : Nat) : List D := (List.range n).map fun (i : Nat) => PyData.int (lo + (i : Int) * c)
theorem its_rangeC {K : PySem.W.Frag} {G0 : Hp} {lo c : Int} {n : Nat} : ItS K G0 (Itc lo c n) (rngC lo c n) where
  go := fun i H hi s => by show i < n; simpa [rngC] using hi
  stop := fun H s => by show n ≤ _; simp [rngC]
  yld := fun i H x H' d e y G σ ρ sG r => by
    obtain ⟨rfl, rfl⟩ := y
    simp only [rngC, List.getElem?_map, Option.map_eq_some_iff] at e
    obtain ⟨j, ej, rfl⟩ := e
    have hi : i < n := by have := (List.getElem?_eq_some_iff.mp ej).1; simpa using this
    rw [List.getElem?_range hi] at ej
    cases ej; exact ⟨G, r, Stp.refl, .int _⟩
def strD (s : Str) : List D := s.cps.toList.map fun c => PyData.str ⟨#[c]⟩
theorem its_str {K : PySem.W.Frag} {G0 : Hp} {s : Str} : ItS K G0 (Its s) (strD s) where
  go := fun i H hi _ => by show i < s.cps.size; simpa [strD] using hi
  stop := fun H _ => by show s.cps.size ≤ _; simp [strD]
  yld := fun i H x H' d e y G σ ρ sG r => by
    obtain ⟨rfl, c, ec, rfl⟩ := y
    simp only [strD, List.getElem?_map, Option.map_eq_some_iff] at e
    obtain ⟨c', ej, rfl⟩ := e
    rw [Array.getElem?_toList, ec] at ej
    cases ej; exact ⟨G, r, Stp.refl, .str _⟩
theorem vi_val {tg e : Expr} {f : En → R D} (he : VE X w e f) : VI X w tg e (iD f) := by
  refine ⟨fun pins s σ H Rr I q => ?_⟩
  obtain ⟨G, ρ, rel, h⟩ := q
  have h0 : Fn X.K w G H σ ρ ((f ρ).bind fun d ρ1 => match d with | .list ds => R.ok ds ρ1 | .tuple ds => .ok ds ρ1 | .str s => .ok (strD s) ρ1 | _ => .no) (fun G1 H1 _ ds => ∀ J, ItS X.K G1 J ds → Rr J H1) := h
  have via : ∀ {t : TI}, PI X tg e t → t σ H Rr → wpAny (model X.prog X.w) X.A (eval e X.env) (fun v s1 => wpAny (model X.prog X.w) X.A (pyIter v) (PIE X pins σ tg Rr) X.xe s1) X.xe s := fun h t => h.run pins s σ H Rr I t
  cases q : f ρ with
  | no => rw [q] at h0; exact h0.elim
  | ex c ρ1 =>
    refine via (pi_list he) ⟨G, ρ, rel, ?_⟩
    rw [q] at h0 ⊢
    exact h0
  | ok d ρ1 =>
    rw [q] at h0
    cases d with
    | list ds =>
      refine via (pi_list he) ⟨G, ρ, rel, ?_⟩
      rw [q]
      intro G1 H1 r1 s1 v hv
      cases hv with
      | lst hr hs => exact ⟨_, rfl, ⟨_, r1.sub.seq hr⟩, h0 G1 H1 r1 s1 _ (its_list hr hs)⟩
    | tuple ds =>
      refine via (pi_tup he) ⟨G, ρ, rel, ?_⟩
      rw [q]
      intro G1 H1 r1 s1 v hv
      cases hv with
      | tup hr hs => exact ⟨_, rfl, ⟨_, Same.tup r1.sub hr⟩, h0 G1 H1 r1 s1 _ (its_tup hr hs)⟩
    | str z =>
      refine via (pi_str he) ⟨G, ρ, rel, ?_⟩
      rw [q]
      intro G1 H1 r1 s1 v hv
      cases hv
      exact ⟨z, rfl, h0 G1 H1 r1 s1 _ its_str⟩
    | _ => exact h0.elim
def inR (j : Int) : Prop := -(2 ^ 62) ≤ j ∧ j < 2 ^ 62
noncomputable instance (j : Int) : Decidable (inR j) := Classical.propDecidable _
noncomputable def iRg1 (ga : En → R (List AV)) : En → R (List D) := fun ρ => (dAll ga ρ).bind fun ds ρ1 => match ds with
  | [.int j] => if inR j then .ok (rngD 0 j.toNat) ρ1 else .no
  | _ => .no
noncomputable def iRg2 (ga : En → R (List AV)) : En → R (List D) := fun ρ => (dAll ga ρ).bind fun ds ρ1 => match ds with
  | [.int i, .int j] => if inR i ∧ inR j then .ok (rngD i (j - i).toNat) ρ1 else .no
  | _ => .no
/-- how many -/
def rgN (i j c : Int) : Nat := (Builtin.Range.rangeSize i j c).toNat
def rgOk (i j c : Int) : Bool := decide (c ≠ 0 ∧ c.natAbs < 1073741824 ∧ 0 ≤ Builtin.Range.rangeSize i j c) && Builtin.Range.small i j c
def iRg3 (ga : En → R (List AV)) : En → R (List D) := fun ρ => (dAll ga ρ).bind fun ds ρ1 => match ds with
  | [.int i, .int j, .int c] => if rgOk i j c = true then .ok (rngC i c (rgN i j c)) ρ1 else .no
  | _ => .no
variable {tg : Expr} {p : Pos} {ga : En → R (List AV)}
theorem vi_range1 {a : Expr} (hg : Gl X "range") (hm : X.mg "range" = none) (ha : VA X w [a] ga) (hs : starEach [a] X.env = [(false, eval a X.env)] := by rfl) : VI X w tg (.Call (.Name "range" p) [a] [] pos) (iRg1 ga) :=
  PI.imp (pi_range1 hg hm ha hs) fun σ H R ⟨G, ρ, rel, h⟩ => ⟨G, ρ, rel, (Fn.all rel h).imp fun G1 H1 ρ1 as ⟨r1, s1, ds, e, h1⟩ vs hvs => by
    have hd := hvs.all e
    split at h1
    · rename_i j
      split at h1
      · rename_i hj
        cases hd with
        | cons h t =>
          cases h; cases t
          exact ⟨j, rfl, hj.1, hj.2, h1.ok r1 _ its_range⟩
      · exact h1.elim
    · exact h1.elim⟩
theorem vi_range2 {a b : Expr} (hg : Gl X "range") (hm : X.mg "range" = none) (ha : VA X w [a, b] ga) (hs : starEach [a, b] X.env = [(false, eval a X.env), (false, eval b X.env)] := by rfl) (hs2 : starEach [b] X.env = [(false, eval b X.env)] := by rfl) : VI X w tg (.Call (.Name "range" p) [a, b] [] pos) (iRg2 ga) :=
  PI.imp (pi_range2 hg hm ha hs hs2) fun σ H R ⟨G, ρ, rel, h⟩ => ⟨G, ρ, rel, (Fn.all rel h).imp fun G1 H1 ρ1 as ⟨r1, s1, ds, e, h1⟩ vs hvs => by
    have hd := hvs.all e
    split at h1
    · rename_i i j
      split at h1
      · rename_i hj
        cases hd with
        | cons h t =>
          cases t with
          | cons h' t =>
            cases h; cases h'; cases t
            exact ⟨i, j, rfl, ⟨hj.1.1, hj.1.2, hj.2.1, hj.2.2⟩, h1.ok r1 _ its_range⟩
      · exact h1.elim
    · exact h1.elim⟩
theorem vi_range3 {a b c : Expr} (hg : Gl X "range") (hm : X.mg "range" = none) (ha : VA X w [a, b, c] ga) (hs : starEach [a, b, c] X.env = (false, eval a X.env) :: starEach [b, c] X.env := by rfl) (hpl : (backTo pos (starEach [b, c] X.env)).any (·.1) = false := by rfl) : VI X w tg (.Call (.Name "range" p) [a, b, c] [] pos) (iRg3 ga) :=
  PI.imp (pi_range3 hg hm ha hs hpl) fun σ H R ⟨G, ρ, rel, h⟩ => ⟨G, ρ, rel, (Fn.all rel h).imp fun G1 H1 ρ1 as ⟨r1, s1, ds, e, h1⟩ vs hvs => by
    have hd := hvs.all e
    split at h1
    · rename_i i j k
      split at h1
      · rename_i hj
        simp only [rgOk, Bool.and_eq_true, decide_eq_true_eq] at hj
        cases hd with
        | cons h t =>
          cases t with
          | cons h' t =>
            cases t with
            | cons h'' t =>
              cases h; cases h'; cases h''; cases t
              exact ⟨i, j, k, rgN i j k, rfl, ⟨hj.1.1, hj.1.2.1, hj.2, (Int.toNat_of_nonneg hj.1.2.2).symm⟩, h1.ok r1 _ its_rangeC⟩
      · exact h1.elim
    · exact h1.elim⟩
end
end Dn
namespace Dn
open PySem PySem.Spec PyProof.Rows L2

/-! ### defs -/
def wh (ca : String → Option Value) (E : XK) : Wh := ⟨ca, fun cls d _ H => E cls d H⟩
theorem ExR.to {K : PySem.W.Frag} {w w' : Wh} {G H : Hp} {c : Exn} {cls : Value} {dx : Option Addr} (h : ExR K w G H c cls dx) (e : w.ca = w'.ca) : ExR K w' G H c cls dx := ⟨by rw [← e]; exact h.hc, h.hn, h.hs⟩
def FnC (K : PySem.W.Frag) (w : Wh) (G H : Hp) (vs : List V) (ls : En) (r : R L) (Q : VK) (E : XK) : Prop :=
  match r with
  | .no => False
  | .ok (.im d) ls' => ∀ G' H' v, Rel K G' H' (vs.map some) ls' → Stp G H (vs.map some) ls G' H' (vs.map some) ls' → DR K G' v d → Q v H'
  | .ok (.ow ds) ls' => ∀ G' H' p, Rel K G' H' (vs.map some) ls' → Stp G H (vs.map some) ls G' H' (vs.map some) ls' → G' p = none → ¬ Own H' (vs.map some) ls' p → (∃ us, H' p = some (.lst us) ∧ DRs K G' us ds) → H p = none → Q (.ref p) H'
  | .ok _ _ => False
  | .ex c ls' => ∀ G' H' cls dx, Rel K G' H' (vs.map some) ls' → Stp G H (vs.map some) ls G' H' (vs.map some) ls' → ExR K w G' H' c cls dx → E cls dx H'
def noOw (ls : En) : Prop := ∀ (i : Nat) (l : L), ls[i]? = some (some l) → l.own = false
def spD (K : PySem.W.Frag) (ca : String → Option Value) (n : Nat) (den : En → R L) : Sp := fun vs H Q E =>
  ∃ G ls, Rel K G H (vs.map some) ls ∧ noOw ls ∧ vs.length = n ∧ FnC K (wh ca E) G H vs ls (den ls) Q E
def backE : En → En → En
  | some (.bo _) :: ls, c :: ρ => c :: backE ls ρ
  | some (.bt _) :: ls, c :: ρ => c :: backE ls ρ
  | l :: ls, _ :: ρ => l :: backE ls ρ
  | ls, [] => ls
  | [], _ => []
def dDef (n : Nat) (b : En → R Fl) : En → R L := fun ls => match b (ls ++ List.replicate (n - ls.length) none) with
  | .ok .nx ρ => .ok (.im .none) (backE ls ρ)
  | .ok (.rt d) ρ => .ok (.im d) (backE ls ρ)
  | .ok (.rl ds) ρ => .ok (.ow ds) (backE ls ρ)
  | .ex c ρ => .ex c (backE ls ρ)
  | _ => .no
theorem backE_length : ∀ (ls ρ : En), (backE ls ρ).length = ls.length
  | [], ρ => by cases ρ <;> rfl
  | l :: ls, [] => by cases l with
    | none => rfl
    | some l => cases l <;> rfl
  | l :: ls, c :: ρ => by cases l with
    | none => simp [backE, backE_length ls ρ]
    | some l => cases l <;> simp [backE, backE_length ls ρ]
def L.lent : L → Bool
  | .bo _ => true
  | .bt _ => true
  | _ => false
theorem backE_bo : ∀ {ls ρ : En} {i : Nat} {l : L}, l.lent = true → ls.length ≤ ρ.length → ls[i]? = some (some l) → (backE ls ρ)[i]? = ρ[i]?
  | [], _, _, _, _, _, h => by simp at h
  | l :: ls, [], _, _, _, hl, _ => by simp at hl
  | l :: ls, c :: ρ, 0, l', hm, hl, h => by
    simp at h; subst h
    cases l' <;> first | rfl | cases hm
  | l :: ls, c :: ρ, i + 1, l', hm, hl, h => by
    have h' : ls[i]? = some (some l') := by simpa using h
    have ih := backE_bo (ρ := ρ) hm (by simpa using hl) h'
    cases l with
    | none => simpa [backE] using ih
    | some l => cases l <;> simpa [backE] using ih
theorem backE_no : ∀ {ls ρ : En} {i : Nat}, (∀ l, l.lent = true → ls[i]? ≠ some (some l)) → (backE ls ρ)[i]? = ls[i]?
  | [], ρ, i, _ => by cases ρ <;> rfl
  | l :: ls, [], i, _ => by cases l with
    | none => rfl
    | some l => cases l <;> rfl
  | l :: ls, c :: ρ, 0, h => by
    cases l with
    | none => rfl
    | some l => cases l with
      | bo ds => exact absurd rfl (h _ rfl)
      | bt t => exact absurd rfl (h _ rfl)
      | _ => rfl
  | l :: ls, c :: ρ, i + 1, h => by
    have h' : ∀ l, l.lent = true → ls[i]? ≠ some (some l) := fun l hl e => h l hl (by simpa using e)
    have ih := backE_no (ρ := ρ) h'
    cases l with
    | none => simpa [backE] using ih
    | some l => cases l <;> simpa [backE] using ih
section
variable {K : PySem.W.Frag} {w : Wh} {G H G' H' : Hp} {vs : List V} {ls ρ' : En} {σ' : L2.St} {n : Nat}
/-- slots that hold nothing yet -/
theorem Rel.more (r : Rel K G H (vs.map some) ls) : Rel K G H (vs.map some ++ List.replicate (n - vs.length) none) (ls ++ List.replicate (n - ls.length) none) ∧
    (∀ a, Own H (vs.map some ++ List.replicate (n - vs.length) none) (ls ++ List.replicate (n - ls.length) none) a → Own H (vs.map some) ls a) ∧
    (∀ a, Own H (vs.map some) ls a → Own H (vs.map some ++ List.replicate (n - vs.length) none) (ls ++ List.replicate (n - ls.length) none) a) := by
  have hl : vs.length = ls.length := by have := r.len; simpa using this
  have old : ∀ (i : Nat) (l : L), (ls ++ List.replicate (n - ls.length) none)[i]? = some (some l) → i < ls.length ∧ ls[i]? = some (some l) := fun i l e => by
    by_cases hi : i < ls.length
    · rw [List.getElem?_append_left hi] at e; exact ⟨hi, e⟩
    · rw [List.getElem?_append_right (by omega), List.getElem?_replicate] at e
      split at e <;> cases e
  have at_ : ∀ (i : Nat), i < ls.length → (vs.map some ++ List.replicate (n - vs.length) none)[i]? = (vs.map some)[i]? := fun i hi => List.getElem?_append_left (by simpa [hl] using hi)
  refine ⟨⟨r.sub, by simp [hl], fun i l e => ?_, fun i j l m v u a ei ej si sj fi fj => ?_⟩, fun a ⟨i, l, v, e, s, f⟩ => ?_, fun a ⟨i, l, v, e, s, f⟩ => ?_⟩
  · obtain ⟨hi, e'⟩ := old i l e
    obtain ⟨v, s, c⟩ := r.cell i l e'
    exact ⟨v, by rw [at_ i hi]; exact s, c⟩
  · obtain ⟨hi, ei'⟩ := old i l ei
    obtain ⟨hj, ej'⟩ := old j m ej
    rw [at_ i hi] at si; rw [at_ j hj] at sj
    exact r.apart i j l m v u a ei' ej' si sj fi fj
  · obtain ⟨hi, e'⟩ := old i l e
    rw [at_ i hi] at s
    exact ⟨i, l, v, e', s, f⟩
  · have hi : i < ls.length := (List.getElem?_eq_some_iff.mp e).1
    exact ⟨i, l, v, by rw [List.getElem?_append_left hi]; exact e, by rw [at_ i hi]; exact s, f⟩
/-- at a def's end -/
theorem Rel.back (r : Rel K G H (vs.map some) ls) (no : noOw ls) (r' : Rel K G' H' σ' ρ')
    (s : Stp G H (vs.map some ++ List.replicate (n - vs.length) none) (ls ++ List.replicate (n - ls.length) none) G' H' σ' ρ') :
    Rel K G' H' (vs.map some) (backE ls ρ') ∧ Stp G H (vs.map some) ls G' H' (vs.map some) (backE ls ρ') ∧ (∀ a, Own H' (vs.map some) (backE ls ρ') a → Own H' σ' ρ' a) := by
  have hl : vs.length = ls.length := by have := r.len; simpa using this
  obtain ⟨_, o1, o2⟩ := r.more (n := n)
  have hn : ls.length ≤ ρ'.length := by rw [s.ln, List.length_append]; exact Nat.le_add_right _ _
  have bo : ∀ (i : Nat) (l : L), l.lent = true → ls[i]? = some (some l) → σ'[i]? = (vs.map some)[i]? ∧ ∃ l', l'.lent = true ∧ ρ'[i]? = some (some l') ∧ (backE ls ρ')[i]? = some (some l') := fun i l hm e => by
    have hi : i < ls.length := (List.getElem?_eq_some_iff.mp e).1
    have hb := backE_bo hm hn e
    cases l with
    | bo ds =>
      obtain ⟨e1, ds', e2⟩ := s.bo i ds (by rw [List.getElem?_append_left hi]; exact e)
      rw [List.getElem?_append_left (by simpa [hl] using hi)] at e1
      exact ⟨e1, _, rfl, e2, hb.trans e2⟩
    | bt t =>
      obtain ⟨e1, t', e2, _⟩ := s.bt i t (by rw [List.getElem?_append_left hi]; exact e)
      rw [List.getElem?_append_left (by simpa [hl] using hi)] at e1
      exact ⟨e1, _, rfl, e2, hb.trans e2⟩
    | _ => cases hm
  have cases_ : ∀ (i : Nat) (l : L), (backE ls ρ')[i]? = some (some l) → (∃ d, l = .im d ∧ ls[i]? = some (some (.im d))) ∨ (ρ'[i]? = some (some l) ∧ σ'[i]? = (vs.map some)[i]? ∧ ∃ l0, l0.lent = true ∧ ls[i]? = some (some l0)) := fun i l e => by
    by_cases hb : ∃ l0, l0.lent = true ∧ ls[i]? = some (some l0)
    · obtain ⟨l0, hm, hb⟩ := hb
      obtain ⟨e1, l', _, e2, e3⟩ := bo i l0 hm hb
      rw [e3] at e; cases e
      exact .inr ⟨e2, e1, l0, hm, hb⟩
    · rw [backE_no fun l hm z => hb ⟨l, hm, z⟩] at e
      cases l with
      | im d => exact .inl ⟨d, rfl, e⟩
      | ow ds => cases no i _ e
      | ot t => cases no i _ e
      | xn _ _ _ => cases no i _ e
      | bo ds => exact absurd ⟨_, rfl, e⟩ hb
      | bt t => exact absurd ⟨_, rfl, e⟩ hb
  have own' : ∀ a, Own H' (vs.map some) (backE ls ρ') a → Own H' σ' ρ' a := fun a ⟨i, l, v, e, q, f⟩ => by
    rcases cases_ i l e with ⟨d, rfl, _⟩ | ⟨e2, e3, _⟩
    · exact f.elim
    · exact ⟨i, l, v, e2, e3.trans q, f⟩
  refine ⟨⟨r'.sub, by rw [backE_length]; exact r.len, fun i l e => ?_, fun i j l m v u a ei ej si sj fi fj => ?_⟩, ⟨s.g, fun a o e n' => s.h a o e fun z => n' (o1 a z), fun a e => ?_, fun a q => ?_, s.tr, backE_length _ _, fun i ds e => ⟨rfl, ?_⟩, fun i t e => ⟨rfl, ?_⟩⟩, own'⟩
  · rcases cases_ i l e with ⟨d, rfl, e1⟩ | ⟨e2, e3, _⟩
    · obtain ⟨v, q, c⟩ := r.cell i _ e1
      exact ⟨v, q, DR.mono s.g c⟩
    · obtain ⟨v, q, c⟩ := r'.cell i _ e2
      exact ⟨v, e3.symm.trans q, c⟩
  · rcases cases_ i l ei with ⟨d, rfl, _⟩ | ⟨e2, e3, _⟩
    · exact fi.elim
    · rcases cases_ j m ej with ⟨d, rfl, _⟩ | ⟨f2, f3, _⟩
      · exact fj.elim
      · exact r'.apart i j _ _ v u a e2 f2 (e3.trans si) (f3.trans sj) fi fj
  · rcases s.fr a e with z | z | z
    · exact .inl z
    · exact .inr (.inl z)
    · exact .inr (.inr (o1 a z))
  · rcases s.ow a (own' a q) with z | z
    · exact .inl (o1 a z)
    · exact .inr z
  · have hi : i < ls.length := (List.getElem?_eq_some_iff.mp e).1
    obtain ⟨_, ds', e2⟩ := s.bo i ds (by rw [List.getElem?_append_left hi]; exact e)
    exact ⟨ds', (backE_bo rfl hn e).trans e2⟩
  · have hi : i < ls.length := (List.getElem?_eq_some_iff.mp e).1
    obtain ⟨_, t', e2, f2⟩ := s.bt i t (by rw [List.getElem?_append_left hi]; exact e)
    exact ⟨t', (backE_bo rfl hn e).trans e2, fun v a q f => f2 v a (by rw [List.getElem?_append_left (by simpa [hl] using hi)]; exact q) f⟩
end
/-- what a body's derivation may lean on -/
structure Gd (X : Cx) (w : Wh) (k : Nat) : Prop where
  calm : X.calm = true
  tk : Takes X w.W
  po : PassesOwn (model X.prog X.w) X.A X.env X.xe
  hr : Room k X.A
theorem fn_den {P : Program} {wd : World} {K : PySem.W.Frag} {mg : Str → Option Value} {base : Heap} {ca : String → Option Value} {x qual : Str} {st : Stmt} {f : Addr} {fd : FuncData} {N ps : List Str} {k : Nat} {b : En → R Fl}
    (F : Fun K x qual st f fd) (S : FnScope N ps (defScope st))
    (hb : ∀ (cdv : Value) (A : Around) (outer : List Env) (s : Shared) (H : Hp) (E : XK), Gd (cxOf (L2.CX P wd) P wd K mg base N qual (defScope st) f cdv A outer s H E) (wh ca E) k →
      VSs (cxOf (L2.CX P wd) P wd K mg base N qual (defScope st) f cdv A outer s H E) (wh ca E) (defBody st) b) :
    FnOk P wd K mg base (L2.CX P wd) (k + 1) f fd ps (spD K ca ps.length (dDef N.length b)) := by
  have hpl : ps.length ≤ N.length := by have := congrArg List.length S.pre; rw [List.length_take] at this; omega
  refine F.okX S (fun vs H Q E h => ?_) (fun cdv A outer s H vs Q E hr h => ?_)
  · obtain ⟨_, _, _, _, e, _⟩ := h; exact e
  · obtain ⟨G, ls, rel, no, hl, h⟩ := h
    have hll : vs.length = ls.length := by have := rel.len; simpa using this
    refine ⟨_, hb cdv A outer s H E ⟨rfl, takes_of rfl rfl rfl rfl, passes_of rfl, hr⟩, ?_⟩
    obtain ⟨r0, o1, o2⟩ := rel.more (n := N.length)
    refine ⟨G, _, r0, ?_⟩
    unfold dDef at h
    show FnS K (wh ca E) G H (vs.map some ++ List.replicate (N.length - vs.length) none) (ls ++ List.replicate (N.length - ls.length) none) (b (ls ++ List.replicate (N.length - ls.length) none)) { nx := fun _ H' => Q .non H', rt := Q }
    cases q : b (ls ++ List.replicate (N.length - ls.length) none) with
    | no => rw [q] at h; exact h
    | ex c ρ' =>
      rw [q] at h
      intro G' H' σ' cls dx r' s' x'
      obtain ⟨r2, s2, _⟩ := rel.back no r' s'
      exact h G' H' cls dx r2 s2 x'
    | ok fl ρ' =>
      rw [q] at h
      cases fl with
      | nx =>
        intro G' H' σ' r' s'
        obtain ⟨r2, s2, _⟩ := rel.back no r' s'
        exact h G' H' .non r2 s2 .non
      | bk => exact h.elim
      | ct => exact h.elim
      | rt d =>
        intro G' H' σ' v r' s' hv
        obtain ⟨r2, s2, _⟩ := rel.back no r' s'
        exact h G' H' v r2 s2 hv
      | rl ds =>
        intro G' H' σ' p r' s' ho
        obtain ⟨r2, s2, o3⟩ := rel.back no r' s'
        refine h G' H' p r2 s2 ho.g (fun z => ho.own (o3 p z)) ho.here ?_
        rcases ho.new with z | ⟨i, l, v, e, lo, _⟩
        · exact z
        · by_cases hi : i < ls.length
          · rw [List.getElem?_append_left hi] at e
            have := no i l e
            rw [lo] at this; cases this
          · rw [List.getElem?_append_right (by omega), List.getElem?_replicate] at e
            split at e <;> cases e
end Dn
namespace Dn
open PySem PySem.Spec PyProof.Rows L2

/-! ### a call of a def -/
/-- as a callee sees a slot -/
def L.asLent : L → Option L
  | .im _ => none
  | .ow ds => some (.bo ds)
  | .bo ds => some (.bo ds)
  | .ot t => some (.bt t)
  | .bt t => some (.bt t)
  | .xn _ _ _ => none
/-- a slot after the call -/
def L.back : L → L → L
  | .ow _, .bo ds => .ow ds
  | .bo _, .bo ds => .bo ds
  | .ot _, .bt t => .ot t
  | .bt _, .bt t => .bt t
  | l, _ => l
@[simp] theorem asLent_xn (a : Addr) (dx : Option Addr) (c : Exn) : (L.xn a dx c).asLent = none := rfl
@[simp] theorem asLent_im (d : D) : (L.im d).asLent = none := rfl
@[simp] theorem asLent_ow (ds : List D) : (L.ow ds).asLent = some (.bo ds) := rfl
@[simp] theorem asLent_bo (ds : List D) : (L.bo ds).asLent = some (.bo ds) := rfl
@[simp] theorem asLent_ot (t : Tr) : (L.ot t).asLent = some (.bt t) := rfl
@[simp] theorem asLent_bt (t : Tr) : (L.bt t).asLent = some (.bt t) := rfl
@[simp] theorem back_ow (a ds : List D) : (L.ow a).back (.bo ds) = .ow ds := rfl
@[simp] theorem back_bo (a ds : List D) : (L.bo a).back (.bo ds) = .bo ds := rfl
@[simp] theorem back_ot (a t : Tr) : (L.ot a).back (.bt t) = .ot t := rfl
@[simp] theorem back_bt (a t : Tr) : (L.bt a).back (.bt t) = .bt t := rfl
def slotsOf : List AV → List Nat
  | [] => []
  | .im _ :: as => slotsOf as
  | .sl i :: as => i :: slotsOf as
def lendL (ρ : En) : List AV → Option En
  | [] => some []
  | .im d :: as => (lendL ρ as).map (some (.im d) :: ·)
  | .sl i :: as => match ρ[i]? with
    | some (some l) => match l.asLent with
      | some l' => (lendL ρ as).map (some l' :: ·)
      | none => none
    | _ => none
def lend (as : List AV) (ρ : En) : Option En := if (slotsOf as).Nodup then lendL ρ as else none
def giveB : List AV → En → En → En
  | .sl i :: as, some l1 :: ls, ρ => giveB as ls (match ρ[i]? with
    | some (some l) => ρ.set i (some (l.back l1))
    | _ => ρ)
  | _ :: as, _ :: ls, ρ => giveB as ls ρ
  | _, _, ρ => ρ
theorem giveB_length : ∀ (as : List AV) (ls ρ : En), (giveB as ls ρ).length = ρ.length
  | [], ls, ρ => by cases ls <;> rfl
  | .im d :: as, [], ρ => rfl
  | .sl i :: as, [], ρ => rfl
  | .im d :: as, c :: ls, ρ => by simp [giveB, giveB_length as ls ρ]
  | .sl i :: as, none :: ls, ρ => by simp [giveB, giveB_length as ls ρ]
  | .sl i :: as, some l1 :: ls, ρ => by
    simp only [giveB]
    rw [giveB_length as ls]
    split
    · rw [List.length_set]
    · rfl
theorem giveB_out : ∀ {as : List AV} {ls ρ : En} {j : Nat}, j ∉ slotsOf as → (giveB as ls ρ)[j]? = ρ[j]?
  | [], ls, ρ, j, _ => by cases ls <;> rfl
  | .im d :: as, [], ρ, j, _ => rfl
  | .sl i :: as, [], ρ, j, _ => rfl
  | .im d :: as, c :: ls, ρ, j, h => by simp only [giveB]; exact giveB_out (as := as) h
  | .sl i :: as, none :: ls, ρ, j, h => by simp only [giveB]; exact giveB_out (as := as) fun z => h (List.mem_cons_of_mem _ z)
  | .sl i :: as, some l1 :: ls, ρ, j, h => by
    have hj : j ≠ i := fun z => h (by rw [z]; exact List.mem_cons_self ..)
    simp only [giveB]
    rw [giveB_out (as := as) fun z => h (List.mem_cons_of_mem _ z)]
    split
    · rw [List.getElem?_set_ne (Ne.symm hj)]
    · rfl
theorem giveB_in : ∀ {as : List AV} {ls ρ : En} {k j : Nat} {l1 l : L}, (slotsOf as).Nodup → as[k]? = some (.sl j) → ls[k]? = some (some l1) → ρ[j]? = some (some l) → (giveB as ls ρ)[j]? = some (some (l.back l1))
  | [], _, _, k, _, _, _, _, h, _, _ => by simp at h
  | _ :: _, [], _, k, _, _, _, _, _, h, _ => by simp at h
  | .im d :: as, c :: ls, ρ, 0, j, ds, l, _, h, _, _ => by simp at h
  | .im d :: as, c :: ls, ρ, k + 1, j, ds, l, nd, h1, h2, h3 => by simp only [giveB]; exact giveB_in (as := as) (k := k) nd (by simpa using h1) (by simpa using h2) h3
  | .sl i :: as, c :: ls, ρ, 0, j, l1, l, nd, h1, h2, h3 => by
    have e1 : i = j := by simpa using h1
    have e2 : c = some l1 := by simpa using h2
    subst e1; subst e2
    have nd' := List.nodup_cons.mp nd
    simp only [giveB]
    rw [giveB_out (as := as) nd'.1, h3]
    exact set_same h3
  | .sl i :: as, c :: ls, ρ, k + 1, j, l1, l, nd, h1, h2, h3 => by
    have nd' := List.nodup_cons.mp nd
    have h1' : as[k]? = some (.sl j) := by simpa using h1
    have h2' : ls[k]? = some (some l1) := by simpa using h2
    have hmem : ∀ {as : List AV} {k : Nat}, as[k]? = some (AV.sl j) → j ∈ slotsOf as := by
      intro as
      induction as with
      | nil => intro k h; simp at h
      | cons a as ih =>
        intro k h
        cases k with
        | zero => simp at h; subst h; exact List.mem_cons_self ..
        | succ k =>
          have := ih (k := k) (by simpa using h)
          cases a with
          | im d => exact this
          | sl i => exact List.mem_cons_of_mem _ this
    have hj : i ≠ j := fun z => nd'.1 (z ▸ hmem h1')
    cases c with
    | none => simp only [giveB]; exact giveB_in (as := as) (k := k) nd'.2 h1' h2' h3
    | some c =>
      simp only [giveB]
      refine giveB_in (as := as) (k := k) nd'.2 h1' h2' ?_
      split
      · rw [List.getElem?_set_ne hj]; exact h3
      · exact h3
theorem slot_at : ∀ {as : List AV} {j : Nat}, j ∈ slotsOf as → ∃ k : Nat, as[k]? = some (AV.sl j)
  | .im d :: as, j, h => by
    obtain ⟨k, e⟩ := slot_at (as := as) h
    exact ⟨k + 1, by simpa using e⟩
  | .sl i :: as, j, h => by
    rcases List.mem_cons.mp h with rfl | h
    · exact ⟨0, rfl⟩
    · obtain ⟨k, e⟩ := slot_at (as := as) h
      exact ⟨k + 1, by simpa using e⟩
section
variable {K : PySem.W.Frag} {w : Wh} {G H G' H' : Hp} {σ : L2.St} {ρ ρ' : En}
theorem AVs.im_at : ∀ {vs : List V} {as : List AV} {k : Nat} {d : D}, AVs K G σ vs as → as[k]? = some (.im d) → ∃ v, vs[k]? = some v ∧ DR K G v d
  | _, _, 0, _, .im h _, e => by cases e; exact ⟨_, rfl, h⟩
  | _, _, 0, _, .sl _ _, e => by cases e
  | _, _, k + 1, _, .im _ t, e => by obtain ⟨v, h1, h2⟩ := AVs.im_at (k := k) t (by simpa using e); exact ⟨v, by simpa using h1, h2⟩
  | _, _, k + 1, _, .sl _ t, e => by obtain ⟨v, h1, h2⟩ := AVs.im_at (k := k) t (by simpa using e); exact ⟨v, by simpa using h1, h2⟩
theorem AVs.sl_at : ∀ {vs : List V} {as : List AV} {k j : Nat}, AVs K G σ vs as → as[k]? = some (.sl j) → ∃ v, vs[k]? = some v ∧ σ[j]? = some (some v)
  | _, _, 0, _, .sl h _, e => by cases e; exact ⟨_, rfl, h⟩
  | _, _, 0, _, .im _ _, e => by cases e
  | _, _, k + 1, _, .im _ t, e => by obtain ⟨v, h1, h2⟩ := AVs.sl_at (k := k) t (by simpa using e); exact ⟨v, by simpa using h1, h2⟩
  | _, _, k + 1, _, .sl _ t, e => by obtain ⟨v, h1, h2⟩ := AVs.sl_at (k := k) t (by simpa using e); exact ⟨v, by simpa using h1, h2⟩
theorem AVs.length : ∀ {vs : List V} {as : List AV}, AVs K G σ vs as → vs.length = as.length
  | _, _, .nil => rfl
  | _, _, .im _ t => by simp [AVs.length t]
  | _, _, .sl _ t => by simp [AVs.length t]
theorem lendL_length : ∀ {as : List AV} {ls : En}, lendL ρ as = some ls → ls.length = as.length
  | [], _, h => by cases h; rfl
  | .im d :: as, ls, h => by
    simp only [lendL, Option.map_eq_some_iff] at h
    obtain ⟨r, e, rfl⟩ := h
    simp [lendL_length e]
  | .sl i :: as, ls, h => by
    simp only [lendL] at h
    split at h
    · split at h
      · simp only [Option.map_eq_some_iff] at h
        obtain ⟨r, e, rfl⟩ := h
        simp [lendL_length e]
      · cases h
    · cases h
theorem lendL_at : ∀ {as : List AV} {ls : En} {k : Nat} {c : Option L}, lendL ρ as = some ls → ls[k]? = some c →
    (∃ d, c = some (.im d) ∧ as[k]? = some (.im d)) ∨ ∃ j l l', c = some l' ∧ as[k]? = some (.sl j) ∧ ρ[j]? = some (some l) ∧ l.asLent = some l'
  | [], _, k, c, h, e => by cases h; simp at e
  | .im d :: as, ls, k, c, h, e => by
    simp only [lendL, Option.map_eq_some_iff] at h
    obtain ⟨r, h, rfl⟩ := h
    cases k with
    | zero => simp at e; subst e; exact .inl ⟨d, rfl, rfl⟩
    | succ k => simpa using lendL_at (k := k) (c := c) h (by simpa using e)
  | .sl i :: as, ls, k, c, h, e => by
    simp only [lendL] at h
    split at h
    · rename_i l el
      split at h
      · rename_i l' m
        simp only [Option.map_eq_some_iff] at h
        obtain ⟨r, h, rfl⟩ := h
        cases k with
        | zero => simp at e; subst e; exact .inr ⟨i, l, l', rfl, rfl, el, m⟩
        | succ k => simpa using lendL_at (k := k) (c := c) h (by simpa using e)
      · cases h
    · cases h
theorem asLent_cell {l l' : L} {v : V} (e : l.asLent = some l') : (cellR K G H v l' ↔ cellR K G H v l) ∧ (∀ a, Fo H l' v a ↔ Fo H l v a) ∧ l'.own = false ∧ l'.lent = true := by
  cases l <;> simp at e <;> subst e <;> exact ⟨Iff.rfl, fun _ => Iff.rfl, rfl, rfl⟩
/-- two of a kind -/
def L.like : L → L → Bool
  | .bo _, .bo _ => true
  | .bt _, .bt _ => true
  | _, _ => false
theorem back_cell {l l' l1 : L} {v : V} (e : l.asLent = some l') (k : l'.like l1 = true) : (cellR K G H v (l.back l1) ↔ cellR K G H v l1) ∧ ∀ a, Fo H (l.back l1) v a ↔ Fo H l1 v a := by
  cases l <;> simp at e <;> subst e <;> cases l1 <;> first | (cases k; done) | exact ⟨Iff.rfl, fun _ => Iff.rfl⟩
theorem Stp.lent {i : Nat} {l' : L} (s : Stp G H σ ρ G' H' σ ρ') (hl : l'.lent = true) (e : ρ[i]? = some (some l')) : ∃ l1, l'.like l1 = true ∧ ρ'[i]? = some (some l1) ∧ ∀ v a, σ[i]? = some (some v) → Fo H l' v a → Fo H' l1 v a := by
  cases l' with
  | bo ds =>
    obtain ⟨_, ds', e'⟩ := s.bo i ds e
    exact ⟨_, rfl, e', fun v a _ f => f⟩
  | bt t =>
    obtain ⟨_, t', e', f'⟩ := s.bt i t e
    exact ⟨_, rfl, e', f'⟩
  | _ => cases hl
theorem nodup_sl : ∀ {as : List AV} {i k j : Nat}, (slotsOf as).Nodup → as[i]? = some (.sl j) → as[k]? = some (.sl j) → i = k
  | [], i, k, j, _, h, _ => by simp at h
  | a :: as, 0, 0, j, _, _, _ => rfl
  | a :: as, i + 1, k + 1, j, nd, h1, h2 => by
    have nd' : (slotsOf as).Nodup := by cases a with
      | im d => exact nd
      | sl i => exact (List.nodup_cons.mp nd).2
    exact congrArg (· + 1) (nodup_sl (as := as) nd' (by simpa using h1) (by simpa using h2))
  | a :: as, 0, k + 1, j, nd, h1, h2 => by
    simp at h1; subst h1
    exact absurd (mem_sl (as := as) (k := k) (by simpa using h2)) (List.nodup_cons.mp nd).1
  | a :: as, i + 1, 0, j, nd, h1, h2 => by
    simp at h2; subst h2
    exact absurd (mem_sl (as := as) (k := i) (by simpa using h1)) (List.nodup_cons.mp nd).1
where mem_sl : ∀ {as : List AV} {k j : Nat}, as[k]? = some (AV.sl j) → j ∈ slotsOf as
  | [], k, _, h => by simp at h
  | a :: as, 0, j, h => by simp at h; subst h; exact List.mem_cons_self ..
  | .im d :: as, k + 1, j, h => mem_sl (as := as) (k := k) (by simpa using h)
  | .sl i :: as, k + 1, j, h => List.mem_cons_of_mem _ (mem_sl (as := as) (k := k) (by simpa using h))
/-- the callee's view -/
theorem Rel.lent (r : Rel K G H σ ρ) {vs : List V} {as : List AV} {ls : En} (h : AVs K G σ vs as) (e : lend as ρ = some ls) :
    Rel K G H (vs.map some) ls ∧ noOw ls ∧ ∀ a, Own H (vs.map some) ls a → Own H σ ρ a := by
  unfold Dn.lend at e
  split at e
  · rename_i nd
    have own : ∀ a (k : Nat) (l : L) (v : V), ls[k]? = some (some l) → (vs.map some)[k]? = some (some v) → Fo H l v a → ∃ j l', as[k]? = some (.sl j) ∧ ρ[j]? = some (some l') ∧ σ[j]? = some (some v) ∧ Fo H l' v a := fun a k l v ek q f => by
      rcases lendL_at e ek with ⟨d, ed, _⟩ | ⟨j, l', l0, ed, e1, e2, e3⟩
      · cases ed; exact f.elim
      · cases ed
        obtain ⟨v', h1, h2⟩ := h.sl_at e1
        rw [List.getElem?_map, h1] at q
        cases q
        exact ⟨j, l', e1, e2, h2, ((asLent_cell (K := K) (G := G) e3).2.1 a).mp f⟩
    refine ⟨⟨r.sub, by simp [h.length, lendL_length e], fun k l ek => ?_, fun i k l m v u a ei ek si sk fi fk => ?_⟩, fun k l ek => ?_, fun a ⟨k, l, v, ek, q, f⟩ => ?_⟩
    · rcases lendL_at e ek with ⟨d, ed, e1⟩ | ⟨j, l', l0, ed, e1, e2, e3⟩
      · cases ed
        obtain ⟨v, h1, h2⟩ := h.im_at e1
        exact ⟨v, by rw [List.getElem?_map, h1]; rfl, h2⟩
      · cases ed
        obtain ⟨v, h1, h2⟩ := h.sl_at e1
        exact ⟨v, by rw [List.getElem?_map, h1]; rfl, (asLent_cell (H := H) e3).1.mpr (r.at_ e2 h2)⟩
    · obtain ⟨j1, l1, a1, b1, s1, f1⟩ := own a i l v ei si fi
      obtain ⟨j2, l2, a2, b2, s2, f2⟩ := own a k m u ek sk fk
      have := r.apart j1 j2 l1 l2 v u a b1 b2 s1 s2 f1 f2
      subst this
      exact nodup_sl nd a1 a2
    · rcases lendL_at e ek with ⟨d, ed, _⟩ | ⟨j, l', l0, ed, e1, e2, e3⟩
      · cases ed; rfl
      · cases ed; exact (asLent_cell (K := K) (G := G) (H := H) (v := V.non) e3).2.2.1
    · obtain ⟨j1, l1, a1, b1, s1, f1⟩ := own a k l v ek q f
      exact ⟨j1, l1, v, b1, s1, f1⟩
  · cases e
theorem Rel.give (r : Rel K G H σ ρ) {vs : List V} {as : List AV} {ls ls' : En} (h : AVs K G σ vs as) (e : lend as ρ = some ls) (r' : Rel K G' H' (vs.map some) ls') (s : Stp G H (vs.map some) ls G' H' (vs.map some) ls') :
    Rel K G' H' σ (giveB as ls' ρ) ∧ Stp G H σ ρ G' H' σ (giveB as ls' ρ) ∧ ∀ a, Own H' σ (giveB as ls' ρ) a → Own H σ ρ a ∨ Own H' (vs.map some) ls' a := by
  obtain ⟨r0, no, own⟩ := r.lent h e
  have nd : (slotsOf as).Nodup := by
    unfold Dn.lend at e
    split at e
    · assumption
    · cases e
  have e0 : lendL ρ as = some ls := by unfold Dn.lend at e; rw [if_pos nd] at e; exact e
  -- at a slot lent
  have lent : ∀ (j : Nat), j ∈ slotsOf as → ∃ (k : Nat) (l0 l' l1 : L) (v : V), as[k]? = some (.sl j) ∧ ρ[j]? = some (some l0) ∧ l0.asLent = some l' ∧ l'.like l1 = true ∧ ls'[k]? = some (some l1) ∧ σ[j]? = some (some v) ∧ (vs.map some)[k]? = some (some v) ∧
      (giveB as ls' ρ)[j]? = some (some (l0.back l1)) ∧ ∀ a, Fo H l0 v a → Fo H' l1 v a := fun j hj => by
    obtain ⟨k, ek⟩ := slot_at hj
    have hk : k < ls.length := by rw [lendL_length e0]; exact (List.getElem?_eq_some_iff.mp ek).1
    rcases lendL_at e0 (List.getElem?_eq_getElem hk) with ⟨d, _, e1⟩ | ⟨j', l0, l', ec, e1, e2, e3⟩
    · rw [ek] at e1; cases e1
    · rw [ek] at e1; cases e1
      obtain ⟨v, h1, h2⟩ := h.sl_at ek
      have hv : (vs.map some)[k]? = some (some v) := by rw [List.getElem?_map, h1]; rfl
      obtain ⟨l1, lk, e4, fo⟩ := s.lent (asLent_cell (K := K) (G := G) (H := H) (v := V.non) e3).2.2.2 (show ls[k]? = some (some l') by rw [List.getElem?_eq_getElem hk, ec])
      exact ⟨k, l0, l', l1, v, ek, e2, e3, lk, e4, h2, hv, giveB_in nd ek e4 e2, fun a f => fo v a hv (((asLent_cell (K := K) (G := G) e3).2.1 a).mpr f)⟩
  -- what stands at a place behind
  have look : ∀ (j : Nat) (l : L) (v : V), (giveB as ls' ρ)[j]? = some (some l) → σ[j]? = some (some v) → (j ∉ slotsOf as ∧ ρ[j]? = some (some l)) ∨ ∃ (k : Nat) (l1 : L), as[k]? = some (.sl j) ∧ ls'[k]? = some (some l1) ∧ (vs.map some)[k]? = some (some v) ∧ (cellR K G' H' v l ↔ cellR K G' H' v l1) ∧ ∀ a, Fo H' l v a ↔ Fo H' l1 v a := fun j l v ej sj => by
    by_cases hj : j ∈ slotsOf as
    · obtain ⟨k, l0, l', l1, v', ek, e2, e3, lk, e4, s1, s2, e5, _⟩ := lent j hj
      rw [e5] at ej; cases ej
      rw [s1] at sj; cases sj
      have := back_cell (K := K) (G := G') (H := H') (v := v) e3 lk
      exact .inr ⟨k, l1, ek, e4, s2, this.1, this.2⟩
    · rw [giveB_out hj] at ej; exact .inl ⟨hj, ej⟩
  -- what no callee had stays
  have away : ∀ (j : Nat) (l : L) (v : V) (a : Addr), j ∉ slotsOf as → ρ[j]? = some (some l) → σ[j]? = some (some v) → Fo H l v a → ¬ Own H (vs.map some) ls a := fun j l v a hj ej sj f ⟨k, l2, v2, ek2, q2, f2⟩ => by
    rcases lendL_at e0 ek2 with ⟨d, ed, _⟩ | ⟨j', l', l0, ed, g1, g2, g3⟩
    · cases ed; exact f2.elim
    · cases ed
      obtain ⟨v', h1, h2⟩ := h.sl_at g1
      rw [List.getElem?_map, h1] at q2; cases q2
      have := r.apart j j' l l' v _ a ej g2 sj h2 f (((asLent_cell (K := K) (G := G) g3).2.1 a).mp f2)
      subst this
      exact hj (nodup_sl.mem_sl g1)
  have same : ∀ (j : Nat) (l : L) (v : V), j ∉ slotsOf as → ρ[j]? = some (some l) → σ[j]? = some (some v) → ∀ a, Fo H l v a → H' a = H a := fun j l v hj ej sj a f => by
    obtain ⟨_, us, q⟩ := Fo.some (r.at_ ej sj) f
    rw [q]; exact s.h a _ q (away j l v a hj ej sj f)
  have none_ : ∀ (j : Nat) (l : L) (v : V), j ∉ slotsOf as → ρ[j]? = some (some l) → σ[j]? = some (some v) → ∀ a, Fo H l v a → G' a = none := fun j l v hj ej sj a f => by
    obtain ⟨g, us, q⟩ := Fo.some (r.at_ ej sj) f
    cases z : G' a with
    | none => rfl
    | some u =>
      rcases s.fr a (by rw [z]; exact fun z => nomatch z) with y | y | y
      · exact absurd g y
      · rw [q] at y; cases y
      · exact absurd y (away j l v a hj ej sj f)
  have ownb : ∀ a, Own H' σ (giveB as ls' ρ) a → Own H σ ρ a ∨ Own H' (vs.map some) ls' a := fun a ⟨j, l, v, ej, sj, f⟩ => by
    rcases look j l v ej sj with ⟨hj, e1⟩ | ⟨k, l1, ek, e4, s2, _, f2⟩
    · exact .inl ⟨j, l, v, e1, sj, f.from (same j l v hj e1 sj)⟩
    · exact .inr ⟨k, l1, v, e4, s2, (f2 a).mp f⟩
  have ownc : ∀ a, Own H' σ (giveB as ls' ρ) a → Own H σ ρ a ∨ H a = none := fun a z => by
    rcases ownb a z with z | z
    · exact .inl z
    · rcases s.ow a z with z | z
      · exact .inl (own a z)
      · exact .inr z
  have mix : ∀ (i j k : Nat) (l l1 : L) (v u : V) (a : Addr), i ∉ slotsOf as → ρ[i]? = some (some l) → σ[i]? = some (some v) → Fo H' l v a → ls'[k]? = some (some l1) → (vs.map some)[k]? = some (some u) → ¬ Fo H' l1 u a := fun i j k l l1 v u a hi ei si fi ek sk fk => by
    have fi' := fi.from (same i l v hi ei si)
    rcases s.ow a ⟨k, l1, u, ek, sk, fk⟩ with z | z
    · exact away i l v a hi ei si fi' z
    · obtain ⟨_, us, q⟩ := Fo.some (r.at_ ei si) fi'
      rw [z] at q; cases q
  refine ⟨⟨r'.sub, by rw [giveB_length]; exact r.len, fun j l ej => ?_, fun i j l m v u a ei ej si sj fi fj => ?_⟩, ⟨s.g, fun a o q n => s.h a o q fun z => n (own a z), fun a q => ?_, ownc, s.tr, giveB_length _ _ _, fun j ds ej => ⟨rfl, ?_⟩, fun j t ej => ⟨rfl, ?_⟩⟩, ownb⟩
  · by_cases hj : j ∈ slotsOf as
    · obtain ⟨k, l0, l', l1, v, ek, e2, e3, lk, e4, s1, s2, e5, _⟩ := lent j hj
      rw [e5] at ej; cases ej
      exact ⟨v, s1, (back_cell e3 lk).1.mpr (r'.at_ e4 s2)⟩
    · rw [giveB_out hj] at ej
      obtain ⟨v, q, c⟩ := r.cell j l ej
      exact ⟨v, q, cell_keep c s.g (none_ j l v hj ej q) (same j l v hj ej q)⟩
  · rcases look i l v ei si with ⟨hi, e1⟩ | ⟨k, l1, ek, e4, s2, _, f2⟩
    · rcases look j m u ej sj with ⟨hj, g1⟩ | ⟨k', m1, gk, g4, t2, _, h2⟩
      · exact r.apart i j l m v u a e1 g1 si sj (fi.from (same i l v hi e1 si)) (fj.from (same j m u hj g1 sj))
      · exact absurd ((h2 a).mp fj) (mix i j k' l m1 v u a hi e1 si fi g4 t2)
    · rcases look j m u ej sj with ⟨hj, g1⟩ | ⟨k', m1, gk, g4, t2, _, h2⟩
      · exact absurd ((f2 a).mp fi) (mix j i k m l1 u v a hj g1 sj fj e4 s2)
      · have := r'.apart k k' l1 m1 v u a e4 g4 s2 t2 ((f2 a).mp fi) ((h2 a).mp fj)
        subst this
        rw [ek] at gk; cases gk; rfl
  · rcases s.fr a q with z | z | z
    · exact .inl z
    · exact .inr (.inl z)
    · exact .inr (.inr (own a z))
  · by_cases hj : j ∈ slotsOf as
    · obtain ⟨k, l0, l', l1, v, ek, e2, e3, lk, e4, s1, s2, e5, _⟩ := lent j hj
      rw [ej] at e2; cases e2
      cases e3
      cases l1 <;> first | (cases lk; done) | exact ⟨_, e5⟩
    · exact ⟨ds, by rw [giveB_out hj]; exact ej⟩
  · by_cases hj : j ∈ slotsOf as
    · obtain ⟨k, l0, l', l1, v, ek, e2, e3, lk, e4, s1, s2, e5, f5⟩ := lent j hj
      rw [ej] at e2; cases e2
      cases e3
      cases l1 <;> first | (cases lk; done) | exact ⟨_, e5, fun v' a q f => by rw [s1] at q; cases q; exact f5 a f⟩
    · exact ⟨t, by rw [giveB_out hj]; exact ej, fun v a q f => Foot.to f (fun b y => same j _ v hj ej q b y)⟩
end
/-- the callee's result in the caller: a datum -/
def dFn (n : Nat) (den : En → R L) (ga : En → R (List AV)) : En → R D := fun ρ => (ga ρ).bind fun as ρ1 => if as.length = n then match lend as ρ1 with
  | none => .no
  | some ls => match den ls with
    | .ok (.im d) ls' => .ok d (giveB as ls' ρ1)
    | .ok (.ow ds) ls' => .ok (.list ds) (giveB as ls' ρ1)
    | .ok _ _ => .no
    | .ex c ls' => .ex c (giveB as ls' ρ1)
    | .no => .no
  else .no
/-- a new list -/
def nFn (n : Nat) (den : En → R L) (ga : En → R (List AV)) : En → R (List D) := fun ρ => (ga ρ).bind fun as ρ1 => if as.length = n then match lend as ρ1 with
  | none => .no
  | some ls => match den ls with
    | .ok (.ow ds) ls' => .ok ds (giveB as ls' ρ1)
    | .ex c ls' => .ex c (giveB as ls' ρ1)
    | _ => .no
  else .no
section
variable {K : PySem.W.Frag} {G H : Hp} {σ : L2.St} {ρ : En}
/-- a new mutable list becomes immutable -/
theorem Rel.settle (r : Rel K G H σ ρ) {p : Addr} {us : List V} {ds : List D} (hg : G p = none) (ho : ¬ Own H σ ρ p) (hp : H p = some (.lst us)) (hd : DRs K G us ds) :
    Rel K (upd G p (.lst us)) H σ ρ ∧ Same G (upd G p (.lst us)) ∧ DR K (upd G p (.lst us)) (.ref p) (.list ds) ∧ ∀ a, upd G p (.lst us) a ≠ none → G a ≠ none ∨ a = p := by
  have sg : Same G (upd G p (.lst us)) := fun b x e => by rw [upd_ne (ne_of_none e hg)]; exact e
  refine ⟨(r.keep (G' := upd G p (.lst us)) (H' := H) sg (fun b x e => ?_) (fun a h => ?_) (fun _ _ => rfl)).1, sg, .lst (.inl (.inl upd_same)) (hd.mono sg), fun a h => ?_⟩
  · by_cases hb : b = p
    · subst hb; rw [upd_same] at e; cases e; exact hp
    · rw [upd_ne hb] at e; exact r.sub b x e
  · have : a ≠ p := fun z => by subst z; exact ho h
    rw [upd_ne this]; exact (r.own h).1
  · by_cases ha : a = p
    · exact .inr ha
    · rw [upd_ne ha] at h; exact .inl h
end
section
variable {X : Cx} {w : Wh} {k n : Nat} {f : Addr} {fd : FuncData} {ps : List Str} {den : En → R L} {ca : String → Option Value} {x : Str} {p pos : Pos} {e : Expr} {es : List Expr} {ga : En → R (List AV)}
theorem call_ok (hca : w.ca = ca) {σ : L2.St} {H : Hp} {Q : VK} {G : Hp} {ρ : En} {vs : List V} {as : List AV} {ls : En} (r : Rel X.K G H σ ρ) (hvs : AVs X.K G σ vs as) (hl : as.length = n) (e : lend as ρ = some ls)
    (h1 : ∀ d ls', den ls = .ok (.im d) ls' → ∀ G' H', Rel X.K G' H' σ (giveB as ls' ρ) → Stp G H σ ρ G' H' σ (giveB as ls' ρ) → ∀ v, DR X.K G' v d → Q v H')
    (h2 : ∀ ds ls', den ls = .ok (.ow ds) ls' → ∀ G' H', Rel X.K G' H' σ (giveB as ls' ρ) → Stp G H σ ρ G' H' σ (giveB as ls' ρ) → ∀ p, G' p = none → ¬ Own H' σ (giveB as ls' ρ) p → (∃ us, H' p = some (.lst us) ∧ DRs X.K G' us ds) → H p = none → Q (.ref p) H')
    (h3 : ∀ c ls', den ls = .ex c ls' → ∀ G' H' cls dx, Rel X.K G' H' σ (giveB as ls' ρ) → Stp G H σ ρ G' H' σ (giveB as ls' ρ) → ExR X.K w G' H' c cls dx → w.W cls dx σ H')
    (h4 : den ls ≠ .no) (h5 : ∀ l ls', den ls = .ok l ls' → (∃ d, l = .im d) ∨ ∃ ds, l = .ow ds) : spD X.K ca n den vs H Q (WE w.W σ) := by
  obtain ⟨r0, no, own⟩ := r.lent hvs e
  refine ⟨G, ls, r0, no, hvs.length.trans hl, ?_⟩
  cases q : den ls with
  | no => exact absurd q h4
  | ex c ls' =>
    intro G' H' cls dx r' s' x'
    obtain ⟨r2, s2, ob⟩ := r.give hvs e r' s'
    exact h3 c ls' q G' H' cls dx r2 s2 (x'.to hca.symm)
  | ok l ls' =>
    cases l with
    | bo ds => rcases h5 _ _ q with ⟨_, e⟩ | ⟨_, e⟩ <;> cases e
    | ot t => rcases h5 _ _ q with ⟨_, e⟩ | ⟨_, e⟩ <;> cases e
    | bt t => rcases h5 _ _ q with ⟨_, e⟩ | ⟨_, e⟩ <;> cases e
    | xn _ _ _ => rcases h5 _ _ q with ⟨_, e⟩ | ⟨_, e⟩ <;> cases e
    | im d =>
      intro G' H' v r' s' hv
      obtain ⟨r2, s2, ob⟩ := r.give hvs e r' s'
      exact h1 d ls' q G' H' r2 s2 v hv
    | ow ds =>
      intro G' H' p r' s' hg ho hu hn
      obtain ⟨r2, s2, ob⟩ := r.give hvs e r' s'
      refine h2 ds ls' q G' H' r2 s2 p hg (fun z => ?_) hu hn
      rcases ob p z with y | y
      · obtain ⟨_, us, y'⟩ := r.own y
        rw [hn] at y'; cases y'
      · exact ho y
theorem ve_call (F : FnOk X.prog X.w X.K X.mg X.base (L2.CX X.prog X.w) k f fd ps (spD X.K ca n den)) (hr : Room k X.A) (tk : Takes X w.W) (hca : w.ca = ca) (hg : Gl X x) (hm : X.mg x = some (.ref f)) (hk : PySem.W.keepIn X.K (.ref f) = true) (hb : Binds X.K fd ps [])
    (ha : VA X w (e :: es) ga) (hdb : (x == ("__debug__" : Str)) = false := by decide) (he : starEach (e :: es) X.env = (false, eval e X.env) :: starEach es X.env := by rfl) (hpl : (backTo pos (starEach es X.env)).any (·.1) = false := by rfl) :
    VE X w (.Call (.Name x p) (e :: es) [] pos) (dFn n den ga) :=
  PE.imp (pe_callS F hr hg hm hk hb (passAt tk) ha hdb he hpl) fun σ H Q ⟨G, ρ, rel, h⟩ => ⟨G, ρ, rel, (Fn.bind rel h).imp fun G1 H1 ρ1 as ⟨r1, s1, h1⟩ vs hvs => by
    split at h1
    · rename_i hl
      cases q : lend as ρ1 with
      | none => rw [q] at h1; exact h1.elim
      | some ls =>
        rw [q] at h1
        have h1' : Fn X.K w G1 H1 σ ρ1 (match den ls with | .ok (.im d) ls' => R.ok d (giveB as ls' ρ1) | .ok (.ow ds) ls' => .ok (.list ds) (giveB as ls' ρ1) | .ok _ _ => .no | .ex c ls' => .ex c (giveB as ls' ρ1) | .no => .no) (QD X.K Q) := h1
        refine call_ok hca r1 hvs hl q (fun d ls' e => ?_) (fun ds ls' e => ?_) (fun c ls' e => ?_) (fun e => ?_) (fun l ls' e => ?_)
        · rw [e] at h1'; exact fun G' H' r' s' v hv => h1' G' H' r' s' v hv
        · rw [e] at h1'
          intro G' H' r' s' p hg ho ⟨us, hp, hd⟩ hn
          obtain ⟨r2, sg, hdr, hfr⟩ := r'.settle hg ho hp hd
          refine h1' _ H' r2 ⟨s'.g.trans sg, s'.h, fun a z => ?_, s'.ow, s'.tr, s'.ln, s'.bo, s'.bt⟩ _ hdr
          rcases hfr a z with y | rfl
          · exact s'.fr a y
          · exact .inr (.inl hn)
        · rw [e] at h1'; exact fun G' H' cls dx r' s' x' => h1' G' H' cls dx r' s' x'
        · rw [e] at h1'; exact h1'
        · rw [e] at h1'
          cases l <;> first | exact .inl ⟨_, rfl⟩ | exact .inr ⟨_, rfl⟩ | exact h1'.elim
    · exact h1.elim⟩
theorem vn_call (F : FnOk X.prog X.w X.K X.mg X.base (L2.CX X.prog X.w) k f fd ps (spD X.K ca n den)) (hr : Room k X.A) (tk : Takes X w.W) (hca : w.ca = ca) (hg : Gl X x) (hm : X.mg x = some (.ref f)) (hk : PySem.W.keepIn X.K (.ref f) = true) (hb : Binds X.K fd ps [])
    (ha : VA X w (e :: es) ga) (hdb : (x == ("__debug__" : Str)) = false := by decide) (he : starEach (e :: es) X.env = (false, eval e X.env) :: starEach es X.env := by rfl) (hpl : (backTo pos (starEach es X.env)).any (·.1) = false := by rfl) :
    VN X w (.Call (.Name x p) (e :: es) [] pos) (nFn n den ga) :=
  PE.imp (pe_callS F hr hg hm hk hb (passAt tk) ha hdb he hpl) fun σ H Q ⟨G, ρ, rel, h⟩ => ⟨G, ρ, rel, (Fn.bind rel h).imp fun G1 H1 ρ1 as ⟨r1, s1, h1⟩ vs hvs => by
    split at h1
    · rename_i hl
      cases q : lend as ρ1 with
      | none => rw [q] at h1; exact h1.elim
      | some ls =>
        rw [q] at h1
        have h1' : Fn X.K w G1 H1 σ ρ1 (match den ls with | .ok (.ow ds) ls' => R.ok ds (giveB as ls' ρ1) | .ex c ls' => .ex c (giveB as ls' ρ1) | _ => .no) (QN X.K H σ Q) := h1
        refine call_ok hca r1 hvs hl q (fun d ls' e => ?_) (fun ds ls' e => ?_) (fun c ls' e => ?_) (fun e => ?_) (fun l ls' e => ?_)
        · rw [e] at h1'; exact h1'.elim
        · rw [e] at h1'
          intro G' H' r' s' p hg ho hu hn
          refine h1' _ H' r' s' p ⟨hg, ho, hu, ?_⟩
          cases z : H p with
          | none => rfl
          | some o => exact absurd hn (s1.tr p (by rw [z]; exact fun z => nomatch z))
        · rw [e] at h1'; exact fun G' H' cls dx r' s' x' => h1' G' H' cls dx r' s' x'
        · rw [e] at h1'; exact h1'
        · rw [e] at h1'
          cases l <;> first | exact .inl ⟨_, rfl⟩ | exact .inr ⟨_, rfl⟩ | exact h1'.elim
    · exact h1.elim⟩
end
end Dn
namespace Dn
open PySem PySem.Spec PyProof.Rows L2

/-! ### constants -/
section
variable {X : Cx} {w : Wh}
theorem ve_bl {b : Bool} {j : Nat} {pos : Pos} : VE X w (.Constant (.bool b) j pos) (dC (.bool b)) := PE.imp pe_bl fun _ _ _ ⟨_, _, r, h⟩ => h.ok r _ (.bl b)
theorem ve_non {j : Nat} {pos : Pos} : VE X w (.Constant .none j pos) (dC .none) := PE.imp pe_non fun _ _ _ ⟨_, _, r, h⟩ => h.ok r _ .non
theorem ve_str {x : Str} {j : Nat} {pos : Pos} : VE X w (.Constant (.str x) j pos) (dC (.str x)) := PE.imp pe_str fun _ _ _ ⟨_, _, r, h⟩ => h.ok r _ (.str x)
theorem ve_glS {x : Str} {z : Str} {pos : Pos} (hg : Gl X x) (hm : ∃ t, X.mg x = some (.str z t)) (hd : (x == ("__debug__" : Str)) = false := by decide) : VE X w (.Name x pos) (dC (.str z)) := by
  obtain ⟨t, hm⟩ := hm
  exact PE.imp (pe_glob (v := .str z) hg hm ⟨_, rfl⟩ hd) fun _ _ _ ⟨_, _, r, h⟩ => h.ok r _ (.str z)
theorem ve_glI {x : Str} {z : Int} {pos : Pos} (hg : Gl X x) (hm : ∃ t, X.mg x = some (.int z t)) (hd : (x == ("__debug__" : Str)) = false := by decide) : VE X w (.Name x pos) (dC (.int z)) := by
  obtain ⟨t, hm⟩ := hm
  exact PE.imp (pe_glob (v := .int z) hg hm ⟨_, rfl⟩ hd) fun _ _ _ ⟨_, _, r, h⟩ => h.ok r _ (.int z)
/-- a constant table of the top -/
theorem ve_glO {x : Str} {a : Addr} {d : D} {pos : Pos} (hg : Gl X x) (hm : X.mg x = some (.ref a)) (hd' : ∀ G, DR X.K G (.ref a) d) (hd : (x == ("__debug__" : Str)) = false := by decide) : VE X w (.Name x pos) (dC d) :=
  PE.imp (pe_glob (v := .ref a) hg hm rfl hd) fun _ _ _ ⟨_, _, r, h⟩ => h.ok r _ (hd' _)
end
/-! ### defs by names -/
theorem fn_denD {P : Program} {wd : World} {K : PySem.W.Frag} {mg : Str → Option Value} {base : Heap} {ca : String → Option Value} {x qual : Str} {params : Arguments} {body : List Stmt} {scope : Scope} {dvs : List V} {kws : List (Str × V)} {f : Addr} {fd : FuncData} {N ps : List Str} {k : Nat} {b : En → R Fl}
    (F : FunD K x qual params body scope dvs kws f fd) (S : FnScope N ps scope)
    (hb : ∀ (cdv : Value) (A : Around) (outer : List Env) (s : Shared) (H : Hp) (E : XK), Gd (cxOf (L2.CX P wd) P wd K mg base N qual scope f cdv A outer s H E) (wh ca E) k →
      VSs (cxOf (L2.CX P wd) P wd K mg base N qual scope f cdv A outer s H E) (wh ca E) body b) :
    FnOk P wd K mg base (L2.CX P wd) (k + 1) f fd ps (spD K ca ps.length (dDef N.length b)) := by
  refine F.ok S (fun vs H Q E h => ?_) (fun cdv A outer s H vs Q E hr h => ?_)
  · obtain ⟨_, _, _, _, e, _⟩ := h; exact e
  · obtain ⟨G, ls, rel, no, hl, h⟩ := h
    refine ⟨_, hb cdv A outer s H E ⟨rfl, takes_of rfl rfl rfl rfl, passes_of rfl, hr⟩, ?_⟩
    obtain ⟨r0, o1, o2⟩ := rel.more (n := N.length)
    refine ⟨G, _, r0, ?_⟩
    unfold dDef at h
    show FnS K (wh ca E) G H (vs.map some ++ List.replicate (N.length - vs.length) none) (ls ++ List.replicate (N.length - ls.length) none) (b (ls ++ List.replicate (N.length - ls.length) none)) { nx := fun _ H' => Q .non H', rt := Q }
    cases q : b (ls ++ List.replicate (N.length - ls.length) none) with
    | no => rw [q] at h; exact h
    | ex c ρ' =>
      rw [q] at h
      intro G' H' σ' cls dx r' s' x'
      obtain ⟨r2, s2, _⟩ := rel.back no r' s'
      exact h G' H' cls dx r2 s2 x'
    | ok fl ρ' =>
      rw [q] at h
      cases fl with
      | nx =>
        intro G' H' σ' r' s'
        obtain ⟨r2, s2, _⟩ := rel.back no r' s'
        exact h G' H' .non r2 s2 .non
      | bk => exact h.elim
      | ct => exact h.elim
      | rt d =>
        intro G' H' σ' v r' s' hv
        obtain ⟨r2, s2, _⟩ := rel.back no r' s'
        exact h G' H' v r2 s2 hv
      | rl ds =>
        intro G' H' σ' p r' s' ho
        obtain ⟨r2, s2, o3⟩ := rel.back no r' s'
        refine h G' H' p r2 s2 ho.g (fun z => ho.own (o3 p z)) ho.here ?_
        rcases ho.new with z | ⟨i, l, v, e, lo, _⟩
        · exact z
        · by_cases hi : i < ls.length
          · rw [List.getElem?_append_left hi] at e
            have := no i l e
            rw [lo] at this; cases this
          · rw [List.getElem?_append_right (by omega), List.getElem?_replicate] at e
            split at e <;> cases e
/-- a class's value, by its name -/
def caK (bi : List String) (K : PySem.W.Frag) : String → Option Value := fun s => if bi.contains s = true then some (.type s) else some (.ref (He.ga K (Str.ofString s)))
/-! ### the end of a law's row -/
theorem walk_ofEB {l : PySem.W.OpenLaw} {n k : Nat} {q : Program} {loose : List Str} {XP : (Str → Option Value) → Heap → Prop} {YP : World → Heap → Prop} {d : DefRec} {CX : World → CXT} {x : Str}
    (hn : l.most = some n) (hn2 : n ≤ sizeLine) (hdf : d.params.defaults = []) (hr : Room k callerA)
    (F : ∀ (w : World) (mg : Str → Option Value) (fa : Addr) (h : Heap), YP w h → h.Ns mainGlobals mg → mg d.name = some (.ref fa) →
      ∃ (K : PySem.W.Frag) (fd : FuncData) (sp : Sp), K.In h ∧ (∀ (s : Shared) (u : Value), BindsTo s fd ⟨[u], []⟩ [(x, u)]) ∧
        (∀ (H : Hp) (a : Addr) (ns : List Int), ns.length ≤ n → (∀ z ∈ ns, Builtin.Int.intBits z ≤ 1048576) → SqL K H a (ns.map V.int) → sp [.ref a] H (fun v _ => v = .bl true) fun _ _ _ => False) ∧
        ∀ base : Heap, K.In base → base.Ns mainGlobals mg → FnOk l.prog w K mg base (CX w) k fa fd [x] sp)
    (hCX : ∀ (w : World) (H : Hp) (s : Shared) (e : Value) (s' : Shared), CX w [] H s (fun _ _ _ => False) e s' → False) :
    PySem.W.WalkO q loose XP YP l.row.toRowW d [] (fun f vs => PySem.call f vs) := by
  refine Att.attach_callB hn hdf fun w s₀ s₁ mg mb fa o pm cd doc a vs ns G Y ho hd hcd hmg hobj hints hlen hbits hg => ?_
  obtain ⟨K, fd, sp, KX, hb, hsp, hF⟩ := F w mg fa _ Y G.T.g hmg
  exact law_call KX G.T.g G.T.b G.T.builtins G.T.nolimit hg hobj hints (Nat.le_trans hlen hn2) hr hF hb (fun H hO hS => hsp H a ns hlen hbits hS) fun H e s' => hCX w H s₁ e s'
/-- a script's cell has few bits -/
theorem bits_lt {z : Int} (h : Builtin.Int.intBits z ≤ 1048576) : z.natAbs < 2 ^ 1048576 := by
  unfold Builtin.Int.intBits at h
  split at h
  · rename_i e
    have : z = 0 := by simpa using e
    subst this
    exact Nat.pow_pos (by decide)
  · rename_i e
    have hz : z.natAbs ≠ 0 := by intro q; apply e; simp [Int.natAbs_eq_zero.mp q]
    refine (Nat.log2_lt hz).mp ?_
    omega
def scriptD (ns : List Int) : D := .list (ns.map PyData.int)
/-- the law's def gives True: what the row asks -/
theorem law_sp {K : PySem.W.Frag} {ca : String → Option Value} {den : En → R L} {H : Hp} {a : Addr} {ns : List Int} (hS : SqL K H a (ns.map V.int)) {ls' : En} (h : den [some (.im (scriptD ns))] = .ok (.im (.bool true)) ls') :
    spD K ca 1 den [.ref a] H (fun v _ => v = .bl true) fun _ _ _ => False := by
  have hd : DR K H (.ref a) (scriptD ns) := .lst hS (DRs.ofInts ns)
  refine ⟨H, [some (.im (scriptD ns))], ⟨Same.refl _, rfl, fun i l e => ?_, fun i j l m v u b ei ej si sj fi fj => ?_⟩, fun i l e => ?_, rfl, ?_⟩
  · cases i with
    | zero => cases e; exact ⟨_, rfl, hd⟩
    | succ i => simp at e
  · cases i with
    | zero => cases ei; exact fi.elim
    | succ i => simp at ei
  · cases i with
    | zero => cases e; rfl
    | succ i => simp at e
  · rw [h]
    intro G' H' v r s hv
    cases hv
    rfl
end Dn
namespace Dn
open PySem PySem.Spec PyProof.Rows L2
theorem boot_ty_int : bootBuiltins "int" = some (.type "int") := by decide +kernel
theorem boot_ty_bool : bootBuiltins "bool" = some (.type "bool") := by decide +kernel
theorem boot_ty_str : bootBuiltins "str" = some (.type "str") := by decide +kernel
theorem boot_ty_list : bootBuiltins "list" = some (.type "list") := by decide +kernel
theorem boot_ty_tuple : bootBuiltins "tuple" = some (.type "tuple") := by decide +kernel
theorem boot_ty_dict : bootBuiltins "dict" = some (.type "dict") := by decide +kernel
theorem boot_B_abs : bootBuiltins "abs" = some (.builtin "abs") := by decide +kernel
theorem boot_B_max : bootBuiltins "max" = some (.builtin "max") := by decide +kernel
theorem boot_B_min : bootBuiltins "min" = some (.builtin "min") := by decide +kernel
theorem boot_B_sum : bootBuiltins "sum" = some (.builtin "sum") := by decide +kernel
theorem boot_B_all : bootBuiltins "all" = some (.builtin "all") := by decide +kernel
theorem boot_B_any : bootBuiltins "any" = some (.builtin "any") := by decide +kernel
theorem boot_B_sorted : bootBuiltins "sorted" = some (.builtin "sorted") := by decide +kernel
theorem Gd.u65 {X : Cx} {w : Wh} {k : Nat} (g : Gd X w k) : X.A.units + 65 < cLine := by have := g.hr.un; omega
theorem nox_nil : ∀ (d : List D) (ρ : En) (c : Exn) (ρ' : En), gsNil d ρ ≠ .ex c ρ' := fun d ρ c ρ' => by
  cases d <;> exact fun z => nomatch z
theorem nox_cons {g : D → En → R Unit} {h : List D → En → R Unit} (hg : NoX g) (hh : ∀ (d : List D) (ρ : En) (c : Exn) (ρ' : En), h d ρ ≠ .ex c ρ') : ∀ (d : List D) (ρ : En) (c : Exn) (ρ' : En), gsCons g h d ρ ≠ .ex c ρ' := fun d ρ c ρ' => by
  cases d with
  | nil => exact fun z => nomatch z
  | cons a r =>
    show (g a ρ).bind _ ≠ _
    cases q : g a ρ with
    | no => exact fun z => nomatch z
    | ex c1 ρ1 => exact absurd q (hg a ρ c1 ρ1)
    | ok u ρ1 => exact hh r ρ1 c ρ'
theorem nox_tup {n : Nat} {h : List D → En → R Unit} (hh : ∀ (d : List D) (ρ : En) (c : Exn) (ρ' : En), h d ρ ≠ .ex c ρ') : NoX (gTupD n h) := fun d ρ c ρ' => by
  unfold gTupD
  split
  · split
    · exact hh _ _ _ _
    · exact fun z => nomatch z
  · split
    · exact hh _ _ _ _
    · exact fun z => nomatch z
  · exact fun z => nomatch z
section
variable {X : Cx} {w : Wh} {a b c : Expr} {fa fb fc : En → R D} {ga : En → R Bool} {pos : Pos}
/-- a truth's value as a test -/
theorem vt_b (ha : VE X w a (dB ga)) (he : ∀ whole, isTrue a X.env whole = (do let v ← whole; standAt a.pos; holding [v] (truthy v)) := by intro _; rfl) : VT X w a ga :=
  PT.imp (pt_truth ha he) fun σ H Q ⟨G, ρ, rel, h⟩ => ⟨G, ρ, rel, Fn.toB rel (h.imp fun G1 H1 ρ1 b q v hv => by
    cases hv
    exact ⟨b, rfl, q⟩)⟩
/-- a < b < c -/
def dChain (g g' : D → D → Option Bool) (fa fb fc : En → R D) : En → R Bool := fun ρ => (fa ρ).bind fun x ρ1 => (fb ρ1).bind fun y ρ2 => (lift (g x y) ρ2).bind fun t ρ3 => if t = true then (fc ρ3).bind fun z ρ4 => lift (g' y z) ρ4 else .ok false ρ3
theorem chain_core {K : PySem.W.Frag} {r r' : R2} {g g' : D → D → Option Bool} (h1 : OpB K r g) (h2 : OpB K r' g') {G H : Hp} {σ : L2.St} {ρ : En} {P : Bool → Hp → Prop} (rel : Rel K G H σ ρ) (h : Fn K w G H σ ρ (dChain g g' fa fb fc ρ) (QB P)) :
    tChain r r' (teD K w fa) (teD K w fb) (teD K w fc) σ H (fun v H1 => ∃ k, v = .bl k ∧ P k H1) :=
  ⟨G, ρ, rel, (Fn.bind rel h).imp fun G1 H1 ρ1 dx ⟨r1, s1, h1'⟩ x hx => ⟨G1, ρ1, r1, (Fn.bind r1 h1').imp fun G2 H2 ρ2 dy ⟨r2, s2, h2'⟩ y hy => by
    obtain ⟨t, e, q⟩ := Fn.lift (Fn.bind r2 h2')
    obtain ⟨r3, s3, h3⟩ := q _ _ r2 Stp.refl
    refine h1 x y dx dy t H2 _ ((hx.mono s2.g).mono r2.sub) (hy.mono r2.sub) e ⟨t, rfl, ?_⟩
    cases t with
    | false => exact iteF ⟨false, rfl, Fn.ok (show Fn K w G2 H2 σ ρ2 (.ok false ρ2) (QB P) from h3) r2⟩
    | true =>
      refine iteT ⟨G2, ρ2, r2, (Fn.bind r2 (show Fn K w G2 H2 σ ρ2 ((fc ρ2).bind fun z ρ4 => lift (g' dy z) ρ4) (QB P) from h3)).imp fun G4 H4 ρ4 dz ⟨r4, s4, h4⟩ z hz => ?_⟩
      obtain ⟨b, e', q'⟩ := Fn.lift h4
      exact h2 y z dy dz b H4 _ ((hy.mono s4.g).mono r4.sub) (hz.mono r4.sub) e' ⟨b, rfl, q' _ _ r4 Stp.refl⟩⟩⟩
theorem vt_chain {op op' : CmpOp} {r r' : R2} {g g' : D → D → Option Bool} (ho : OpR X (compareOp op) r) (hs : OpB X.K r g) (ho' : OpR X (compareOp op') r') (hs' : OpB X.K r' g') (ha : VE X w a fa) (hb : VE X w b fb) (hc : VE X w c fc)
    (hm : lastMarks [op, op'] [b, c] = false := by with_unfolding_all rfl) : VT X w (.Compare a [op, op'] [b, c] pos) (dChain g g' fa fb fc) :=
  PT.imp (pt_chain ho ho' ha hb hc hm) fun σ H Q ⟨G, ρ, rel, h⟩ => chain_core hs hs' rel h
theorem tChain_imp {r r' : R2} {ta tb tc : TE} {σ : L2.St} {H : Hp} {Q : VK} (h : tChain r r' ta tb tc σ H Q) : tChain r r' ta tb tc σ H Q := h
theorem ve_chain {op op' : CmpOp} {r r' : R2} {g g' : D → D → Option Bool} (ho : OpR X (compareOp op) r) (hs : OpB X.K r g) (ho' : OpR X (compareOp op') r') (hs' : OpB X.K r' g') (ha : VE X w a fa) (hb : VE X w b fb) (hc : VE X w c fc)
    (hm : lastMarks [op, op'] [b, c] = false := by with_unfolding_all rfl) : VE X w (.Compare a [op, op'] [b, c] pos) (dB (dChain g g' fa fb fc)) := by
  refine ⟨fun pins s σ H Q I q => ?_⟩
  obtain ⟨G, ρ, rel, h⟩ := q
  refine thn ((pe_chain ho ho' ha hb hc hm).run pins s σ H _ I (chain_core (P := fun b H1 => Q (.bl b) H1) hs hs' rel ((Fn.dB rel h).imp fun G1 H1 ρ1 b q => q.2.2))) fun u s1 ⟨v, H1, I1, rv, k, e, q⟩ => ?_
  subst e
  exact ⟨_, H1, I1, rv, q⟩
end
end Dn
namespace Dn
open PySem PySem.Spec PyProof.Rows L2
/-! ### reckoning with denotations -/
section
variable {α β : Type}
@[simp] theorem bind_ok (a : α) (ρ : En) (g : α → En → R β) : (R.ok a ρ).bind g = g a ρ := rfl
@[simp] theorem bind_ex (c : Exn) (ρ : En) (g : α → En → R β) : (R.ex c ρ : R α).bind g = .ex c ρ := rfl
@[simp] theorem bind_no (g : α → En → R β) : (R.no : R α).bind g = .no := rfl
@[simp] theorem bind_ite (c : Prop) [Decidable c] (x y : R α) (g : α → En → R β) : (if c then x else y).bind g = if c then x.bind g else y.bind g := by split <;> rfl
@[simp] theorem lift_some (a : α) (ρ : En) : lift (some a) ρ = .ok a ρ := rfl
@[simp] theorem lift_none (ρ : En) : (lift none ρ : R α) = .no := rfl
@[simp] theorem lift_ite (c : Prop) [Decidable c] (x y : Option α) (ρ : En) : lift (if c then x else y) ρ = if c then lift x ρ else lift y ρ := by split <;> rfl
end
/-- a block goes on -/
def thn' (r : R Fl) (g : En → R Fl) : R Fl := match r with
  | .ok .nx ρ => g ρ
  | .ok fl ρ => .ok fl ρ
  | .ex c ρ => .ex c ρ
  | .no => .no
@[simp] theorem thn_nx (ρ : En) (g : En → R Fl) : thn' (.ok .nx ρ) g = g ρ := rfl
@[simp] theorem thn_rt (d : D) (ρ : En) (g : En → R Fl) : thn' (.ok (.rt d) ρ) g = .ok (.rt d) ρ := rfl
@[simp] theorem thn_rl (d : List D) (ρ : En) (g : En → R Fl) : thn' (.ok (.rl d) ρ) g = .ok (.rl d) ρ := rfl
@[simp] theorem thn_bk (ρ : En) (g : En → R Fl) : thn' (.ok .bk ρ) g = .ok .bk ρ := rfl
@[simp] theorem thn_ct (ρ : En) (g : En → R Fl) : thn' (.ok .ct ρ) g = .ok .ct ρ := rfl
@[simp] theorem thn_ex (c : Exn) (ρ : En) (g : En → R Fl) : thn' (.ex c ρ) g = .ex c ρ := rfl
@[simp] theorem thn_no (g : En → R Fl) : thn' .no g = .no := rfl
@[simp] theorem thn_ite (c : Prop) [Decidable c] (x y : R Fl) (g : En → R Fl) : thn' (if c then x else y) g = if c then thn' x g else thn' y g := by split <;> rfl
/-- a def ends -/
def finD (ls : En) (r : R Fl) : R L := match r with
  | .ok .nx ρ => .ok (.im .none) (backE ls ρ)
  | .ok (.rt d) ρ => .ok (.im d) (backE ls ρ)
  | .ok (.rl ds) ρ => .ok (.ow ds) (backE ls ρ)
  | .ex c ρ => .ex c (backE ls ρ)
  | _ => .no
@[simp] theorem fin_nx (ls ρ : En) : finD ls (.ok .nx ρ) = .ok (.im .none) (backE ls ρ) := rfl
@[simp] theorem fin_rt (ls ρ : En) (d : D) : finD ls (.ok (.rt d) ρ) = .ok (.im d) (backE ls ρ) := rfl
@[simp] theorem fin_rl (ls ρ : En) (d : List D) : finD ls (.ok (.rl d) ρ) = .ok (.ow d) (backE ls ρ) := rfl
@[simp] theorem fin_ex (ls ρ : En) (c : Exn) : finD ls (.ex c ρ) = .ex c (backE ls ρ) := rfl
@[simp] theorem fin_ite (c : Prop) [Decidable c] (ls : En) (x y : R Fl) : finD ls (if c then x else y) = if c then finD ls x else finD ls y := by split <;> rfl
@[simp] theorem dDef_eq (n : Nat) (b : En → R Fl) (ls : En) : dDef n b ls = finD ls (b (ls ++ List.replicate (n - ls.length) none)) := rfl
@[simp] theorem dSeq_eq (f g : En → R Fl) (ρ : En) : dSeq f g ρ = thn' (f ρ) g := by
  unfold dSeq thn'
  cases q : f ρ with
  | ok fl ρ1 => cases fl <;> rfl
  | _ => rfl
section
variable (f g : En → R D) (p q : En → R Bool) (s t : En → R Fl) (ga : En → R (List AV)) (ρ : En) (i j : Nat) (d : D)
@[simp] theorem dNx_eq : dNx ρ = .ok .nx ρ := rfl
@[simp] theorem dBk_eq : dBk ρ = .ok .bk ρ := rfl
@[simp] theorem dCt_eq : dCt ρ = .ok .ct ρ := rfl
@[simp] theorem dRet_eq : dRet f ρ = (f ρ).bind fun d ρ1 => .ok (.rt d) ρ1 := rfl
@[simp] theorem dDrop_eq : dDrop f ρ = (f ρ).bind fun _ ρ1 => .ok .nx ρ1 := rfl
@[simp] theorem dIf_eq : dIf p s t ρ = (p ρ).bind fun b ρ1 => if b = true then s ρ1 else t ρ1 := rfl
@[simp] theorem dC_eq : dC d ρ = .ok d ρ := rfl
@[simp] theorem dOp_eq (h : D → D → Option D) : dOp h f g ρ = (f ρ).bind fun x ρ1 => (g ρ1).bind fun y ρ2 => lift (h x y) ρ2 := rfl
@[simp] theorem d1_eq (h : D → Option D) : d1 h f ρ = (f ρ).bind fun x ρ1 => lift (h x) ρ1 := rfl
@[simp] theorem dCmp_eq (h : D → D → Option Bool) : dCmp h f g ρ = (f ρ).bind fun x ρ1 => (g ρ1).bind fun y ρ2 => lift (h x y) ρ2 := rfl
@[simp] theorem dB_eq : dB p ρ = (p ρ).bind fun b ρ1 => .ok (.bool b) ρ1 := rfl
@[simp] theorem dNot_eq : dNot p ρ = (p ρ).bind fun b ρ1 => .ok (!b) ρ1 := rfl
@[simp] theorem dAnd_eq : dAnd p q ρ = (p ρ).bind fun b ρ1 => if b = true then q ρ1 else .ok false ρ1 := rfl
@[simp] theorem dOr_eq : dOr p q ρ = (p ρ).bind fun b ρ1 => if b = true then .ok true ρ1 else q ρ1 := rfl
@[simp] theorem dAndV_eq : dAndV p f ρ = (p ρ).bind fun b ρ1 => if b = true then f ρ1 else .ok (.bool false) ρ1 := rfl
@[simp] theorem dOrV_eq : dOrV p f ρ = (p ρ).bind fun b ρ1 => if b = true then .ok (.bool true) ρ1 else f ρ1 := rfl
@[simp] theorem dIfE_eq : dIfE p f g ρ = (p ρ).bind fun b ρ1 => if b = true then f ρ1 else g ρ1 := rfl
@[simp] theorem dIsi_eq (t : String) : dIsi t f ρ = (f ρ).bind fun d ρ1 => .ok (isTy t d) ρ1 := rfl
@[simp] theorem dUB_eq : dUB f ρ = (f ρ).bind fun d ρ1 => lift (asB d) ρ1 := rfl
@[simp] theorem dTru_eq : dTru f ρ = (f ρ).bind fun d ρ1 => lift (truD d) ρ1 := rfl
@[simp] theorem dChain_eq (h h' : D → D → Option Bool) (k : En → R D) : dChain h h' f g k ρ = (f ρ).bind fun x ρ1 => (g ρ1).bind fun y ρ2 => (lift (h x y) ρ2).bind fun t ρ3 => if t = true then (k ρ3).bind fun z ρ4 => lift (h' y z) ρ4 else .ok false ρ3 := rfl
@[simp] theorem aNil_eq : aNil ρ = .ok [] ρ := rfl
@[simp] theorem aIm_eq : aIm f ga ρ = (f ρ).bind fun d ρ1 => (ga ρ1).bind fun as ρ2 => .ok (.im d :: as) ρ2 := rfl
@[simp] theorem dAll_eq : dAll ga ρ = (ga ρ).bind fun as ρ1 => lift (allIm as) ρ1 := rfl
@[simp] theorem dTup_eq : dTup ga ρ = (dAll ga ρ).bind fun ds ρ1 => if ds.length ≤ sizeLine then .ok (.tuple ds) ρ1 else .no := rfl
@[simp] theorem dLst_eq : dLst ga ρ = (dAll ga ρ).bind fun ds ρ1 => if ds.length ≤ sizeLine then .ok (.list ds) ρ1 else .no := rfl
@[simp] theorem nLst_eq : nLst ga ρ = (dAll ga ρ).bind fun ds ρ1 => if ds.length ≤ sizeLine then .ok ds ρ1 else .no := rfl
@[simp] theorem dCall_eq (h : List D → Option D) : dCall h ga ρ = (dAll ga ρ).bind fun ds ρ1 => lift (h ds) ρ1 := rfl
@[simp] theorem dAsg_eq (h : D → En → R Unit) : dAsg h f ρ = (f ρ).bind fun d ρ1 => (h d ρ1).bind fun _ ρ2 => .ok .nx ρ2 := rfl
@[simp] theorem putIm_eq : putIm i d ρ = if free ρ[i]? = true then .ok () (ρ.set i (some (.im d))) else .no := rfl
@[simp] theorem putOw_eq (ds : List D) : putOw i ds ρ = if free ρ[i]? = true then .ok () (ρ.set i (some (.ow ds))) else .no := rfl
@[simp] theorem dSl_eq (l u : En → R (Option Int)) : dSl f l u ρ = (f ρ).bind fun x ρ1 => (l ρ1).bind fun lo ρ2 => (u ρ2).bind fun hi ρ3 => lift (gSl x lo hi) ρ3 := rfl
@[simp] theorem oN_eq : oN ρ = .ok none ρ := rfl
@[simp] theorem oI_eq : oI f ρ = (f ρ).bind fun d ρ1 => lift ((asI d).map some) ρ1 := rfl
@[simp] theorem dPair_eq {α β : Type} (f : En → R α) (g : En → R β) : dPair f g ρ = (f ρ).bind fun a ρ1 => (g ρ1).bind fun b ρ2 => .ok (a, b) ρ2 := rfl
@[simp] theorem dPar_eq : dPar i j ga ρ = (dAll ga ρ).bind fun ds ρ1 => match ds with
  | [a, b] => (putIm i a ρ1).bind fun _ ρ2 => (putIm j b ρ2).bind fun _ ρ3 => .ok .nx ρ3
  | _ => .no := rfl
end
/-- a slot read -/
def rdSlot (c : Option (Option L)) (i : Nat) (ρ : En) : R D := match c with
  | some (some (.im d)) => .ok d ρ
  | some (some (.ow ds)) => .ok (.list ds) (frz i ds ρ)
  | _ => .no
@[simp] theorem dVar_eq (i : Nat) (ρ : En) : dVar i ρ = rdSlot ρ[i]? i ρ := by
  unfold dVar rdSlot
  split <;> simp_all
@[simp] theorem rdSlot_im (d : D) (i : Nat) (ρ : En) : rdSlot (some (some (.im d))) i ρ = .ok d ρ := rfl
@[simp] theorem rdSlot_ow (ds : List D) (i : Nat) (ρ : En) : rdSlot (some (some (.ow ds))) i ρ = .ok (.list ds) (frz i ds ρ) := rfl
/-- at a slot, what follows -/
def slotK {α : Type} (c : Option (Option L)) (k : L → R α) : R α := match c with
  | some (some l) => k l
  | _ => .no
@[simp] theorem slotK_some {α : Type} (l : L) (k : L → R α) : slotK (some (some l)) k = k l := rfl
@[simp] theorem tree_im (d : D) : (L.im d).tree = false := rfl
@[simp] theorem tree_ow (d : List D) : (L.ow d).tree = false := rfl
@[simp] theorem tree_bo (d : List D) : (L.bo d).tree = false := rfl
@[simp] theorem tree_ot (d : Tr) : (L.ot d).tree = true := rfl
@[simp] theorem tree_bt (d : Tr) : (L.bt d).tree = true := rfl
@[simp] theorem atSlot_eq {α β : Type} (i : Nat) (f : En → R β) (g : L → β → En → R α) (ρ : En) : atSlot i f g ρ = slotK ρ[i]? fun _ => (f ρ).bind fun y ρ1 => slotK ρ1[i]? fun l => if l.tree = true then .no else g l y ρ1 := by
  unfold atSlot slotK
  cases ρ[i]? with
  | none => rfl
  | some o =>
    cases o with
    | none => rfl
    | some l =>
      show (f ρ).bind _ = (f ρ).bind _
      cases f ρ with
      | ok y ρ1 =>
        show (match ρ1[i]? with | some (some l) => if l.tree = true then R.no else g l y ρ1 | _ => R.no) = _
        show _ = (match ρ1[i]? with | some (some l) => if l.tree = true then R.no else g l y ρ1 | _ => R.no)
        rfl
      | _ => rfl
@[simp] theorem toD_im (d : D) : (L.im d).toD = d := rfl
@[simp] theorem toD_ow (d : List D) : (L.ow d).toD = .list d := rfl
@[simp] theorem toD_bo (d : List D) : (L.bo d).toD = .list d := rfl
@[simp] theorem dIxN_eq (i : Nat) (f : En → R D) (ρ : En) : dIxN i f ρ = atSlot i f (fun l y ρ => lift (gIx l.toD y) ρ) ρ := rfl
@[simp] theorem dSlN_eq (i : Nat) (l u : En → R (Option Int)) (ρ : En) : dSlN i l u ρ = atSlot i (dPair l u) (fun x p ρ => lift (gSl x.toD p.1 p.2) ρ) ρ := rfl
@[simp] theorem dLenN_eq (i : Nat) (ρ : En) : dLenN i ρ = atSlot i (fun ρ => .ok () ρ) (fun l _ ρ => lift (gLen1 l.toD) ρ) ρ := rfl
/-! calls -/
def resD (as : List AV) (ρ : En) (r : R L) : R D := match r with
  | .ok (.im d) ls' => .ok d (giveB as ls' ρ)
  | .ok (.ow ds) ls' => .ok (.list ds) (giveB as ls' ρ)
  | .ok _ _ => .no
  | .ex c ls' => .ex c (giveB as ls' ρ)
  | .no => .no
@[simp] theorem resD_im (as : List AV) (ρ ls : En) (d : D) : resD as ρ (.ok (.im d) ls) = .ok d (giveB as ls ρ) := rfl
@[simp] theorem resD_ow (as : List AV) (ρ ls : En) (d : List D) : resD as ρ (.ok (.ow d) ls) = .ok (.list d) (giveB as ls ρ) := rfl
@[simp] theorem resD_ex (as : List AV) (ρ ls : En) (c : Exn) : resD as ρ (.ex c ls) = .ex c (giveB as ls ρ) := rfl
def lentK {α : Type} (o : Option En) (k : En → R α) : R α := match o with
  | some ls => k ls
  | none => .no
@[simp] theorem lentK_some {α : Type} (ls : En) (k : En → R α) : lentK (some ls) k = k ls := rfl
@[simp] theorem dFn_eq (n : Nat) (den : En → R L) (ga : En → R (List AV)) (ρ : En) : dFn n den ga ρ = (ga ρ).bind fun as ρ1 => if as.length = n then lentK (lend as ρ1) fun ls => resD as ρ1 (den ls) else .no := by
  unfold dFn
  congr 1
  funext as ρ1
  split
  · unfold lentK resD
    cases lend as ρ1 with
    | none => rfl
    | some ls =>
      cases den ls with
      | ok l ls' => cases l <;> rfl
      | _ => rfl
  · rfl
/-- arguments that are data -/
theorem lend_im : ∀ (ds : List D) (ρ : En), lend (ds.map AV.im) ρ = some (ds.map fun d => some (L.im d)) := fun ds ρ => by
  have h1 : ∀ ds : List D, slotsOf (ds.map AV.im) = [] := fun ds => by
    induction ds with
    | nil => rfl
    | cons d r ih => exact ih
  have h2 : ∀ ds : List D, lendL ρ (ds.map AV.im) = some (ds.map fun d => some (L.im d)) := fun ds => by
    induction ds with
    | nil => rfl
    | cons d r ih =>
      show (lendL ρ (r.map AV.im)).map _ = _
      rw [ih]; rfl
  unfold lend
  rw [h1, if_pos List.nodup_nil, h2]
@[simp] theorem lend1 (a : D) (ρ : En) : lend [.im a] ρ = some [some (.im a)] := lend_im [a] ρ
@[simp] theorem lend2 (a b : D) (ρ : En) : lend [.im a, .im b] ρ = some [some (.im a), some (.im b)] := lend_im [a, b] ρ
@[simp] theorem lend3 (a b c : D) (ρ : En) : lend [.im a, .im b, .im c] ρ = some [some (.im a), some (.im b), some (.im c)] := lend_im [a, b, c] ρ
@[simp] theorem lend4 (a b c d : D) (ρ : En) : lend [.im a, .im b, .im c, .im d] ρ = some [some (.im a), some (.im b), some (.im c), some (.im d)] := lend_im [a, b, c, d] ρ
@[simp] theorem lend5 (a b c d e : D) (ρ : En) : lend [.im a, .im b, .im c, .im d, .im e] ρ = some [some (.im a), some (.im b), some (.im c), some (.im d), some (.im e)] := lend_im [a, b, c, d, e] ρ
@[simp] theorem give_nil (ls ρ : En) : giveB [] ls ρ = ρ := by cases ls <;> rfl
@[simp] theorem give_im (d : D) (as : List AV) (c : Option L) (ls ρ : En) : giveB (.im d :: as) (c :: ls) ρ = giveB as ls ρ := rfl
@[simp] theorem give_e (as : List AV) (ρ : En) : giveB as [] ρ = ρ := by
  cases as with
  | nil => rfl
  | cons a as => cases a <;> rfl
@[simp] theorem backE_im (d : D) (ls : En) (c : Option L) (ρ : En) : backE (some (.im d) :: ls) (c :: ρ) = some (.im d) :: backE ls ρ := rfl
@[simp] theorem backE_bo' (d : List D) (ls : En) (c : Option L) (ρ : En) : backE (some (.bo d) :: ls) (c :: ρ) = c :: backE ls ρ := rfl
@[simp] theorem backE_nil (ρ : En) : backE [] ρ = [] := by cases ρ <;> rfl
@[simp] theorem allIm_nil : allIm [] = some [] := rfl
@[simp] theorem allIm_cons (d : D) (as : List AV) : allIm (.im d :: as) = (allIm as).map (d :: ·) := rfl
@[simp] theorem free_none : free (some none) = true := rfl
@[simp] theorem free_im (d : D) : free (some (some (.im d))) = true := rfl
@[simp] theorem free_ow (d : List D) : free (some (some (.ow d))) = true := rfl
/-! operators -/
section
variable (i j : Int) (a b : Str)
@[simp] theorem gAdd_int : gAdd (.int i) (.int j) = some (.int (i + j)) := rfl
@[simp] theorem gSub_int : gSub (.int i) (.int j) = some (.int (i - j)) := rfl
@[simp] theorem gNeg_int : gNeg (.int i) = some (.int (-i)) := rfl
@[simp] theorem gLt_int : gLt (.int i) (.int j) = some (decide (i < j)) := rfl
@[simp] theorem gLe_int : gLe (.int i) (.int j) = some (decide (i ≤ j)) := rfl
@[simp] theorem gGt_int : gGt (.int i) (.int j) = some (decide (j < i)) := rfl
@[simp] theorem gGe_int : gGe (.int i) (.int j) = some (decide (j ≤ i)) := rfl
@[simp] theorem gAbs_int : gAbs [.int i] = some (.int (if i < 0 then -i else i)) := rfl
@[simp] theorem gInt_int : gInt [.int i] = some (.int i) := rfl
@[simp] theorem gInt_bool (k : Bool) : gInt [.bool k] = some (.int (if k then 1 else 0)) := rfl
@[simp] theorem gMax2_int : gMax2 [.int i, .int j] = some (.int (if j > i then j else i)) := rfl
@[simp] theorem gMin2_int : gMin2 [.int i, .int j] = some (.int (if j < i then j else i)) := rfl
@[simp] theorem truD_bool (k : Bool) : truD (.bool k) = some k := rfl
@[simp] theorem truD_none : truD .none = some false := rfl
@[simp] theorem truD_int : truD (.int i) = some (i != 0) := rfl
@[simp] theorem truD_list (l : List D) : truD (.list l) = some (!l.isEmpty) := rfl
@[simp] theorem truD_tuple (l : List D) : truD (.tuple l) = some (!l.isEmpty) := rfl
@[simp] theorem asB_bool (k : Bool) : asB (.bool k) = some k := rfl
@[simp] theorem asI_int : asI (.int i) = some i := rfl
theorem shp_int : shp (.int i) = true := rfl
theorem shp_bool (k : Bool) : shp (.bool k) = true := rfl
theorem shp_none : shp .none = true := rfl
@[simp] theorem gEq_int : gEq (.int i) (.int j) = some (decide (i = j)) := by
  show some (PyData.eqv (.int i) (.int j)) = _
  simp [PyData.eqv, Bool.beq_eq_decide_eq]
@[simp] theorem gNe_int : gNe (.int i) (.int j) = some (!decide (i = j)) := by
  show (gEq (.int i) (.int j)).map _ = _
  rw [gEq_int]; rfl
@[simp] theorem gIs_none (d : D) : gIs d .none = some (match d with | .none => true | _ => false) := by cases d <;> rfl
@[simp] theorem gIsNot_none (d : D) : gIsNot d .none = some (match d with | .none => false | _ => true) := by cases d <;> rfl
@[simp] theorem gEq_bool (k l : Bool) : gEq (.bool k) (.bool l) = some (k == l) := by
  show some (PyData.eqv (.bool k) (.bool l)) = _
  simp only [PyData.eqv]
@[simp] theorem gNe_bool (k l : Bool) : gNe (.bool k) (.bool l) = some (!(k == l)) := by
  show (gEq (.bool k) (.bool l)).map _ = _
  rw [gEq_bool]; rfl
theorem eqv_ii (a b : Int) : PyData.eqv (.int a) (.int b) = decide (a = b) := by simp only [PyData.eqv, Bool.beq_eq_decide_eq]
theorem eqv_ss (a b : Str) : PyData.eqv (.str a) (.str b) = decide (a = b) := by simp only [PyData.eqv, Bool.beq_eq_decide_eq]
theorem eqv_bb (a b : Bool) : PyData.eqv (.bool a) (.bool b) = decide (a = b) := by simp only [PyData.eqv, Bool.beq_eq_decide_eq]
theorem eqv_tt (a b : List D) : PyData.eqv (.tuple a) (.tuple b) = PyData.eqvAll a b := by simp only [PyData.eqv]
theorem eqv_ll (a b : List D) : PyData.eqv (.list a) (.list b) = PyData.eqvAll a b := by simp only [PyData.eqv]
theorem eqv_cc (x y : D) (a b : List D) : PyData.eqvAll (x :: a) (y :: b) = (PyData.eqv x y && PyData.eqvAll a b) := by simp only [PyData.eqvAll]
theorem eqv_nn : PyData.eqvAll [] [] = true := by simp only [PyData.eqvAll]
theorem eqv_nc (y : D) (b : List D) : PyData.eqvAll [] (y :: b) = false := by simp only [PyData.eqvAll]
theorem eqv_cn (y : D) (b : List D) : PyData.eqvAll (y :: b) [] = false := by simp only [PyData.eqvAll]
theorem gEq_of {a b : D} (ha : shp a = true) (hb : shp b = true) : gEq a b = some (PyData.eqv a b) := if_pos ⟨ha, hb⟩
theorem gNe_of {a b : D} (ha : shp a = true) (hb : shp b = true) : gNe a b = some (!PyData.eqv a b) := by
  show (gEq a b).map _ = _
  rw [gEq_of ha hb]; rfl
theorem gMul_of {i j : Int} {m n : Nat} (hi : i.natAbs < 2 ^ m) (hj : j.natAbs < 2 ^ n) (hm : 0 < m) (hn : 0 < n) (h : m + n ≤ 1000000) : gMul (.int i) (.int j) = some (.int (i * j)) := by
  have h1 : i.natAbs.log2 + j.natAbs.log2 < 1000000 := wide_mul hi hj hm hn h
  exact if_pos (show i.natAbs.log2 + j.natAbs.log2 < 100000000 by omega)
theorem gMul_big {i j : Int} {m n : Nat} (hi : i.natAbs < 2 ^ m) (hj : j.natAbs < 2 ^ n) (hm : 0 < m) (hn : 0 < n) (h : m + n ≤ 100000000) : gMul (.int i) (.int j) = some (.int (i * j)) := by
  have h1 := PySem.Flt.log2_lt_of hm hi
  have h2 := PySem.Flt.log2_lt_of hn hj
  exact if_pos (show i.natAbs.log2 + j.natAbs.log2 < 100000000 by omega)
theorem gFdiv_of {i j : Int} {n : Nat} (h : j ≠ 0) (hj : j.natAbs < 2 ^ n) (hn : 0 < n) (h9 : n ≤ 9000) : gFdiv (.int i) (.int j) = some (.int (i.fdiv j)) := by
  have h1 : j ≠ 0 ∧ j.natAbs.log2 < 9000 := ⟨h, Nat.lt_of_lt_of_le (PySem.Flt.log2_lt_of hn hj) h9⟩
  exact if_pos h1
theorem gFdiv_pos {i j : Int} {n : Nat} (h : 0 < j) (hj : j.natAbs < 2 ^ n) (hn : 0 < n) (h9 : n ≤ 9000) : gFdiv (.int i) (.int j) = some (.int (i / j)) := by
  rw [gFdiv_of (by omega) hj hn h9, Int.fdiv_eq_ediv_of_nonneg i (by omega)]
theorem gMod_pos {i j : Int} (h : 0 < j) : gMod (.int i) (.int j) = some (.int (i % j)) := by
  rw [← Int.fmod_eq_emod_of_nonneg i (by omega : 0 ≤ j)]
  have h1 : j ≠ 0 := by omega
  exact if_pos h1
theorem gMod_of {i j : Int} (h : j ≠ 0) : gMod (.int i) (.int j) = some (.int (i.fmod j)) := by
  exact if_pos h
theorem gPow_of {i j : Int} (h0 : 0 ≤ j) (h1 : j ≤ 1000000) (h2 : i.natAbs < 2 ^ 64) : gPow (.int i) (.int j) = some (.int (i ^ j.toNat)) := by
  exact if_pos ⟨h0, bits_mul_le h2 h0 h1⟩
theorem intBits_le {i : Int} {n : Nat} (h : i.natAbs < 2 ^ n) (hn : 0 < n) : Builtin.Int.intBits i ≤ n := by
  unfold Builtin.Int.intBits
  split
  · omega
  · rename_i e
    have hz : i.natAbs ≠ 0 := by intro q; apply e; simp [Int.natAbs_eq_zero.mp q]
    have := (Nat.log2_lt hz).mpr h
    omega
theorem gPow_big {i j : Int} {n : Nat} (h0 : 0 ≤ j) (h : i.natAbs < 2 ^ n) (hn : 0 < n) (h1 : (n : Int) * j ≤ 2 ^ 27) : gPow (.int i) (.int j) = some (.int (i ^ j.toNat)) := by
  refine if_pos ⟨h0, Int.le_trans ?_ h1⟩
  exact Int.mul_le_mul_of_nonneg_right (by have := intBits_le h hn; omega) h0
end
/-! places -/
@[simp] theorem gIx_tup (l : List D) (i : Int) : gIx (.tuple l) (.int i) = L2.atI l i := rfl
@[simp] theorem gIx_lst (l : List D) (i : Int) : gIx (.list l) (.int i) = L2.atI l i := rfl
@[simp] theorem atI_0 (a : D) (l : List D) : L2.atI (a :: l) 0 = some a := by
  unfold L2.atI L2.ixN
  rw [if_pos (by decide), if_pos (by rw [List.length_cons]; omega)]; rfl
@[simp] theorem atI_1 (a b : D) (l : List D) : L2.atI (a :: b :: l) 1 = some b := by
  unfold L2.atI L2.ixN
  rw [if_pos (by decide), if_pos (by rw [List.length_cons, List.length_cons]; omega)]; rfl
@[simp] theorem atI_2 (a b c : D) (l : List D) : L2.atI (a :: b :: c :: l) 2 = some c := by
  unfold L2.atI L2.ixN
  rw [if_pos (by decide), if_pos (by rw [List.length_cons, List.length_cons, List.length_cons]; omega)]; rfl
theorem atI_of {l : List D} {i : Nat} {d : D} (h : l[i]? = some d) : L2.atI l (i : Int) = some d := atI_nat h
@[simp] theorem sizeLine_ge (n : Nat) (h : n ≤ 1000) : n ≤ sizeLine := Nat.le_of_lt (small1000 h)
theorem gSl_take (ds : List D) (k : Nat) : gSl (.list ds) none (some (k : Int)) = some (.list (ds.take k)) := by
  show some (PyData.list _) = _
  rw [HT.sIx_none, HT.sIx_nat, List.drop_zero, Nat.sub_zero]
  congr 2
  by_cases h : k ≤ ds.length
  · rw [Nat.min_eq_left h]
  · rw [Nat.min_eq_right (by omega), List.take_of_length_le (by omega), List.take_of_length_le (by omega)]
theorem gSl_drop (ds : List D) (k : Nat) : gSl (.list ds) (some (k : Int)) none = some (.list (ds.drop k)) := by
  show some (PyData.list _) = _
  rw [HT.sIx_none, HT.sIx_nat]
  congr 2
  by_cases h : k ≤ ds.length
  · rw [Nat.min_eq_left h, List.take_of_length_le (by rw [List.length_drop]; omega)]
  · rw [Nat.min_eq_right (by omega), Nat.sub_self, List.take_zero, List.drop_eq_nil_of_le (by omega)]
theorem rgOk_up {i j c : Int} (hc : 0 < c) (hc2 : c < 1000000) (h1 : -1000000000000 < i) (h2 : i < 1000000000000) (h3 : -1000000000000 < j) (h4 : j < 1000000000000) : rgOk i j c = true := by
  have hr : 0 ≤ Builtin.Range.rangeSize i j c ∧ Builtin.Range.rangeSize i j c ≤ 2000000000001 := by
    unfold Builtin.Range.rangeSize
    rw [if_pos hc]
    split
    · have h5 : (j - i - 1) / c ≤ j - i - 1 := Int.ediv_le_self _ (by omega)
      have h6 : 0 ≤ (j - i - 1) / c := Int.ediv_nonneg (by omega) (by omega)
      omega
    · omega
  unfold rgOk Builtin.Range.small
  simp only [Builtin.Range.rangeFitsLong, Bool.and_eq_true, Bool.or_eq_true, decide_eq_true_eq, beq_iff_eq]
  refine ⟨⟨by omega, by omega, hr.1⟩, ?_⟩
  generalize Builtin.Range.rangeSize i j c = n at hr
  simp [hc]
  omega
noncomputable def rg1 (ds : List D) (ρ1 : En) : R (List D) := match ds with
  | [.int j] => if inR j then .ok (rngD 0 j.toNat) ρ1 else .no
  | _ => .no
noncomputable def rg2 (ds : List D) (ρ1 : En) : R (List D) := match ds with
  | [.int i, .int j] => if inR i ∧ inR j then .ok (rngD i (j - i).toNat) ρ1 else .no
  | _ => .no
@[simp] theorem iRg1_eq (ga : En → R (List AV)) (ρ : En) : iRg1 ga ρ = (dAll ga ρ).bind fun ds ρ1 => rg1 ds ρ1 := rfl
@[simp] theorem iRg2_eq (ga : En → R (List AV)) (ρ : En) : iRg2 ga ρ = (dAll ga ρ).bind fun ds ρ1 => rg2 ds ρ1 := rfl
@[simp] theorem rg1_ok {j : Int} {ρ : En} (h : inR j) : rg1 [.int j] ρ = .ok (rngD 0 j.toNat) ρ := if_pos h
@[simp] theorem rg2_ok {i j : Int} {ρ : En} (h : inR i) (h2 : inR j) : rg2 [.int i, .int j] ρ = .ok (rngD i (j - i).toNat) ρ := if_pos ⟨h, h2⟩
theorem inR_of {j : Int} (h : -1000000 ≤ j) (h2 : j ≤ 1000000) : inR j := ⟨by omega, by omega⟩
@[simp] theorem iRg3_eq (ga : En → R (List AV)) (ρ : En) : iRg3 ga ρ = (dAll ga ρ).bind fun ds ρ1 => match ds with
  | [.int i, .int j, .int c] => if rgOk i j c = true then .ok (rngC i c (rgN i j c)) ρ1 else .no
  | _ => .no := rfl
@[simp] theorem dFor_eq (f : En → R (List D)) (g : D → En → R Unit) (b : En → R Fl) (ρ : En) : dFor f g b ρ = (f ρ).bind fun ds ρ1 => dForL g b ds ρ1 := rfl
@[simp] theorem iD_eq (f : En → R D) (ρ : En) : iD f ρ = (f ρ).bind fun d ρ1 => match d with
  | .list ds => .ok ds ρ1
  | .tuple ds => .ok ds ρ1
  | .str s => .ok (strD s) ρ1
  | _ => .no := rfl
theorem mem_rngC {lo c : Int} {n : Nat} {d : D} (h : d ∈ rngC lo c n) : ∃ i : Nat, i < n ∧ d = .int (lo + i * c) := by
  unfold rngC at h
  obtain ⟨i, hi, rfl⟩ := List.mem_map.mp h
  exact ⟨i, by simpa using hi, rfl⟩
theorem mem_rngD {lo : Int} {n : Nat} {d : D} (h : d ∈ rngD lo n) : ∃ i : Nat, i < n ∧ d = .int (lo + i) := by
  unfold rngD at h
  obtain ⟨i, hi, rfl⟩ := List.mem_map.mp h
  exact ⟨i, by simpa using hi, rfl⟩
/-! loops -/
theorem forL_all {g : D → En → R Unit} {b : En → R Fl} {P : En → Prop} : ∀ {ds : List D}, (∀ d ∈ ds, ∀ ρ, P ρ → ∃ ρ1 ρ2, g d ρ = .ok () ρ1 ∧ (b ρ1 = .ok .nx ρ2 ∨ b ρ1 = .ok .ct ρ2) ∧ P ρ2) → ∀ ρ, P ρ → ∃ ρ', dForL g b ds ρ = .ok .nx ρ' ∧ P ρ'
  | [], _, ρ, hp => ⟨ρ, rfl, hp⟩
  | d :: ds, h, ρ, hp => by
    obtain ⟨ρ1, ρ2, e1, e2, p2⟩ := h d (List.mem_cons_self ..) ρ hp
    obtain ⟨ρ', e3, p3⟩ := forL_all (ds := ds) (fun d hd => h d (List.mem_cons_of_mem _ hd)) ρ2 p2
    refine ⟨ρ', ?_, p3⟩
    show (g d ρ).bind _ = _
    rw [e1]
    show (b ρ1).bind _ = _
    rcases e2 with e2 | e2
    · rw [e2]; exact e3
    · rw [e2]; exact e3
end Dn
namespace Dn
open PySem PySem.Spec PyProof.Rows L2
/-! ### raise and try -/
def noX {α : Type} : R α → R α
  | .ex _ _ => .no
  | r => r
def dRaise (c : String) : En → R Fl := fun ρ => .ex ⟨c, none⟩ ρ
/-- cat: whether the clause takes an exception of that class -/
def dTry (b : En → R Fl) (cat : String → Option Bool) (s : En → R Fl) : En → R Fl := fun ρ => match b ρ with
  | .ex e ρ1 => match cat e.cls with
    | some true => noX (s ρ1)
    | some false => .ex e ρ1
    | none => .no
  | r => r
section
variable {X : Cx} {w : Wh} {x : Str} {p p2 pos np pos' : Pos} {C : Addr} {B newId initId : String} {bmB : List Value}
theorem vs_raise {nm : String} {m : Str} {j : Nat} (hc : X.calm = true) (tk : Takes X w.W) (hca : w.ca nm = some (.ref C)) (F : ExcBaseFacts B newId initId bmB) (q : PySem.W.excIn X.K C bmB newId = true) (gC : X.mg x = some (.ref C)) (kC : PySem.W.keepIn X.K (.ref C) = true) (r : Raises X (.ref C)) (hg : Gl X x)
    (hdb : (x == ("__debug__" : Str)) = false := by decide) : VS X w (.Raise (some (.Call (.Name x p) [.Constant (.str m) j p2] [] pos)) none pos') (dRaise nm) :=
  PS.imp (ps_raise hc tk (pmk_own F q gC kC r hg hdb)) fun Z σ H ⟨G, ρ, rel, h⟩ => by
    have h' : FnS X.K w G H σ ρ (.ex ⟨nm, none⟩ ρ) Z := h
    exact h' G H σ _ none rel Stp.refl ⟨hca, fun _ => .inl rfl, fun f d e => nomatch e⟩
theorem FnS.noX {K : PySem.W.Frag} {w0 : Wh} {G H : Hp} {σ : L2.St} {ρ : En} {r : R Fl} {Z : Ends} (h : FnS K w G H σ ρ (Dn.noX r) Z) : FnS K w0 G H σ ρ r Z := by
  cases r with
  | no => exact h
  | ex c ρ' => exact h.elim
  | ok f ρ' => cases f <;> exact h
abbrev w0 (w : Wh) : Wh := ⟨w.ca, fun _ _ _ _ => False⟩
theorem vs_try {c : Value} {b₀ : Stmt} {body suite : List Stmt} {fb fs : En → R Fl} {cat : String → Option Bool} (hs : X.stack = X.env :: X.outer) (hf : X.env.frame = some X.env.locals) (hc : Names X x c) (tk : Takes X w.W) (hcalm : X.calm = true) {k : Nat} (hr : Room k X.A)
    (hcat : ∀ e b cls, cat e = some b → w.ca e = some cls → PySem.W.exmOne X.K cls c = some b)
    (hb : ∀ (W : WX) (pn : List (Addr × Obj)) (xe : Value → Shared → Prop), Gd (X.tr pn xe) ⟨w.ca, W⟩ k → VSs (X.tr pn xe) ⟨w.ca, W⟩ body fb)
    (hsu : ∀ (a : Addr) (oe : Obj) (pn : List (Addr × Obj)), VSs (X.suite a ((a, oe) :: pn)) (w0 w) (b₀ :: suite) fs) :
    VS X w (.Try body [.ExceptHandler (some (.Name x np)) none (b₀ :: suite) pos'] [] [] pos) (dTry fb cat fs) :=
  PS.imp (ps_try_only (tb := fun W => tsS X.K ⟨w.ca, W⟩ fb) (ts := fun _ _ _ => tsS X.K (w0 w) fs) hs hf hc tk (fun W pn xe t po => hb W pn xe ⟨hcalm, t, po, hr⟩) (fun a oe cls d pn _ _ => hsu a oe pn)) fun Z σ H ⟨G, ρ, rel, h⟩ => by
    refine ⟨G, ρ, rel, ?_⟩
    unfold dTry at h
    cases q : fb ρ with
    | no => rw [q] at h; exact h
    | ok f ρ1 => rw [q] at h; cases f <;> exact h
    | ex e ρ1 =>
      rw [q] at h
      have h2 : FnS X.K w G H σ ρ (match cat e.cls with | some true => noX (fs ρ1) | some false => .ex e ρ1 | none => .no) Z := h
      intro G' H' σ' cls dx r' s' x'
      cases q2 : cat e.cls with
      | none => rw [q2] at h2; exact h2.elim
      | some b =>
        rw [q2] at h2
        refine ⟨b, hcat e.cls b cls q2 x'.hc, fun hb a ha => ?_, fun hb => ?_⟩
        · subst hb
          exact ⟨G', ρ1, r', FnS.noX (FnS.after rel r' s' h2)⟩
        · subst hb
          exact h2 G' H' σ' cls dx r' s' (x'.to rfl)
@[simp] theorem dRaise_eq (c : String) (ρ : En) : dRaise c ρ = .ex ⟨c, none⟩ ρ := rfl
def tryK (r : R Fl) (cat : String → Option Bool) (s : En → R Fl) : R Fl := match r with
  | .ex e ρ1 => match cat e.cls with
    | some true => noX (s ρ1)
    | some false => .ex e ρ1
    | none => .no
  | r => r
@[simp] theorem dTry_eq (b : En → R Fl) (cat : String → Option Bool) (s : En → R Fl) (ρ : En) : dTry b cat s ρ = tryK (b ρ) cat s := rfl
@[simp] theorem tryK_ok (f : Fl) (ρ : En) (cat : String → Option Bool) (s : En → R Fl) : tryK (.ok f ρ) cat s = .ok f ρ := rfl
theorem tryK_ex {e : Exn} {ρ : En} {cat : String → Option Bool} {s : En → R Fl} (h : cat e.cls = some true) : tryK (.ex e ρ) cat s = noX (s ρ) := by
  show (match cat e.cls with | some true => noX (s ρ) | some false => R.ex e ρ | none => .no) = _
  rw [h]
@[simp] theorem noX_ok {α : Type} (a : α) (ρ : En) : noX (.ok a ρ) = .ok a ρ := rfl
end
end Dn
namespace Dn
open PySem PySem.Spec PyProof.Rows L2
/-! ### list comprehensions -/
def wipeE (ρ : En) : List Nat → En
  | [] => ρ
  | v :: vs => (wipeE ρ vs).set v none
def restE (ρ ρ2 : En) : List Nat → En
  | [] => ρ2
  | v :: vs => (restE ρ ρ2 vs).set v (ρ[v]?.getD none)
def immE (ρ : En) (vs : List Nat) : Bool := vs.all fun i => match ρ[i]? with
  | some (some (.im _)) => true
  | some none => true
  | _ => false
theorem wipeE_length (ρ : En) : ∀ vs, (wipeE ρ vs).length = ρ.length
  | [] => rfl
  | v :: vs => by unfold wipeE; rw [List.length_set, wipeE_length ρ vs]
theorem wipeE_some {ρ : En} {i : Nat} {x : L} : ∀ {vs : List Nat}, (wipeE ρ vs)[i]? = some (some x) → ρ[i]? = some (some x) ∧ i ∉ vs
  | [], h => ⟨h, by simp⟩
  | v :: vs, h => by
    unfold wipeE at h
    by_cases hi : v = i
    · subst hi
      by_cases hv : v < (wipeE ρ vs).length
      · rw [List.getElem?_set_self hv] at h; cases h
      · rw [List.getElem?_eq_none (by simpa using hv)] at h; cases h
    · rw [List.getElem?_set_ne hi] at h
      obtain ⟨h1, h2⟩ := wipeE_some h
      exact ⟨h1, by simp only [List.mem_cons, not_or]; exact ⟨fun e => hi e.symm, h2⟩⟩
theorem wipeE_out {ρ : En} {i : Nat} : ∀ {vs : List Nat}, i ∉ vs → (wipeE ρ vs)[i]? = ρ[i]?
  | [], _ => rfl
  | v :: vs, h => by
    simp only [List.mem_cons, not_or] at h
    unfold wipeE
    rw [List.getElem?_set_ne (fun e => h.1 e.symm)]
    exact wipeE_out h.2
theorem restE_length (ρ ρ2 : En) : ∀ vs, (restE ρ ρ2 vs).length = ρ2.length
  | [] => rfl
  | v :: vs => by unfold restE; rw [List.length_set, restE_length ρ ρ2 vs]
theorem restE_out {ρ ρ2 : En} {i : Nat} : ∀ {vs : List Nat}, i ∉ vs → (restE ρ ρ2 vs)[i]? = ρ2[i]?
  | [], _ => rfl
  | v :: vs, h => by
    simp only [List.mem_cons, not_or] at h
    unfold restE
    rw [List.getElem?_set_ne (fun e => h.1 e.symm)]
    exact restE_out h.2
theorem restE_in {ρ ρ2 : En} {i : Nat} (hl : ρ2.length = ρ.length) : ∀ {vs : List Nat}, i ∈ vs → (restE ρ ρ2 vs)[i]? = ρ[i]?
  | [], h => by simp at h
  | v :: vs, h => by
    unfold restE
    by_cases hi : v = i
    · subst hi
      by_cases hv : v < (restE ρ ρ2 vs).length
      · rw [List.getElem?_set_self hv]
        rw [restE_length, hl] at hv
        rw [List.getElem?_eq_getElem hv]; rfl
      · rw [List.getElem?_eq_none (by simpa using hv)]
        rw [restE_length, hl] at hv
        rw [List.getElem?_eq_none (by omega)]
    · rw [List.getElem?_set_ne hi]
      rcases List.mem_cons.mp h with e | e
      · exact absurd e.symm hi
      · exact restE_in hl e
theorem wipe_outS {σ : L2.St} {i : Nat} : ∀ {vs : List Nat}, i ∉ vs → (L2.wipe σ vs)[i]? = σ[i]?
  | [], _ => rfl
  | v :: vs, h => by
    simp only [List.mem_cons, not_or] at h
    unfold L2.wipe
    rw [List.getElem?_set_ne (fun e => h.1 e.symm)]
    exact wipe_outS h.2
theorem wipe_in {σ : L2.St} {i : Nat} : ∀ {vs : List Nat}, i ∈ vs → i < σ.length → (L2.wipe σ vs)[i]? = some none
  | [], h, _ => by simp at h
  | v :: vs, h, hl => by
    unfold L2.wipe
    by_cases hi : v = i
    · subst hi
      rw [List.getElem?_set_self (by rw [L2.wipe_length]; exact hl)]
    · rw [List.getElem?_set_ne hi]
      rcases List.mem_cons.mp h with e | e
      · exact absurd e.symm hi
      · exact wipe_in e hl
theorem wipe_ext {σ σ' : L2.St} {vs : List Nat} (hl : σ.length = σ'.length) (h : ∀ i, i ∉ vs → σ[i]? = σ'[i]?) : L2.wipe σ vs = L2.wipe σ' vs := by
  apply List.ext_getElem?
  intro i
  by_cases hi : i ∈ vs
  · by_cases hb : i < σ.length
    · rw [wipe_in hi hb, wipe_in hi (by omega)]
    · rw [List.getElem?_eq_none (by rw [L2.wipe_length]; omega), List.getElem?_eq_none (by rw [L2.wipe_length]; omega)]
  · rw [wipe_outS hi, wipe_outS hi, h i hi]
theorem wipe_wipe (σ : L2.St) (vs : List Nat) : L2.wipe (L2.wipe σ vs) vs = L2.wipe σ vs := wipe_ext (L2.wipe_length _ _) fun i hi => wipe_outS hi
theorem wipe_back {σ σ2 : L2.St} {vs : List Nat} {i : Nat} (h : L2.wipe σ2 vs = L2.wipe σ vs) (hi : i ∉ vs) : σ2[i]? = σ[i]? := by
  rw [← wipe_outS (σ := σ2) hi, h, wipe_outS hi]
section
variable {K : PySem.W.Frag} {G H G1 H1 G' H' : Hp} {σ σ2 : L2.St} {ρ ρ1 ρ2 : En} {vs : List Nat}
theorem immE_at (h : immE ρ vs = true) {i : Nat} (hi : i ∈ vs) : ρ[i]? = some none ∨ ∃ d, ρ[i]? = some (some (L.im d)) := by
  unfold immE at h
  have := List.all_eq_true.mp h i hi
  split at this
  · exact .inr ⟨_, by assumption⟩
  · exact .inl (by assumption)
  · cases this
theorem Rel.wipe (r : Rel K G H σ ρ) : Rel K G H (L2.wipe σ vs) (wipeE ρ vs) ∧ ∀ a, Own H (L2.wipe σ vs) (wipeE ρ vs) a → Own H σ ρ a := by
  refine ⟨⟨r.sub, by rw [L2.wipe_length, wipeE_length]; exact r.len, fun i l e => ?_, fun i j l m v u a ei ej si sj fi fj => ?_⟩, fun a ⟨i, l, v, e, s, f⟩ => ?_⟩
  · obtain ⟨e', hi⟩ := wipeE_some e
    obtain ⟨v, s, c⟩ := r.cell i l e'
    exact ⟨v, by rw [wipe_outS hi]; exact s, c⟩
  · exact r.apart i j l m v u a (wipeE_some ei).1 (wipeE_some ej).1 (L2.wipe_some si).1 (L2.wipe_some sj).1 fi fj
  · exact ⟨i, l, v, (wipeE_some e).1, (L2.wipe_some s).1, f⟩
/-- at a turn's end -/
theorem Rel.unwipe (r : Rel K G H σ ρ) (im : immE ρ vs = true) (hw : L2.wipe σ2 vs = L2.wipe σ vs) (r2 : Rel K G' H' σ2 ρ2) (s : Stp G H (L2.wipe σ vs) (wipeE ρ vs) G' H' σ2 ρ2) :
    Rel K G' H' σ (restE ρ ρ2 vs) ∧ Stp G H σ ρ G' H' σ (restE ρ ρ2 vs) ∧ immE (restE ρ ρ2 vs) vs = true := by
  have hl : ρ2.length = ρ.length := by rw [s.ln, wipeE_length]
  obtain ⟨rw_, ow_⟩ := r.wipe (vs := vs)
  have own' : ∀ (i : Nat) (l : L) (v : V) (a : Addr), (restE ρ ρ2 vs)[i]? = some (some l) → Fo H' l v a → i ∉ vs ∧ ρ2[i]? = some (some l) := fun i l v a e f => by
    by_cases hi : i ∈ vs
    · rw [restE_in hl hi] at e
      rcases immE_at im hi with z | ⟨d, z⟩
      · rw [z] at e; cases e
      · rw [z] at e; cases e; exact f.elim
    · rw [restE_out hi] at e; exact ⟨hi, e⟩
  have out : ∀ (i : Nat) (l : L), l.mu = true → ρ[i]? = some (some l) → i ∉ vs := fun i l m e hi => by
    rcases immE_at im hi with z | ⟨d, z⟩
    · rw [z] at e; cases e
    · rw [z] at e; cases e; cases m
  refine ⟨⟨r2.sub, by rw [restE_length, hl]; exact r.len, fun i l e => ?_, fun i j l m v u a ei ej si sj fi fj => ?_⟩, ⟨s.g, fun a o e n => s.h a o e fun z => n (ow_ a z), fun a e => ?_, fun a ⟨i, l, v, e, q, f⟩ => ?_, s.tr, by rw [restE_length]; exact hl, fun i ds e => ?_, fun i t e => ?_⟩, ?_⟩
  · by_cases hi : i ∈ vs
    · rw [restE_in hl hi] at e
      rcases immE_at im hi with z | ⟨d, z⟩
      · rw [z] at e; cases e
      · rw [z] at e; cases e
        obtain ⟨v, q, c⟩ := r.cell i _ z
        exact ⟨v, q, DR.mono s.g c⟩
    · rw [restE_out hi] at e
      obtain ⟨v, q, c⟩ := r2.cell i l e
      exact ⟨v, by rw [← wipe_back hw hi]; exact q, c⟩
  · obtain ⟨hi, ei'⟩ := own' i l v a ei fi
    obtain ⟨hj, ej'⟩ := own' j m u a ej fj
    exact r2.apart i j l m v u a ei' ej' (by rw [wipe_back hw hi]; exact si) (by rw [wipe_back hw hj]; exact sj) fi fj
  · rcases s.fr a e with z | z | z
    · exact .inl z
    · exact .inr (.inl z)
    · exact .inr (.inr (ow_ a z))
  · obtain ⟨hi, e'⟩ := own' i l v a e f
    rcases s.ow a ⟨i, l, v, e', by rw [wipe_back hw hi]; exact q, f⟩ with z | z
    · exact .inl (ow_ a z)
    · exact .inr z
  · have hi := out i _ rfl e
    obtain ⟨_, ds', e2⟩ := s.bo i ds (by rw [wipeE_out hi]; exact e)
    exact ⟨rfl, ds', by rw [restE_out hi]; exact e2⟩
  · have hi := out i _ rfl e
    obtain ⟨_, t', e2, f2⟩ := s.bt i t (by rw [wipeE_out hi]; exact e)
    exact ⟨rfl, t', by rw [restE_out hi]; exact e2, fun v a q f => f2 v a (by rw [wipe_outS hi]; exact q) f⟩
  · unfold immE
    rw [List.all_eq_true]
    intro i hi
    rw [restE_in hl hi]
    exact List.all_eq_true.mp im i hi
/-- a list that is nobody's yet -/
structure NewAt (K : PySem.W.Frag) (G H : Hp) (σ : L2.St) (ρ : En) (p : Addr) (ds : List D) : Prop where
  g : G p = none
  own : ¬ Own H σ ρ p
  here : ∃ us, H p = some (.lst us) ∧ DRs K G us ds
theorem NewAt.step {p : Addr} {ds : List D} (n : NewAt K G H σ ρ p ds) (s : Stp G H σ ρ G' H' σ2 ρ2) : NewAt K G' H' σ2 ρ2 p ds := by
  obtain ⟨us, h1, h2⟩ := n.here
  refine ⟨?_, fun z => ?_, us, s.h p _ h1 n.own, h2.mono s.g⟩
  · cases q : G' p with
    | none => rfl
    | some o =>
      rcases s.fr p (by rw [q]; exact fun z => nomatch z) with z | z | z
      · exact absurd n.g z
      · rw [h1] at z; cases z
      · exact absurd z n.own
  · rcases s.ow p z with z | z
    · exact n.own z
    · rw [h1] at z; cases z
theorem Rel.updN' (r : Rel K G H σ ρ) {p : Addr} {o : HO} (hg : G p = none) (ho : ¬ Own H σ ρ p) : Rel K G (upd H p o) σ ρ ∧ ∀ a, Own (upd H p o) σ ρ a ↔ Own H σ ρ a :=
  r.keep (G' := G) (H' := upd H p o) (Same.refl _) (fun b x e => by rw [upd_ne (ne_of_none e hg)]; exact r.sub b x e) (fun a h => (r.own h).1) (fun a h => upd_ne fun z => by subst z; exact ho h)
theorem Rel.updN (r : Rel K G H σ ρ) {p : Addr} {o : HO} (hg : G p = none) (ho : ¬ Own H σ ρ p) : Rel K G (upd H p o) σ ρ := (r.updN' hg ho).1
theorem Rel.updO (r : Rel K G H σ ρ) {p : Addr} {o : HO} (hg : G p = none) (ho : ¬ Own H σ ρ p) : ¬ Own (upd H p o) σ ρ p := fun z => ho (((r.updN' hg ho).2 p).mp z)
theorem Stp.updN (s : Stp G1 H1 σ ρ1 G H σ ρ) (r : Rel K G H σ ρ) {p : Addr} {o : HO} (hg : G p = none) (ho : ¬ Own H σ ρ p) (hp : H1 p = none) : Stp G1 H1 σ ρ1 G (upd H p o) σ ρ :=
  ⟨s.g, fun a x e n => by rw [upd_ne fun z => by subst z; rw [hp] at e; cases e]; exact s.h a x e n, s.fr, fun a h => s.ow a (((r.updN' hg ho).2 a).mp h), fun a h => tracked_upd a (s.tr a h), s.ln, s.bo, fun i t e => by
    obtain ⟨e1, t', e2, f2⟩ := s.bt i t e
    exact ⟨e1, t', e2, fun v a q f => Foot.to (f2 v a q f) fun b y => upd_ne fun z => by subst z; exact ho ⟨i, _, v, e2, q, y⟩⟩⟩
end
/-! targets that stay within the block's own names -/
def FnGC (vs : List Nat) (K : PySem.W.Frag) (G H : Hp) (σ : L2.St) (ρ : En) (r : R Unit) (Q : L2.St → Hp → Prop) : Prop :=
  match r with
  | .ok _ ρ' => ∀ G' H' σ', Rel K G' H' σ' ρ' → Stp G H σ ρ G' H' σ' ρ' → L2.wipe σ' vs = L2.wipe σ vs → Q σ' H'
  | _ => False
abbrev VGc (X : Cx) (vs : List Nat) (tg : Expr) (g : D → En → R Unit) : Prop := PG X tg (fun v σ H Q => ∃ G ρ d, Rel X.K G H σ ρ ∧ DR X.K G v d ∧ FnGC vs X.K G H σ ρ (g d ρ) Q)
abbrev VGcs (X : Cx) (vs : List Nat) (tgs : List Expr) (g : List D → En → R Unit) : Prop := PGs X tgs (fun us σ H Q => ∃ G ρ ds, Rel X.K G H σ ρ ∧ DRs X.K G us ds ∧ FnGC vs X.K G H σ ρ (g ds ρ) Q)
section
variable {X : Cx} {w : Wh} {x : Str} {pos : Pos} {e : Expr} {es : List Expr} {g : D → En → R Unit} {h : List D → En → R Unit} {vs : List Nat}
theorem wipe_set {σ : L2.St} {i : Nat} {v : Option V} (hi : i ∈ vs) : L2.wipe (σ.set i v) vs = L2.wipe σ vs := wipe_ext (by simp) fun j hj => List.getElem?_set_ne (fun z => by subst z; exact hj hi)
theorem vgc_name (i : Nat) (hv : i ∈ vs) (hN : X.N.Nodup) (hi : X.N[i]? = some x := by rfl) (hx : Loc X.env.scope x := by first | exact Or.inl rfl | exact Or.inr rfl) (hf : X.fn x = true ∨ X.env.scope.names.lookup x = some .local := by first | exact .inl rfl | exact .inr rfl | assumption) : VGc X vs (.Name x pos) (putIm i) :=
  PG.imp (pg_name hN hi hx hf) fun v σ H Q ⟨G, ρ, d, rel, hvd, q⟩ => by
    unfold putIm at q
    split at q
    · rename_i hf
      obtain ⟨c, hc, hb, ht⟩ := free_ok hf
      obtain ⟨r1, s1⟩ := rel.put hc hb ht hvd
      exact q _ _ _ r1 s1 (wipe_set hv)
    · exact q.elim
theorem vgcs_nil : VGcs X vs [] gsNil := PGs.imp pgs_nil fun us σ H Q ⟨G, ρ, ds, rel, hv, q⟩ => by
  cases hv with
  | nil => exact ⟨rfl, q _ _ _ rel Stp.refl rfl⟩
  | cons _ _ => exact q.elim
theorem vgcs_cons (h1 : VGc X vs e g) (h2 : VGcs X vs es h) (hs : (assignEach (e :: es) X.env).map (·.2) = assign e X.env :: (assignEach es X.env).map (·.2) := by rfl) : VGcs X vs (e :: es) (gsCons g h) :=
  PGs.imp (pgs_cons h1 h2 hs) fun us σ H Q ⟨G, ρ, ds, rel, hv, q⟩ => by
    cases hv with
    | nil => exact q.elim
    | @cons v us d ds hv1 hvs =>
      have q' : FnGC vs X.K G H σ ρ ((g d ρ).bind fun _ ρ1 => h ds ρ1) Q := q
      refine ⟨v, us, rfl, G, ρ, d, rel, hv1, ?_⟩
      cases e1 : g d ρ with
      | no => rw [e1] at q'; exact q'
      | ex c ρ' => rw [e1] at q'; exact q'
      | ok u ρ' =>
        rw [e1] at q'
        intro G1 H1 σ1 r1 s1 w1
        refine ⟨G1, ρ', ds, r1, hvs.mono s1.g, ?_⟩
        have q2 : FnGC vs X.K G H σ ρ (h ds ρ') Q := q'
        cases e2 : h ds ρ' with
        | no => rw [e2] at q2; exact q2
        | ex c ρ'' => rw [e2] at q2; exact q2
        | ok u' ρ'' => rw [e2] at q2; exact fun G2 H2 σ2 r2 s2 w2 => q2 G2 H2 σ2 r2 (s1.trans rel s2) (w2.trans w1)
theorem vgc_tup {k : Nat} {n : Nat} (hc : X.calm = true) (hs : VGcs X vs es h) (hn : (assignEach es X.env).length = n := by rfl) (hst : (assignEach es X.env).findIdx? (·.1) = none := by rfl) : VGc X vs (.Tuple es k pos) (gTupD n h) :=
  PG.imp (pgOr (pg_tup hc hs hn hst) (pg_unl hc hs hn hst)) fun v σ H Q ⟨G, ρ, d, rel, hv, q⟩ => by
    cases hv with
    | @lst a xs ds hq hds =>
      have q' : FnGC vs X.K G H σ ρ (if ds.length = n then h ds ρ else .no) Q := q
      split at q'
      · rename_i hl
        exact .inr ⟨a, xs, rfl, rel.sub.seq hq, by rw [hds.length]; exact hl, G, ρ, ds, rel, hds, q'⟩
      · exact q'.elim
    | @tup a xs ds hq hds =>
      have q' : FnGC vs X.K G H σ ρ (if ds.length = n then h ds ρ else .no) Q := q
      split at q'
      · rename_i hl
        exact .inl ⟨a, xs, rfl, Same.tup rel.sub hq, by rw [hds.length]; exact hl, G, ρ, ds, rel, hds, q'⟩
      · exact q'.elim
    | _ => exact q.elim
/-- one turn -/
def lcT (g : D → En → R Unit) (ft : En → R Bool) (fe : En → R D) : D → En → R (Option D) := fun d ρ =>
  (g d ρ).bind fun _ ρ1 => (ft ρ1).bind fun b ρ2 => if b = true then (fe ρ2).bind fun y ρ3 => .ok (some y) ρ3 else .ok none ρ2
def lcL (t : D → En → R (Option D)) (vs : List Nat) : List D → List D → En → R (List D)
  | [], acc, ρ => .ok acc ρ
  | d :: ds, acc, ρ => match t d (wipeE ρ vs) with
    | .ok (some y) ρ3 => if acc.length < sizeLine then lcL t vs ds (acc ++ [y]) (restE ρ ρ3 vs) else .no
    | .ok none ρ3 => lcL t vs ds acc (restE ρ ρ3 vs)
    | _ => .no
def nLc (fi : En → R (List D)) (t : D → En → R (Option D)) (vs : List Nat) : En → R (List D) := fun ρ => (fi ρ).bind fun ds ρ1 => if immE ρ1 vs = true then lcL t vs ds [] ρ1 else .no
def tT : En → R Bool := fun ρ => .ok true ρ
theorem PTs.imp {X : Cx} {e : List Expr} {t t' : TT} (h : PTs X e t) (i : ∀ σ H Q, t' σ H Q → t σ H Q) : PTs X e t' := ⟨fun pins s σ H Q I q => h.run pins s σ H Q I (i _ _ _ q)⟩
theorem vts_nil : PTs X [] (teB X.K w tT) := PTs.imp pts_nil fun σ H Q ⟨G, ρ, rel, h⟩ => h G H rel Stp.refl
theorem vts_one {c : Expr} {f : En → R Bool} (h : VT X w c f) : PTs X [c] (teB X.K w f) := pts_one h
/-- the rule's main step -/
theorem lc_go {fi : En → R (List D)} {g : D → En → R Unit} {ft : En → R Bool} {fe : En → R D} {Kf : PySem.W.Frag} {σ : L2.St} {H0 G1 H1 : Hp} {ρ1 : En} {ds : List D} {J : It} {Q : VK} (hJ : ItS Kf G1 J ds) (r1 : Rel Kf G1 H1 σ ρ1) (hH : ∀ p, H1 p = none → H0 p = none)
    (h1 : Fn Kf w G1 H1 σ ρ1 (if immE ρ1 vs = true then lcL (lcT g ft fe) vs ds [] ρ1 else .no) (QN Kf H0 σ Q)) (D0 : Addr) (hD : H1 D0 = none) :
    ∃ W : Nat → Nat → Hp → Prop, (∃ m, W 0 m (upd H1 D0 (.lst []))) ∧ ∀ i m H, W i m H →
      (J.stop i H ∧ Q (.ref D0) H) ∨ (J.go i H ∧ ∃ Nx : Hp → Prop, (∀ H', Nx H' → ∃ m', m' < m ∧ W (i + 1) m' H') ∧ ∀ x H', J.yld i H x H' →
        (fun v σ H Q => ∃ G ρ d, Rel Kf G H σ ρ ∧ DR Kf G v d ∧ FnGC vs Kf G H σ ρ (g d ρ) Q) x (L2.wipe σ vs) H' fun σ2 H2 => L2.wipe σ2 vs = L2.wipe σ vs ∧ teB Kf (w0 w) ft σ2 H2 fun b H3 =>
        if b = true then teD Kf (w0 w) fe σ2 H3 fun y H4 => ∃ acc, H4 D0 = some (.lst acc) ∧ acc.length < sizeLine ∧ Nx (upd H4 D0 (.lst (acc ++ [y]))) else Nx H3) := by
  have im : immE ρ1 vs = true := by
    cases q : immE ρ1 vs with
    | true => rfl
    | false => rw [q, if_neg (by decide)] at h1; exact h1.elim
  rw [if_pos im] at h1
  have gD : G1 D0 = none := Same.free r1.sub hD
  have oD : ¬ Own H1 σ ρ1 D0 := fun z => by obtain ⟨_, us, e⟩ := r1.own z; rw [hD] at e; cases e
  refine ⟨fun i m H => m = ds.length - i ∧ i ≤ ds.length ∧ ∃ G ρ acc, Rel Kf G H σ ρ ∧ Stp G1 H1 σ ρ1 G H σ ρ ∧ immE ρ vs = true ∧ NewAt Kf G H σ ρ D0 acc ∧ Fn Kf w G1 H1 σ ρ1 (lcL (lcT g ft fe) vs (ds.drop i) acc ρ) (QN Kf H0 σ Q),
    ⟨ds.length, rfl, Nat.zero_le _, G1, ρ1, [], r1.updN gD oD, Stp.refl.updN r1 gD oD hD, im, ⟨gD, r1.updO gD oD, [], upd_same, .nil⟩, by rw [List.drop_zero]; exact h1⟩, ?_⟩
  rintro i m H ⟨rfl, hi, G, ρ, acc, r, s, im, na, h⟩
  have sH : Same G1 H := s.g.trans r.sub
  by_cases hlt : i < ds.length
  · obtain ⟨d, hd⟩ : ∃ d, ds[i]? = some d := ⟨ds[i], List.getElem?_eq_getElem hlt⟩
    have hdrop : ds.drop i = d :: ds.drop (i + 1) := by
      rw [List.drop_eq_getElem_cons hlt]
      rw [List.getElem?_eq_getElem hlt] at hd; cases hd; rfl
    rw [hdrop] at h
    refine .inr ⟨hJ.go i H hlt sH, fun H' => ∃ G ρ acc, Rel Kf G H' σ ρ ∧ Stp G1 H1 σ ρ1 G H' σ ρ ∧ immE ρ vs = true ∧ NewAt Kf G H' σ ρ D0 acc ∧ Fn Kf w G1 H1 σ ρ1 (lcL (lcT g ft fe) vs (ds.drop (i + 1)) acc ρ) (QN Kf H0 σ Q), fun H' q => ⟨_, by omega, rfl, hlt, q⟩, fun x H' hy => ?_⟩
    obtain ⟨G', r', s', hx'⟩ := hJ.yld i H x H' d hd hy G σ ρ s.g r
    have na' := na.step s'
    obtain ⟨rw_, ow_⟩ := r'.wipe (vs := vs)
    have naw : NewAt Kf G' H' (L2.wipe σ vs) (wipeE ρ vs) D0 acc := ⟨na'.g, fun z => na'.own (ow_ _ z), na'.here⟩
    have h' : Fn Kf w G1 H1 σ ρ1 (match lcT g ft fe d (wipeE ρ vs) with
      | .ok (some y) ρ3 => if acc.length < sizeLine then lcL (lcT g ft fe) vs (ds.drop (i + 1)) (acc ++ [y]) (restE ρ ρ3 vs) else .no
      | .ok none ρ3 => lcL (lcT g ft fe) vs (ds.drop (i + 1)) acc (restE ρ ρ3 vs)
      | _ => .no) (QN Kf H0 σ Q) := h
    refine ⟨G', wipeE ρ vs, d, rw_, hx', ?_⟩
    unfold lcT at h'
    cases q1 : g d (wipeE ρ vs) with
    | no => rw [q1] at h'; exact h'.elim
    | ex c ρ' => rw [q1] at h'; exact h'.elim
    | ok u ρa =>
      rw [q1] at h'
      intro G2 H2 σ2 r2 s2 w2
      have w2' : L2.wipe σ2 vs = L2.wipe σ vs := w2.trans (wipe_wipe _ _)
      refine ⟨w2', G2, ρa, r2, ?_⟩
      have h2 : Fn Kf w G1 H1 σ ρ1 (match (ft ρa).bind fun b ρ2 => if b = true then (fe ρ2).bind fun y ρ3 => R.ok (some y) ρ3 else R.ok none ρ2 with
        | .ok (some y) ρ3 => if acc.length < sizeLine then lcL (lcT g ft fe) vs (ds.drop (i + 1)) (acc ++ [y]) (restE ρ ρ3 vs) else .no
        | .ok none ρ3 => lcL (lcT g ft fe) vs (ds.drop (i + 1)) acc (restE ρ ρ3 vs)
        | _ => .no) (QN Kf H0 σ Q) := h'
      cases q2 : ft ρa with
      | no => rw [q2] at h2; exact h2.elim
      | ex c ρ' => rw [q2] at h2; exact h2.elim
      | ok b ρb =>
        rw [q2] at h2
        intro G3 H3 r3 s3
        cases b with
        | false =>
          have S := s2.trans rw_ s3
          obtain ⟨rb, sb, ib⟩ := Rel.unwipe r' im w2' r3 S
          exact iteF ⟨G3, restE ρ ρb vs, acc, rb, (s.trans r1 s').trans r1 sb, ib, na'.step sb, h2⟩
        | true =>
          refine iteT ⟨G3, ρb, r3, ?_⟩
          have h3 : Fn Kf w G1 H1 σ ρ1 (match (fe ρb).bind fun y ρ3 => R.ok (some y) ρ3 with
            | .ok (some y) ρ3 => if acc.length < sizeLine then lcL (lcT g ft fe) vs (ds.drop (i + 1)) (acc ++ [y]) (restE ρ ρ3 vs) else .no
            | .ok none ρ3 => lcL (lcT g ft fe) vs (ds.drop (i + 1)) acc (restE ρ ρ3 vs)
            | _ => .no) (QN Kf H0 σ Q) := h2
          cases q3 : fe ρb with
          | no => rw [q3] at h3; exact h3.elim
          | ex c ρ' => rw [q3] at h3; exact h3.elim
          | ok y ρc =>
            rw [q3] at h3
            intro G4 H4 r4 s4 v hv
            have h4 : Fn Kf w G1 H1 σ ρ1 (if acc.length < sizeLine then lcL (lcT g ft fe) vs (ds.drop (i + 1)) (acc ++ [y]) (restE ρ ρc vs) else .no) (QN Kf H0 σ Q) := h3
            by_cases hz : acc.length < sizeLine
            · rw [if_pos hz] at h4
              have S := s2.trans rw_ (s3.trans r2 s4)
              obtain ⟨rb, sb, ib⟩ := Rel.unwipe r' im w2' r4 S
              have nb := na'.step sb
              obtain ⟨us, hu, hds⟩ := nb.here
              have sN : Stp G1 H1 σ ρ1 G4 H4 σ (restE ρ ρc vs) := (s.trans r1 s').trans r1 sb
              exact ⟨us, hu, by rw [hds.length]; exact hz, G4, restE ρ ρc vs, acc ++ [y], rb.updN nb.g nb.own, sN.updN rb nb.g nb.own hD, ib, ⟨nb.g, rb.updO nb.g nb.own, us ++ [v], upd_same, hds.append (.cons hv .nil)⟩, h4⟩
            · rw [if_neg hz] at h4; exact h4.elim
  · have e : i = ds.length := by omega
    subst e
    refine .inl ⟨hJ.stop H sH, ?_⟩
    rw [List.drop_length] at h
    exact h G H r s D0 ⟨na.g, na.own, na.here, hH D0 hD⟩
theorem lc_imp {fi : En → R (List D)} {g : D → En → R Unit} {ft : En → R Bool} {fe : En → R D} {K : PySem.W.Frag} {σ : L2.St} {H : Hp} {Q : VK} (h : teN K w (nLc fi (lcT g ft fe) vs) σ H Q) :
    tLc (fun σ H R => ∃ G ρ, Rel K G H σ ρ ∧ Fn K w G H σ ρ (fi ρ) (fun G1 H1 _ ds => ∀ J, ItS K G1 J ds → R J H1)) (fun v σ H Q => ∃ G ρ d, Rel K G H σ ρ ∧ DR K G v d ∧ FnGC vs K G H σ ρ (g d ρ) Q) (teB K (w0 w) ft) (teD K (w0 w) fe) vs σ H Q := by
  obtain ⟨G, ρ, rel, h⟩ := h
  exact ⟨G, ρ, rel, (Fn.bind rel h).imp fun G1 H1 ρ1 ds ⟨r1, s1, h1⟩ J hJ D0 hD =>
    lc_go (fi := fi) hJ r1 (fun p hp => by cases q : H p with | none => rfl | some o => exact absurd hp (s1.tr p (by rw [q]; exact fun z => nomatch z))) h1 D0 hD⟩
theorem vn_lc {tg iter elt : Expr} {ifs : List Expr} {scope : Scope} {own : List (Str × Nat)} {fi : En → R (List D)} {g : D → En → R Unit} {ft : En → R Bool} {fe : En → R D} (hc : X.calm = true) (hN : X.N.Nodup) (hi : VI X w tg iter fi) (ok : blkC X.N X.env.scope scope own = true)
    (hg : ∀ (s : Shared) (H : Hp) (C : Addr) (cl : List (Str × Addr)) (fp : List Addr), VGc (X.blk s H scope (compEnvC scope cl C X.env) fp) (own.map (·.2)) tg g) (ht : ∀ (s : Shared) (H : Hp) (C : Addr) (cl : List (Str × Addr)) (fp : List Addr), PTs (X.blk s H scope (compEnvC scope cl C X.env) fp) ifs (teB X.K (w0 w) ft))
    (he : ∀ (s : Shared) (H : Hp) (C : Addr) (cl : List (Str × Addr)) (fp : List Addr), VE (X.blk s H scope (compEnvC scope cl C X.env) fp) (w0 w) elt fe) (hs : ∀ x, foldedSetIterable iter X.env x = pure x := by intro _; rfl) :
    VN X w (.ListComp elt [⟨tg, iter, ifs, 0⟩] scope pos) (nLc fi (lcT g ft fe) (own.map (·.2))) :=
  PE.imp (pe_lc hc hN hi (blkOk_by ok) hg ht he hs) fun σ H Q h => lc_imp h
theorem setL_fn {K : PySem.W.Frag} {G H : Hp} {σ : L2.St} {ρ : En} {fl : En → R (List D)} {i : Nat} {Z : Ends} (rel : Rel K G H σ ρ) (h : FnS K w G H σ ρ (dAsgL i fl ρ) Z) : Fn K w G H σ ρ (fl ρ) (QN K H σ fun x H1 => gName i x σ H1 Z.nx) := by
  unfold dAsgL at h
  cases q : fl ρ with
  | no => rw [q] at h; exact h
  | ex c ρ' => rw [q] at h; exact fun G' H' cls dx r1 s1 x => h G' H' σ cls dx r1 s1 x
  | ok ds ρ' =>
    rw [q] at h
    intro G1 H1 r1 s1 p n
    have h' : FnS K w G H σ ρ ((putOw i ds ρ').bind fun _ ρ2 => .ok .nx ρ2) Z := h
    unfold putOw at h'
    split at h'
    · rename_i hf
      obtain ⟨c, hc, hb, ht⟩ := free_ok hf
      exact FnS.nx (show FnS K w G H σ ρ (.ok .nx (ρ'.set i (some (.ow ds)))) Z from h') (r1.putL hc n.g n.own n.here).1 (s1.putL r1 hc hb ht n.g n.own n.here n.new)
    · exact h'.elim
def dFz (f : En → R (List D)) : En → R D := fun ρ => (f ρ).bind fun ds ρ1 => .ok (.list ds) ρ1
theorem Rel.fixN {K : PySem.W.Frag} {G0 H0 G H : Hp} {σ : L2.St} {ρ0 ρ : En} {p : Addr} {us : List V} {ds : List D} (r : Rel K G H σ ρ) (s : Stp G0 H0 σ ρ0 G H σ ρ) (hg : G p = none) (ho : ¬ Own H σ ρ p) (hu : H p = some (.lst us)) (hd : DRs K G us ds) (hp : H0 p = none) :
    Rel K (upd G p (.lst us)) H σ ρ ∧ Stp G0 H0 σ ρ0 (upd G p (.lst us)) H σ ρ ∧ DR K (upd G p (.lst us)) (.ref p) (.list ds) := by
  obtain ⟨r', sg, hv, fr⟩ := r.settle hg ho hu hd
  refine ⟨r', ⟨s.g.trans sg, s.h, fun a e => ?_, s.ow, s.tr, s.ln, s.bo, s.bt⟩, hv⟩
  rcases fr a e with z | rfl
  · exact s.fr a z
  · exact .inr (.inl hp)
theorem ve_fz {f : En → R (List D)} (h : VN X w e f) : VE X w e (dFz f) := PE.imp h fun σ H Q ⟨G, ρ, rel, h⟩ => ⟨G, ρ, rel, by
  unfold dFz at h
  cases q : f ρ with
  | no => rw [q] at h; exact h
  | ex c ρ' => rw [q] at h; exact h
  | ok ds ρ' =>
    rw [q] at h
    have h' : Fn X.K w G H σ ρ (.ok (.list ds) ρ') (QD X.K Q) := h
    intro G1 H1 r1 s1 p n
    obtain ⟨us, hu, hd⟩ := n.here
    obtain ⟨r2, s2, hv⟩ := r1.fixN s1 n.g n.own hu hd n.new
    exact h' _ _ r2 s2 _ hv⟩
/-- a new list, a datum at once -/
theorem setI_fn {K : PySem.W.Frag} {G H : Hp} {σ : L2.St} {ρ : En} {fl : En → R (List D)} {i : Nat} {Z : Ends} (rel : Rel K G H σ ρ) (h : FnS K w G H σ ρ (dAsg (putIm i) (dFz fl) ρ) Z) : Fn K w G H σ ρ (fl ρ) (QN K H σ fun x H1 => gName i x σ H1 Z.nx) := by
  unfold dAsg dFz at h
  cases q : fl ρ with
  | no => rw [q] at h; exact h
  | ex c ρ' => rw [q] at h; exact fun G' H' cls dx r1 s1 x => h G' H' σ cls dx r1 s1 x
  | ok ds ρ' =>
    rw [q] at h
    intro G1 H1 r1 s1 p n
    have h' : FnS K w G H σ ρ ((putIm i (.list ds) ρ').bind fun _ ρ2 => .ok .nx ρ2) Z := h
    unfold putIm at h'
    split at h'
    · rename_i hf
      obtain ⟨c, hc, hb, ht⟩ := free_ok hf
      have hi : i < ρ'.length := (List.getElem?_eq_some_iff.mp hc).1
      have r2 := (r1.putL hc n.g n.own n.here).1
      have s2 := s1.putL (ds := ds) r1 hc hb ht n.g n.own n.here n.new
      obtain ⟨G3, o, sv, r3, s3, _⟩ := r2.freeze (i := i) (ds := ds) (List.getElem?_set_self hi)
      have e : frz i ds (ρ'.set i (some (.ow ds))) = ρ'.set i (some (.im (.list ds))) := by unfold frz; rw [List.set_set]
      rw [e] at r3 s3
      exact FnS.nx (show FnS K w G H σ ρ (.ok .nx (ρ'.set i (some (.im (.list ds))))) Z from h') r3 (s2.trans rel s3)
    · exact h'.elim
section
variable {tg iter elt : Expr} {ifs : List Expr} {scope : Scope} {own : List (Str × Nat)} {fi : En → R (List D)} {gt : D → En → R Unit} {ft : En → R Bool} {fe : En → R D} {py spos : Pos}
/-- name = [..] on one line -/
theorem vs_setLc (i : Nat) (hc : X.calm = true) (hN : X.N.Nodup) (hsw : swapsWith (.ListComp elt [⟨tg, iter, ifs, 0⟩] scope pos) (some (.Name x py)) spos.line X.env = pure true) (hi : VI X w tg iter fi) (ok : blkC X.N X.env.scope scope own = true)
    (hg : ∀ (s : Shared) (H : Hp) (C : Addr) (cl : List (Str × Addr)) (fp : List Addr), VGc (X.blk s H scope (compEnvC scope cl C X.env) fp) (own.map (·.2)) tg gt) (ht : ∀ (s : Shared) (H : Hp) (C : Addr) (cl : List (Str × Addr)) (fp : List Addr), PTs (X.blk s H scope (compEnvC scope cl C X.env) fp) ifs (teB X.K (w0 w) ft))
    (he : ∀ (s : Shared) (H : Hp) (C : Addr) (cl : List (Str × Addr)) (fp : List Addr), VE (X.blk s H scope (compEnvC scope cl C X.env) fp) (w0 w) elt fe) (hy : X.N[i]? = some x := by rfl) (hyl : X.env.scope.names.lookup x = some .local := by rfl) (hs : ∀ x, foldedSetIterable iter X.env x = pure x := by intro _; rfl) :
    VS X w (.Assign [.Name x py] (.ListComp elt [⟨tg, iter, ifs, 0⟩] scope pos) spos) (dAsgL i (nLc fi (lcT gt ft fe) (own.map (·.2)))) :=
  PS.imp (ps_setLc hc hN hy hyl hsw hi (blkOk_by ok) hg ht he hs) fun Z σ H ⟨G, ρ, rel, h⟩ => lc_imp ⟨G, ρ, rel, setL_fn rel h⟩
theorem vs_setLi (i : Nat) (hc : X.calm = true) (hN : X.N.Nodup) (hsw : swapsWith (.ListComp elt [⟨tg, iter, ifs, 0⟩] scope pos) (some (.Name x py)) spos.line X.env = pure true) (hi : VI X w tg iter fi) (ok : blkC X.N X.env.scope scope own = true)
    (hg : ∀ (s : Shared) (H : Hp) (C : Addr) (cl : List (Str × Addr)) (fp : List Addr), VGc (X.blk s H scope (compEnvC scope cl C X.env) fp) (own.map (·.2)) tg gt) (ht : ∀ (s : Shared) (H : Hp) (C : Addr) (cl : List (Str × Addr)) (fp : List Addr), PTs (X.blk s H scope (compEnvC scope cl C X.env) fp) ifs (teB X.K (w0 w) ft))
    (he : ∀ (s : Shared) (H : Hp) (C : Addr) (cl : List (Str × Addr)) (fp : List Addr), VE (X.blk s H scope (compEnvC scope cl C X.env) fp) (w0 w) elt fe) (hy : X.N[i]? = some x := by rfl) (hyl : X.env.scope.names.lookup x = some .local := by rfl) (hs : ∀ x, foldedSetIterable iter X.env x = pure x := by intro _; rfl) :
    VS X w (.Assign [.Name x py] (.ListComp elt [⟨tg, iter, ifs, 0⟩] scope pos) spos) (dAsg (putIm i) (dFz (nLc fi (lcT gt ft fe) (own.map (·.2))))) :=
  PS.imp (ps_setLc hc hN hy hyl hsw hi (blkOk_by ok) hg ht he hs) fun Z σ H ⟨G, ρ, rel, h⟩ => lc_imp ⟨G, ρ, rel, setI_fn rel h⟩
end
/-! reckoning -/
theorem lcL_fm {t : D → En → R (Option D)} {vs : List Nat} {f : D → Option D} {ρ : En} : ∀ {ds acc : List D}, (∀ d ∈ ds, ∃ ρ3, t d (wipeE ρ vs) = .ok (f d) ρ3 ∧ restE ρ ρ3 vs = ρ) → acc.length + ds.length ≤ sizeLine → lcL t vs ds acc ρ = .ok (acc ++ ds.filterMap f) ρ
  | [], acc, _, _ => by rw [lcL, List.filterMap_nil, List.append_nil]
  | d :: ds, acc, h, hl => by
    obtain ⟨ρ3, e1, e2⟩ := h d List.mem_cons_self
    rw [lcL, e1]
    have hl' : acc.length + (ds.length + 1) ≤ sizeLine := hl
    cases q : f d with
    | none =>
      show lcL t vs ds acc (restE ρ ρ3 vs) = _
      rw [e2, lcL_fm (fun d hd => h d (List.mem_cons_of_mem _ hd)) (by omega), List.filterMap_cons, q]
    | some y =>
      show (if acc.length < sizeLine then lcL t vs ds (acc ++ [y]) (restE ρ ρ3 vs) else .no) = _
      rw [if_pos (by omega), e2, lcL_fm (fun d hd => h d (List.mem_cons_of_mem _ hd)) (by rw [List.length_append]; simp; omega), List.filterMap_cons, q]
      simp
theorem lcL_map {t : D → En → R (Option D)} {vs : List Nat} {f : D → D} {ρ : En} {ds : List D} (h : ∀ d ∈ ds, ∃ ρ3, t d (wipeE ρ vs) = .ok (some (f d)) ρ3 ∧ restE ρ ρ3 vs = ρ) (hl : ds.length ≤ sizeLine) : lcL t vs ds [] ρ = .ok (ds.map f) ρ := by
  rw [lcL_fm (f := fun d => some (f d)) h (by simpa using hl), List.nil_append, List.filterMap_eq_map']
@[simp] theorem nLc_eq (fi : En → R (List D)) (t : D → En → R (Option D)) (vs : List Nat) (ρ : En) : nLc fi t vs ρ = (fi ρ).bind fun ds ρ1 => if immE ρ1 vs = true then lcL t vs ds [] ρ1 else .no := rfl
@[simp] theorem dFz_eq (f : En → R (List D)) (ρ : En) : dFz f ρ = (f ρ).bind fun ds ρ1 => .ok (.list ds) ρ1 := rfl
@[simp] theorem lcT_eq (g : D → En → R Unit) (ft : En → R Bool) (fe : En → R D) (d : D) (ρ : En) : lcT g ft fe d ρ = (g d ρ).bind fun _ ρ1 => (ft ρ1).bind fun b ρ2 => if b = true then (fe ρ2).bind fun y ρ3 => .ok (some y) ρ3 else .ok none ρ2 := rfl
@[simp] theorem tT_eq (ρ : En) : tT ρ = .ok true ρ := rfl
end
end Dn
namespace Dn
open PySem PySem.Spec PyProof.Rows L2
/-! ### calls over lists -/
def asInt : D → Option Int
  | .int i => some i
  | _ => none
def asBool : D → Option Bool
  | .bool i => some i
  | _ => none
def asStr : D → Option Str
  | .str i => some i
  | _ => none
def allOf {α : Type} (f : D → Option α) : List D → Option (List α)
  | [] => some []
  | d :: r => (f d).bind fun a => (allOf f r).map (a :: ·)
theorem allOf_eq {α : Type} {f : D → Option α} {g : α → D} (hg : ∀ d a, f d = some a → d = g a) : ∀ {ds : List D} {ns : List α}, allOf f ds = some ns → ds = ns.map g
  | [], ns, h => by cases h; rfl
  | d :: ds, ns, h => by
    simp only [allOf, Option.bind_eq_some_iff, Option.map_eq_some_iff] at h
    obtain ⟨a, h1, r, h2, rfl⟩ := h
    rw [hg d a h1, allOf_eq hg h2]; rfl
theorem allOf_map {α : Type} {f : D → Option α} {g : α → D} (hg : ∀ a, f (g a) = some a) : ∀ l : List α, allOf f (l.map g) = some l
  | [] => rfl
  | a :: l => by rw [List.map_cons, allOf, hg, allOf_map hg l]; rfl
theorem mapM_ints {ds : List D} {ns : List Int} (h : allOf asInt ds = some ns) : ds = ns.map .int := allOf_eq (fun d a e => by cases d <;> cases e; rfl) h
theorem mapM_bools {ds : List D} {ns : List Bool} (h : allOf asBool ds = some ns) : ds = ns.map .bool := allOf_eq (fun d a e => by cases d <;> cases e; rfl) h
theorem mapM_strs {ds : List D} {ns : List Str} (h : allOf asStr ds = some ns) : ds = ns.map .str := allOf_eq (fun d a e => by cases d <;> cases e; rfl) h
@[simp] theorem ints_map (l : List Int) : allOf asInt (l.map PyData.int) = some l := allOf_map (g := PyData.int) (fun _ => rfl) l
@[simp] theorem ints_map' {α : Type} (f : α → Int) (l : List α) : allOf asInt (l.map fun x => PyData.int (f x)) = some (l.map f) := by
  have : (l.map fun x => PyData.int (f x)) = (l.map f).map PyData.int := by rw [List.map_map]; rfl
  rw [this, ints_map]
@[simp] theorem bools_map (l : List Bool) : allOf asBool (l.map PyData.bool) = some l := allOf_map (g := PyData.bool) (fun _ => rfl) l
@[simp] theorem bools_map' {α : Type} (f : α → Bool) (l : List α) : allOf asBool (l.map fun x => PyData.bool (f x)) = some (l.map f) := by
  have : (l.map fun x => PyData.bool (f x)) = (l.map f).map PyData.bool := by rw [List.map_map]; rfl
  rw [this, bools_map]
@[simp] theorem strs_map (l : List Str) : allOf asStr (l.map PyData.str) = some l := allOf_map (g := PyData.str) (fun _ => rfl) l
@[simp] theorem strs_map' {α : Type} (f : α → Str) (l : List α) : allOf asStr (l.map fun x => PyData.str (f x)) = some (l.map f) := by
  have : (l.map fun x => PyData.str (f x)) = (l.map f).map PyData.str := by rw [List.map_map]; rfl
  rw [this, strs_map]
@[simp] theorem ints_comp {α : Type} (f : α → Int) (l : List α) : allOf asInt (l.map (PyData.int ∘ f)) = some (l.map f) := ints_map' f l
@[simp] theorem bools_comp {α : Type} (f : α → Bool) (l : List α) : allOf asBool (l.map (PyData.bool ∘ f)) = some (l.map f) := bools_map' f l
@[simp] theorem strs_comp {α : Type} (f : α → Str) (l : List α) : allOf asStr (l.map (PyData.str ∘ f)) = some (l.map f) := strs_map' f l
def gSum : List D → Option D
  | [.list ds] => (allOf asInt ds).map fun ns => .int ns.sum
  | _ => none
def gMaxL : List D → Option D
  | [.list ds] => (allOf asInt ds).bind fun ns => ns.max?.map .int
  | _ => none
def gMinL : List D → Option D
  | [.list ds] => (allOf asInt ds).bind fun ns => ns.min?.map .int
  | _ => none
def gAll : List D → Option D
  | [.list ds] => (allOf asBool ds).map fun bs => .bool (bs.all id)
  | _ => none
def gAny : List D → Option D
  | [.list ds] => (allOf asBool ds).map fun bs => .bool (bs.any id)
  | _ => none
def gList : List D → Option D
  | [.list ds] => some (.list ds)
  | [.tuple ds] => some (.list ds)
  | _ => none
def gTuple : List D → Option D
  | [.list ds] => some (.tuple ds)
  | [.tuple ds] => some (.tuple ds)
  | _ => none
section
variable {K : PySem.W.Frag}
theorem DR.lst' {G : Hp} {v : V} {ds : List D} (h : DR K G v (.list ds)) : ∃ a vs, v = .ref a ∧ SqL K G a vs ∧ DRs K G vs ds := by
  cases h with
  | lst h hs => exact ⟨_, _, rfl, h, hs⟩
theorem DR.tup' {G : Hp} {v : V} {ds : List D} (h : DR K G v (.tuple ds)) : ∃ a vs, v = .ref a ∧ SqT K G a vs ∧ DRs K G vs ds := by
  cases h with
  | tup h hs => exact ⟨_, _, rfl, h, hs⟩
theorem one_of {α : Type} {g : List D → Option α} {ds : List D} {d : α} (h : ∀ a b t, g (a :: b :: t) = none) (h0 : g [] = none) (e : g ds = some d) : ∃ x, ds = [x] := by
  rcases ds with _ | ⟨x, _ | ⟨y, t⟩⟩
  · rw [h0] at e; cases e
  · exact ⟨x, rfl⟩
  · rw [h] at e; cases e
theorem cs_sum : CallS K (rSum K) gSum := cs1 (fun ds d e => one_of (fun a b t => by cases a <;> rfl) rfl e) fun v x d G H σ ρ Q rel h e q => by
  cases x with
  | list ds =>
    simp only [gSum, Option.map_eq_some_iff] at e
    obtain ⟨ns, e, rfl⟩ := e
    obtain ⟨a, vs, rfl, h, hs⟩ := h.lst'
    rw [mapM_ints e] at hs
    rw [hs.ints] at h
    exact ⟨a, ns, rfl, rel.sub.seq h, q _ (.int _)⟩
  | _ => cases e
theorem cs_maxL : CallS K (rMax K) gMaxL := cs1 (fun ds d e => one_of (fun a b t => by cases a <;> rfl) rfl e) fun v x d G H σ ρ Q rel h e q => by
  cases x with
  | list ds =>
    simp only [gMaxL, Option.bind_eq_some_iff, Option.map_eq_some_iff] at e
    obtain ⟨ns, e, m, hm, rfl⟩ := e
    obtain ⟨a, vs, rfl, h, hs⟩ := h.lst'
    rw [mapM_ints e] at hs
    rw [hs.ints] at h
    have hne : ns ≠ [] := by intro z; subst z; cases hm
    refine ⟨a, ns, rfl, rel.sub.seq h, List.length_pos_iff.mpr hne, fun k hk hle => ?_⟩
    have : k = m := by
      rw [List.max?_eq_some_iff] at hm
      have h1 := hle m hm.1
      have h2 := hm.2 k hk
      omega
    subst this
    exact q _ (.int _)
  | _ => cases e
theorem cs_minL : CallS K (rMin K) gMinL := cs1 (fun ds d e => one_of (fun a b t => by cases a <;> rfl) rfl e) fun v x d G H σ ρ Q rel h e q => by
  cases x with
  | list ds =>
    simp only [gMinL, Option.bind_eq_some_iff, Option.map_eq_some_iff] at e
    obtain ⟨ns, e, m, hm, rfl⟩ := e
    obtain ⟨a, vs, rfl, h, hs⟩ := h.lst'
    rw [mapM_ints e] at hs
    rw [hs.ints] at h
    have hne : ns ≠ [] := by intro z; subst z; cases hm
    refine ⟨a, ns, rfl, rel.sub.seq h, List.length_pos_iff.mpr hne, fun k hk hle => ?_⟩
    have : k = m := by
      rw [List.min?_eq_some_iff] at hm
      have h1 := hle m hm.1
      have h2 := hm.2 k hk
      omega
    subst this
    exact q _ (.int _)
  | _ => cases e
theorem cs_all : CallS K (rAll K) gAll := cs1 (fun ds d e => one_of (fun a b t => by cases a <;> rfl) rfl e) fun v x d G H σ ρ Q rel h e q => by
  cases x with
  | list ds =>
    simp only [gAll, Option.map_eq_some_iff] at e
    obtain ⟨ns, e, rfl⟩ := e
    obtain ⟨a, vs, rfl, h, hs⟩ := h.lst'
    rw [mapM_bools e] at hs
    rw [hs.bools] at h
    exact ⟨a, ns, rfl, rel.sub.seq h, q _ (.bl _)⟩
  | _ => cases e
theorem cs_any : CallS K (rAny K) gAny := cs1 (fun ds d e => one_of (fun a b t => by cases a <;> rfl) rfl e) fun v x d G H σ ρ Q rel h e q => by
  cases x with
  | list ds =>
    simp only [gAny, Option.map_eq_some_iff] at e
    obtain ⟨ns, e, rfl⟩ := e
    obtain ⟨a, vs, rfl, h, hs⟩ := h.lst'
    rw [mapM_bools e] at hs
    rw [hs.bools] at h
    exact ⟨a, ns, rfl, rel.sub.seq h, q _ (.bl _)⟩
  | _ => cases e
abbrev rListOf (K : PySem.W.Frag) : List V → Hp → VK → Prop := fun xs H Q => ∃ p ys, xs = [.ref p] ∧ (SqL K H p ys ∨ SqT K H p ys) ∧ ∀ l, H l = none → Q (.ref l) (upd H l (.lst ys))
theorem cs_list : CallS K (rListOf K) gList := fun vs ds d G H σ ρ Q rel h e q => by
  obtain ⟨x, rfl⟩ := one_of (fun a b t => by cases a <;> rfl) rfl e
  cases h with
  | cons h t =>
    cases t
    cases x with
    | list ds =>
      cases e
      obtain ⟨a, vs, rfl, h, hs⟩ := h.lst'
      exact ⟨a, vs, rfl, .inl (rel.sub.seq h), hand_new rel q (DR.newL rel hs)⟩
    | tuple ds =>
      cases e
      obtain ⟨a, vs, rfl, h, hs⟩ := h.tup'
      exact ⟨a, vs, rfl, .inr (Same.tup rel.sub h), hand_new rel q (DR.newL rel hs)⟩
    | _ => cases e
abbrev rTupleOf (K : PySem.W.Frag) : List V → Hp → VK → Prop := fun xs H Q => ∃ p ys, xs = [.ref p] ∧ ((SqL K H p ys ∧ ∀ l, H l = none → Q (.ref l) (upd H l (.tup ys))) ∨ (SqT K H p ys ∧ Q (.ref p) H))
theorem cs_tuple : CallS K (rTupleOf K) gTuple := fun vs ds d G H σ ρ Q rel h e q => by
  obtain ⟨x, rfl⟩ := one_of (fun a b t => by cases a <;> rfl) rfl e
  cases h with
  | cons h t =>
    cases t
    cases x with
    | list ds =>
      cases e
      obtain ⟨a, vs, rfl, h, hs⟩ := h.lst'
      exact ⟨a, vs, rfl, .inl ⟨rel.sub.seq h, hand_new rel q (DR.newT rel hs)⟩⟩
    | tuple ds =>
      cases e
      obtain ⟨a, vs, rfl, h, hs⟩ := h.tup'
      exact ⟨a, vs, rfl, .inr ⟨Same.tup rel.sub h, q _ _ rel Stp.refl _ (.tup h hs)⟩⟩
    | _ => cases e
end
/-! list(..) as a new list of one's own -/
def asL : D → Option (List D)
  | .list ds => some ds
  | .tuple ds => some ds
  | _ => none
def nList (f : En → R D) : En → R (List D) := fun ρ => (f ρ).bind fun d ρ1 => lift (asL d) ρ1
section
variable {X : Cx} {w : Wh} {p pos : Pos} {e o : Expr} {fe fo : En → R D}
theorem vn_list (hg : Gl X "list") (hm : X.mg "list" = none) (ha : VE X w e fe) (he : starEach [e] X.env = (false, eval e X.env) :: starEach [] X.env := by rfl) (hpl : (backTo pos (starEach [] X.env)).any (·.1) = false := by rfl) : VN X w (.Call (.Name "list" p) [e] [] pos) (nList fe) :=
  PE.imp (pe_callTy call_list_of hg hm boot_ty_list (pa_cons ha pa_nil he) (by decide) (by decide) he hpl) fun σ H Q ⟨G, ρ, rel, h⟩ => ⟨G, ρ, rel, (Fn.bind rel h).imp fun G1 H1 ρ1 d ⟨r1, s1, h1⟩ v hv => by
    obtain ⟨ds, e, q⟩ := Fn.lift h1
    have fin : ∀ us, DRs X.K G1 us ds → ∀ l, H1 l = none → Q (.ref l) (upd H1 l (.lst us)) := fun us hd l hl => by
      obtain ⟨r2, s2⟩ := r1.laidM (o := .lst us) hl
      exact q _ _ r2 s2 l (NewL.of rel r1 s1 hl hd)
    cases d with
    | list ds' =>
      cases e
      obtain ⟨a, vs, rfl, h, hs⟩ := hv.lst'
      exact ⟨a, vs, rfl, .inl (r1.sub.seq h), fin _ hs⟩
    | tuple ds' =>
      cases e
      obtain ⟨a, vs, rfl, h, hs⟩ := hv.tup'
      exact ⟨a, vs, rfl, .inr (Same.tup r1.sub h), fin _ hs⟩
    | _ => cases e⟩
/-! ### a text's methods -/
def MS0 (K : PySem.W.Frag) (r : V → List V → Hp → VK → Prop) (g : Str → Option D) : Prop :=
  ∀ (a : Str) (d : D) (G H : Hp) (σ : L2.St) (ρ : En) (Q : VK), Rel K G H σ ρ → g a = some d → (∀ G' H', Rel K G' H' σ ρ → Stp G H σ ρ G' H' σ ρ → ∀ v, DR K G' v d → Q v H') → r (.str a) [] H Q
def MS1 (K : PySem.W.Frag) (r : V → List V → Hp → VK → Prop) (g : Str → D → Option D) : Prop :=
  ∀ (a : Str) (v : V) (y d : D) (G H : Hp) (σ : L2.St) (ρ : En) (Q : VK), Rel K G H σ ρ → DR K G v y → g a y = some d → (∀ G' H', Rel K G' H' σ ρ → Stp G H σ ρ G' H' σ ρ → ∀ v, DR K G' v d → Q v H') → r (.str a) [v] H Q
def dM0 (g : Str → Option D) (fo : En → R D) : En → R D := fun ρ => (fo ρ).bind fun x ρ1 => (lift (asStr x) ρ1).bind fun a ρ2 => lift (g a) ρ2
def dM1 (g : Str → D → Option D) (fo fe : En → R D) : En → R D := fun ρ => (fo ρ).bind fun x ρ1 => (lift (asStr x) ρ1).bind fun a ρ2 => (fe ρ2).bind fun y ρ3 => lift (g a y) ρ3
theorem DR.str' {K : PySem.W.Frag} {G : Hp} {v : V} {d : D} {a : Str} (h : DR K G v d) (e : asStr d = some a) : v = .str a := by
  cases h with
  | str x => cases e; rfl
  | _ => cases e
theorem ve_m0 {id : String} {name : Str} {apos : Pos} {r : V → List V → Hp → VK → Prop} {g : Str → Option D} (slot : Slot "str" name id) (ty : typeOf (.builtin id) = pure (.type "method_descriptor")) (rule : MtR X id r) (sp : MS0 X.K r g) (ho : VE X w o fo)
    (hbase : attributeBase o name X.env (eval o X.env) = eval o X.env := by rfl) (hline : (apos.endLine == pos.line) = true := by rfl) : VE X w (.Call (.Attribute o name apos) [] [] pos) (dM0 g fo) :=
  PE.imp (pe_m0 slot ty rule ho hbase hline) fun σ H Q ⟨G, ρ, rel, h⟩ => ⟨G, ρ, rel, (Fn.bind rel h).imp fun G1 H1 ρ1 x ⟨r1, s1, h1⟩ v hv => by
    obtain ⟨a, e1, h3⟩ : ∃ a, asStr x = some a ∧ Fn X.K w G1 H1 σ ρ1 (lift (g a) ρ1) (QD X.K Q) := by
      cases q : asStr x with
      | none => rw [q] at h1; exact h1.elim
      | some a => rw [q] at h1; exact ⟨a, rfl, h1⟩

    have := hv.str' e1
    subst this
    obtain ⟨d, e, q⟩ := Fn.lift h3
    exact ⟨⟨_, rfl⟩, sp _ d G1 H1 σ ρ1 Q r1 e q⟩⟩
theorem ve_m1 {id : String} {name : Str} {apos : Pos} {r : V → List V → Hp → VK → Prop} {g : Str → D → Option D} (slot : Slot "str" name id) (ty : typeOf (.builtin id) = pure (.type "method_descriptor")) (rule : MtR X id r) (sp : MS1 X.K r g) (ho : VE X w o fo) (he : VE X w e fe)
    (hs : starEach [e] X.env = [(false, eval e X.env)] := by rfl) (hbase : attributeBase o name X.env (eval o X.env) = eval o X.env := by rfl) (hline : (apos.endLine == pos.line) = true := by rfl) : VE X w (.Call (.Attribute o name apos) [e] [] pos) (dM1 g fo fe) :=
  PE.imp (pe_m1 slot ty rule ho he hs hbase hline) fun σ H Q ⟨G, ρ, rel, h⟩ => ⟨G, ρ, rel, (Fn.bind rel h).imp fun G1 H1 ρ1 x ⟨r1, s1, h1⟩ v hv => by
    obtain ⟨a, e1, h2⟩ : ∃ a, asStr x = some a ∧ Fn X.K w G1 H1 σ ρ1 ((fe ρ1).bind fun y ρ3 => lift (g a y) ρ3) (QD X.K Q) := by
      cases q : asStr x with
      | none => rw [q] at h1; exact h1.elim
      | some a => rw [q] at h1; exact ⟨a, rfl, h1⟩
    have := hv.str' e1
    subst this
    refine ⟨⟨_, rfl⟩, G1, ρ1, r1, (Fn.bind r1 h2).imp fun G2 H2 ρ2 y ⟨r2, s2, h3⟩ u hu => ?_⟩
    obtain ⟨d, e, q⟩ := Fn.lift h3
    exact sp a u y d G2 H2 σ ρ2 Q r2 hu e q⟩
end
section
variable {K : PySem.W.Frag}
theorem newStrs {G H : Hp} {σ : L2.St} {ρ : En} {Q : VK} {ys : List Str} (rel : Rel K G H σ ρ) (q : ∀ G' H', Rel K G' H' σ ρ → Stp G H σ ρ G' H' σ ρ → ∀ v, DR K G' v (.list (ys.map .str)) → Q v H') : rNewStrs ys H Q := hand_new rel q (DR.newL rel (DRs.ofStrs ys))
def gPart (a : Str) : D → Option D
  | .str b => if (b.length == 0) = false ∧ a.length ≤ sizeLine then some (.tuple [.str (Txt.partition a b).1, .str (Txt.partition a b).2.1, .str (Txt.partition a b).2.2]) else none
  | _ => none
theorem ms_part : MS1 K (fun x xs H Q => ∃ a b, x = .str a ∧ xs = [.str b] ∧ (b.length == 0) = false ∧ a.length ≤ sizeLine ∧
    ∀ p, H p = none → Q (.ref p) (upd H p (.tup [.str (Txt.partition a b).1, .str (Txt.partition a b).2.1, .str (Txt.partition a b).2.2]))) gPart := fun a v y d G H σ ρ Q rel hv e q => by
  cases hv with
  | str b =>
    simp only [gPart] at e
    split at e
    · rename_i h; cases e
      exact ⟨a, b, rfl, rfl, h.1, h.2, hand_new rel q (DR.newT rel (.cons (.str _) (.cons (.str _) (.cons (.str _) .nil))))⟩
    · cases e
  | _ => cases e
def gJoinL (a : Str) (ds : List D) : Option D := (allOf asStr ds).bind fun ys => if (ys.map (·.length)).sum + ys.length * a.length ≤ 16777216 then some (.str (Txt.join a ys)) else none
def gJoin (a : Str) : D → Option D
  | .list ds => gJoinL a ds
  | .tuple ds => gJoinL a ds
  | _ => none
theorem gJoinL_ok {a : Str} {ds : List D} {d : D} (e : gJoinL a ds = some d) : ∃ ys : List Str, ds = ys.map .str ∧ (ys.map (·.length)).sum + ys.length * a.length ≤ 16777216 ∧ d = .str (Txt.join a ys) := by
  simp only [gJoinL, Option.bind_eq_some_iff] at e
  obtain ⟨ys, e1, e⟩ := e
  split at e
  · cases e; exact ⟨ys, mapM_strs e1, ‹_›, rfl⟩
  · cases e
theorem ms_join : MS1 K (fun x xs H Q => ∃ a p, ∃ ys : List Str, x = .str a ∧ xs = [.ref p] ∧ (SqL K H p (ys.map V.str) ∨ SqT K H p (ys.map V.str)) ∧
    (ys.map (·.length)).sum + ys.length * a.length ≤ 16777216 ∧ Q (.str (Txt.join a ys)) H) gJoin := fun a v y d G H σ ρ Q rel hv e q => by
  cases y with
  | list ds =>
    obtain ⟨ys, rfl, hz, rfl⟩ := gJoinL_ok e
    obtain ⟨p, vs, rfl, h, hs⟩ := hv.lst'
    rw [hs.strs] at h
    exact ⟨a, p, ys, rfl, rfl, .inl (rel.sub.seq h), hz, q _ _ rel Stp.refl _ (.str _)⟩
  | tuple ds =>
    obtain ⟨ys, rfl, hz, rfl⟩ := gJoinL_ok e
    obtain ⟨p, vs, rfl, h, hs⟩ := hv.tup'
    rw [hs.strs] at h
    exact ⟨a, p, ys, rfl, rfl, .inr (Same.tup rel.sub h), hz, q _ _ rel Stp.refl _ (.str _)⟩
  | _ => cases e
def gZfill (a : Str) : D → Option D
  | .int i => if PadOk i = true then some (.str (Txt.zfill a i)) else none
  | _ => none
theorem ms_zfill : MS1 K (fun x xs H Q => ∃ (a : Str) (i : Int), x = .str a ∧ xs = [.int i] ∧ PadOk i = true ∧ Q (.str (Txt.zfill a i)) H) gZfill := fun a v y d G H σ ρ Q rel hv e q => by
  cases hv with
  | int i =>
    simp only [gZfill] at e
    split at e
    · cases e; exact ⟨a, i, rfl, rfl, ‹_›, q _ _ rel Stp.refl _ (.str _)⟩
    · cases e
  | _ => cases e
def gSplit (a : Str) : D → Option D
  | .str b => if (b.length == 0) = false ∧ a.length + 2 ≤ sizeLine then some (.list ((Txt.split a b).map .str)) else none
  | _ => none
theorem ms_split : MS1 K (fun x xs H Q => ∃ a b, x = .str a ∧ xs = [.str b] ∧ (b.length == 0) = false ∧ a.length + 2 ≤ sizeLine ∧ rNewStrs (Txt.split a b) H Q) gSplit := fun a v y d G H σ ρ Q rel hv e q => by
  cases hv with
  | str b =>
    simp only [gSplit] at e
    split at e
    · rename_i h; cases e
      exact ⟨a, b, rfl, rfl, h.1, h.2, newStrs rel q⟩
    · cases e
  | _ => cases e
def gCountS (a : Str) : D → Option D
  | .str b => some (.int (Txt.count a b))
  | _ => none
theorem ms_count : MS1 K (fun x xs H Q => ∃ a b, x = .str a ∧ xs = [.str b] ∧ Q (.int (Txt.count a b)) H) gCountS := fun a v y d G H σ ρ Q rel hv e q => by
  cases hv with
  | str b => cases e; exact ⟨a, b, rfl, rfl, q _ _ rel Stp.refl _ (.int _)⟩
  | _ => cases e
def gStarts (a : Str) : D → Option D
  | .str b => some (.bool (Txt.startswith a b))
  | _ => none
theorem ms_starts : MS1 K (fun x xs H Q => ∃ a b, x = .str a ∧ xs = [.str b] ∧ Q (.bl (Txt.startswith a b)) H) gStarts := fun a v y d G H σ ρ Q rel hv e q => by
  cases hv with
  | str b => cases e; exact ⟨a, b, rfl, rfl, q _ _ rel Stp.refl _ (.bl _)⟩
  | _ => cases e
def gUpper (a : Str) : Option D := if a.length ≤ 5592405 then some (.str (Txt.upper a)) else none
theorem ms_upper : MS0 K (fun x xs H Q => ∃ a, x = .str a ∧ xs = [] ∧ a.length ≤ 5592405 ∧ Q (.str (Txt.upper a)) H) gUpper := fun a d G H σ ρ Q rel e q => by
  simp only [gUpper] at e
  split at e
  · cases e; exact ⟨a, rfl, rfl, ‹_›, q _ _ rel Stp.refl _ (.str _)⟩
  · cases e
end
@[simp] theorem dM0_eq (g : Str → Option D) (fo : En → R D) (ρ : En) : dM0 g fo ρ = (fo ρ).bind fun x ρ1 => (lift (asStr x) ρ1).bind fun a ρ2 => lift (g a) ρ2 := rfl
@[simp] theorem dM1_eq (g : Str → D → Option D) (fo fe : En → R D) (ρ : En) : dM1 g fo fe ρ = (fo ρ).bind fun x ρ1 => (lift (asStr x) ρ1).bind fun a ρ2 => (fe ρ2).bind fun y ρ3 => lift (g a y) ρ3 := rfl
@[simp] theorem asStr_str (a : Str) : asStr (.str a) = some a := rfl
@[simp] theorem nList_eq (f : En → R D) (ρ : En) : nList f ρ = (f ρ).bind fun d ρ1 => lift (asL d) ρ1 := rfl
@[simp] theorem asL_list (ds : List D) : asL (.list ds) = some ds := rfl
@[simp] theorem asL_tuple (ds : List D) : asL (.tuple ds) = some ds := rfl
@[simp] theorem gSum_list (ds : List D) : gSum [.list ds] = (allOf asInt ds).map fun ns => .int ns.sum := rfl
@[simp] theorem gMaxL_list (ds : List D) : gMaxL [.list ds] = (allOf asInt ds).bind fun ns => ns.max?.map .int := rfl
@[simp] theorem gMinL_list (ds : List D) : gMinL [.list ds] = (allOf asInt ds).bind fun ns => ns.min?.map .int := rfl
@[simp] theorem gAll_list (ds : List D) : gAll [.list ds] = (allOf asBool ds).map fun bs => .bool (bs.all id) := rfl
@[simp] theorem gAny_list (ds : List D) : gAny [.list ds] = (allOf asBool ds).map fun bs => .bool (bs.any id) := rfl
@[simp] theorem gList_list (ds : List D) : gList [.list ds] = some (.list ds) := rfl
@[simp] theorem gList_tuple (ds : List D) : gList [.tuple ds] = some (.list ds) := rfl
@[simp] theorem gTuple_list (ds : List D) : gTuple [.list ds] = some (.tuple ds) := rfl
@[simp] theorem gTuple_tuple (ds : List D) : gTuple [.tuple ds] = some (.tuple ds) := rfl
end Dn
namespace Dn
open PySem PySem.Spec PyProof.Rows L2
section
variable {X : Cx} {w : Wh} {x : Str} {pos py spos : Pos} {k : Nat} {tg iter elt : Expr} {ifs : List Expr} {scope : Scope} {own : List (Str × Nat)} {fi : En → R (List D)} {gt : D → En → R Unit} {ft : En → R Bool} {fe : En → R D}
theorem Gd.blk (g : Gd X w k) {s : Shared} {H : Hp} {C : Addr} {cl : List (Str × Addr)} {fp : List Addr} : Gd (X.blk s H scope (compEnvC scope cl C X.env) fp) (w0 w) k :=
  ⟨g.calm, fun u s' x => by obtain ⟨a, B, sI, pins, σ, H, cls, d, e, I, nb, up, sky, na, os, ag, w⟩ := x; exact w.elim, PassesOwn.never, g.hr⟩
theorem vn_lcG (own : List (Str × Nat)) (g : Gd X w k) (hN : X.N.Nodup) (hi : VI X w tg iter fi) (ok : blkC X.N X.env.scope scope own = true)
    (hg : ∀ (s : Shared) (H : Hp) (C : Addr) (cl : List (Str × Addr)) (fp : List Addr), Gd (X.blk s H scope (compEnvC scope cl C X.env) fp) (w0 w) k → VGc (X.blk s H scope (compEnvC scope cl C X.env) fp) (own.map (·.2)) tg gt)
    (ht : ∀ (s : Shared) (H : Hp) (C : Addr) (cl : List (Str × Addr)) (fp : List Addr), Gd (X.blk s H scope (compEnvC scope cl C X.env) fp) (w0 w) k → PTs (X.blk s H scope (compEnvC scope cl C X.env) fp) ifs (teB X.K (w0 w) ft))
    (he : ∀ (s : Shared) (H : Hp) (C : Addr) (cl : List (Str × Addr)) (fp : List Addr), Gd (X.blk s H scope (compEnvC scope cl C X.env) fp) (w0 w) k → VE (X.blk s H scope (compEnvC scope cl C X.env) fp) (w0 w) elt fe) (hs : ∀ x, foldedSetIterable iter X.env x = pure x := by intro _; rfl) :
    VN X w (.ListComp elt [⟨tg, iter, ifs, 0⟩] scope pos) (nLc fi (lcT gt ft fe) (own.map (·.2))) :=
  vn_lc g.calm hN hi ok (fun s H C cl fp => hg s H C cl fp g.blk) (fun s H C cl fp => ht s H C cl fp g.blk) (fun s H C cl fp => he s H C cl fp g.blk) hs
theorem vs_setLcG (i : Nat) (own : List (Str × Nat)) (g : Gd X w k) (hN : X.N.Nodup) (hi : VI X w tg iter fi) (ok : blkC X.N X.env.scope scope own = true)
    (hg : ∀ (s : Shared) (H : Hp) (C : Addr) (cl : List (Str × Addr)) (fp : List Addr), Gd (X.blk s H scope (compEnvC scope cl C X.env) fp) (w0 w) k → VGc (X.blk s H scope (compEnvC scope cl C X.env) fp) (own.map (·.2)) tg gt)
    (ht : ∀ (s : Shared) (H : Hp) (C : Addr) (cl : List (Str × Addr)) (fp : List Addr), Gd (X.blk s H scope (compEnvC scope cl C X.env) fp) (w0 w) k → PTs (X.blk s H scope (compEnvC scope cl C X.env) fp) ifs (teB X.K (w0 w) ft))
    (he : ∀ (s : Shared) (H : Hp) (C : Addr) (cl : List (Str × Addr)) (fp : List Addr), Gd (X.blk s H scope (compEnvC scope cl C X.env) fp) (w0 w) k → VE (X.blk s H scope (compEnvC scope cl C X.env) fp) (w0 w) elt fe)
    (hsw : swapsWith (.ListComp elt [⟨tg, iter, ifs, 0⟩] scope pos) (some (.Name x py)) spos.line X.env = pure true := by exact sw_true (by rfl) (by rfl) (by rfl) (by rfl))
    (hy : X.N[i]? = some x := by rfl) (hyl : X.env.scope.names.lookup x = some .local := by rfl) (hs : ∀ x, foldedSetIterable iter X.env x = pure x := by intro _; rfl) :
    VS X w (.Assign [.Name x py] (.ListComp elt [⟨tg, iter, ifs, 0⟩] scope pos) spos) (dAsgL i (nLc fi (lcT gt ft fe) (own.map (·.2)))) :=
  vs_setLc i g.calm hN hsw hi ok (fun s H C cl fp => hg s H C cl fp g.blk) (fun s H C cl fp => ht s H C cl fp g.blk) (fun s H C cl fp => he s H C cl fp g.blk) hy hyl hs
theorem vs_setLiG (i : Nat) (own : List (Str × Nat)) (g : Gd X w k) (hN : X.N.Nodup) (hi : VI X w tg iter fi) (ok : blkC X.N X.env.scope scope own = true)
    (hg : ∀ (s : Shared) (H : Hp) (C : Addr) (cl : List (Str × Addr)) (fp : List Addr), Gd (X.blk s H scope (compEnvC scope cl C X.env) fp) (w0 w) k → VGc (X.blk s H scope (compEnvC scope cl C X.env) fp) (own.map (·.2)) tg gt)
    (ht : ∀ (s : Shared) (H : Hp) (C : Addr) (cl : List (Str × Addr)) (fp : List Addr), Gd (X.blk s H scope (compEnvC scope cl C X.env) fp) (w0 w) k → PTs (X.blk s H scope (compEnvC scope cl C X.env) fp) ifs (teB X.K (w0 w) ft))
    (he : ∀ (s : Shared) (H : Hp) (C : Addr) (cl : List (Str × Addr)) (fp : List Addr), Gd (X.blk s H scope (compEnvC scope cl C X.env) fp) (w0 w) k → VE (X.blk s H scope (compEnvC scope cl C X.env) fp) (w0 w) elt fe)
    (hsw : swapsWith (.ListComp elt [⟨tg, iter, ifs, 0⟩] scope pos) (some (.Name x py)) spos.line X.env = pure true := by exact sw_true (by rfl) (by rfl) (by rfl) (by rfl))
    (hy : X.N[i]? = some x := by rfl) (hyl : X.env.scope.names.lookup x = some .local := by rfl) (hs : ∀ x, foldedSetIterable iter X.env x = pure x := by intro _; rfl) :
    VS X w (.Assign [.Name x py] (.ListComp elt [⟨tg, iter, ifs, 0⟩] scope pos) spos) (dAsg (putIm i) (dFz (nLc fi (lcT gt ft fe) (own.map (·.2))))) :=
  vs_setLi i g.calm hN hsw hi ok (fun s H C cl fp => hg s H C cl fp g.blk) (fun s H C cl fp => ht s H C cl fp g.blk) (fun s H C cl fp => he s H C cl fp g.blk) hy hyl hs
end
end Dn
namespace Dn
open PySem PySem.Spec PyProof.Rows L2
def asLi : D → Option (List D)
  | .list ds => some ds
  | _ => none
/-- l.index(x) -/
def gIndex (ds : List D) (d : D) : Option D := if shp (.list ds) = true ∧ shp d = true then (ds.findIdx? fun z => PyData.eqv z d).map fun (j : Nat) => .int j else none
def dLM1 (g : List D → D → Option D) (fo fe : En → R D) : En → R D := fun ρ => (fo ρ).bind fun x ρ1 => (lift (asLi x) ρ1).bind fun ds ρ2 => (fe ρ2).bind fun y ρ3 => lift (g ds y) ρ3
@[simp] theorem dLM1_eq (g : List D → D → Option D) (fo fe : En → R D) (ρ : En) : dLM1 g fo fe ρ = (fo ρ).bind fun x ρ1 => (lift (asLi x) ρ1).bind fun ds ρ2 => (fe ρ2).bind fun y ρ3 => lift (g ds y) ρ3 := rfl
@[simp] theorem asLi_list (ds : List D) : asLi (.list ds) = some ds := rfl
section
variable {X : Cx} {w : Wh} {pos : Pos} {e o : Expr} {fe fo : En → R D}
theorem ve_index {apos : Pos} (hu : X.A.units + 65 < cLine) (ho : VE X w o fo) (he : VE X w e fe)
    (hbase : attributeBase o "index" X.env (eval o X.env) = eval o X.env := by rfl)
    (hfew : ((backTo pos (starEach [e] X.env)).all (fun x => !x.1) && (backToKw pos (keywordEach [] X.env)).all (fun x => x.1.isSome) && decide (([e] : List Expr).length + ([] : List Keyword).length + (if ([] : List Keyword).isEmpty then 0 else 1) < 30)) = true := by rfl)
    (hline : (apos.endLine == pos.line) = true := by rfl) (hs : starEach [e] X.env = (false, eval e X.env) :: starEach [] X.env := by rfl) (hplain : (backTo pos (starEach [] X.env)).any (·.1) = false := by rfl) :
    VE X w (.Call (.Attribute o "index" apos) [e] [] pos) (dLM1 gIndex fo fe) :=
  PE.imp (pe_bm PySem.F.plainAttrs_list PySem.F.slot_list_index PySem.F.type_list_index (mt_indexD hu) ho (pa_cons he pa_nil hs) hbase hfew hline hs hplain) fun σ H Q ⟨G, ρ, rel, h⟩ => ⟨G, ρ, rel, (Fn.bind rel h).imp fun G1 H1 ρ1 x ⟨r1, s1, h1⟩ v hv => by
    cases x with
    | list ds =>
      have h2 : Fn X.K w G1 H1 σ ρ1 ((fe ρ1).bind fun y ρ3 => lift (gIndex ds y) ρ3) (QD X.K Q) := h1
      obtain ⟨a, vs, rfl, hl, hds⟩ := hv.lst'
      refine ⟨.inl ⟨rfl, vs, r1.sub.seq hl⟩, G1, ρ1, r1, (Fn.bind r1 h2).imp fun G2 H2 ρ2 y ⟨r2, s2, h3⟩ u hu2 => ?_⟩
      obtain ⟨d, e, q⟩ := Fn.lift h3
      simp only [gIndex] at e
      split at e
      · rename_i hsh
        simp only [Option.map_eq_some_iff] at e
        obtain ⟨j, ej, rfl⟩ := e
        rw [List.findIdx?_eq_some_iff_getElem] at ej
        obtain ⟨hj, e1, e2⟩ := ej
        have D1 : DR X.K H2 (.ref a) (.list ds) := ((DR.lst hl hds).mono s2.g).mono r2.sub
        refine ⟨a, u, y, ds, j, ds[j], rfl, rfl, D1.dp (SeqAt.canLay_of_shaped hsh.1), (hu2.mono r2.sub).dp (SeqAt.canLay_of_shaped hsh.2), hsh.1, hsh.2, List.getElem?_eq_getElem hj, e1, fun m z hm hz => ?_, q _ _ r2 Stp.refl _ (.int _)⟩
        have hml : m < ds.length := by omega
        rw [List.getElem?_eq_getElem hml] at hz
        cases hz
        have := e2 m hm
        simpa using this
      · cases e
    | _ => exact h1.elim⟩
end
end Dn
namespace Dn
open PySem PySem.Spec PyProof.Rows L2
/-! ### one's own lists, looked at for a while -/
section
variable {K : PySem.W.Frag} {G H G' H' : Hp} {σ : L2.St} {ρ : En}
theorem DV.dr (r : Rel K G H σ ρ) {v : V} {d : D} (h : DV K G H v d) : DR K H v d := by
  cases h with
  | im h => exact h.mono r.sub
  | mu e h => exact .lst (.inl (.inl e)) (h.mono r.sub)
end
/-- compared: the left one a name -/
def dCmpL (g : D → D → Option Bool) (i : Nat) (fb : En → R D) : En → R Bool := atSlot i fb fun l y ρ => lift (g l.toD y) ρ
/-- compared: the right one a name -/
def dCmpR (g : D → D → Option Bool) (fa : En → R D) (i : Nat) : En → R Bool := fun ρ => (fa ρ).bind fun x ρ1 => atSlot i (fun ρ => .ok () ρ) (fun l _ ρ => lift (g x l.toD) ρ) ρ1
@[simp] theorem dCmpL_eq (g : D → D → Option Bool) (i : Nat) (fb : En → R D) (ρ : En) : dCmpL g i fb ρ = slotK ρ[i]? fun _ => (fb ρ).bind fun y ρ1 => slotK ρ1[i]? fun l => if l.tree = true then .no else lift (g l.toD y) ρ1 := by unfold dCmpL; rw [atSlot_eq]
@[simp] theorem dCmpR_eq (g : D → D → Option Bool) (fa : En → R D) (i : Nat) (ρ : En) : dCmpR g fa i ρ = (fa ρ).bind fun x ρ1 => slotK ρ1[i]? fun l => if l.tree = true then .no else lift (g x l.toD) ρ1 := by
  unfold dCmpR
  cases fa ρ with
  | ok x ρ1 =>
    show atSlot i _ _ ρ1 = slotK ρ1[i]? _
    rw [atSlot_eq]
    show (slotK ρ1[i]? fun _ => slotK ρ1[i]? fun l => if l.tree = true then R.no else lift (g x l.toD) ρ1) = _
    generalize ρ1[i]? = o
    cases o with
    | none => rfl
    | some o => cases o <;> rfl
  | _ => rfl
section
variable {X : Cx} {w : Wh} {op : CmpOp} {r : R2} {g : D → D → Option Bool} {a b : Expr} {fa fb : En → R D} {pos p : Pos} {x : Str}
theorem vt_cmpL (i : Nat) (ho : OpR X (compareOp op) r) (hs : OpB X.K r g) (hb : VE X w b fb) (hm : behindInMarks op b = false) (hN : X.N[i]? = some x := by rfl) (hv : Vis X.env.scope x := by first | exact Or.inl rfl | exact Or.inr (Or.inl rfl) | exact Or.inr (Or.inr rfl))
    (hd : (x == ("__debug__" : Str)) = false := by decide) (hcd : (x == ("__classdict__" : Str)) = false := by decide) : VT X w (.Compare (.Name x p) [op] [b] pos) (dCmpL g i fb) :=
  PT.imp (pt_cmpR ho (pe_var hN hv hd hcd) hb hm) fun σ H Q ⟨G, ρ, rel, h⟩ => by
    obtain ⟨v, s, h⟩ := Fn.slot rel h
    refine ⟨v, s, G, ρ, rel, h.imp fun G1 H1 ρ1 y ⟨l, e, dv, r1, s1, h1⟩ u hu => ?_⟩
    obtain ⟨d, e', q⟩ := Fn.lift h1
    exact hs v u l.toD y d H1 _ (dv.dr r1) (hu.mono r1.sub) e' ⟨d, rfl, q _ _ r1 Stp.refl⟩
theorem vt_cmpRN (i : Nat) (ho : OpR X (compareOp op) r) (hs : OpB X.K r g) (ha : VE X w a fa) (hm : behindInMarks op (.Name x p) = false) (hN : X.N[i]? = some x := by rfl) (hv : Vis X.env.scope x := by first | exact Or.inl rfl | exact Or.inr (Or.inl rfl) | exact Or.inr (Or.inr rfl))
    (hd : (x == ("__debug__" : Str)) = false := by decide) (hcd : (x == ("__classdict__" : Str)) = false := by decide) : VT X w (.Compare a [op] [.Name x p] pos) (dCmpR g fa i) :=
  PT.imp (pt_cmpR ho ha (pe_var hN hv hd hcd) hm) fun σ H Q ⟨G, ρ, rel, h⟩ => ⟨G, ρ, rel, (Fn.bind rel h).imp fun G1 H1 ρ1 dx ⟨r1, s1, h1⟩ u hu => by
    obtain ⟨v, s, h⟩ := Fn.slot r1 h1
    obtain ⟨l, e, dv, r2, s2, h2⟩ := h.ok r1
    obtain ⟨d, e', q⟩ := Fn.lift h2
    exact ⟨v, s, hs u v dx l.toD d H1 _ (hu.mono r1.sub) (dv.dr r2) e' ⟨d, rfl, q _ _ r2 Stp.refl⟩⟩⟩
theorem ve_cmpL (i : Nat) (ho : OpR X (compareOp op) r) (hs : OpB X.K r g) (hb : VE X w b fb) (hm : behindInMarks op b = false) (hN : X.N[i]? = some x := by rfl) (hv : Vis X.env.scope x := by first | exact Or.inl rfl | exact Or.inr (Or.inl rfl) | exact Or.inr (Or.inr rfl))
    (hd : (x == ("__debug__" : Str)) = false := by decide) (hcd : (x == ("__classdict__" : Str)) = false := by decide) : VE X w (.Compare (.Name x p) [op] [b] pos) (dB (dCmpL g i fb)) :=
  PE.imp (pe_cmpR ho (pe_var hN hv hd hcd) hb hm) fun σ H Q ⟨G, ρ, rel, h⟩ => by
    obtain ⟨v, s, h⟩ := Fn.slot rel (Fn.dB rel h)
    refine ⟨v, s, G, ρ, rel, h.imp fun G1 H1 ρ1 y ⟨l, e, dv, r1, s1, h1⟩ u hu => ?_⟩
    obtain ⟨d, e', q⟩ := Fn.lift h1
    exact hs v u l.toD y d H1 _ (dv.dr r1) (hu.mono r1.sub) e' (q _ _ r1 Stp.refl).2.2
theorem ve_cmpRN (i : Nat) (ho : OpR X (compareOp op) r) (hs : OpB X.K r g) (ha : VE X w a fa) (hm : behindInMarks op (.Name x p) = false) (hN : X.N[i]? = some x := by rfl) (hv : Vis X.env.scope x := by first | exact Or.inl rfl | exact Or.inr (Or.inl rfl) | exact Or.inr (Or.inr rfl))
    (hd : (x == ("__debug__" : Str)) = false := by decide) (hcd : (x == ("__classdict__" : Str)) = false := by decide) : VE X w (.Compare a [op] [.Name x p] pos) (dB (dCmpR g fa i)) :=
  PE.imp (pe_cmpR ho ha (pe_var hN hv hd hcd) hm) fun σ H Q ⟨G, ρ, rel, h⟩ => ⟨G, ρ, rel, (Fn.bind rel (Fn.dB rel h)).imp fun G1 H1 ρ1 dx ⟨r1, s1, h1⟩ u hu => by
    obtain ⟨v, s, h⟩ := Fn.slot r1 h1
    obtain ⟨l, e, dv, r2, s2, h2⟩ := h.ok r1
    obtain ⟨d, e', q⟩ := Fn.lift h2
    exact ⟨v, s, hs u v dx l.toD d H1 _ (hu.mono r1.sub) (dv.dr r2) e' (q _ _ r2 Stp.refl).2.2⟩⟩
end
/-! #### a call that only looks -/
mutual
def trD : Tr → D
  | .im d => d
  | .ls ts => .list (trDs ts)
def trDs : List Tr → List D
  | [] => []
  | t :: ts => trD t :: trDs ts
end
theorem trDs_map : ∀ (ts : List Tr), trDs ts = ts.map trD
  | [] => rfl
  | t :: ts => by rw [trDs, trDs_map ts]; rfl
@[simp] theorem trD_im (d : D) : trD (.im d) = d := by rw [trD]
@[simp] theorem trD_ls (ts : List Tr) : trD (.ls ts) = .list (ts.map trD) := by rw [trD, trDs_map]
/-- all of a slot -/
@[simp] def L.all : L → D
  | .im d => d
  | .ow ds => .list ds
  | .bo ds => .list ds
  | .ot t => trD t
  | .bt t => trD t
  | .xn _ _ _ => .none
theorem DRs.ofAt {K : PySem.W.Frag} {G : Hp} : ∀ {vs : List V} {ds : List D}, vs.length = ds.length → (∀ (k : Nat) (v : V) (d : D), vs[k]? = some v → ds[k]? = some d → DR K G v d) → DRs K G vs ds
  | [], [], _, _ => .nil
  | v :: vs, d :: ds, hl, h => .cons (h 0 v d rfl rfl) (DRs.ofAt (by simpa using hl) fun k v d e1 e2 => h (k + 1) v d (by simpa using e1) (by simpa using e2))
theorem TR.dr {K : PySem.W.Frag} {G G' H : Hp} {v : V} {t : Tr} (r : TR K G H v t) (sg : Same G G') : (∀ a, Foot H v t a → G' a = H a) → DR K G' v (trD t) := by
  induction r with
  | im h => intro _; rw [trD_im]; exact h.mono sg
  | @ls o vs ts g h l c n d ih =>
    intro k
    rw [trD_ls]
    refine .lst (.inl (.inl (by rw [k _ .here]; exact h))) (DRs.ofAt (by rw [List.length_map]; exact l) fun j v d e1 e2 => ?_)
    rw [List.getElem?_map, Option.map_eq_some_iff] at e2
    obtain ⟨t, e2, rfl⟩ := e2
    exact ih j v t e1 e2 fun a f => k a (.sub h e1 e2 f)
def lendT (ρ : En) : List AV → Option En
  | [] => some []
  | .im d :: as => (lendT ρ as).map (some (.im d) :: ·)
  | .sl i :: as => match ρ[i]? with
    | some (some (.xn _ _ _)) => none
    | some (some l) => (lendT ρ as).map (some (.im l.all) :: ·)
    | _ => none
def flat : D → Bool
  | .none => true
  | .bool _ => true
  | .int _ => true
  | .str _ => true
  | _ => false
/-- the callee's view, then the caller as ahead -/
def dFnT (n : Nat) (den : En → R L) (ga : En → R (List AV)) : En → R D := fun ρ => (ga ρ).bind fun as ρ1 => if as.length = n then match lendT ρ1 as with
  | none => .no
  | some ls => match den ls with
    | .ok (.im d) _ => if flat d = true then .ok d ρ1 else .no
    | .ex c _ => if c.arg.isNone = true then .ex c ρ1 else .no
    | _ => .no
  else .no
open Classical in
noncomputable def Gt (G H : Hp) (σ : L2.St) (ρ : En) : Hp := fun a => if G a = none ∧ Own H σ ρ a then H a else G a
section
variable {K : PySem.W.Frag} {G H G' H' : Hp} {σ : L2.St} {ρ : En}
theorem Gt_g : Same G (Gt G H σ ρ) := fun a x e => by
  unfold Gt
  rw [if_neg (fun z => by rw [e] at z; cases z.1)]; exact e
theorem Gt_h (r : Rel K G H σ ρ) : Same (Gt G H σ ρ) H := fun a x e => by
  unfold Gt at e
  split at e
  · exact e
  · exact r.sub a x e
theorem lendT_ok (r : Rel K G H σ ρ) : ∀ {vs : List V} {as : List AV} {ls : En}, AVs K G σ vs as → lendT ρ as = some ls → ls.length = vs.length ∧ ∀ (k : Nat) (l : L), ls[k]? = some (some l) → ∃ d v, l = .im d ∧ (vs.map some)[k]? = some (some v) ∧ DR K (Gt G H σ ρ) v d
  | _, _, _, .nil, e => by cases e; exact ⟨rfl, fun k l h => by simp at h⟩
  | _, _, _, .im h t, e => by
    simp only [lendT, Option.map_eq_some_iff] at e
    obtain ⟨ls, e, rfl⟩ := e
    obtain ⟨h1, h2⟩ := lendT_ok r t e
    refine ⟨by simp [h1], fun k l hk => ?_⟩
    cases k with
    | zero => simp at hk; subst hk; exact ⟨_, _, rfl, rfl, h.mono Gt_g⟩
    | succ k => simpa using h2 k l (by simpa using hk)
  | _, _, _, .sl (v := v) (i := i) h t, e => by
    simp only [lendT] at e
    split at e
    · cases e
    · rename_i l0 hx e0
      simp only [Option.map_eq_some_iff] at e
      obtain ⟨ls, e, rfl⟩ := e
      obtain ⟨h1, h2⟩ := lendT_ok r t e
      refine ⟨by simp [h1], fun k l hk => ?_⟩
      cases k with
      | zero =>
        simp at hk; subst hk
        obtain ⟨v', s, c⟩ := r.cell i l0 e0
        rw [h] at s; cases s
        refine ⟨_, v, rfl, rfl, ?_⟩
        have here : ∀ o us ds, Fo H l0 v o → v = V.ref o → G o = none → H o = some (.lst us) → DRs K G us ds → DR K (Gt G H σ ρ) v (.list ds) := fun o us ds f ev g hq hd => by
          subst ev
          refine .lst (.inl (.inl ?_)) (hd.mono Gt_g)
          unfold Gt
          rw [if_pos ⟨g, i, l0, _, e0, h, f⟩]; exact hq
        have tree : ∀ t, TR K G H v t → (∀ a, Foot H v t a → Fo H l0 v a) → DR K (Gt G H σ ρ) v (trD t) := fun t c f => c.dr Gt_g fun a fa => by
          unfold Gt
          rw [if_pos ⟨(c.foot fa).1, i, l0, _, e0, h, f a fa⟩]
        cases l0 with
        | im d => exact DR.mono Gt_g c
        | ow ds => obtain ⟨o, us, ev, g, hq, hd⟩ := c; exact here o us ds ev ev g hq hd
        | bo ds => obtain ⟨o, us, ev, g, hq, hd⟩ := c; exact here o us ds ev ev g hq hd
        | ot t => exact tree t c fun _ f => f
        | bt t => exact tree t c fun _ f => f
        | xn a dx c' => exact absurd rfl (hx a dx c')
      | succ k => simpa using h2 k l (by simpa using hk)
    · cases e
theorem flat_dr {v : V} {d : D} (h : DR K G v d) (hf : flat d = true) : DR K G' v d := by
  cases h with
  | non => exact .non
  | bl b => exact .bl b
  | int i => exact .int i
  | str s => exact .str s
  | _ => cases hf
/-- nothing old was changed -/
theorem Rel.still (r : Rel K G H σ ρ) (h : Same H H') : Rel K G H' σ ρ ∧ Stp G H σ ρ G H' σ ρ := by
  have hk : ∀ a, Own H σ ρ a → H' a = H a := fun a z => by
    obtain ⟨_, us, q⟩ := r.own z
    rw [q]; exact h _ _ q
  obtain ⟨r', ow⟩ := r.keep (G' := G) (H' := H') (Same.refl _) (r.sub.trans h) (fun a z => (r.own z).1) hk
  refine ⟨r', ⟨Same.refl _, fun a x e _ => h a x e, fun a z => .inl z, fun a z => .inl ((ow a).mp z), fun a z => ?_, rfl, fun i ds e => ⟨rfl, ds, e⟩, fun i t e => ⟨rfl, t, e, fun v a q f => Foot.to f fun b y => hk b ⟨i, _, v, e, q, y⟩⟩⟩⟩
  cases q : H a with
  | none => exact absurd q z
  | some x => rw [h a x q]; exact fun z => nomatch z
end
section
variable {X : Cx} {w : Wh} {k n : Nat} {f : Addr} {fd : FuncData} {ps : List Str} {den : En → R L} {ca : String → Option Value} {x : Str} {p pos : Pos} {e : Expr} {es : List Expr} {ga : En → R (List AV)}
theorem ve_callT (F : FnOk X.prog X.w X.K X.mg X.base (L2.CX X.prog X.w) k f fd ps (spD X.K ca n den)) (hr : Room k X.A) (tk : Takes X w.W) (hca : w.ca = ca) (hg : Gl X x) (hm : X.mg x = some (.ref f)) (hk : PySem.W.keepIn X.K (.ref f) = true) (hb : Binds X.K fd ps [])
    (ha : VA X w (e :: es) ga) (hdb : (x == ("__debug__" : Str)) = false := by decide) (he : starEach (e :: es) X.env = (false, eval e X.env) :: starEach es X.env := by rfl) (hpl : (backTo pos (starEach es X.env)).any (·.1) = false := by rfl) :
    VE X w (.Call (.Name x p) (e :: es) [] pos) (dFnT n den ga) :=
  PE.imp (pe_callS F hr hg hm hk hb (passAt tk) ha hdb he hpl) fun σ H Q ⟨G, ρ, rel, h⟩ => ⟨G, ρ, rel, (Fn.bind rel h).imp fun G1 H1 ρ1 as ⟨r1, s1, h1⟩ vs hvs => by
    split at h1
    · rename_i hl
      cases q : lendT ρ1 as with
      | none => rw [q] at h1; exact h1.elim
      | some ls =>
        rw [q] at h1
        have h1' : Fn X.K w G1 H1 σ ρ1 (match den ls with | .ok (.im d) _ => if flat d = true then R.ok d ρ1 else .no | .ex c _ => if c.arg.isNone = true then .ex c ρ1 else .no | _ => .no) (QD X.K Q) := h1
        obtain ⟨l1, l2⟩ := lendT_ok r1 hvs q
        have r0 : Rel X.K (Gt G1 H1 σ ρ1) H1 (vs.map some) ls := ⟨Gt_h r1, by simp [l1], fun i l ei => by
          obtain ⟨d, v, rfl, hv, hd⟩ := l2 i l ei
          exact ⟨v, hv, hd⟩, fun i j l m v u a ei ej si sj fi fj => by
          obtain ⟨d, v, rfl, _⟩ := l2 i l ei; exact fi.elim⟩
        have no : ∀ a, ¬ Own H1 (vs.map some) ls a := fun a ⟨i, l, v, ei, _, f⟩ => by
          obtain ⟨d, v, rfl, _⟩ := l2 i l ei; exact f.elim
        refine ⟨Gt G1 H1 σ ρ1, ls, r0, fun i l ei => (by obtain ⟨d, v, rfl, _⟩ := l2 i _ ei; rfl), hvs.length.trans hl, ?_⟩
        cases q2 : den ls with
        | no => rw [q2] at h1'; exact h1'.elim
        | ex c ls' =>
          rw [q2] at h1'
          intro G' H' cls dx r' s' x'
          have sH : Same H1 H' := fun a o ea => s'.h a o ea (no a)
          obtain ⟨r2, s2⟩ := r1.still sH
          have h2 : Fn X.K w G1 H1 σ ρ1 (if c.arg.isNone = true then .ex c ρ1 else .no) (QD X.K Q) := h1'
          split at h2
          · rename_i hn
            exact h2 G1 H' cls dx r2 s2 ⟨by rw [hca]; exact x'.hc, x'.hn, fun f d ea => by rw [ea] at hn; cases hn⟩
          · exact h2.elim
        | ok l ls' =>
          rw [q2] at h1'
          cases l with
          | bo ds => exact h1'.elim
          | ow ds => exact h1'.elim
          | ot t => exact h1'.elim
          | bt t => exact h1'.elim
          | xn _ _ _ => exact h1'.elim
          | im d =>
            intro G' H' v r' s' hv
            have sH : Same H1 H' := fun a o ea => s'.h a o ea (no a)
            obtain ⟨r2, s2⟩ := r1.still sH
            have h2 : Fn X.K w G1 H1 σ ρ1 (if flat d = true then R.ok d ρ1 else .no) (QD X.K Q) := h1'
            split at h2
            · rename_i hf
              exact h2 G1 H' r2 s2 v (flat_dr hv hf)
            · exact h2.elim
    · exact h1.elim⟩
end
/-! reckoning -/
def lookK (o : Option En) (k : En → R D) : R D := match o with
  | some ls => k ls
  | none => .no
def resT (r : R L) (ρ : En) : R D := match r with
  | .ok (.im d) _ => if flat d = true then .ok d ρ else .no
  | .ex c _ => if c.arg.isNone = true then .ex c ρ else .no
  | _ => .no
@[simp] theorem dFnT_eq (n : Nat) (den : En → R L) (ga : En → R (List AV)) (ρ : En) : dFnT n den ga ρ = (ga ρ).bind fun as ρ1 => if as.length = n then lookK (lendT ρ1 as) fun ls => resT (den ls) ρ1 else .no := by
  unfold dFnT
  cases ga ρ with
  | ok as ρ1 =>
    show (if as.length = n then _ else _) = (if as.length = n then _ else _)
    split
    · cases lendT ρ1 as with
      | none => rfl
      | some ls => rfl
    · rfl
  | _ => rfl
@[simp] theorem lookK_some (ls : En) (k : En → R D) : lookK (some ls) k = k ls := rfl
@[simp] theorem resT_im (d : D) (ls ρ : En) (h : flat d = true) : resT (.ok (.im d) ls) ρ = .ok d ρ := if_pos h
@[simp] theorem resT_ex (c : String) (ls ρ : En) : resT (.ex ⟨c, none⟩ ls) ρ = .ex ⟨c, none⟩ ρ := rfl
@[simp] theorem lendT_nil (ρ : En) : lendT ρ [] = some [] := rfl
@[simp] theorem lendT_im (ρ : En) (d : D) (as : List AV) : lendT ρ (.im d :: as) = (lendT ρ as).map (some (.im d) :: ·) := rfl
theorem lendT_sl {ρ : En} {i : Nat} {as : List AV} {l : L} (h : ρ[i]? = some (some l)) (hx : ∀ a dx c, l ≠ .xn a dx c) : lendT ρ (.sl i :: as) = (lendT ρ as).map (some (.im l.all) :: ·) := by
  cases l <;> first | exact absurd rfl (hx _ _ _) | simp only [lendT, h]
@[simp] theorem flat_bool (b : Bool) : flat (.bool b) = true := rfl
@[simp] theorem flat_int (b : Int) : flat (.int b) = true := rfl
@[simp] theorem flat_str (b : Str) : flat (.str b) = true := rfl
@[simp] theorem flat_none : flat .none = true := rfl
/-- at one's own list -/
def mineK {α : Type} (c : Option (Option L)) (k : L → List D → R α) : R α := match c with
  | some (some (.ow ds)) => k (.ow ds) ds
  | some (some (.bo ds)) => k (.bo ds) ds
  | _ => .no
@[simp] theorem mineK_ow {α : Type} (ds : List D) (k : L → List D → R α) : mineK (some (some (.ow ds))) k = k (.ow ds) ds := rfl
@[simp] theorem mineK_bo {α : Type} (ds : List D) (k : L → List D → R α) : mineK (some (some (.bo ds))) k = k (.bo ds) ds := rfl
@[simp] theorem put_ow (ds es : List D) : (L.ow ds).put es = .ow es := rfl
@[simp] theorem put_bo (ds es : List D) : (L.bo ds).put es = .bo es := rfl
theorem atMine_eq {α β : Type} (i : Nat) (f : En → R β) (g : L → List D → β → En → R α) (ρ : En) : atMine i f g ρ = mineK ρ[i]? fun _ _ => (f ρ).bind fun y ρ1 => mineK ρ1[i]? fun l ds => g l ds y ρ1 := by
  unfold atMine
  have inner : ∀ (y : β) (ρ1 : En), (match ρ1[i]? with
      | some (some l) => match l.mine with
        | some ds => g l ds y ρ1
        | none => .no
      | _ => .no) = mineK ρ1[i]? fun l ds => g l ds y ρ1 := fun y ρ1 => by
    generalize ρ1[i]? = o
    cases o with
    | none => rfl
    | some o => cases o with
      | none => rfl
      | some l => cases l <;> rfl
  generalize ρ[i]? = o
  cases o with
  | none => rfl
  | some o => cases o with
    | none => rfl
    | some l =>
      cases l with
      | im d => rfl
      | ot d => rfl
      | bt d => rfl
      | xn _ _ _ => rfl
      | ow ds => exact congrArg ((f ρ).bind) (funext fun y => funext fun ρ1 => inner y ρ1)
      | bo ds => exact congrArg ((f ρ).bind) (funext fun y => funext fun ρ1 => inner y ρ1)
@[simp] theorem dApp_eq (i : Nat) (f : En → R D) (ρ : En) : dApp i f ρ = mineK ρ[i]? fun _ _ => (f ρ).bind fun d ρ1 => mineK ρ1[i]? fun l ds => if ds.length < sizeLine then .ok .nx (ρ1.set i (some (l.put (ds ++ [d])))) else .no := atMine_eq i f _ ρ
def setK (z : Option Int) (l : L) (ds : List D) (d : D) (i : Nat) (ρ : En) : R Fl := match z with
  | some z => match ixN ds.length z with
    | some j => .ok .nx (ρ.set i (some (l.put (ds.set j d))))
    | none => .no
  | none => .no
@[simp] theorem dSetI_eq (i : Nat) (f k : En → R D) (ρ : En) : dSetI i f k ρ = (f ρ).bind fun d ρ0 => mineK ρ0[i]? fun _ _ => (k ρ0).bind fun y ρ1 => mineK ρ1[i]? fun l ds => setK (asI y) l ds d i ρ1 := by
  unfold dSetI
  cases f ρ with
  | ok d ρ0 => exact atMine_eq i k _ ρ0
  | _ => rfl
@[simp] theorem dAsgL_eq (i : Nat) (f : En → R (List D)) (ρ : En) : dAsgL i f ρ = (f ρ).bind fun ds ρ1 => (putOw i ds ρ1).bind fun _ ρ2 => .ok .nx ρ2 := rfl
@[simp] theorem dRetL_eq (f : En → R (List D)) (ρ : En) : dRetL f ρ = (f ρ).bind fun d ρ1 => .ok (.rl d) ρ1 := rfl
def retK (c : Option (Option L)) (i : Nat) (ρ : En) : R Fl := match c with
  | some (some (.ow ds)) => .ok (.rl ds) (ρ.set i none)
  | some (some (.im d)) => .ok (.rt d) ρ
  | _ => .no
@[simp] theorem dRetV_eq (i : Nat) (ρ : En) : dRetV i ρ = retK ρ[i]? i ρ := by
  unfold dRetV retK
  generalize ρ[i]? = o
  cases o with
  | none => rfl
  | some o => cases o with
    | none => rfl
    | some l => cases l <;> rfl
@[simp] theorem retK_ow (ds : List D) (i : Nat) (ρ : En) : retK (some (some (.ow ds))) i ρ = .ok (.rl ds) (ρ.set i none) := rfl
@[simp] theorem retK_im (d : D) (i : Nat) (ρ : En) : retK (some (some (.im d))) i ρ = .ok (.rt d) ρ := rfl
def resN (as : List AV) (ρ : En) (r : R L) : R (List D) := match r with
  | .ok (.ow ds) ls' => .ok ds (giveB as ls' ρ)
  | .ex c ls' => .ex c (giveB as ls' ρ)
  | _ => .no
@[simp] theorem resN_ow (as : List AV) (ρ ls : En) (d : List D) : resN as ρ (.ok (.ow d) ls) = .ok d (giveB as ls ρ) := rfl
@[simp] theorem resN_ex (as : List AV) (ρ ls : En) (c : Exn) : resN as ρ (.ex c ls) = .ex c (giveB as ls ρ) := rfl
@[simp] theorem nFn_eq (n : Nat) (den : En → R L) (ga : En → R (List AV)) (ρ : En) : nFn n den ga ρ = (ga ρ).bind fun as ρ1 => if as.length = n then lentK (lend as ρ1) fun ls => resN as ρ1 (den ls) else .no := by
  unfold nFn
  congr 1
  funext as ρ1
  split
  · unfold lentK resN
    cases lend as ρ1 with
    | none => rfl
    | some ls =>
      cases den ls with
      | ok l ls' => cases l <;> rfl
      | _ => rfl
  · rfl
def slA (c : Option (Option L)) (i : Nat) (r : R (List AV)) : R (List AV) := match c with
  | some (some _) => r.bind fun as ρ2 => .ok (.sl i :: as) ρ2
  | _ => .no
@[simp] theorem aSl_eq (i : Nat) (g : En → R (List AV)) (ρ : En) : aSl i g ρ = slA ρ[i]? i (g ρ) := by
  unfold aSl slA
  generalize ρ[i]? = o
  cases o with
  | none => rfl
  | some o => cases o <;> rfl
@[simp] theorem slA_some (l : L) (i : Nat) (r : R (List AV)) : slA (some (some l)) i r = r.bind fun as ρ2 => .ok (.sl i :: as) ρ2 := rfl
def lookL (c : Option (Option L)) (r : Option En) : Option En := match c with
  | some (some (.xn _ _ _)) => none
  | some (some l) => r.map (some (.im l.all) :: ·)
  | _ => none
@[simp] theorem lendT_slK (ρ : En) (i : Nat) (as : List AV) : lendT ρ (.sl i :: as) = lookL ρ[i]? (lendT ρ as) := by
  simp only [lendT, lookL]
@[simp] theorem lookL_im (d : D) (r : Option En) : lookL (some (some (.im d))) r = r.map (some (.im (L.im d).all) :: ·) := rfl
@[simp] theorem lookL_ow (d : List D) (r : Option En) : lookL (some (some (.ow d))) r = r.map (some (.im (L.ow d).all) :: ·) := rfl
@[simp] theorem lookL_bo (d : List D) (r : Option En) : lookL (some (some (.bo d))) r = r.map (some (.im (L.bo d).all) :: ·) := rfl
@[simp] theorem lookL_ot (d : Tr) (r : Option En) : lookL (some (some (.ot d))) r = r.map (some (.im (L.ot d).all) :: ·) := rfl
@[simp] theorem lookL_bt (d : Tr) (r : Option En) : lookL (some (some (.bt d))) r = r.map (some (.im (L.bt d).all) :: ·) := rfl
@[simp] theorem resT_bool (b : Bool) (ls ρ : En) : resT (.ok (.im (.bool b)) ls) ρ = .ok (.bool b) ρ := rfl
@[simp] theorem resT_int (b : Int) (ls ρ : En) : resT (.ok (.im (.int b)) ls) ρ = .ok (.int b) ρ := rfl
@[simp] theorem resT_str (b : Str) (ls ρ : En) : resT (.ok (.im (.str b)) ls) ρ = .ok (.str b) ρ := rfl
@[simp] theorem resT_non (ls ρ : En) : resT (.ok (.im .none) ls) ρ = .ok .none ρ := rfl
end Dn
namespace Dn
open PySem PySem.Spec PyProof.Rows L2
/-! ### more of lists of one's own -/
section
variable {X : Cx} {w : Wh} {x : Str} {p pos : Pos} {e e2 : Expr} {fe fi : En → R D} {apos pos2 : Pos}
/-- x.insert(i, e) -/
def dIns (i : Nat) (fi fe : En → R D) : En → R Fl := atMine i (fun ρ => (fi ρ).bind fun a ρ1 => (fe ρ1).bind fun b ρ2 => .ok (a, b) ρ2) fun l ds y ρ => match y.1 with
  | .int k => if ds.length < sizeLine ∧ 0 ≤ k ∧ k < 2 ^ 62 then .ok .nx (ρ.set i (some (l.put (ds.take k.toNat ++ [y.2] ++ ds.drop k.toNat)))) else .no
  | _ => .no
theorem vs_insert (i : Nat) (hi : VE X w e2 fi) (he : VE X w e fe) (hN : X.N[i]? = some x := by rfl) (hv : Vis X.env.scope x := by first | exact Or.inl rfl | exact Or.inr (Or.inl rfl) | exact Or.inr (Or.inr rfl)) (hd : (x == ("__debug__" : Str)) = false := by decide) (hcd : (x == ("__classdict__" : Str)) = false := by decide)
    (hbase : attributeBase (.Name x p) "insert" X.env (eval (.Name x p) X.env) = eval (.Name x p) X.env := by rfl) (hline : (apos.endLine == pos.line) = true := by rfl)
    (hfew : ((backTo pos (starEach [e2, e] X.env)).all (fun x => !x.1) && (backToKw pos (keywordEach [] X.env)).all (fun x => x.1.isSome) && decide (([e2, e] : List Expr).length + ([] : List Keyword).length + (if ([] : List Keyword).isEmpty then 0 else 1) < 30)) = true := by rfl)
    (hs : starEach [e2, e] X.env = (false, eval e2 X.env) :: starEach [e] X.env := by rfl) (hs2 : starEach [e] X.env = (false, eval e X.env) :: starEach [] X.env := by rfl) (hpl : (backTo pos (starEach [e] X.env)).any (·.1) = false := by rfl)
    (hsw : swapsWith (.Call (.Attribute (.Name x p) "insert" apos) [e2, e] [] pos) none pos2.line X.env = pure false := by rfl) :
    VS X w (.Expr (.Call (.Attribute (.Name x p) "insert" apos) [e2, e] [] pos) pos2) (dIns i fi fe) :=
  PS.imp (ps_expr (pe_bm PySem.F.plainAttrs_list PySem.F.slot_list_insert PySem.F.type_list_insert mt_insert (pe_var hN hv hd hcd) (pa_cons hi (pa_cons he pa_nil hs2) hs) hbase hfew hline hs hpl) hsw) fun Z σ H ⟨G, ρ, rel, h⟩ => by
    obtain ⟨o, s, ⟨vs, ho⟩, h⟩ := FnS.mine rel h
    refine ⟨.ref o, s, .inl ⟨rfl, vs, .inl (.inl ho)⟩, G, ρ, rel, (Fn.bind rel h).imp fun G1 H1 ρ1 a ⟨r1, s1, h1⟩ va hva => ⟨G1, ρ1, r1, (Fn.bind r1 h1).imp fun G2 H2 ρ2 b ⟨r2, s2, h2⟩ vb hvb => ?_⟩⟩
    obtain ⟨l, ds, e1, m, r3, s3, h3⟩ := h2.ok r2
    obtain ⟨o', ws, s', go, hw, hd⟩ := r3.mine e1 m
    rw [s] at s'; cases s'
    cases hva with
    | int k =>
      have h4 : FnS X.K w G2 H2 σ ρ2 (if ds.length < sizeLine ∧ 0 ≤ k ∧ k < 2 ^ 62 then .ok .nx (ρ2.set i (some (l.put (ds.take k.toNat ++ [b] ++ ds.drop k.toNat)))) else .no) Z := h3
      split at h4
      · rename_i hc
        obtain ⟨r4, s4⟩ := r3.change e1 m s (((hd.take k.toNat).append (.cons hvb .nil)).append (hd.drop k.toNat))
        exact ⟨o, ws, k, vb, rfl, rfl, hw, by rw [hd.length]; exact hc.1, hc.2.1, by omega, FnS.nx h4 r4 s4⟩
      · exact h4.elim
    | _ => exact h3.elim
/-- x.pop() -/
def dPop (i : Nat) : En → R D := atMine i (fun ρ => .ok () ρ) fun l ds _ ρ => match ds[ds.length - 1]? with
  | some d => .ok d (ρ.set i (some (l.put ds.dropLast)))
  | none => .no
theorem ve_pop (i : Nat) (hN : X.N[i]? = some x := by rfl) (hv : Vis X.env.scope x := by first | exact Or.inl rfl | exact Or.inr (Or.inl rfl) | exact Or.inr (Or.inr rfl)) (hd : (x == ("__debug__" : Str)) = false := by decide) (hcd : (x == ("__classdict__" : Str)) = false := by decide)
    (hbase : attributeBase (.Name x p) "pop" X.env (eval (.Name x p) X.env) = eval (.Name x p) X.env := by rfl) (hline : (apos.endLine == pos.line) = true := by rfl) :
    VE X w (.Call (.Attribute (.Name x p) "pop" apos) [] [] pos) (dPop i) :=
  PE.imp (pe_bm0 PySem.F.plainAttrs_list PySem.F.slot_list_pop PySem.F.type_list_pop mt_pop (pe_var hN hv hd hcd) hbase hline) fun σ H Q ⟨G, ρ, rel, h⟩ => by
    obtain ⟨o, s, ⟨vs, ho⟩, h⟩ := Fn.mine rel h
    obtain ⟨l, ds, e1, m, r3, s3, h3⟩ := h.ok rel
    obtain ⟨o', ws, s', go, hw, hd⟩ := r3.mine e1 m
    rw [s] at s'; cases s'
    refine ⟨.ref o, s, .inl ⟨rfl, vs, .inl (.inl ho)⟩, ?_⟩
    have h4 : Fn X.K w G H σ ρ (match ds[ds.length - 1]? with | some d => R.ok d (ρ.set i (some (l.put ds.dropLast))) | none => .no) (QD X.K Q) := h3
    cases q : ds[ds.length - 1]? with
    | none => rw [q] at h4; exact h4.elim
    | some d =>
      rw [q] at h4
      obtain ⟨y, ey, hy⟩ := hd.get q
      obtain ⟨r4, s4⟩ := r3.change e1 m s hd.dropLast
      exact ⟨o, ws, y, rfl, rfl, hw, by rw [hd.length]; exact ey, h4 _ _ r4 s4 y hy⟩
/-- x.pop(k) -/
def dPopAt (i : Nat) (fk : En → R D) : En → R D := atMine i fk fun l ds y ρ => match y with
  | .int k => if -(2 ^ 62) ≤ k ∧ k < 2 ^ 62 then match ixN ds.length k with
    | some j => match ds[j]? with
      | some d => .ok d (ρ.set i (some (l.put (ds.eraseIdx j))))
      | none => .no
    | none => .no
    else .no
  | _ => .no
theorem ve_popAt (i : Nat) (hk : VE X w e fi) (hN : X.N[i]? = some x := by rfl) (hv : Vis X.env.scope x := by first | exact Or.inl rfl | exact Or.inr (Or.inl rfl) | exact Or.inr (Or.inr rfl)) (hd : (x == ("__debug__" : Str)) = false := by decide) (hcd : (x == ("__classdict__" : Str)) = false := by decide)
    (hbase : attributeBase (.Name x p) "pop" X.env (eval (.Name x p) X.env) = eval (.Name x p) X.env := by rfl) (hline : (apos.endLine == pos.line) = true := by rfl)
    (hfew : ((backTo pos (starEach [e] X.env)).all (fun x => !x.1) && (backToKw pos (keywordEach [] X.env)).all (fun x => x.1.isSome) && decide (([e] : List Expr).length + ([] : List Keyword).length + (if ([] : List Keyword).isEmpty then 0 else 1) < 30)) = true := by rfl)
    (hs : starEach [e] X.env = (false, eval e X.env) :: starEach [] X.env := by rfl) :
    VE X w (.Call (.Attribute (.Name x p) "pop" apos) [e] [] pos) (dPopAt i fi) :=
  PE.imp (pe_bm PySem.F.plainAttrs_list PySem.F.slot_list_pop PySem.F.type_list_pop mt_popAt (pe_var hN hv hd hcd) (pa_cons hk pa_nil hs) hbase hfew hline hs (by rfl)) fun σ H Q ⟨G, ρ, rel, h⟩ => by
    obtain ⟨o, s, ⟨vs, ho⟩, h⟩ := Fn.mine rel h
    refine ⟨.ref o, s, .inl ⟨rfl, vs, .inl (.inl ho)⟩, G, ρ, rel, h.imp fun G1 H1 ρ1 y ⟨l, ds, e1, m, r3, s3, h3⟩ v hv => ?_⟩
    obtain ⟨o', ws, s', go, hw, hd⟩ := r3.mine e1 m
    rw [s] at s'; cases s'
    cases hv with
    | int k =>
      have h4 : Fn X.K w G1 H1 σ ρ1 (if -(2 ^ 62) ≤ k ∧ k < 2 ^ 62 then match ixN ds.length k with
        | some j => match ds[j]? with
          | some d => R.ok d (ρ1.set i (some (l.put (ds.eraseIdx j))))
          | none => .no
        | none => .no
        else .no) (QD X.K Q) := h3
      split at h4
      · rename_i hc
        cases q : ixN ds.length k with
        | none => rw [q] at h4; exact h4.elim
        | some j =>
          rw [q] at h4
          have h5 : Fn X.K w G1 H1 σ ρ1 (match ds[j]? with | some d => R.ok d (ρ1.set i (some (l.put (ds.eraseIdx j)))) | none => .no) (QD X.K Q) := h4
          cases q2 : ds[j]? with
          | none => rw [q2] at h5; exact h5.elim
          | some d =>
            rw [q2] at h5
            obtain ⟨z, ez, hz⟩ := hd.get q2
            obtain ⟨r4, s4⟩ := r3.change e1 m s (hd.erase j)
            have hq := (ixN_seq q).1
            exact ⟨o, ws, k, j, z, rfl, rfl, hw, by omega, by omega, by rw [hd.length]; exact hq, ez, h5 _ _ r4 s4 z hz⟩
      · exact h4.elim
    | _ => exact h3.elim
/-- x.clear() -/
def dClear (i : Nat) : En → R Fl := atMine i (fun ρ => .ok () ρ) fun l _ _ ρ => .ok .nx (ρ.set i (some (l.put [])))
theorem vs_clear (i : Nat) (hN : X.N[i]? = some x := by rfl) (hv : Vis X.env.scope x := by first | exact Or.inl rfl | exact Or.inr (Or.inl rfl) | exact Or.inr (Or.inr rfl)) (hd : (x == ("__debug__" : Str)) = false := by decide) (hcd : (x == ("__classdict__" : Str)) = false := by decide)
    (hbase : attributeBase (.Name x p) "clear" X.env (eval (.Name x p) X.env) = eval (.Name x p) X.env := by rfl) (hline : (apos.endLine == pos.line) = true := by rfl)
    (hsw : swapsWith (.Call (.Attribute (.Name x p) "clear" apos) [] [] pos) none pos2.line X.env = pure false := by rfl) :
    VS X w (.Expr (.Call (.Attribute (.Name x p) "clear" apos) [] [] pos) pos2) (dClear i) :=
  PS.imp (ps_expr (pe_bm0 PySem.F.plainAttrs_list PySem.F.slot_list_clear PySem.F.type_list_clear mt_clear (pe_var hN hv hd hcd) hbase hline) hsw) fun Z σ H ⟨G, ρ, rel, h⟩ => by
    obtain ⟨o, s, ⟨vs, ho⟩, h⟩ := FnS.mine rel h
    obtain ⟨l, ds, e1, m, r3, s3, h3⟩ := h.ok rel
    obtain ⟨o', ws, s', go, hw, hd⟩ := r3.mine e1 m
    rw [s] at s'; cases s'
    obtain ⟨r4, s4⟩ := r3.change (es := []) e1 m s (vs := []) .nil
    exact ⟨.ref o, s, .inl ⟨rfl, vs, .inl (.inl ho)⟩, o, ws, rfl, rfl, hw, FnS.nx (show FnS X.K w G H σ ρ (.ok .nx (ρ.set i (some (l.put [])))) Z from h3) r4 s4⟩
end
/-! reckoning -/
def insK (k : D) (l : L) (ds : List D) (d : D) (i : Nat) (ρ : En) : R Fl := match k with
  | .int k => if ds.length < sizeLine ∧ 0 ≤ k ∧ k < 2 ^ 62 then .ok .nx (ρ.set i (some (l.put (ds.take k.toNat ++ [d] ++ ds.drop k.toNat)))) else .no
  | _ => .no
theorem insK_of {k : Nat} {l : L} {ds : List D} {d : D} {i : Nat} {ρ : En} (h : ds.length < sizeLine) (hk : k ≤ 1000000) : insK (.int (k : Int)) l ds d i ρ = .ok .nx (ρ.set i (some (l.put (ds.take k ++ [d] ++ ds.drop k)))) := by
  unfold insK
  show (if _ then _ else _) = _
  rw [if_pos ⟨h, by omega, by omega⟩, Int.toNat_natCast]
@[simp] theorem dIns_eq (i : Nat) (fi fe : En → R D) (ρ : En) : dIns i fi fe ρ = mineK ρ[i]? fun _ _ => (fi ρ).bind fun a ρ1 => (fe ρ1).bind fun b ρ2 => mineK ρ2[i]? fun l ds => insK a l ds b i ρ2 := by
  unfold dIns
  rw [atMine_eq]
  congr 1
  funext _ _
  cases fi ρ with
  | ok a ρ1 =>
    show ((fe ρ1).bind fun b ρ2 => R.ok (a, b) ρ2).bind _ = (fe ρ1).bind _
    cases fe ρ1 with
    | ok b ρ2 => rfl
    | _ => rfl
  | _ => rfl
def popK (o : Option D) (l : L) (es : List D) (i : Nat) (ρ : En) : R D := match o with
  | some d => .ok d (ρ.set i (some (l.put es)))
  | none => .no
@[simp] theorem popK_some (d : D) (l : L) (es : List D) (i : Nat) (ρ : En) : popK (some d) l es i ρ = .ok d (ρ.set i (some (l.put es))) := rfl
@[simp] theorem dPop_eq (i : Nat) (ρ : En) : dPop i ρ = mineK ρ[i]? fun _ _ => mineK ρ[i]? fun l ds => popK ds[ds.length - 1]? l ds.dropLast i ρ := by
  unfold dPop
  rw [atMine_eq]
  rfl
@[simp] theorem dClear_eq (i : Nat) (ρ : En) : dClear i ρ = mineK ρ[i]? fun _ _ => mineK ρ[i]? fun l _ => .ok .nx (ρ.set i (some (l.put []))) := by
  unfold dClear
  rw [atMine_eq]
  rfl
end Dn
/-! max(xs, default=d): the kit's walk of max, turned to the call with that keyword -/
namespace DnMax
open PySem PySem.Spec
open Sem (wp)
section
variable {prog : Program} {w : World} {A : Around} {R : Result → Shared → Prop} {I : Addr} {fp wr : List Addr} {n : Nat} {P : Nat → Value → Prop} {St : Nat → Heap → Prop} {dv : Value}
abbrev kwD (dv : Value) : List (Str × Value) := [(Str.ofString "default", dv)]
theorem loop (W : Walks prog w A.in1 I fp wr n P St) (bt : Nat → Nat → Bool) (hcmp : CmpOf prog w A.in1 .Gt P bt) (S : Addr) (hSf : S ∉ fp) :
    ∀ (k j : Nat) (s : Shared) (vb : Value) (c : Nat), n - (j + 1) = k → j + 1 ≤ n → St (j + 1) s.heap → P (argBest bt j) vb →
    s.heap.get? S = some { cls := .type "list", dict := none, data := .seq #[vb, vb] c, slots := #[] } →
    (∀ v h' tk, P (argBest bt (n - 1)) v → (∀ b o, b ∉ wr → b ≠ S → s.heap.get? b = some o → h'.get? b = some o) → R (.ok (.ret v)) { s with heap := h', toks := tk }) →
    codeAny (model prog w) A (.builtin "max.loop" ⟨[.ref I, .none, .ref S], kwD dv⟩) R s := by
  have hSw : S ∉ wr := fun h => hSf (W.sub _ h)
  have hname : (toString "max" ++ toString ".loop" : String) = "max.loop" := by decide
  intro k
  induction k with
  | zero =>
    intro j s vb c hk hj hst hPb hS hR
    have hin : j + 1 = n := by omega
    refine codeAny_builtin F.entry_max_loop ?_
    rw [Around.under_plainId F.plain_max_loop _]
    show wpAny _ A.in1 (seqItems? (.ref S) >>= _) _ _ s
    refine wpAny_bind (wpAny_seqItems hS rfl ?_)
    show wpAny _ A.in1 (tryCatch (pyNext (.ref I)) _ >>= _) _ _ s
    refine wpAny_bind (wpAny_tryCatch (W.done s _ _ (hin ▸ hst) fun h' tk hk' => ?_))
    have hS' := hk' S _ hSw hS
    show wpAny _ A.in1 (updateSeq S (fun _ => #[]) >>= _) _ _ _
    refine wpAny_bind ?_
    refine wpAny_updateSeq hS' rfl (wpAny_bind (wpAny_letGo (wpAny_pure ?_)))
    refine hR vb _ tk (by rw [← hin]; exact hPb) fun b o hbw hbS e => (Heap.get?_update_other _ _ (Ne.symm hbS)).trans (hk' b o hbw e)
  | succ k ih =>
    intro j s vb c hk hj hst hPb hS hR
    have hlt : j + 1 < n := by omega
    refine codeAny_builtin F.entry_max_loop ?_
    rw [Around.under_plainId F.plain_max_loop _]
    show wpAny _ A.in1 (seqItems? (.ref S) >>= _) _ _ s
    refine wpAny_bind (wpAny_seqItems hS rfl ?_)
    show wpAny _ A.in1 (tryCatch (pyNext (.ref I)) _ >>= _) _ _ s
    refine wpAny_bind (wpAny_tryCatch (W.item (j + 1) s _ _ hlt hst fun v h' tk hP hst' hk' => ?_))
    have hS' := hk' S _ hSw hS
    show wpAny _ A.in1 (tryCatch (holding [v, v] (richCompare .Gt v vb >>= _)) _ >>= _) _ _ _
    refine wpAny_bind (wpAny_tryCatch (wpAny_holding (wpAny_bind (hcmp (j + 1) (argBest bt j) v vb _ _ _ hP hPb ?_))))
    refine wpAny_bind (wpAny_holding (wpAny_truthy_bool ?_))
    refine wpAny_bind (wpAny_letGo (wpAny_pure ?_))
    cases hb : bt (j + 1) (argBest bt j) with
    | true =>
      simp only [if_true]
      refine wpAny_bind ?_
      refine wpAny_updateSeq hS' rfl (wpAny_bind (wpAny_letGo ?_))
      rw [hname]
      refine wpAny_pure ⟨plainId_quiet F.plain_max_loop _, ih (j + 1) _ v _ (by omega) hlt (W.frame _ _ _ hst' fun b hbf o e => ?_) (by simp only [argBest, hb, if_true]; exact hP) (Heap.get?_update_self _ hS' rfl)
        fun v' h'' tk'' hP' hk'' => ?_⟩
      · exact (Heap.get?_update_other _ _ (fun h : S = b => hSf (by rw [h]; exact hbf))).trans e
      · exact hR v' h'' tk'' hP' fun b o hbw hbS e => hk'' b o hbw hbS ((Heap.get?_update_other _ _ (Ne.symm hbS)).trans (hk' b o hbw e))
    | false =>
      simp only [Bool.false_eq_true, if_false]
      refine wpAny_bind (wpAny_letGo ?_)
      rw [hname]
      refine wpAny_pure ⟨plainId_quiet F.plain_max_loop _, ih (j + 1) _ vb c (by omega) hlt hst' (by simp only [argBest, hb, Bool.false_eq_true, if_false]; exact hPb) hS' fun v' h'' tk'' hP' hk'' => ?_⟩
      exact hR v' h'' tk'' hP' fun b o hbw hbS e => hk'' b o hbw hbS (hk' b o hbw e)
theorem first (W : Walks prog w A.in1 I fp wr n P St) (bt : Nat → Nat → Bool) (hcmp : CmpOf prog w A.in1 .Gt P bt) (S : Addr) (hSf : S ∉ fp) {s : Shared} {c : Nat} (hst : St 0 s.heap)
    (hS : s.heap.get? S = some { cls := .type "list", dict := none, data := .seq #[] c, slots := #[] })
    (h0 : n = 0 → ∀ h' tk, (∀ b o, b ∉ wr → b ≠ S → s.heap.get? b = some o → h'.get? b = some o) → R (.ok (.ret dv)) { s with heap := h', toks := tk })
    (hR : 0 < n → ∀ v h' tk, P (argBest bt (n - 1)) v → (∀ b o, b ∉ wr → b ≠ S → s.heap.get? b = some o → h'.get? b = some o) → R (.ok (.ret v)) { s with heap := h', toks := tk }) :
    codeAny (model prog w) A (.builtin "max.loop" ⟨[.ref I, .none, .ref S], kwD dv⟩) R s := by
  have hSw : S ∉ wr := fun h => hSf (W.sub _ h)
  have hname : (toString "max" ++ toString ".loop" : String) = "max.loop" := by decide
  refine codeAny_builtin F.entry_max_loop ?_
  rw [Around.under_plainId F.plain_max_loop _]
  show wpAny _ A.in1 (seqItems? (.ref S) >>= _) _ _ s
  refine wpAny_bind (wpAny_seqItems hS rfl ?_)
  show wpAny _ A.in1 (tryCatch (pyNext (.ref I)) _ >>= _) _ _ s
  by_cases hn : 0 < n
  · refine wpAny_bind (wpAny_tryCatch (W.item 0 s _ _ hn hst fun v h' tk hP hst' hk' => ?_))
    have hS' := hk' S _ hSw hS
    show wpAny _ A.in1 (updateSeq S (fun _ => #[v, v]) >>= _) _ _ _
    refine wpAny_bind ?_
    refine wpAny_updateSeq hS' rfl ?_
    rw [hname]
    refine wpAny_pure ⟨plainId_quiet F.plain_max_loop _, loop W bt hcmp S hSf _ 0 _ v _ rfl hn (W.frame _ _ _ hst' fun b hbf o e => ?_) hP (Heap.get?_update_self _ hS' rfl) fun v' h'' tk'' hP' hk'' => ?_⟩
    · exact (Heap.get?_update_other _ _ (fun h : S = b => hSf (by rw [h]; exact hbf))).trans e
    · exact hR hn v' h'' tk'' hP' fun b o hbw hbS e => hk'' b o hbw hbS ((Heap.get?_update_other _ _ (Ne.symm hbS)).trans (hk' b o hbw e))
  · have hz : 0 = n := by omega
    refine wpAny_bind (wpAny_tryCatch (W.done s _ _ (hz ▸ hst) fun h' tk hk' => ?_))
    show wpAny _ A.in1 (rule _ >>= _) _ _ _
    refine wpAny_bind (wpAny_rule (wpAny_pure ?_))
    exact h0 hz.symm h' tk fun b o hbw _ e => hk' b o hbw e
end
end DnMax
namespace DnMax
open PySem PySem.Spec
open Sem (wp)
theorem args_maxD (a d : Value) : argsOk "max" ⟨[a], kwD d⟩ := by unfold argsOk; kernel_rfl
section
variable {prog : Program} {w : World} {A : Around} {E : Value → Shared → Prop} {s : Shared} {dv : Value}
theorem call_walk {x : Value} {Q : Value → Shared → Prop}
    (h : wpAny (model prog w) A.in1 (pyIter x) (fun it s₂ => ∃ I fp wr n P St bt, it = .ref I ∧ Walks prog w A.in1 I fp wr n P St ∧ St 0 s₂.heap ∧ (∀ b ∈ fp, b < s₂.heap.objs.size) ∧ CmpOf prog w A.in1 .Gt P bt ∧
      (n = 0 → ∀ h' tk, (∀ b o, b ∉ wr → s₂.heap.get? b = some o → h'.get? b = some o) → Q dv { s₂ with heap := h', toks := tk }) ∧
      (0 < n → ∀ v h' tk, P (argBest bt (n - 1)) v → (∀ b o, b ∉ wr → s₂.heap.get? b = some o → h'.get? b = some o) → Q v { s₂ with heap := h', toks := tk })) E s) :
    wpAny (model prog w) A (call (.builtin "max") [x] (kwD dv)) Q E s := by
  have hname : (toString "max" ++ toString ".loop" : String) = "max.loop" := by decide
  have hc : wpAny (model prog w) A.in1 (Builtin.«max» ⟨[x], kwD dv⟩) (fun fin s' => match fin with
      | .done f => (match (Except.ok f : Result) with | .ok (.ret v) => Q v s' | .ok _ => False | .error e => E e s')
      | .again c' => c'.quiet = true ∧ codeAny (model prog w) A c' (fun r s' => match r with | .ok (.ret v) => Q v s' | .ok _ => False | .error e => E e s') s') E s := by
    show wpAny _ A.in1 (Builtin.Builtins.bindParams "max" ["key", "default"] 0 ⟨[], kwD dv⟩ >>= _) _ _ s
    refine wpAny_bind (wpAny_of_eq (show Builtin.Builtins.bindParams "max" ["key", "default"] 0 ⟨[], kwD dv⟩ = pure [none, some dv] from rfl) ?_)
    refine wpAny_bind (wpAny_pure ?_)
    refine wpAny_bind (wpAny_mono h (fun it s₂ h₂ => ?_) fun _ _ e => e)
    obtain ⟨I, fp, wr, n, P, St, bt, rfl, W, hst, hfp, hcmp, hQ0, hQ⟩ := h₂
    refine wpAny_bind (wpAny_newObj_type ?_)
    have hSf : s₂.heap.objs.size ∉ fp := fun hm => Nat.lt_irrefl _ (hfp _ hm)
    rw [hname]
    refine wpAny_pure ⟨plainId_quiet F.plain_max_loop _, first W bt hcmp s₂.heap.objs.size hSf (W.frame _ _ _ hst fun b _ o e => Heap.get?_push_of_some _ e) (Heap.get?_push_size _ rfl) (fun hn h' tk hk => ?_) (fun hn v h' tk hP hk => ?_)⟩
    · exact hQ0 hn h' tk fun b o hbw e => hk b o hbw (Nat.ne_of_lt (Heap.lt_size e)) (Heap.get?_push_of_some _ e)
    · exact hQ hn v h' tk hP fun b o hbw e => hk b o hbw (Nat.ne_of_lt (Heap.lt_size e)) (Heap.get?_push_of_some _ e)
  have ha := args_maxD x dv
  refine wpAny_call (codeAny_call_builtin F.plain_max F.entry_max ?_)
  simp only [checkBuiltinCall, F.kind_max]
  cases hsig : Manifest.signature? "max" with
  | none => exact wpAny_pure hc
  | some sig =>
    simp only [argsOk, hsig] at ha
    have h2 : Bind.checkArgs "max" sig ⟨[x], kwD dv⟩ = pure () := ha
    show wpAny _ A.in1 (Bind.checkArgs "max" sig ⟨[x], kwD dv⟩) _ _ s
    rw [h2]; exact wpAny_pure hc
end
end DnMax
namespace Dn
open PySem PySem.Spec PyProof.Rows L2
/-- max(xs, default=d) of a list of ints -/
def rMaxDf (K : PySem.W.Frag) : List V → List V → Hp → VK → Prop := fun vs zs H Q => ∃ (a : Addr) (ns : List Int) (z : V), vs = [V.ref a] ∧ zs = [z] ∧ SqL K H a (ns.map V.int) ∧ (ns = [] → Q z H) ∧ ∀ m, m ∈ ns → (∀ y, y ∈ ns → y ≤ m) → Q (.int m) H
theorem cr_maxDf {X : Cx} (hc : X.calm = true) : CallRK X (.builtin "max") [Str.ofString "default"] (rMaxDf X.K) := by
  intro pins s σ H vs zs us ws Q I r rz h
  obtain ⟨a, ns, z, rfl, rfl, hs, q0, q⟩ := h
  obtain ⟨its, rv, hl, _⟩ := I.list hs
  rw [Vals.ref1 r]
  obtain ⟨dv, rfl, rd⟩ := vals1 rz
  have hi := rv.ints
  obtain ⟨xs, e⟩ := hi.allInts.items
  have hn : numsOf (intItems xs).toList = ns := by rw [← e]; exact hi.numsOf
  rw [nums_intItems] at hn
  subst hn
  have hl' := hl.isList
  rw [e] at hl'
  show wpAny _ _ (call (.builtin "max") [.ref a] (DnMax.kwD dv)) _ _ s
  refine DnMax.call_walk (iter_intList hl' fun s₂ e2 st hfp hlI => ?_)
  subst e2
  refine ⟨_, _, _, _, _, _, _, rfl, Walks.list (A := X.A.in1) (I.ok.hd hc) _ a hlI (intItems xs), st, hfp, CmpOf.ints_gt (numAt xs) (fun _ _ => intItems_at), fun h0 h' tk hk => ?_, fun hn0 v h' tk hP hk => ?_⟩
  · have hz : xs.size = 0 := by simpa [intItems] using h0
    refine ⟨z, H, I.kept (old_kept hk), rd, q0 ?_⟩
    apply List.eq_nil_of_length_eq_zero
    rw [List.length_map, Array.length_toList, hz]
  · have hz : 0 < xs.size := by simpa [intItems] using hn0
    have hP' : (intItems xs)[argBest (fun i j => decide (numAt xs i > numAt xs j)) (xs.size - 1)]? = some v := by simpa [intItems] using hP
    obtain ⟨t, rfl⟩ := intItems_at hP'
    obtain ⟨h1, h2⟩ := argBest_gt (numAt xs) (xs.size - 1)
    refine ⟨.int _, H, I.kept (old_kept hk), ⟨_, rfl⟩, q _ ?_ fun y hy => ?_⟩
    · rw [numAt_eq]; exact PySem.getD_mem (by rw [List.length_map, Array.length_toList]; omega)
    · obtain ⟨j, hj, rfl⟩ := mem_getD hy
      rw [List.length_map, Array.length_toList] at hj
      rw [← numAt_eq]; exact h2 j (by omega)
def gMaxDf : D → D → Option D
  | .list ds, z => (allOf asInt ds).bind fun ns => some (match ns.max? with | some m => .int m | none => z)
  | _, _ => none
section
variable {X : Cx} {w : Wh} {p pos kpos : Pos} {e d : Expr} {fe fd : En → R D}
theorem ve_maxDf (hc : X.calm = true) (hg : Gl X "max") (hm : X.mg "max" = none) (he : VE X w e fe) (hd : VE X w d fd)
    (hs : starEach [e] X.env = (false, eval e X.env) :: starEach [] X.env := by rfl) (hpl : (backTo pos (starEach [e] X.env)).any (·.1) = false := by rfl) (hb : backTo pos (starEach [e] X.env) = (false, eval e X.env) :: backTo pos (starEach [] X.env) := by rfl)
    (hall : (backToKw pos (keywordEach [⟨some (Str.ofString "default"), d, kpos⟩] X.env)).all (·.1.isSome) = true := by rfl) (hnone : (backToKw pos (keywordEach [⟨some (Str.ofString "default"), d, kpos⟩] X.env)).any (·.1.isNone) = false := by rfl) (hks : (backToKw pos (keywordEach [⟨some (Str.ofString "default"), d, kpos⟩] X.env)).filterMap (·.1) = [Str.ofString "default"] := by rfl) :
    VE X w (.Call (.Name "max" p) [e] [⟨some (Str.ofString "default"), d, kpos⟩] pos) (dOp gMaxDf fe fd) :=
  PE.imp (pe_callBK (cr_maxDf hc) hg hm boot_B_max (pa_cons he pa_nil hs) (pk_cons hd pk_nil) (by decide) (by decide) hb hpl hall hnone hks) fun σ H Q ⟨G, ρ, rel, h⟩ => ⟨G, ρ, rel, (Fn.bind rel h).imp fun G1 H1 ρ1 dx ⟨r1, s1, h1⟩ x hx => ⟨G1, ρ1, r1, (Fn.bind r1 h1).imp fun G2 H2 ρ2 dz ⟨r2, s2, h2⟩ z hz => by
    obtain ⟨dd, e1, q⟩ := Fn.lift h2
    cases dx with
    | list ds =>
      simp only [gMaxDf, Option.bind_eq_some_iff] at e1
      obtain ⟨ns, e1, e2⟩ := e1
      cases e2
      obtain ⟨a, vs, rfl, hl, hds⟩ := (hx.mono s2.g).lst'
      rw [mapM_ints e1] at hds
      rw [hds.ints] at hl
      refine ⟨a, ns, z, rfl, rfl, r2.sub.seq hl, fun hn => ?_, fun k hk hle => ?_⟩
      · subst hn
        exact q _ _ r2 Stp.refl _ hz
      · have hm : ns.max? = some k := by
          rw [List.max?_eq_some_iff]
          exact ⟨hk, fun b hb => hle b hb⟩
        rw [hm] at q
        exact q _ _ r2 Stp.refl _ (.int _)
    | _ => cases e1⟩⟩
end
@[simp] theorem gMaxDf_list (ds : List D) (z : D) : gMaxDf (.list ds) z = (allOf asInt ds).bind fun ns => some (match ns.max? with | some m => .int m | none => z) := rfl
end Dn
namespace Dn
open PySem PySem.Spec PyProof.Rows L2
section
variable {X : Cx} {w : Wh} {pos p p2 : Pos} {e a b : Expr} {fe fa fb : En → R D}
/-! {} -/
theorem ve_dict0 : VE X w (.Dict [] [] pos) (dC (.dict [])) := PE.imp pe_dnewK fun σ H Q ⟨G, ρ, rel, h⟩ =>
  hand_new rel (fun G' H' r s v hv => h G' H' r s v hv) fun q hq => by
    have := DR.dic (K := X.K) (H := upd G q (.dK [])) (a := q) (kvs := []) (ds := []) upd_same .nil
    exact this
/-! == () of a tuple of any things -/
def gEqT (a b : D) : Option Bool := match gEq a b with
  | some r => some r
  | none => match a, b with
    | .tuple xs, .tuple [] => some xs.isEmpty
    | _, _ => none
def gNeT (a b : D) : Option Bool := (gEqT a b).map (!·)
def rEqT0 (K : PySem.W.Frag) : R2 := fun x y H Q => ∃ l m xs, x = .ref l ∧ y = .ref m ∧ SqT K H l xs ∧ SqT K H m [] ∧ Q (.bl xs.isEmpty) H
theorem op_eqT0 (hu : X.A.units + 64 < cLine) : OpR X (compareOp .Eq) (rEqT0 X.K) := by
  intro pins s σ H x y v u Q I rx ry h
  obtain ⟨l, m, xs, rfl, rfl, h1, h2, q⟩ := h
  cases rx
  cases ry
  obtain ⟨its, r, pl, _⟩ := I.tuple h1
  obtain ⟨its2, r2, pl2, _⟩ := I.tuple h2
  cases r2
  refine SeqAt.eq_tupleAt (e := fun _ => true) pl pl2 (by omega) (fun j _ h2 => by simp at h2) ⟨.bl xs.isEmpty, H, I, ?_, q⟩
  have : xs.length = its.length := r.length
  show Value.bool _ = Value.bool _
  congr 1
  cases xs with
  | nil => cases its with
    | nil => rfl
    | cons _ _ => cases this
  | cons _ _ => cases its with
    | nil => cases this
    | cons _ _ => rfl
theorem op_eqT (hu : X.A.units + 64 < cLine) : OpR X (compareOp .Eq) (fun x y H Q => rEqD X.K x y H Q ∨ rEqT0 X.K x y H Q) := (op_eqD hu).or (op_eqT0 hu)
theorem ob_eqT : OpB X.K (fun x y H Q => rEqD X.K x y H Q ∨ rEqT0 X.K x y H Q) gEqT := fun x y dx dy b H Q hx hy e q => by
  unfold gEqT at e
  cases q1 : gEq dx dy with
  | some r =>
    rw [q1] at e; cases e
    exact .inl (ob_eq x y dx dy b H Q hx hy q1 q)
  | none =>
    rw [q1] at e
    cases dx with
    | tuple xs =>
      cases dy with
      | tuple ys =>
        cases ys with
        | nil =>
          cases e
          cases hx with
          | tup hq hs =>
            cases hy with
            | tup hq2 hs2 =>
              cases hs2
              refine .inr ⟨_, _, _, rfl, rfl, hq, hq2, ?_⟩
              rw [hs.emp]; exact q
        | cons _ _ => cases e
      | _ => cases e
    | _ => cases dy <;> cases e
@[simp] theorem gEqT_nil (xs : List D) : gEqT (.tuple xs) (.tuple []) = some xs.isEmpty := by
  unfold gEqT
  cases q : gEq (.tuple xs) (.tuple []) with
  | none => rfl
  | some r =>
    unfold gEq at q
    split at q
    · cases q
      cases xs <;> simp [PyData.eqv, PyData.eqvAll]
    · cases q
/-! xs[::-1] -/
def gRev : D → Option D
  | .list ds => some (.list ds.reverse)
  | _ => none
theorem ve_rev {k : Nat} {p1 p2 p3 : Pos} (he : VE X w e fe) : VE X w (.Subscript e (.Slice none none (some (.UnaryOp .USub (.Constant (.int 1) k p1) p2)) p3) pos) (d1 gRev fe) :=
  PE.imp (pe_revL he) fun σ H Q ⟨G, ρ, rel, h⟩ => ⟨G, ρ, rel, (Fn.bind rel h).imp fun G1 H1 ρ1 dx ⟨r1, s1, h1⟩ x hx => by
    obtain ⟨d, e, q⟩ := Fn.lift h1
    cases hx with
    | @lst a xs ds hq hds =>
      cases e
      exact ⟨a, xs, rfl, r1.sub.seq hq, hand_new r1 q (DR.newL r1 hds.reverse)⟩
    | _ => cases e⟩
/-! text * int -/
def repS (a : Str) (n : Int) : Str := if n < 1 then Str.empty else if (n == 1 || a.length == 0) = true then a else ⟨(List.replicate n.toNat a.cps).foldl (· ++ ·) #[]⟩
def gMulS : D → D → Option D
  | .str a, .int n => if 0 ≤ n ∧ n ≤ 10000 ∧ a.length ≤ 1000 then some (.str (repS a n)) else none
  | _, _ => none
def rMulS : R2 := fun x y H Q => ∃ a n, x = .str a ∧ y = .int n ∧ (0 ≤ n ∧ n ≤ 10000 ∧ a.length ≤ 1000) ∧ Q (.str (repS a n)) H
theorem rep_fold {α : Type} (c : Array α) : ∀ (k : Nat) (z : Array α), (List.replicate k c).foldl (· ++ ·) z = z ++ (List.replicate k c.toList).flatten.toArray
  | 0, z => by simp
  | k + 1, z => by
    rw [List.replicate_succ, List.foldl_cons, rep_fold c k, List.replicate_succ, List.flatten_cons]
    apply Array.ext'
    simp
theorem rep_size {α : Type} (c : Array α) (k : Nat) : ((List.replicate k c).foldl (· ++ ·) #[]).size = k * c.size := by
  rw [rep_fold]
  simp
theorem op_mulS : OpR X (binaryOp .Mult) rMulS := by
  intro pins s σ H x y v u Q I rx ry h
  obtain ⟨a, n, rfl, rfl, ⟨h0, h1, h2⟩, q⟩ := h
  obtain ⟨t, rfl⟩ := rx
  obtain ⟨t', rfl⟩ := ry
  have hm : a.length * n.toNat ≤ 10000000 := by
    have : a.length * n.toNat ≤ 1000 * 10000 := Nat.mul_le_mul h2 (by omega)
    omega
  have tl : ∀ m : Nat, m ≤ 10000000 → Builtin.Str.tooLong m = false := fun m hm => by
    unfold Builtin.Str.tooLong
    exact decide_eq_false (by have := PySem.sizeLine_eq; omega)
  refine P.mul_str (by simp; omega) (fun h3 _ => ?_) (fun _ _ => tl _ hm) ?_
  · have : (a.length : Int) ≤ (2 ^ 63 - 1) / n := by
      rw [Int.le_ediv_iff_mul_le (by omega)]
      have : (a.length : Int) * n ≤ 1000 * 10000 := Int.mul_le_mul (by omega) h1 h0 (by decide)
      omega
    omega
  · unfold repS at q
    split
    · rw [if_pos (by assumption)] at q
      exact ⟨Nat.zero_le _, .str Str.empty, H, I.tok _, ⟨_, rfl⟩, q⟩
    · rw [if_neg (by assumption)] at q
      split
      · rw [if_pos (by assumption)] at q
        exact ⟨.str a, H, I, ⟨_, rfl⟩, q⟩
      · rw [if_neg (by assumption)] at q
        refine ⟨?_, .str _, H, I.tok _, ⟨_, rfl⟩, q⟩
        have := PySem.sizeLine_eq
        show Array.size _ ≤ _
        rw [rep_size]
        have e : a.cps.size = a.length := rfl
        rw [e, Nat.mul_comm]
        simp
        omega
theorem gMulS_S {a : List Nat} {n : Nat} (h : n ≤ 10000) (h2 : a.length ≤ 1000) : gMulS (.str (SX.S a)) (.int (n : Int)) = some (.str (SX.S (List.replicate n a).flatten)) := by
  show (if _ then _ else _) = _
  rw [if_pos ⟨by omega, by omega, by rw [SX.S_len]; exact h2⟩]
  congr 2
  unfold repS
  by_cases h0 : n = 0
  · subst h0; rfl
  · rw [if_neg (by omega)]
    split
    · rename_i h1
      simp only [Bool.or_eq_true, beq_iff_eq] at h1
      rcases h1 with h1 | h1
      · have : n = 1 := by omega
        subst this; simp
      · rw [SX.S_len] at h1
        have : a = [] := List.length_eq_zero_iff.mp h1
        subst this
        congr 1
        induction n with
        | zero => rfl
        | succ n ih => simp
    · rw [Int.toNat_natCast]
      show (⟨_⟩ : Str) = _
      rw [rep_fold]
      apply congrArg Str.mk
      apply Array.ext'
      simp [SX.S]
theorem os_mulS {K : PySem.W.Frag} : OpS K rMulS gMulS := by
  intro w x y dx dy d G H σ ρ Q r hx hy e q
  cases dx with
  | str a =>
    cases dy with
    | int n =>
      simp only [gMulS] at e
      split at e
      · cases e; cases hx; cases hy
        exact ⟨a, n, rfl, rfl, by assumption, q _ _ r Stp.refl _ (.str _)⟩
      · cases e
    | _ => cases e
  | _ => cases dy <;> cases e
theorem ve_mulS (ha : VE X w a fa) (hb : VE X w b fb) : VE X w (.BinOp a .Mult b pos) (dOp gMulS fa fb) := ve_op op_mulS os_mulS ha hb
end
end Dn
namespace Dn
open PySem PySem.Spec PyProof.Rows L2
/-! ### dicts that are written -/
section
variable {K : PySem.W.Frag} {G H G0 H0 : Hp} {σ : L2.St} {ρ ρ0 : En}
/-- what stands and is nobody's becomes data -/
theorem Rel.fixO (r : Rel K G H σ ρ) {p : Addr} {o : HO} (hg : G p = none) (ho : ¬ Own H σ ρ p) (hp : H p = some o) : Rel K (upd G p o) H σ ρ :=
  (r.keep (G' := upd G p o) (H' := H) (fun b x e => by rw [upd_ne (ne_of_none e hg)]; exact e) (fun b x e => by
    by_cases hb : b = p
    · subst hb; rw [upd_same] at e; cases e; exact hp
    · rw [upd_ne hb] at e; exact r.sub b x e) (fun a h => by
    have : a ≠ p := fun z => by subst z; exact ho h
    rw [upd_ne this]; exact (r.own h).1) (fun _ _ => rfl)).1
theorem Stp.fixO (s : Stp G0 H0 σ ρ0 G H σ ρ) {p : Addr} {o : HO} (hg : G p = none) (hp : H0 p = none) : Stp G0 H0 σ ρ0 (upd G p o) H σ ρ := by
  have sg : Same G (upd G p o) := fun b x e => by rw [upd_ne (ne_of_none e hg)]; exact e
  refine ⟨s.g.trans sg, s.h, fun a h => ?_, s.ow, s.tr, s.ln, s.bo, s.bt⟩
  by_cases ha : a = p
  · subst ha; exact .inr (.inl hp)
  · rw [upd_ne ha] at h; exact s.fr a h
/-! keys and data -/
inductive KDs (K : PySem.W.Frag) (G : Hp) : List (Key × V) → List (Key × D) → Prop
  | nil : KDs K G [] []
  | cons {k : Key} {v : V} {d : D} {a : List (Key × V)} {b : List (Key × D)} : DR K G v d → KDs K G a b → KDs K G ((k, v) :: a) ((k, d) :: b)
theorem KDs.mono {G G' : Hp} (s : Same G G') : ∀ {a : List (Key × V)} {b : List (Key × D)}, KDs K G a b → KDs K G' a b
  | _, _, .nil => .nil
  | _, _, .cons h t => .cons (h.mono s) (KDs.mono s t)
def putKD (kds : List (Key × D)) (k : Key) (d : D) : List (Key × D) :=
  if (kds.any fun p => decide (p.1 = k)) = true then kds.map (fun p => if p.1 = k then (p.1, d) else p) else kds ++ [(k, d)]
def mergeKD (kds more : List (Key × D)) : List (Key × D) := more.foldl (fun acc p => putKD acc p.1 p.2) kds
theorem KDs.any {k : Key} : ∀ {a : List (Key × V)} {b : List (Key × D)}, KDs K G a b → (a.any fun p => decide (p.1 = k)) = b.any fun p => decide (p.1 = k)
  | _, _, .nil => rfl
  | _, _, .cons h t => by rw [List.any_cons, List.any_cons, KDs.any t]
theorem KDs.repl {k : Key} {v : V} {d : D} (hv : DR K G v d) : ∀ {a : List (Key × V)} {b : List (Key × D)}, KDs K G a b → KDs K G (a.map fun p => if p.1 = k then (p.1, v) else p) (b.map fun p => if p.1 = k then (p.1, d) else p)
  | _, _, .nil => .nil
  | _, _, @KDs.cons _ _ k' v' d' a b h t => by
    rw [List.map_cons, List.map_cons]
    by_cases e : k' = k
    · rw [if_pos e, if_pos e]; exact .cons hv (KDs.repl hv t)
    · rw [if_neg e, if_neg e]; exact .cons h (KDs.repl hv t)
theorem KDs.app {k : Key} {v : V} {d : D} (hv : DR K G v d) : ∀ {a : List (Key × V)} {b : List (Key × D)}, KDs K G a b → KDs K G (a ++ [(k, v)]) (b ++ [(k, d)])
  | _, _, .nil => .cons hv .nil
  | _, _, .cons h t => .cons h (KDs.app hv t)
theorem KDs.put {k : Key} {v : V} {d : D} (hv : DR K G v d) {a : List (Key × V)} {b : List (Key × D)} (h : KDs K G a b) : KDs K G (putK a k v) (putKD b k d) := by
  unfold putK putKD
  rw [h.any]
  split
  · exact h.repl hv
  · exact h.app hv
theorem KDs.merge : ∀ {m : List (Key × V)} {n : List (Key × D)}, KDs K G m n → ∀ {a : List (Key × V)} {b : List (Key × D)}, KDs K G a b → KDs K G (mergeK a m) (mergeKD b n)
  | _, _, .nil, _, _, h => h
  | _, _, .cons hv t, _, _, h => KDs.merge t (h.put hv)
theorem KDs.drs : ∀ {a : List (Key × V)} {b : List (Key × D)}, KDs K G a b → DRs K G (a.map (·.2)) (b.map (·.2)) ∧ ((a.map fun p => kD p.1).zip (b.map (·.2))) = b.map fun p => (kD p.1, p.2)
  | _, _, .nil => ⟨.nil, rfl⟩
  | _, _, .cons h t => ⟨.cons h (KDs.drs t).1, by simp [(KDs.drs t).2]⟩
def dictD (kds : List (Key × D)) : D := .dict (kds.map fun p => (kD p.1, p.2))
theorem DR.dictD {a : Addr} {kvs : List (Key × V)} {kds : List (Key × D)} (h : H a = some (.dK kvs)) (k : KDs K H kvs kds) : DR K H (.ref a) (dictD kds) := by
  have := DR.dic h (KDs.drs k).1
  rw [(KDs.drs k).2] at this
  exact this
end
def asKey : D → Option Key
  | .int i => some (.inl i)
  | .str s => some (.inr s)
  | _ => none
def dPairs : List ((En → R D) × (En → R D)) → En → R (List (Key × D))
  | [], ρ => .ok [] ρ
  | (fk, fv) :: r, ρ => (fk ρ).bind fun k ρ1 => (fv ρ1).bind fun v ρ2 => (lift (asKey k) ρ2).bind fun k' ρ3 => (dPairs r ρ3).bind fun ps ρ4 => .ok ((k', v) :: ps) ρ4
def dDisp (fs : List ((En → R D) × (En → R D))) : En → R D := fun ρ => (dPairs fs ρ).bind fun ps ρ1 => if ps.length ≤ 15 then .ok (dictD (mergeKD [] ps)) ρ1 else .no
section
variable {X : Cx} {w : Wh} {pos : Pos}
abbrev VPs (X : Cx) (w : Wh) (pos : Pos) (keys : List (Option Expr)) (values : List Expr) (fs : List ((En → R D) × (En → R D))) : Prop := PPs X pos keys values (fs.map fun p => (teD X.K w p.1, teD X.K w p.2))
theorem vps_nil : VPs X w pos [] [] [] := pps_nil
theorem vps_cons {k v : Expr} {ks : List (Option Expr)} {vs : List Expr} {fk fv : En → R D} {fs : List ((En → R D) × (En → R D))} (hk : VE X w k fk) (hv : VE X w v fv) (hr : VPs X w pos ks vs fs) : VPs X w pos (some k :: ks) (v :: vs) ((fk, fv) :: fs) := pps_cons hk hv hr
theorem tPairs_of : ∀ (fs : List ((En → R D) × (En → R D))) {G H : Hp} {σ : L2.St} {ρ : En} {Q : List (V × V) → Hp → Prop}, Rel X.K G H σ ρ → Fn X.K w G H σ ρ (dPairs fs ρ) (fun G1 H1 ρ1 ps => Rel X.K G1 H1 σ ρ1 → Stp G H σ ρ G1 H1 σ ρ1 → ∀ kvs, KDs X.K G1 kvs ps → Q (kvs.map fun p => (kV p.1, p.2)) H1) →
    tPairs (fs.map fun p => (teD X.K w p.1, teD X.K w p.2)) σ H Q
  | [], G, H, σ, ρ, Q, rel, h => by
    have := h G H rel Stp.refl rel Stp.refl [] .nil
    exact this
  | (fk, fv) :: r, G, H, σ, ρ, Q, rel, h => by
    refine ⟨G, ρ, rel, (Fn.bind rel h).imp fun G1 H1 ρ1 k ⟨r1, s1, h1⟩ x hx => ⟨G1, ρ1, r1, (Fn.bind r1 h1).imp fun G2 H2 ρ2 v ⟨r2, s2, h2⟩ y hy => ?_⟩⟩
    have h3 := Fn.bind r2 h2
    obtain ⟨k', ek, h4⟩ := Fn.lift h3
    obtain ⟨_, _, h4⟩ := h4 G2 H2 r2 Stp.refl
    refine tPairs_of r r2 ((Fn.bind r2 h4).imp fun G3 H3 ρ3 ps ⟨r3, s3, h5⟩ _ _ kvs hk => ?_)
    have h6 := h5 G3 H3 r3 Stp.refl
    have ex : x = kV k' := by
      cases hx with
      | int i => cases ek; rfl
      | str s => cases ek; rfl
      | _ => cases ek
    have := h6 r3 ((s1.trans rel s2).trans rel s3) ((k', y) :: kvs) (.cons (hy.mono s3.g) hk)
    rw [ex]
    exact this
theorem ve_disp {keys : List (Option Expr)} {values : List Expr} {fs : List ((En → R D) × (En → R D))} (h : VPs X w pos keys values fs) (hall : keys.all (·.isSome) = true := by rfl) (hl : keys.length = values.length := by rfl) (h0 : keys ≠ [] := by exact fun z => nomatch z) (h15 : keys.length ≤ 15 := by decide) : VE X w (.Dict keys values pos) (dDisp fs) :=
  PE.imp (pe_disp h hall hl h0 h15) fun σ H Q ⟨G, ρ, rel, hh⟩ => fun p hp => by
    obtain ⟨r0, s0⟩ := rel.laidM (o := .dK []) hp
    refine tPairs_of fs r0 ?_
    have gp : G p = none := Same.free rel.sub hp
    have h1 : Fn X.K w G H σ ρ ((dPairs fs ρ).bind fun ps ρ1 => if ps.length ≤ 15 then R.ok (dictD (mergeKD [] ps)) ρ1 else .no) (QD X.K Q) := hh
    cases q : dPairs fs ρ with
    | no => rw [q] at h1; exact h1.elim
    | ex c ρ1 => rw [q] at h1; exact fun G' H' cls dx r1 s1 => h1 G' H' cls dx r1 (s0.trans rel s1)
    | ok ps ρ1 =>
      rw [q] at h1
      have h2 : Fn X.K w G H σ ρ (if ps.length ≤ 15 then R.ok (dictD (mergeKD [] ps)) ρ1 else .no) (QD X.K Q) := h1
      intro G1 H1 r1 s1 _ _ kvs hk
      have own0 : ¬ Own (upd H p (.dK [])) σ ρ p := fun z => not_own rel hp ((own_upd rel hp p).mp z)
      have s01 := s0.trans rel s1
      have hp1 : H1 p = some (.dK []) := s1.h p _ upd_same own0
      have gp1 : G1 p = none := by
        cases e : G1 p with
        | none => rfl
        | some o =>
          rcases s1.fr p (by rw [e]; exact fun z => nomatch z) with z | z | z
          · exact absurd gp z
          · rw [upd_same] at z; cases z
          · exact absurd z own0
      have own1 : ¬ Own H1 σ ρ1 p := fun z => by
        rcases s1.ow p z with z | z
        · exact own0 z
        · rw [upd_same] at z; cases z
      split at h2
      · rename_i hl15
        refine ⟨hp1, kvs, rfl, ?_, ?_⟩
        · have : ∀ {a : List (Key × V)} {b : List (Key × D)}, KDs X.K G1 a b → a.length = b.length := fun h => by
            have := (KDs.drs h).1.length
            simpa using this
          rw [this hk]; exact hl15
        · have hm := hk.merge (a := []) (b := []) .nil
          have rU := r1.updN (o := .dK (mergeK [] kvs)) gp1 own1
          have sU : Stp G H σ ρ G1 (upd H1 p (.dK (mergeK [] kvs))) σ ρ1 := s01.updN r1 gp1 own1 hp
          have rF := rU.fixO gp1 (r1.updO gp1 own1) upd_same
          have sF := sU.fixO (o := .dK (mergeK [] kvs)) gp1 hp
          refine h2 _ _ rF sF (.ref p) (DR.dictD upd_same (hm.mono fun b x e => by rw [upd_ne (ne_of_none e gp1)]; exact e))
      · exact h2.elim
/-! d[k] -/
def isKey : Key → D → Bool
  | .inl i, .int j => decide (j = i)
  | .inr s, .str t => decide (t = s)
  | _, _ => false
def gIxK (d k : D) : Option D := match d with
  | .dict ps => (asKey k).bind fun q => (ps.find? fun p => isKey q p.1).map (·.2)
  | _ => none
theorem isKey_kD (q k : Key) : isKey q (kD k) = decide (k = q) := by
  cases q <;> cases k <;> simp [isKey, kD]
theorem find_kds {K : PySem.W.Frag} {G : Hp} {q : Key} {d : D} : ∀ {kvs : List (Key × V)} {ds : List D}, DRs K G (kvs.map (·.2)) ds → (((kvs.map fun p => kD p.1).zip ds).find? fun p => isKey q p.1).map (·.2) = some d → ∃ v, valV kvs q = some v ∧ DR K G v d
  | [], _, _, e => by simp at e
  | (k, v) :: kvs, _, .cons h t, e => by
    by_cases hk : k = q
    · subst hk
      simp [List.find?_cons, isKey_kD] at e
      subst e
      exact ⟨v, by simp [valV], h⟩
    · have hf : (isKey q (kD k)) = false := by rw [isKey_kD]; exact decide_eq_false hk
      simp only [List.map_cons, List.zip_cons_cons, List.find?_cons, hf] at e
      obtain ⟨u, e1, e2⟩ := find_kds t e
      exact ⟨u, by simp only [valV, List.find?_cons, decide_eq_false hk]; exact e1, e2⟩
theorem ve_ixK {a b : Expr} {fa fb : En → R D} (hu : X.A.units + 1 < cLine) (ha : VE X w a fa) (hb : VE X w b fb) (hs : NoSl b := by exact fun _ _ => rfl) : VE X w (.Subscript a b pos) (dOp gIxK fa fb) :=
  PE.imp (pe_dget hu ha hb hs) fun σ H Q ⟨G, ρ, rel, h⟩ => ⟨G, ρ, rel, (Fn.bind rel h).imp fun G1 H1 ρ1 dx ⟨r1, s1, h1⟩ x hx => ⟨G1, ρ1, r1, (Fn.bind r1 h1).imp fun G2 H2 ρ2 dy ⟨r2, s2, h2⟩ y hy => by
    obtain ⟨d, e, q⟩ := Fn.lift h2
    cases hx with
    | @dic a kvs ds hq hds =>
      simp only [gIxK, Option.bind_eq_some_iff] at e
      obtain ⟨k, ek, e⟩ := e
      obtain ⟨v, ev, hv⟩ := find_kds (hds.mono s2.g) e
      have ey : y = kV k := by
        cases hy with
        | int i => cases ek; rfl
        | str s => cases ek; rfl
        | _ => cases ek
      subst ey
      refine ⟨a, v, rfl, ?_, q _ _ r2 Stp.refl v hv⟩
      rw [← ev]
      exact DGet.k (r2.sub _ _ (s2.g _ _ hq))
    | _ => cases e⟩⟩
end
@[simp] theorem dPairs_nil (ρ : En) : dPairs [] ρ = .ok [] ρ := rfl
@[simp] theorem dPairs_cons (fk fv : En → R D) (r : List ((En → R D) × (En → R D))) (ρ : En) : dPairs ((fk, fv) :: r) ρ = (fk ρ).bind fun k ρ1 => (fv ρ1).bind fun v ρ2 => (lift (asKey k) ρ2).bind fun k' ρ3 => (dPairs r ρ3).bind fun ps ρ4 => .ok ((k', v) :: ps) ρ4 := rfl
@[simp] theorem dDisp_eq (fs : List ((En → R D) × (En → R D))) (ρ : En) : dDisp fs ρ = (dPairs fs ρ).bind fun ps ρ1 => if ps.length ≤ 15 then .ok (dictD (mergeKD [] ps)) ρ1 else .no := rfl
@[simp] theorem asKey_str (s : Str) : asKey (.str s) = some (.inr s) := rfl
@[simp] theorem asKey_int (s : Int) : asKey (.int s) = some (.inl s) := rfl
end Dn
namespace Dn
open PySem PySem.Spec PyProof.Rows L2
/-! ### lists within lists that change -/
def subT : Tr → List Nat → Option Tr
  | t, [] => some t
  | .im _, _ :: _ => none
  | .ls ts, k :: p => match ts[k]? with
    | some t => subT t p
    | none => none
def updT : Tr → List Nat → Tr → Tr
  | _, [], x => x
  | .im d, _ :: _, _ => .im d
  | .ls ts, k :: p, x => match ts[k]? with
    | some t => .ls (ts.set k (updT t p x))
    | none => .ls ts
def L.tr : L → Option Tr
  | .ot t => some t
  | .bt t => some t
  | _ => none
def L.putT : L → Tr → L
  | .ot _, t => .ot t
  | .bt _, t => .bt t
  | l, _ => l
@[simp] theorem tr_ot (t : Tr) : (L.ot t).tr = some t := rfl
@[simp] theorem tr_bt (t : Tr) : (L.bt t).tr = some t := rfl
@[simp] theorem putT_ot (t u : Tr) : (L.ot t).putT u = .ot u := rfl
@[simp] theorem putT_bt (t u : Tr) : (L.bt t).putT u = .bt u := rfl
inductive NodeAt (H : Hp) : V → Tr → List Nat → V → Tr → Prop
  | nil {v : V} {t : Tr} : NodeAt H v t [] v t
  | cons {o : Addr} {vs : List V} {ts : List Tr} {k : Nat} {v : V} {t : Tr} {p : List Nat} {v' : V} {t' : Tr} : H o = some (.lst vs) → vs[k]? = some v → ts[k]? = some t → NodeAt H v t p v' t' → NodeAt H (.ref o) (.ls ts) (k :: p) v' t'
section
variable {K : PySem.W.Frag} {G H G' H' : Hp} {σ : L2.St} {ρ : En}
theorem NodeAt.sub {v v' : V} {t t' : Tr} {p : List Nat} (n : NodeAt H v t p v' t') : subT t p = some t' := by
  induction n with
  | nil => unfold subT; rfl
  | cons _ _ e _ ih => unfold subT; rw [e]; exact ih
theorem NodeAt.tr {v v' : V} {t t' : Tr} {p : List Nat} (n : NodeAt H v t p v' t') : TR K G H v t → TR K G H v' t' := by
  induction n with
  | nil => exact fun r => r
  | cons h e1 e2 _ ih =>
    intro r
    cases r with
    | ls g h' l c n d => rw [h] at h'; cases h'; exact ih (c _ _ _ e1 e2)
theorem NodeAt.foot {v v' : V} {t t' : Tr} {p : List Nat} {a : Addr} (n : NodeAt H v t p v' t') (f : Foot H v' t' a) : Foot H v t a := by
  induction n with
  | nil => exact f
  | cons h e1 e2 _ ih => exact .sub h e1 e2 (ih f)
theorem NodeAt.snoc {v : V} {t : Tr} {p : List Nat} {o : Addr} {ts : List Tr} {vs : List V} {k : Nat} {v2 : V} {t2 : Tr} (n : NodeAt H v t p (.ref o) (.ls ts)) (h : H o = some (.lst vs)) (e1 : vs[k]? = some v2) (e2 : ts[k]? = some t2) : NodeAt H v t (p ++ [k]) v2 t2 := by
  generalize hv : V.ref o = w at n
  generalize ht : Tr.ls ts = u at n
  induction n with
  | nil => subst hv; subst ht; exact .cons h e1 e2 .nil
  | cons h' e1' e2' _ ih => exact .cons h' e1' e2' (ih hv ht)
theorem TR.list {v : V} {ts : List Tr} (r : TR K G H v (.ls ts)) : ∃ o vs, v = .ref o ∧ G o = none ∧ H o = some (.lst vs) ∧ vs.length = ts.length := by
  cases r with
  | ls g h l _ _ _ => exact ⟨_, _, rfl, g, h, l⟩
/-- one list within is changed -/
structure Chg (K : PySem.W.Frag) (G : Hp) (vs : List V) (ts : List Tr) (vs' : List V) (ts' : List Tr) : Prop where
  len : vs'.length = ts'.length
  new : ∀ (k : Nat) (v : V) (t : Tr), vs'[k]? = some v → ts'[k]? = some t → (vs[k]? = some v ∧ ts[k]? = some t) ∨ ∃ d, t = .im d ∧ DR K G v d
  old : ∀ (k : Nat) (v : V) (t : Tr), vs[k]? = some v → ts[k]? = some t → (vs'[k]? = some v ∧ ts'[k]? = some t) ∨ ∃ d, t = .im d
theorem TR.updAt {v v' : V} {t t' : Tr} {p : List Nat} {o : Addr} {vs vs' : List V} {ts ts' : List Tr} (n : NodeAt H v t p v' t') (ev : v' = .ref o) (et : t' = .ls ts) (ho : H o = some (.lst vs)) (c : Chg K G vs ts vs' ts') : TR K G H v t →
    TR K G (upd H o (.lst vs')) v (updT t p (.ls ts')) ∧ ∀ a, Foot (upd H o (.lst vs')) v (updT t p (.ls ts')) a ↔ Foot H v t a := by
  induction n with
  | nil =>
    subst ev; subst et
    intro r
    cases r with
    | @ls _ vs0 _ g h l ch nf dj =>
      rw [ho] at h; cases h
      have same : ∀ (k : Nat) (v : V) (t : Tr), vs[k]? = some v → ts[k]? = some t → ∀ a, Foot H v t a → upd H o (.lst vs') a = H a := fun k v t e1 e2 a f => upd_ne fun z => by subst z; exact nf k v t e1 e2 f
      have back : ∀ (k : Nat) (v : V) (t : Tr) (a : Addr), vs'[k]? = some v → ts'[k]? = some t → Foot (upd H o (.lst vs')) v t a → vs[k]? = some v ∧ ts[k]? = some t ∧ Foot H v t a := fun k v t a e1 e2 f => by
        rcases c.new k v t e1 e2 with ⟨f1, f2⟩ | ⟨d, rfl, _⟩
        · exact ⟨f1, f2, f.from (same k v t f1 f2)⟩
        · cases f
      unfold updT
      refine ⟨.ls g upd_same c.len (fun k v t e1 e2 => ?_) (fun k v t e1 e2 f => ?_) (fun j k v u t s a e1 e2 e3 e4 f1 f2 => ?_), fun a => ⟨fun f => ?_, fun f => ?_⟩⟩
      · rcases c.new k v t e1 e2 with ⟨f1, f2⟩ | ⟨d, rfl, hd⟩
        · exact (ch k v t f1 f2).keep (Same.refl _) (fun a f => ((ch k v t f1 f2).foot f).1) (same k v t f1 f2)
        · exact .im hd
      · obtain ⟨f1, f2, f3⟩ := back k v t o e1 e2 f
        exact nf k v t f1 f2 f3
      · obtain ⟨a1, a2, a3⟩ := back j v t a e1 e2 f1
        obtain ⟨b1, b2, b3⟩ := back k u s a e3 e4 f2
        exact dj j k v u t s a a1 a2 b1 b2 a3 b3
      · cases f with
        | here => exact .here
        | sub h e1 e2 f =>
          rw [upd_same] at h; cases h
          obtain ⟨f1, f2, f3⟩ := back _ _ _ _ e1 e2 f
          exact .sub ho f1 f2 f3
      · cases f with
        | here => exact .here
        | sub h e1 e2 f =>
          rw [ho] at h; cases h
          rcases c.old _ _ _ e1 e2 with ⟨f1, f2⟩ | ⟨d, rfl⟩
          · exact .sub upd_same f1 f2 (f.to (same _ _ _ e1 e2))
          · cases f
  | @cons q us ts0 k v t p v' t' h e1 e2 nd ih =>
    subst ev; subst et
    intro r
    cases r with
    | ls g h' l ch nf dj =>
      rw [h] at h'; cases h'
      obtain ⟨r1, f1⟩ := ih rfl rfl (ch k v t e1 e2)
      have fo : Foot H v t o := nd.foot .here
      have hq : o ≠ q := fun z => by subst z; exact nf k v t e1 e2 fo
      have hq' : upd H o (.lst vs') q = some (.lst us) := by rw [upd_ne (Ne.symm hq)]; exact h
      have same : ∀ (j : Nat) (u : V) (s : Tr), j ≠ k → us[j]? = some u → ts0[j]? = some s → ∀ a, Foot H u s a → upd H o (.lst vs') a = H a := fun j u s hj e3 e4 a f => upd_ne fun z => by subst z; exact hj (dj j k u v s t _ e3 e4 e1 e2 f fo)
      have hk : k < ts0.length := (List.getElem?_eq_some_iff.mp e2).1
      unfold updT
      rw [e2]
      have at_ : ∀ (j : Nat) (u : V) (s : Tr), us[j]? = some u → (ts0.set k (updT t p (.ls ts')))[j]? = some s → (j = k ∧ u = v ∧ s = updT t p (.ls ts')) ∨ (j ≠ k ∧ ts0[j]? = some s) := fun j u s e3 e4 => by
        by_cases hj : j = k
        · subst hj
          rw [List.getElem?_set_self hk] at e4; cases e4
          rw [e1] at e3; cases e3
          exact .inl ⟨rfl, rfl, rfl⟩
        · rw [List.getElem?_set_ne (Ne.symm hj)] at e4
          exact .inr ⟨hj, e4⟩
      have back : ∀ (j : Nat) (u : V) (s : Tr) (a : Addr), us[j]? = some u → (ts0.set k (updT t p (.ls ts')))[j]? = some s → Foot (upd H o (.lst vs')) u s a → ∃ s', ts0[j]? = some s' ∧ Foot H u s' a := fun j u s a e3 e4 f => by
        rcases at_ j u s e3 e4 with ⟨rfl, rfl, rfl⟩ | ⟨hj, e5⟩
        · exact ⟨t, e2, (f1 a).mp f⟩
        · exact ⟨s, e5, f.from (same j u s hj e3 e5)⟩
      refine ⟨.ls g hq' (by rw [List.length_set]; exact l) (fun j u s e3 e4 => ?_) (fun j u s e3 e4 f => ?_) (fun i j u w s x a e3 e4 e5 e6 g1 g2 => ?_), fun a => ⟨fun f => ?_, fun f => ?_⟩⟩
      · rcases at_ j u s e3 e4 with ⟨rfl, rfl, rfl⟩ | ⟨hj, e5⟩
        · exact r1
        · exact (ch j u s e3 e5).keep (Same.refl _) (fun a f => ((ch j u s e3 e5).foot f).1) (same j u s hj e3 e5)
      · obtain ⟨s', e5, f'⟩ := back j u s q e3 e4 f
        exact nf j u s' e3 e5 f'
      · obtain ⟨s', e7, f7⟩ := back i u s a e3 e4 g1
        obtain ⟨x', e8, f8⟩ := back j w x a e5 e6 g2
        exact dj i j u w s' x' a e3 e7 e5 e8 f7 f8
      · cases f with
        | here => exact .here
        | sub h2 e3 e4 f =>
          rw [hq'] at h2; cases h2
          obtain ⟨s', e5, f'⟩ := back _ _ _ _ e3 e4 f
          exact .sub h e3 e5 f'
      · cases f with
        | here => exact .here
        | @sub _ _ _ j u s _ h2 e3 e4 f =>
          rw [h] at h2; cases h2
          by_cases hj : j = k
          · subst hj
            rw [e1] at e3; cases e3
            rw [e2] at e4; cases e4
            exact .sub hq' e1 (List.getElem?_set_self hk) ((f1 a).mpr f)
          · exact .sub hq' e3 (by rw [List.getElem?_set_ne (Ne.symm hj)]; exact e4) (f.to (same j u s hj e3 e4))
theorem tr_fo {l : L} {t : Tr} {v : V} (e : l.tr = some t) : (cellR K G H v l ↔ TR K G H v t) ∧ ∀ a, Fo H l v a ↔ Foot H v t a := by
  cases l <;> cases e <;> exact ⟨Iff.rfl, fun _ => Iff.rfl⟩
theorem putT_tr {l : L} {t u : Tr} (e : l.tr = some t) : (l.putT u).tr = some u := by cases l <;> cases e <;> rfl
theorem Rel.changeT (r : Rel K G H σ ρ) {i : Nat} {l : L} {t0 : Tr} {v0 : V} (e : ρ[i]? = some (some l)) (m : l.tr = some t0) (s : σ[i]? = some (some v0)) {p : List Nat} {o : Addr} {vs vs' : List V} {ts ts' : List Tr} (n : NodeAt H v0 t0 p (.ref o) (.ls ts)) (ho : H o = some (.lst vs)) (c : Chg K G vs ts vs' ts') :
    Rel K G (upd H o (.lst vs')) σ (ρ.set i (some (l.putT (updT t0 p (.ls ts'))))) ∧ Stp G H σ ρ G (upd H o (.lst vs')) σ (ρ.set i (some (l.putT (updT t0 p (.ls ts'))))) := by
  have c0 := (tr_fo (K := K) (G := G) (H := H) m).1.mp (r.at_ e s)
  obtain ⟨c1, f1⟩ := TR.updAt n rfl rfl ho c c0
  have fo : Fo H l v0 o := ((tr_fo (K := K) (G := G) m).2 o).mpr (n.foot .here)
  have go : G o = none := (r.own ⟨i, l, v0, e, s, fo⟩).1
  have away : ∀ a, OwnX H σ ρ i a → a ≠ o := fun a ha z => by subst z; exact r.notX e s fo ha
  have m' := putT_tr (u := updT t0 p (.ls ts')) m
  obtain ⟨r', ow⟩ := r.set1 (G' := G) (H' := upd H o (.lst vs')) (v' := v0) (l' := l.putT (updT t0 p (.ls ts'))) e (Same.refl _) (fun b x q => by rw [upd_ne (ne_of_none q go)]; exact r.sub b x q)
    (fun a ha => (r.own ha.own).1) (fun a ha => upd_ne (away a ha)) ((tr_fo m').1.mpr c1) (fun a f z => by
      have f' := (f1 a).mp (((tr_fo (K := K) (G := G) m').2 a).mp f)
      exact r.notX e s (((tr_fo (K := K) (G := G) m).2 a).mpr f') z)
  rw [set_id s] at r' ow
  refine ⟨r', ⟨Same.refl _, fun a x q n' => ?_, fun a q => .inl q, fun a q => .inl ?_, tracked_upd, by rw [List.length_set], fun j ds q => ⟨rfl, ?_⟩, fun j t q => ⟨rfl, ?_⟩⟩⟩
  · have ha : a ≠ o := fun z => by subst z; exact n' ⟨i, l, v0, e, s, fo⟩
    rw [upd_ne ha]; exact q
  · rcases ow a q with z | z
    · exact z.own
    · exact ⟨i, l, v0, e, s, ((tr_fo (K := K) (G := G) m).2 a).mpr ((f1 a).mp (((tr_fo (K := K) (G := G) m').2 a).mp z))⟩
  · have hj : j ≠ i := fun z => by subst z; rw [e] at q; cases q; cases m
    exact ⟨ds, by rw [List.getElem?_set_ne (Ne.symm hj)]; exact q⟩
  · by_cases hj : j = i
    · subst hj
      rw [e] at q; cases q
      cases m
      exact ⟨_, set_same e, fun v a q f => by rw [s] at q; cases q; exact (f1 a).mpr f⟩
    · exact ⟨t, by rw [List.getElem?_set_ne (Ne.symm hj)]; exact q, fun v a sv f => f.to fun b y => upd_ne (away b ⟨j, _, v, hj, q, sv, y⟩)⟩
end
end Dn
namespace Dn
open PySem PySem.Spec PyProof.Rows L2
/-! ### what is looked at and changes nothing -/
abbrev teQ (K : PySem.W.Frag) (f : En → Option D) : TE := fun σ H Q => ∃ G ρ d, Rel K G H σ ρ ∧ f ρ = some d ∧ ∀ v, DR K G v d → Q v H
abbrev VQ (X : Cx) (e : Expr) (f : En → Option D) : Prop := PE X e (teQ X.K f)
def qVar (i : Nat) : En → Option D := fun ρ => match ρ[i]? with
  | some (some (.im d)) => some d
  | _ => none
def qC (d : D) : En → Option D := fun _ => some d
def qOp (g : D → D → Option D) (fa fb : En → Option D) : En → Option D := fun ρ => (fa ρ).bind fun x => (fb ρ).bind fun y => g x y
def q1 (g : D → Option D) (fa : En → Option D) : En → Option D := fun ρ => (fa ρ).bind g
def dQ (f : En → Option D) : En → R D := fun ρ => lift (f ρ) ρ
section
variable {X : Cx} {w : Wh} {a b e : Expr} {fa fb f : En → Option D} {pos p : Pos} {x : Str}
theorem ve_q (h : VQ X e f) : VE X w e (dQ f) := PE.imp h fun σ H Q ⟨G, ρ, rel, h⟩ => by
  obtain ⟨d, e, q⟩ := Fn.lift h
  exact ⟨G, ρ, d, rel, e, fun v hv => q _ _ rel Stp.refl v hv⟩
theorem vq_var (i : Nat) (hN : X.N[i]? = some x := by rfl) (hv : Vis X.env.scope x := by first | exact Or.inl rfl | exact Or.inr (Or.inl rfl) | exact Or.inr (Or.inr rfl)) (hd : (x == ("__debug__" : Str)) = false := by decide)
    (hcd : (x == ("__classdict__" : Str)) = false := by decide) : VQ X (.Name x pos) (qVar i) :=
  PE.imp (pe_var hN hv hd hcd) fun σ H Q ⟨G, ρ, d, rel, e, q⟩ => by
    unfold qVar at e
    split at e
    · rename_i d' e'
      cases e
      obtain ⟨v, s, c⟩ := rel.cell i _ e'
      exact ⟨v, s, q v c⟩
    · cases e
theorem vq_int {i : Int} {j : Nat} : VQ X (.Constant (.int i) j pos) (qC (.int i)) := PE.imp pe_int fun σ H Q ⟨G, ρ, d, rel, e, q⟩ => by cases e; exact q _ (.int i)
theorem vq_neg (ha : VQ X a fa) : VQ X (.UnaryOp .USub a pos) (q1 gNeg fa) :=
  PE.imp (pe_un un_neg ha) fun σ H Q ⟨G, ρ, d, rel, e, q⟩ => by
    simp only [q1, Option.bind_eq_some_iff] at e
    obtain ⟨y, e1, e2⟩ := e
    refine ⟨G, ρ, y, rel, e1, fun v hv => ?_⟩
    cases hv with
    | int i => cases e2; exact ⟨i, rfl, q _ (.int _)⟩
    | _ => cases e2
theorem vq_opI {op : Operator} {C : Int → Int → Prop} {k : Int → Int → Int} {g : D → D → Option D} (ho : OpR X (binaryOp op) (rI C fun i j => .int (k i j))) (hg : ∀ y z d, g y z = some d → ∃ i j, y = .int i ∧ z = .int j ∧ C i j ∧ d = .int (k i j)) (ha : VQ X a fa) (hb : VQ X b fb) : VQ X (.BinOp a op b pos) (qOp g fa fb) :=
  PE.imp (pe_op ho ha hb) fun σ H Q ⟨G, ρ, d, rel, e, q⟩ => by
    simp only [qOp, Option.bind_eq_some_iff] at e
    obtain ⟨y, e1, z, e2, e3⟩ := e
    obtain ⟨i, j, rfl, rfl, hc, rfl⟩ := hg _ _ _ e3
    refine ⟨G, ρ, _, rel, e1, fun u hu => ⟨G, ρ, _, rel, e2, fun v hv => ?_⟩⟩
    cases hu; cases hv
    exact ⟨i, j, rfl, rfl, hc, q _ (.int _)⟩
theorem vq_fdiv (ha : VQ X a fa) (hb : VQ X b fb) : VQ X (.BinOp a .FloorDiv b pos) (qOp gFdiv fa fb) := vq_opI op_fdivX (fun y z d e => by
  cases y <;> cases z <;> first | (cases e; done) | (simp only [gFdiv] at e; split at e <;> cases e; exact ⟨_, _, rfl, rfl, ‹_›, rfl⟩)) ha hb
theorem vq_mod (ha : VQ X a fa) (hb : VQ X b fb) : VQ X (.BinOp a .Mod b pos) (qOp gMod fa fb) := vq_opI op_modN (fun y z d e => by
  cases y <;> cases z <;> first | (cases e; done) | (simp only [gMod] at e; split at e <;> cases e; exact ⟨_, _, rfl, rfl, ‹_›, rfl⟩)) ha hb
def gAddI : D → D → Option D
  | .int i, .int j => some (.int (i + j))
  | _, _ => none
theorem vq_add (ha : VQ X a fa) (hb : VQ X b fb) : VQ X (.BinOp a .Add b pos) (qOp gAddI fa fb) := PE.imp (pe_op op_add ha hb) fun σ H Q ⟨G, ρ, d, rel, e, q⟩ => by
  simp only [qOp, Option.bind_eq_some_iff] at e
  obtain ⟨y, e1, z, e2, e3⟩ := e
  refine ⟨G, ρ, _, rel, e1, fun u hu => ⟨G, ρ, _, rel, e2, fun v hv => ?_⟩⟩
  cases y <;> cases z <;> first | (cases e3; done) | skip
  cases e3; cases hu; cases hv
  exact ⟨_, _, rfl, rfl, q _ (.int _)⟩
theorem vq_sub (ha : VQ X a fa) (hb : VQ X b fb) : VQ X (.BinOp a .Sub b pos) (qOp gSub fa fb) := PE.imp (pe_op op_sub ha hb) fun σ H Q ⟨G, ρ, d, rel, e, q⟩ => by
  simp only [qOp, Option.bind_eq_some_iff] at e
  obtain ⟨y, e1, z, e2, e3⟩ := e
  refine ⟨G, ρ, _, rel, e1, fun u hu => ⟨G, ρ, _, rel, e2, fun v hv => ?_⟩⟩
  cases y <;> cases z <;> first | (cases e3; done) | skip
  cases e3; cases hu; cases hv
  exact ⟨_, _, rfl, rfl, q _ (.int _)⟩
theorem vq_ix (ha : VQ X a fa) (hb : VQ X b fb) (hp : PlainIx b := by exact fun _ _ => rfl) : VQ X (.Subscript a b pos) (qOp gIx fa fb) :=
  PE.imp (pe_ix ix_seq ha hb hp) fun σ H Q ⟨G, ρ, d, rel, e, q⟩ => by
    simp only [qOp, Option.bind_eq_some_iff] at e
    obtain ⟨y, e1, z, e2, e3⟩ := e
    exact ⟨G, ρ, y, rel, e1, fun u hu => ⟨G, ρ, z, rel, e2, fun v hv => gIx_ok rel (.im hu) hv e3 q⟩⟩
/-! #### places in a tree -/
def tePl (K : PySem.W.Frag) (i : Nat) (fp : En → Option (List Nat)) : TE := fun σ H Q => ∃ G ρ l v0 t0 p t, Rel K G H σ ρ ∧ ρ[i]? = some (some l) ∧ l.tr = some t0 ∧ σ[i]? = some (some v0) ∧ fp ρ = some p ∧ subT t0 p = some t ∧ ∀ v, NodeAt H v0 t0 p v t → Q v H
abbrev VPl (X : Cx) (e : Expr) (i : Nat) (fp : En → Option (List Nat)) : Prop := PE X e (tePl X.K i fp)
def rootT (c : Option (Option L)) : Option Tr := match c with
  | some (some l) => l.tr
  | _ => none
/-- what stands at a place -/
def nodeQ (i : Nat) (fp : En → Option (List Nat)) (ρ : En) : Option Tr := (rootT ρ[i]?).bind fun t0 => (fp ρ).bind fun p => subT t0 p
def pVar : En → Option (List Nat) := fun _ => some []
def ixT (t : Option Tr) (p : Option (List Nat)) (k : Option D) : Option (List Nat) := match t, p, k with
  | some (.ls ts), some p, some (.int z) => (ixN ts.length z).map fun j => p ++ [j]
  | _, _, _ => none
def pIx (i : Nat) (fp : En → Option (List Nat)) (fk : En → Option D) : En → Option (List Nat) := fun ρ => ixT (nodeQ i fp ρ) (fp ρ) (fk ρ)
def itT (t : Option Tr) (k : Option D) : Option D := match t, k with
  | some (.ls ts), some (.int z) => match L2.atI ts z with
    | some (.im d) => some d
    | _ => none
  | _, _ => none
def qItem (i : Nat) (fp : En → Option (List Nat)) (fk : En → Option D) : En → Option D := fun ρ => itT (nodeQ i fp ρ) (fk ρ)
def lenT (t : Option Tr) : Option D := match t with
  | some (.ls ts) => some (.int ts.length)
  | _ => none
def qLenT (i : Nat) (fp : En → Option (List Nat)) : En → Option D := fun ρ => lenT (nodeQ i fp ρ)
theorem subT_snoc : ∀ {t : Tr} {p : List Nat} {ts : List Tr} {j : Nat} {u : Tr}, subT t p = some (.ls ts) → ts[j]? = some u → subT t (p ++ [j]) = some u
  | t, [], ts, j, u, h, e => by
    unfold subT at h; cases h
    show subT (.ls ts) [j] = some u
    unfold subT; rw [e]; unfold subT; rfl
  | .im d, k :: p, ts, j, u, h, e => by unfold subT at h; cases h
  | .ls us, k :: p, ts, j, u, h, e => by
    unfold subT at h
    split at h
    · rename_i t e1
      show subT (.ls us) (k :: (p ++ [j])) = some u
      unfold subT; rw [e1]
      exact subT_snoc h e
    · cases h
theorem vpl_var (i : Nat) (hN : X.N[i]? = some x := by rfl) (hv : Vis X.env.scope x := by first | exact Or.inl rfl | exact Or.inr (Or.inl rfl) | exact Or.inr (Or.inr rfl)) (hd : (x == ("__debug__" : Str)) = false := by decide)
    (hcd : (x == ("__classdict__" : Str)) = false := by decide) : VPl X (.Name x pos) i pVar :=
  PE.imp (pe_var hN hv hd hcd) fun σ H Q ⟨G, ρ, l, v0, t0, p, t, rel, e, m, s, ep, es, q⟩ => by
    cases ep
    unfold subT at es; cases es
    exact ⟨v0, s, q v0 .nil⟩
/-- the node's list, and its items -/
theorem node_at {K : PySem.W.Frag} {G H : Hp} {σ : L2.St} {ρ : En} {i : Nat} {l : L} {v0 v : V} {t0 : Tr} {p : List Nat} {ts : List Tr} (rel : Rel K G H σ ρ) (e : ρ[i]? = some (some l)) (m : l.tr = some t0) (s : σ[i]? = some (some v0)) (n : NodeAt H v0 t0 p v (.ls ts)) :
    ∃ o vs, v = .ref o ∧ H o = some (.lst vs) ∧ vs.length = ts.length ∧ TR K G H v (.ls ts) := by
  have r := n.tr ((tr_fo m).1.mp (rel.at_ e s))
  obtain ⟨o, vs, ev, _, ho, hl⟩ := r.list
  exact ⟨o, vs, ev, ho, hl, r⟩
theorem atI_two {vs : List V} {ts : List Tr} {z : Int} {t : Tr} (hl : vs.length = ts.length) (e : L2.atI ts z = some t) : ∃ (j : Nat) (v : V), ixN ts.length z = some j ∧ ts[j]? = some t ∧ vs[j]? = some v ∧ L2.atI vs z = some v := by
  unfold L2.atI at e ⊢
  rw [hl]
  cases q : ixN ts.length z with
  | none => rw [q] at e; cases e
  | some j =>
    rw [q] at e
    have ht : ts[j]? = some t := e
    have hj : j < vs.length := by rw [hl]; exact (List.getElem?_eq_some_iff.mp ht).1
    exact ⟨j, vs[j], rfl, ht, List.getElem?_eq_getElem hj, List.getElem?_eq_getElem hj⟩
theorem atI_ix {ts : List Tr} {z : Int} {j : Nat} (h : ixN ts.length z = some j) : L2.atI ts z = ts[j]? := by
  unfold L2.atI; rw [h]; rfl
theorem vpl_ix {i : Nat} {fp : En → Option (List Nat)} (ha : VPl X a i fp) (hb : VQ X b fb) (hp : PlainIx b := by exact fun _ _ => rfl) : VPl X (.Subscript a b pos) i (pIx i fp fb) :=
  PE.imp (pe_ix ix_seq ha hb hp) fun σ H Q ⟨G, ρ, l, v0, t0, p, t, rel, e, m, s, ep, es, q⟩ => by
    unfold pIx ixT at ep
    split at ep
    · rename_i ts p1 z e1 e2 e3
      simp only [Option.map_eq_some_iff] at ep
      obtain ⟨j, ej, rfl⟩ := ep
      have es1 : subT t0 p1 = some (.ls ts) := by
        unfold nodeQ rootT at e1
        rw [e] at e1
        simp only [m, e2, Option.bind_some] at e1
        exact e1
      refine ⟨G, ρ, l, v0, t0, p1, .ls ts, rel, e, m, s, e2, es1, fun u nd => ⟨G, ρ, _, rel, e3, fun w' hw => ?_⟩⟩
      obtain ⟨o, vs, rfl, ho, hl, tr⟩ := node_at rel e m s nd
      have hj : j < ts.length := (ixN_seq ej).2.1
      have et : ts[j]? = some t := by
        have := subT_snoc es1 (List.getElem?_eq_getElem hj)
        rw [es] at this; cases this; exact List.getElem?_eq_getElem hj
      obtain ⟨j', v, ej', et', ev, ea⟩ := atI_two (z := z) hl (by rw [atI_ix ej]; exact et)
      rw [ej] at ej'; cases ej'
      cases hw
      exact .inl ⟨o, vs, z, v, rfl, rfl, .inl (.inl ho), ea, q v (nd.snoc ho ev et)⟩
    · cases ep
theorem vq_item {i : Nat} {fp : En → Option (List Nat)} (ha : VPl X a i fp) (hb : VQ X b fb) (hp : PlainIx b := by exact fun _ _ => rfl) : VQ X (.Subscript a b pos) (qItem i fp fb) :=
  PE.imp (pe_ix ix_seq ha hb hp) fun σ H Q ⟨G, ρ, d, rel, ed, q⟩ => by
    unfold qItem itT at ed
    split at ed
    · rename_i ts z e1 e3
      split at ed
      · rename_i d' ea
        cases ed
        unfold nodeQ rootT at e1
        simp only [Option.bind_eq_some_iff] at e1
        obtain ⟨t0, e0, p1, e2, es1⟩ := e1
        split at e0
        · rename_i l el
          obtain ⟨v0, s, _⟩ := rel.cell i l el
          refine ⟨G, ρ, l, v0, t0, p1, .ls ts, rel, el, e0, s, e2, es1, fun u nd => ⟨G, ρ, _, rel, e3, fun w' hw => ?_⟩⟩
          obtain ⟨o, vs, rfl, ho, hl, tr⟩ := node_at rel el e0 s nd
          obtain ⟨j, v, ej, et, ev, ea'⟩ := atI_two (z := z) hl ea
          cases hw
          have hv : DR X.K G v d := by
            cases tr with
            | ls g h l c n dj => rw [ho] at h; cases h; cases c j v _ ev et with | im h => exact h
          exact .inl ⟨o, vs, z, v, rfl, rfl, .inl (.inl ho), ea', q v hv⟩
        · cases e0
      · cases ed
    · cases ed
theorem vq_lenT {i : Nat} {fp : En → Option (List Nat)} (hg : Gl X "len") (hm : X.mg "len" = none) (ha : VPl X a i fp) (he : starEach [a] X.env = [(false, eval a X.env)] := by rfl) : VQ X (.Call (.Name "len" p) [a] [] pos) (qLenT i fp) :=
  PE.imp (pe_callB call_len hg hm PySem.boot_len (pa_cons ha pa_nil (by rw [he]; rfl)) (by decide) (by decide) (by rw [he]; rfl) (by rfl)) fun σ H Q ⟨G, ρ, d, rel, ed, q⟩ => by
    unfold qLenT lenT at ed
    split at ed
    · rename_i ts e1
      cases ed
      unfold nodeQ rootT at e1
      simp only [Option.bind_eq_some_iff] at e1
      obtain ⟨t0, e0, p1, e2, es1⟩ := e1
      split at e0
      · rename_i l el
        obtain ⟨v0, s, _⟩ := rel.cell i l el
        refine ⟨G, ρ, l, v0, t0, p1, .ls ts, rel, el, e0, s, e2, es1, fun u nd => ?_⟩
        obtain ⟨o, vs, rfl, ho, hl, tr⟩ := node_at rel el e0 s nd
        exact ⟨_, ts.length, rfl, .inl ⟨vs, .inl (.inl ho), hl.symm⟩, q _ (.int _)⟩
      · cases e0
    · cases ed
/-! #### changes -/
def appT (t : Option Tr) (p : Option (List Nat)) (d : Option D) (i : Nat) (ρ : En) : R Fl := match t, p, d with
  | some (.ls ts), some p, some d => if ts.length < sizeLine then (match ρ[i]? with
    | some (some l) => (match l.tr with
      | some t0 => .ok .nx (ρ.set i (some (l.putT (updT t0 p (.ls (ts ++ [.im d]))))))
      | none => .no)
    | _ => .no) else .no
  | _, _, _ => .no
def dAppT (i : Nat) (fp : En → Option (List Nat)) (fa : En → Option D) : En → R Fl := fun ρ => appT (nodeQ i fp ρ) (fp ρ) (fa ρ) i ρ
theorem Chg.app {K : PySem.W.Frag} {G : Hp} {vs : List V} {ts : List Tr} {v : V} {d : D} (hl : vs.length = ts.length) (hv : DR K G v d) : Chg K G vs ts (vs ++ [v]) (ts ++ [.im d]) where
  len := by simp [hl]
  new := fun k u t e1 e2 => by
    by_cases h : k < vs.length
    · rw [List.getElem?_append_left h] at e1
      rw [List.getElem?_append_left (by omega)] at e2
      exact .inl ⟨e1, e2⟩
    · rw [List.getElem?_append_right (by omega)] at e1
      rw [List.getElem?_append_right (by omega)] at e2
      have : k - vs.length = 0 := by
        have := (List.getElem?_eq_some_iff.mp e1).1
        simpa using this
      rw [this] at e1; rw [← hl, this] at e2
      cases e1; cases e2
      exact .inr ⟨d, rfl, hv⟩
  old := fun k u t e1 e2 => .inl ⟨by rw [List.getElem?_append_left (List.getElem?_eq_some_iff.mp e1).1]; exact e1, by rw [List.getElem?_append_left (List.getElem?_eq_some_iff.mp e2).1]; exact e2⟩
theorem Chg.set {K : PySem.W.Frag} {G : Hp} {vs : List V} {ts : List Tr} {v : V} {d d0 : D} {j : Nat} (hl : vs.length = ts.length) (h0 : ts[j]? = some (.im d0)) (hv : DR K G v d) : Chg K G vs ts (vs.set j v) (ts.set j (.im d)) where
  len := by simp [hl]
  new := fun k u t e1 e2 => by
    have hj : j < ts.length := (List.getElem?_eq_some_iff.mp h0).1
    by_cases h : k = j
    · subst h
      rw [List.getElem?_set_self (by omega)] at e1
      rw [List.getElem?_set_self hj] at e2
      cases e1; cases e2
      exact .inr ⟨d, rfl, hv⟩
    · rw [List.getElem?_set_ne (Ne.symm h)] at e1 e2
      exact .inl ⟨e1, e2⟩
  old := fun k u t e1 e2 => by
    by_cases h : k = j
    · subst h; rw [h0] at e2; cases e2; exact .inr ⟨d0, rfl⟩
    · exact .inl ⟨by rw [List.getElem?_set_ne (Ne.symm h)]; exact e1, by rw [List.getElem?_set_ne (Ne.symm h)]; exact e2⟩
theorem vs_appT {i : Nat} {fp : En → Option (List Nat)} {apos pos2 : Pos} (ha : VPl X a i fp) (he : VQ X e f)
    (hbase : attributeBase a "append" X.env (eval a X.env) = eval a X.env := by rfl) (hline : (apos.endLine == pos.line) = true := by rfl)
    (hfew : ((backTo pos (starEach [e] X.env)).all (fun x => !x.1) && (backToKw pos (keywordEach [] X.env)).all (fun x => x.1.isSome) && decide (([e] : List Expr).length + ([] : List Keyword).length + (if ([] : List Keyword).isEmpty then 0 else 1) < 30)) = true := by rfl)
    (hs : starEach [e] X.env = (false, eval e X.env) :: starEach [] X.env := by rfl) (hsw : swapsWith (.Call (.Attribute a "append" apos) [e] [] pos) none pos2.line X.env = pure false := by rfl) :
    VS X w (.Expr (.Call (.Attribute a "append" apos) [e] [] pos) pos2) (dAppT i fp f) :=
  PS.imp (ps_expr (pe_bm PySem.F.plainAttrs_list PySem.F.slot_list_append PySem.F.type_list_append mt_append ha (pa_cons he pa_nil hs) hbase hfew hline hs (by rfl)) hsw) fun Z σ H ⟨G, ρ, rel, h⟩ => by
    unfold dAppT appT at h
    split at h
    · rename_i ts p1 d e1 e2 e3
      split at h
      · rename_i hz
        split at h
        · rename_i l el
          split at h
          · rename_i t0 e0
            obtain ⟨v0, s, _⟩ := rel.cell i l el
            have es1 : subT t0 p1 = some (.ls ts) := by
              unfold nodeQ rootT at e1
              rw [el] at e1
              simp only [e0, e2, Option.bind_some] at e1
              exact e1
            refine ⟨G, ρ, l, v0, t0, p1, .ls ts, rel, el, e0, s, e2, es1, fun u nd => ?_⟩
            obtain ⟨o, vs, rfl, ho, hl, tr⟩ := node_at rel el e0 s nd
            refine ⟨.inl ⟨rfl, vs, .inl (.inl ho)⟩, G, ρ, d, rel, e3, fun v hv => ?_⟩
            obtain ⟨r2, s2⟩ := rel.changeT el e0 s nd ho (Chg.app hl hv)
            exact ⟨o, vs, v, rfl, rfl, ho, by rw [hl]; exact hz, FnS.nx h r2 s2⟩
          · exact h.elim
        · exact h.elim
      · exact h.elim
    · exact h.elim
/-! #### trees that are written -/
structure NewTs (K : PySem.W.Frag) (H : Hp) (σ : L2.St) (G' H' : Hp) (ρ' : En) (vs : List V) (ts : List Tr) : Prop where
  len : vs.length = ts.length
  tr : ∀ (k : Nat) (v : V) (t : Tr), vs[k]? = some v → ts[k]? = some t → TR K G' H' v t
  new : ∀ (k : Nat) (v : V) (t : Tr) (a : Addr), vs[k]? = some v → ts[k]? = some t → Foot H' v t a → ¬ Own H' σ ρ' a ∧ H a = none
  dj : ∀ (j k : Nat) (v u : V) (t s : Tr) (a : Addr), vs[j]? = some v → ts[j]? = some t → vs[k]? = some u → ts[k]? = some s → Foot H' v t a → Foot H' u s a → j = k
abbrev VNs (X : Cx) (w : Wh) (es : List Expr) (ga : En → R (List Tr)) : Prop := PA X es (fun σ H Q => ∃ G ρ, Rel X.K G H σ ρ ∧ Fn X.K w G H σ ρ (ga ρ) (fun G' H' ρ' ts => ∀ vs, NewTs X.K H σ G' H' ρ' vs ts → Q vs H'))
def tNil : En → R (List Tr) := fun ρ => .ok [] ρ
def tIm (f : En → R D) (g : En → R (List Tr)) : En → R (List Tr) := fun ρ => (f ρ).bind fun d ρ1 => (g ρ1).bind fun ts ρ2 => .ok (.im d :: ts) ρ2
def tNew (f : En → R (List D)) (g : En → R (List Tr)) : En → R (List Tr) := fun ρ => (f ρ).bind fun ds ρ1 => (g ρ1).bind fun ts ρ2 => .ok (.ls (ds.map .im) :: ts) ρ2
variable {es : List Expr} {fe : En → R D} {fl : En → R (List D)} {ga : En → R (List Tr)}
theorem vns_nil : VNs X w [] tNil := PA.imp pa_nil fun σ H Q ⟨G, ρ, rel, h⟩ => (show Fn X.K w G H σ ρ (.ok [] ρ) _ from h) G H rel Stp.refl [] ⟨rfl, fun k v t e => by simp at e, fun k v t a e => by simp at e, fun j k v u t s a e => by simp at e⟩
theorem vns_im (he : VE X w e fe) (ht : VNs X w es ga) (hs : starEach (e :: es) X.env = (false, eval e X.env) :: starEach es X.env := by rfl) : VNs X w (e :: es) (tIm fe ga) :=
  PA.imp (pa_cons he ht hs) fun σ H Q ⟨G, ρ, rel, h⟩ => ⟨G, ρ, rel, (Fn.bind rel h).imp fun G1 H1 ρ1 d ⟨r1, s1, h1⟩ v hv => ⟨G1, ρ1, r1, (Fn.bind r1 h1).imp fun G2 H2 ρ2 ts ⟨r2, s2, h2⟩ vs hvs => by
    refine (show Fn X.K w G2 H2 σ ρ2 (.ok (.im d :: ts) ρ2) _ from h2) G2 H2 r2 Stp.refl (v :: vs) ⟨by simp [hvs.len], fun k u t e1 e2 => ?_, fun k u t a e1 e2 f => ?_, fun j k u u2 t t2 a e1 e2 e3 e4 f1 f2 => ?_⟩
    · cases k with
      | zero => cases e1; cases e2; exact .im (hv.mono s2.g)
      | succ k => exact hvs.tr k u t (by simpa using e1) (by simpa using e2)
    · cases k with
      | zero => cases e1; cases e2; cases f
      | succ k =>
        obtain ⟨n1, n2⟩ := hvs.new k u t a (by simpa using e1) (by simpa using e2) f
        refine ⟨n1, ?_⟩
        cases q : H a with
        | none => rfl
        | some o => exact absurd n2 (s1.tr a (by rw [q]; exact fun z => nomatch z))
    · cases j with
      | zero => cases e1; cases e2; cases f1
      | succ j =>
        cases k with
        | zero => cases e3; cases e4; cases f2
        | succ k => exact congrArg (· + 1) (hvs.dj j k u u2 t t2 a (by simpa using e1) (by simpa using e2) (by simpa using e3) (by simpa using e4) f1 f2)⟩⟩
theorem flat_tr {K : PySem.W.Frag} {G H : Hp} {p : Addr} {us : List V} {ds : List D} (hg : G p = none) (hp : H p = some (.lst us)) (hd : DRs K G us ds) : TR K G H (.ref p) (.ls (ds.map .im)) ∧ ∀ a, Foot H (.ref p) (.ls (ds.map .im)) a → a = p := by
  have im_ : ∀ (k : Nat) (t : Tr), (ds.map Tr.im)[k]? = some t → ∃ d, ds[k]? = some d ∧ t = .im d := fun k t e => by
    rw [List.getElem?_map, Option.map_eq_some_iff] at e
    obtain ⟨d, e, rfl⟩ := e
    exact ⟨d, e, rfl⟩
  refine ⟨.ls hg hp (by rw [List.length_map]; exact hd.length) (fun k v t e1 e2 => ?_) (fun k v t e1 e2 f => ?_) (fun j k v u t s a e1 e2 e3 e4 f1 f2 => ?_), fun a f => ?_⟩
  · obtain ⟨d, e, rfl⟩ := im_ k t e2
    obtain ⟨v', e', h⟩ := hd.get e
    rw [e1] at e'; cases e'
    exact .im h
  · obtain ⟨d, e, rfl⟩ := im_ k t e2; cases f
  · obtain ⟨d, e, rfl⟩ := im_ j t e2; cases f1
  · cases f with
    | here => rfl
    | sub h e1 e2 f => obtain ⟨d, e, rfl⟩ := im_ _ _ e2; cases f
theorem vns_new (he : VN X w e fl) (ht : VNs X w es ga) (hs : starEach (e :: es) X.env = (false, eval e X.env) :: starEach es X.env := by rfl) : VNs X w (e :: es) (tNew fl ga) :=
  PA.imp (pa_cons he ht hs) fun σ H Q ⟨G, ρ, rel, h⟩ => ⟨G, ρ, rel, (Fn.bind rel h).imp fun G1 H1 ρ1 ds ⟨r1, s1, h1⟩ p hn => ⟨G1, ρ1, r1, (Fn.bind r1 h1).imp fun G2 H2 ρ2 ts ⟨r2, s2, h2⟩ vs hvs => by
    have na : NewAt X.K G2 H2 σ ρ2 p ds := NewAt.step ⟨hn.g, hn.own, hn.here⟩ s2
    obtain ⟨us, hu, hd⟩ := na.here
    obtain ⟨tr0, f0⟩ := flat_tr na.g hu hd
    have old : H1 p ≠ none := by obtain ⟨us', h', _⟩ := hn.here; rw [h']; exact fun z => nomatch z
    refine (show Fn X.K w G2 H2 σ ρ2 (.ok (.ls (ds.map .im) :: ts) ρ2) _ from h2) G2 H2 r2 Stp.refl (.ref p :: vs) ⟨by simp [hvs.len], fun k u t e1 e2 => ?_, fun k u t a e1 e2 f => ?_, fun j k u u2 t t2 a e1 e2 e3 e4 f1 f2 => ?_⟩
    · cases k with
      | zero => cases e1; cases e2; exact tr0
      | succ k => exact hvs.tr k u t (by simpa using e1) (by simpa using e2)
    · cases k with
      | zero =>
        cases e1; cases e2
        have := f0 a f
        subst this
        exact ⟨na.own, hn.new⟩
      | succ k =>
        obtain ⟨n1, n2⟩ := hvs.new k u t a (by simpa using e1) (by simpa using e2) f
        refine ⟨n1, ?_⟩
        cases q : H a with
        | none => rfl
        | some o => exact absurd n2 (s1.tr a (by rw [q]; exact fun z => nomatch z))
    · cases j with
      | zero =>
        cases e1; cases e2
        cases k with
        | zero => rfl
        | succ k =>
          have := f0 a f1
          subst this
          exact absurd (hvs.new k u2 t2 a (by simpa using e3) (by simpa using e4) f2).2 old
      | succ j =>
        cases k with
        | zero =>
          cases e3; cases e4
          have := f0 a f2
          subst this
          exact absurd (hvs.new j u t a (by simpa using e1) (by simpa using e2) f1).2 old
        | succ k => exact congrArg (· + 1) (hvs.dj j k u u2 t t2 a (by simpa using e1) (by simpa using e2) (by simpa using e3) (by simpa using e4) f1 f2)⟩⟩
end
end Dn
namespace Dn
open PySem PySem.Spec PyProof.Rows L2
section
variable {K : PySem.W.Frag} {G H : Hp} {σ : L2.St} {ρ : En}
/-- the slot i takes a new tree of its own -/
theorem Rel.putT (r : Rel K G H σ ρ) {i : Nat} {c : Option L} (hi : ρ[i]? = some c) {v : V} {t : Tr} (tr : TR K G H v t) (hn : ∀ a, Foot H v t a → ¬ Own H σ ρ a) :
    Rel K G H (σ.set i (some v)) (ρ.set i (some (.ot t))) ∧ ∀ a, Own H (σ.set i (some v)) (ρ.set i (some (.ot t))) a → Own H σ ρ a ∨ Foot H v t a := by
  obtain ⟨r', ow⟩ := r.set1 (G' := G) (H' := H) (v' := v) (l' := .ot t) hi (Same.refl _) r.sub (fun a h => (r.own h.own).1) (fun a _ => rfl) tr (fun a f z => hn a f z.own)
  refine ⟨r', fun a h => ?_⟩
  rcases ow a h with z | z
  · exact .inl z.own
  · exact .inr z
theorem Stp.putT {G0 H0 : Hp} {σ0 : L2.St} {ρ0 : En} (s : Stp G0 H0 σ0 ρ0 G H σ ρ) (r : Rel K G H σ ρ) {i : Nat} {c : Option L} (hi : ρ[i]? = some c) (hb : ∀ ds, c ≠ some (L.bo ds)) (ht : ∀ t, c ≠ some (L.bt t)) {v : V} {t : Tr} (tr : TR K G H v t) (hn : ∀ a, Foot H v t a → ¬ Own H σ ρ a) (h0 : ∀ a, Foot H v t a → H0 a = none) :
    Stp G0 H0 σ0 ρ0 G H (σ.set i (some v)) (ρ.set i (some (.ot t))) := by
  obtain ⟨_, ow⟩ := r.putT hi tr hn
  refine ⟨s.g, s.h, s.fr, fun a h => ?_, s.tr, by rw [List.length_set]; exact s.ln, fun j es e => ?_, fun j t e => ?_⟩
  · rcases ow a h with z | z
    · exact s.ow a z
    · exact .inr (h0 a z)
  · obtain ⟨e1, ds', e2⟩ := s.bo j es e
    have hj : j ≠ i := fun z => by subst z; rw [hi] at e2; exact hb ds' (Option.some.inj e2)
    exact ⟨(List.getElem?_set_ne (Ne.symm hj)).trans e1, ds', by rw [List.getElem?_set_ne (Ne.symm hj)]; exact e2⟩
  · obtain ⟨e1, t', e2, f2⟩ := s.bt j t e
    have hj : j ≠ i := fun z => by subst z; rw [hi] at e2; exact ht t' (Option.some.inj e2)
    exact ⟨(List.getElem?_set_ne (Ne.symm hj)).trans e1, t', by rw [List.getElem?_set_ne (Ne.symm hj)]; exact e2, f2⟩
end
def dAsgT (i : Nat) (ga : En → R (List Tr)) : En → R Fl := fun ρ => (ga ρ).bind fun ts ρ1 => if ts.length ≤ sizeLine then (if free ρ1[i]? = true then .ok .nx (ρ1.set i (some (.ot (.ls ts)))) else .no) else .no
section
variable {X : Cx} {w : Wh} {es : List Expr} {ga : En → R (List Tr)} {x : Str} {pos : Pos}
theorem vs_asgT (i : Nat) {pos' lpos : Pos} (hN : X.N.Nodup) (h : VNs X w es ga) (hi : X.N[i]? = some x := by rfl) (hx : Loc X.env.scope x := by first | exact Or.inl rfl | exact Or.inr rfl) (hs : swapsWith (.List es lpos) (some (.Name x pos')) pos.line X.env = pure false := by rfl)
    (hf : X.fn x = true ∨ X.env.scope.names.lookup x = some .local := by first | exact .inl rfl | exact .inr rfl | assumption) : VS X w (.Assign [.Name x pos'] (.List es lpos) pos) (dAsgT i ga) :=
  PS.imp (ps_set hN hi hx (pe_lst h) hs hf) fun D σ H ⟨G, ρ, rel, h⟩ => ⟨G, ρ, rel, by
    unfold dAsgT at h
    cases q : ga ρ with
    | no => rw [q] at h; exact h
    | ex c ρ' => rw [q] at h; exact fun G' H' cls dx r1 s1 x => h G' H' σ cls dx r1 s1 x
    | ok ts ρ1 =>
      rw [q] at h
      intro G1 H1 r1 s1 vs hvs
      have h1 : FnS X.K w G H σ ρ (if ts.length ≤ sizeLine then (if free ρ1[i]? = true then .ok .nx (ρ1.set i (some (.ot (.ls ts)))) else .no) else .no) D := h
      split at h1
      · rename_i hz
        split at h1
        · rename_i hf
          refine ⟨by rw [hvs.len]; exact hz, fun p hp => ?_⟩
          obtain ⟨c, hc, hb, ht⟩ := free_ok hf
          obtain ⟨r2, s2⟩ := r1.laidM (o := .lst vs) hp
          have hp0 : H p = none := by
            cases q : H p with
            | none => rfl
            | some o => exact absurd hp (s1.tr p (by rw [q]; exact fun z => nomatch z))
          have np : ∀ (k : Nat) (v : V) (t : Tr) (a : Addr), vs[k]? = some v → ts[k]? = some t → Foot H1 v t a → upd H1 p (.lst vs) a = H1 a := fun k v t a e1 e2 f => by
            obtain ⟨_, us, q⟩ := (hvs.tr k v t e1 e2).foot f
            exact upd_ne fun z => by subst z; rw [hp] at q; cases q
          have back : ∀ (k : Nat) (v : V) (t : Tr) (a : Addr), vs[k]? = some v → ts[k]? = some t → Foot (upd H1 p (.lst vs)) v t a → Foot H1 v t a := fun k v t a e1 e2 f => f.from fun b q => np k v t b e1 e2 q
          have tr : TR X.K G1 (upd H1 p (.lst vs)) (.ref p) (.ls ts) := by
            refine .ls (Same.free r1.sub hp) upd_same hvs.len (fun k v t e1 e2 => ?_) (fun k v t e1 e2 f => ?_) (fun j k v u t s a e1 e2 e3 e4 f1 f2 => ?_)
            · exact (hvs.tr k v t e1 e2).keep (Same.refl _) (fun a f => ((hvs.tr k v t e1 e2).foot f).1) (fun a f => np k v t a e1 e2 f)
            · obtain ⟨_, us, q⟩ := (hvs.tr k v t e1 e2).foot (back k v t p e1 e2 f)
              rw [hp] at q; cases q
            · exact hvs.dj j k v u t s a e1 e2 e3 e4 (back j v t a e1 e2 f1) (back k u s a e3 e4 f2)
          have h0 : ∀ a, Foot (upd H1 p (.lst vs)) (.ref p) (.ls ts) a → ¬ Own (upd H1 p (.lst vs)) σ ρ1 a ∧ H a = none := fun a f => by
            cases f with
            | here => exact ⟨fun z => not_own r1 hp ((own_upd r1 hp _).mp z), hp0⟩
            | sub h e1 e2 f =>
              rw [upd_same] at h; cases h
              obtain ⟨n1, n2⟩ := hvs.new _ _ _ _ e1 e2 (back _ _ _ _ e1 e2 f)
              exact ⟨fun z => n1 ((own_upd r1 hp _).mp z), n2⟩
          have st := s1.trans rel s2
          exact FnS.nx h1 (r2.putT hc tr fun a f => (h0 a f).1).1 (st.putT r2 hc hb ht tr (fun a f => (h0 a f).1) (fun a f => (h0 a f).2))
        · exact h1.elim
      · exact h1.elim⟩
end
/-! reckoning -/
@[simp] theorem dQ_eq (f : En → Option D) (ρ : En) : dQ f ρ = lift (f ρ) ρ := rfl
def imQ (c : Option (Option L)) : Option D := match c with
  | some (some (.im d)) => some d
  | _ => none
@[simp] theorem qVar_eq (i : Nat) (ρ : En) : qVar i ρ = imQ ρ[i]? := by
  unfold qVar imQ
  rfl
@[simp] theorem imQ_im (d : D) : imQ (some (some (.im d))) = some d := rfl
@[simp] theorem qC_eq (d : D) (ρ : En) : qC d ρ = some d := rfl
@[simp] theorem qOp_eq (g : D → D → Option D) (fa fb : En → Option D) (ρ : En) : qOp g fa fb ρ = (fa ρ).bind fun x => (fb ρ).bind fun y => g x y := rfl
@[simp] theorem q1_eq (g : D → Option D) (fa : En → Option D) (ρ : En) : q1 g fa ρ = (fa ρ).bind g := rfl
@[simp] theorem gAddI_int (i j : Int) : gAddI (.int i) (.int j) = some (.int (i + j)) := rfl
@[simp] theorem rootT_ot (t : Tr) : rootT (some (some (.ot t))) = some t := rfl
@[simp] theorem rootT_bt (t : Tr) : rootT (some (some (.bt t))) = some t := rfl
@[simp] theorem nodeQ_eq (i : Nat) (fp : En → Option (List Nat)) (ρ : En) : nodeQ i fp ρ = (rootT ρ[i]?).bind fun t0 => (fp ρ).bind fun p => subT t0 p := rfl
@[simp] theorem pVar_eq (ρ : En) : pVar ρ = some [] := rfl
@[simp] theorem pIx_eq (i : Nat) (fp : En → Option (List Nat)) (fk : En → Option D) (ρ : En) : pIx i fp fk ρ = ixT (nodeQ i fp ρ) (fp ρ) (fk ρ) := rfl
@[simp] theorem qItem_eq (i : Nat) (fp : En → Option (List Nat)) (fk : En → Option D) (ρ : En) : qItem i fp fk ρ = itT (nodeQ i fp ρ) (fk ρ) := rfl
@[simp] theorem qLenT_eq (i : Nat) (fp : En → Option (List Nat)) (ρ : En) : qLenT i fp ρ = lenT (nodeQ i fp ρ) := rfl
@[simp] theorem dAppT_eq (i : Nat) (fp : En → Option (List Nat)) (fa : En → Option D) (ρ : En) : dAppT i fp fa ρ = appT (nodeQ i fp ρ) (fp ρ) (fa ρ) i ρ := rfl
@[simp] theorem subT_nil (t : Tr) : subT t [] = some t := by unfold subT; rfl
@[simp] theorem tNil_eq (ρ : En) : tNil ρ = .ok [] ρ := rfl
@[simp] theorem tIm_eq (f : En → R D) (g : En → R (List Tr)) (ρ : En) : tIm f g ρ = (f ρ).bind fun d ρ1 => (g ρ1).bind fun ts ρ2 => .ok (.im d :: ts) ρ2 := rfl
@[simp] theorem tNew_eq (f : En → R (List D)) (g : En → R (List Tr)) (ρ : En) : tNew f g ρ = (f ρ).bind fun ds ρ1 => (g ρ1).bind fun ts ρ2 => .ok (.ls (ds.map .im) :: ts) ρ2 := rfl
@[simp] theorem dAsgT_eq (i : Nat) (ga : En → R (List Tr)) (ρ : En) : dAsgT i ga ρ = (ga ρ).bind fun ts ρ1 => if ts.length ≤ sizeLine then (if free ρ1[i]? = true then .ok .nx (ρ1.set i (some (.ot (.ls ts)))) else .no) else .no := rfl
@[simp] theorem free_ot (t : Tr) : free (some (some (.ot t))) = true := rfl
end Dn
namespace Dn
open PySem PySem.Spec PyProof.Rows L2
/-! ### a new list so many times -/
def repL (ds : List D) (k : D) : Option D := match k with
  | .int n => if 0 ≤ n ∧ n ≤ 10000 ∧ ds.length * n.toNat ≤ sizeLine then some (.list (List.replicate n.toNat ds).flatten) else none
  | _ => none
def dMulL (fl : En → R (List D)) (fk : En → Option D) : En → R D := fun ρ => (fl ρ).bind fun ds ρ1 => lift ((fk ρ1).bind fun k => repL ds k) ρ1
theorem DRs.rep {K : PySem.W.Frag} {G : Hp} {vs : List V} {ds : List D} (h : DRs K G vs ds) : ∀ n : Nat, DRs K G (List.replicate n vs).flatten (List.replicate n ds).flatten
  | 0 => .nil
  | n + 1 => by
    rw [List.replicate_succ, List.replicate_succ, List.flatten_cons, List.flatten_cons]
    exact h.append (DRs.rep h n)
section
variable {X : Cx} {w : Wh} {a b : Expr} {fl : En → R (List D)} {fk : En → Option D} {pos : Pos}
theorem ve_mulL (ha : VN X w a fl) (hb : VQ X b fk) : VE X w (.BinOp a .Mult b pos) (dMulL fl fk) :=
  PE.imp (pe_op op_rep ha hb) fun σ H Q ⟨G, ρ, rel, h⟩ => ⟨G, ρ, rel, (Fn.bind rel h).imp fun G1 H1 ρ1 ds ⟨r1, s1, h1⟩ p n => by
    obtain ⟨d, e, q⟩ := Fn.lift h1
    simp only [Option.bind_eq_some_iff] at e
    obtain ⟨k, ek, e⟩ := e
    refine ⟨G1, ρ1, k, r1, ek, fun v hv => ?_⟩
    unfold repL at e
    split at e
    · rename_i z
      split at e
      · rename_i hz
        cases e
        cases hv
        obtain ⟨us, hp, hd⟩ := n.here
        refine ⟨p, z, us, rfl, rfl, hp, by omega, by omega, by rw [hd.length]; exact hz.2.2, ?_⟩
        exact hand_new r1 q (DR.newL r1 (hd.rep _))
      · cases e
    · cases e⟩
end
@[simp] theorem dMulL_eq (fl : En → R (List D)) (fk : En → Option D) (ρ : En) : dMulL fl fk ρ = (fl ρ).bind fun ds ρ1 => lift ((fk ρ1).bind fun k => repL ds k) ρ1 := rfl
end Dn
namespace Dn
open PySem PySem.Spec PyProof.Rows L2
/-! ### names for lists within a tree: quiet blocks -/
/-- slot j stands for the place (slot i, path) -/
abbrev Al := Nat → Option (Nat × List Nat)
def al0 : Al := fun _ => none
def putAl (j : Nat) (x : Option (Nat × List Nat)) (α : Al) : Al := fun k => if k = j then x else α k
def AlOK (H : Hp) (σ : L2.St) (ρ : En) (α : Al) : Prop := ∀ (j i : Nat) (p : List Nat), α j = some (i, p) → ∃ (l : L) (t0 : Tr) (v0 v : V) (us : List Tr), ρ[i]? = some (some l) ∧ l.tr = some t0 ∧ σ[i]? = some (some v0) ∧ σ[j]? = some (some v) ∧ NodeAt H v0 t0 p v (.ls us)
theorem AlOK.nil {H : Hp} {σ : L2.St} {ρ : En} : AlOK H σ ρ al0 := fun j i p e => by cases e
section
variable {K : PySem.W.Frag} {G H G' H' G1 H1 : Hp} {σ σ1 : L2.St} {ρ ρ1 : En}
theorem NodeAt.to {v : V} {t : Tr} {p : List Nat} {v' : V} {t' : Tr} (n : NodeAt H v t p v' t') : (∀ a, Foot H v t a → H' a = H a) → NodeAt H' v t p v' t' := by
  induction n with
  | nil => exact fun _ => .nil
  | cons h e1 e2 _ ih => exact fun k => .cons (by rw [k _ .here]; exact h) e1 e2 (ih fun a f => k a (.sub h e1 e2 f))
/-- a list's place stays where a list is changed -/
theorem NodeAt.chg {v v' : V} {t t' : Tr} {p : List Nat} {o : Addr} {vs vs' : List V} {ts ts' : List Tr} (n : NodeAt H v t p v' t') (ev : v' = .ref o) (et : t' = .ls ts) (ho : H o = some (.lst vs)) (c : Chg K G vs ts vs' ts') : TR K G H v t →
    ∀ {q : List Nat} {w : V} {us : List Tr}, NodeAt H v t q w (.ls us) → ∃ us', NodeAt (upd H o (.lst vs')) v (updT t p (.ls ts')) q w (.ls us') := by
  induction n with
  | nil =>
    subst ev; subst et
    intro r q w us m
    cases r with
    | @ls _ vs0 _ g h l ch nf dj =>
      rw [ho] at h; cases h
      unfold updT
      generalize hu : Tr.ls us = u at m
      cases m with
      | nil => exact ⟨ts', .nil⟩
      | @cons _ vs1 _ k x s q' _ _ h e1 e2 m =>
        rw [ho] at h; cases h
        rcases c.old k x s e1 e2 with ⟨f1, f2⟩ | ⟨d, rfl⟩
        · have m' := m.to (H' := upd H o (.lst vs')) fun a f => upd_ne fun z => by subst z; exact nf k x s e1 e2 f
          rw [← hu] at m'
          exact ⟨us, .cons upd_same f1 f2 m'⟩
        · cases m with
          | nil => cases hu
  | @cons b xs ts0 k0 x s p' v' t' h e1 e2 nd ih =>
    subst ev; subst et
    intro r q w us m
    cases r with
    | ls g h' l ch nf dj =>
      rw [h] at h'; cases h'
      have fo : Foot H x s o := nd.foot .here
      have hb : o ≠ b := fun z => by subst z; exact nf k0 x s e1 e2 fo
      have hk : k0 < ts0.length := (List.getElem?_eq_some_iff.mp e2).1
      have hb' : upd H o (.lst vs') b = some (.lst xs) := by rw [upd_ne (Ne.symm hb)]; exact h
      unfold updT
      rw [e2]
      generalize hu : Tr.ls us = u at m
      cases m with
      | nil => exact ⟨ts0.set k0 (updT s p' (.ls ts')), .nil⟩
      | @cons _ vs1 _ k y z q' _ _ h2 f1 f2 m =>
        rw [h] at h2; cases h2
        by_cases hkk : k = k0
        · subst hkk
          rw [e1] at f1; cases f1
          rw [e2] at f2; cases f2
          rw [← hu] at m
          obtain ⟨us', m'⟩ := ih rfl rfl (ch k x s e1 e2) m
          exact ⟨us', .cons hb' e1 (List.getElem?_set_self hk) m'⟩
        · have m' := m.to (H' := upd H o (.lst vs')) fun a f => upd_ne fun w => by subst w; exact hkk (dj k k0 y x z s _ f1 f2 e1 e2 f fo)
          rw [← hu] at m'
          exact ⟨us, .cons hb' f1 (by rw [List.getElem?_set_ne (Ne.symm hkk)]; exact f2) m'⟩
end
/-! #### the judgements -/
abbrev RA := Option (Fl × En × Al)
def FnA (K : PySem.W.Frag) (G H : Hp) (σ : L2.St) (ρ : En) (r : RA) (D : Ends) : Prop := match r with
  | some (.nx, ρ', α') => ∀ G' H' σ', Rel K G' H' σ' ρ' → Stp G H σ ρ G' H' σ' ρ' → AlOK H' σ' ρ' α' → D.nx σ' H'
  | some (.rt d, ρ', _) => ∀ G' H' σ' v, Rel K G' H' σ' ρ' → Stp G H σ ρ G' H' σ' ρ' → DR K G' v d → D.rt v H'
  | _ => False
abbrev tsA (K : PySem.W.Frag) (f : En → Al → RA) : TS := fun D σ H => ∃ G ρ α, Rel K G H σ ρ ∧ AlOK H σ ρ α ∧ FnA K G H σ ρ (f ρ α) D
abbrev QS (X : Cx) (st : Stmt) (f : En → Al → RA) : Prop := PS X st (tsA X.K f)
abbrev QSs (X : Cx) (sts : List Stmt) (f : En → Al → RA) : Prop := PSs X sts (tsA X.K f)
abbrev VQA (X : Cx) (e : Expr) (f : En → Al → Option D) : Prop := PE X e (fun σ H Q => ∃ G ρ α d, Rel X.K G H σ ρ ∧ AlOK H σ ρ α ∧ f ρ α = some d ∧ ∀ v, DR X.K G v d → Q v H)
abbrev VTA (X : Cx) (e : Expr) (f : En → Al → Option Bool) : Prop := PT X e (fun σ H Q => ∃ G ρ α b, Rel X.K G H σ ρ ∧ AlOK H σ ρ α ∧ f ρ α = some b ∧ Q b H)
/-- a place: the slot, the path -/
abbrev VPA (X : Cx) (e : Expr) (f : En → Al → Option (Nat × List Nat)) : Prop := PE X e (fun σ H Q => ∃ G ρ α i p l v0 t0 t, Rel X.K G H σ ρ ∧ AlOK H σ ρ α ∧ f ρ α = some (i, p) ∧ ρ[i]? = some (some l) ∧ l.tr = some t0 ∧ σ[i]? = some (some v0) ∧ subT t0 p = some t ∧ ∀ v, NodeAt H v0 t0 p v t → Q v H)
section
variable {K : PySem.W.Frag} {G H G1 H1 : Hp} {σ σ1 : L2.St} {ρ ρ1 : En}
theorem FnA.after (rel : Rel K G H σ ρ) (s1 : Stp G H σ ρ G1 H1 σ1 ρ1) {r : RA} {D : Ends} (h : FnA K G H σ ρ r D) : FnA K G1 H1 σ1 ρ1 r D := by
  unfold FnA at h ⊢
  split at h
  · exact fun G' H' σ' r2 s2 => h G' H' σ' r2 (s1.trans rel s2)
  · exact fun G' H' σ' v r2 s2 => h G' H' σ' v r2 (s1.trans rel s2)
  · exact h.elim
end
/-- a block goes on -/
def aSeq (f g : En → Al → RA) : En → Al → RA := fun ρ α => match f ρ α with
  | some (.nx, ρ1, α1) => g ρ1 α1
  | r => r
def aNx : En → Al → RA := fun ρ α => some (.nx, ρ, α)
def aIf (c : En → Al → Option Bool) (f g : En → Al → RA) : En → Al → RA := fun ρ α => (c ρ α).bind fun b => if b = true then f ρ α else g ρ α
def aRet (f : En → Al → Option D) : En → Al → RA := fun ρ α => (f ρ α).bind fun d => some (.rt d, ρ, α)
/-- the whole block from no names -/
def dA (f : En → Al → RA) : En → R Fl := fun ρ => match f ρ al0 with
  | some (.nx, ρ', _) => .ok .nx ρ'
  | some (.rt d, ρ', _) => .ok (.rt d) ρ'
  | _ => .no
section
variable {X : Cx} {w : Wh} {st : Stmt} {rest sts sa sb : List Stmt} {f g : En → Al → RA} {e c a b : Expr} {fe fa fb : En → Al → Option D} {fc : En → Al → Option Bool} {fp : En → Al → Option (Nat × List Nat)} {pos p2 : Pos} {x : Str}
theorem vss_a (h : QSs X sts f) : VSs X w sts (dA f) := PSs.imp h fun D σ H ⟨G, ρ, rel, h⟩ => by
  refine ⟨G, ρ, al0, rel, AlOK.nil, ?_⟩
  unfold dA at h
  split at h
  · rename_i q; rw [q]; exact fun G' H' σ' r s _ => h G' H' σ' r s
  · rename_i q; rw [q]; exact h
  · exact h.elim
theorem qss_nil : QSs X [] aNx := PSs.imp pss_nil fun D σ H ⟨G, ρ, α, rel, ok, h⟩ => (show FnA X.K G H σ ρ (some (.nx, ρ, α)) D from h) G H σ rel Stp.refl ok
theorem qss_cons (h1 : QS X st f) (h2 : QSs X rest g) : QSs X (st :: rest) (aSeq f g) := PSs.imp (pss_cons h1 h2) fun D σ H ⟨G, ρ, α, rel, ok, h⟩ => by
  refine ⟨G, ρ, α, rel, ok, ?_⟩
  unfold aSeq at h
  split at h
  · rename_i ρ1 α1 q
    rw [q]
    exact fun G' H' σ' r s ok' => ⟨G', ρ1, α1, r, ok', FnA.after rel s h⟩
  · rename_i hn
    cases q : f ρ α with
    | none => rw [q] at h; exact h
    | some r =>
      obtain ⟨fl, ρ1, α1⟩ := r
      cases fl with
      | nx => exact absurd q (hn ρ1 α1)
      | _ => rw [q] at h; exact h
theorem qss_one (h1 : QS X st f) : QSs X [st] f := pss_one h1
theorem qs_if (hc : VTA X c fc) (ha : QSs X sa f) (hb : QSs X sb g) : QS X (.If c sa sb pos) (aIf fc f g) := PS.imp (ps_if hc ha hb) fun D σ H ⟨G, ρ, α, rel, ok, h⟩ => by
  unfold aIf at h
  cases q : fc ρ α with
  | none => rw [q] at h; exact h.elim
  | some b =>
    rw [q] at h
    refine ⟨G, ρ, α, b, rel, ok, q, ?_⟩
    cases b with
    | true => exact iteT ⟨G, ρ, α, rel, ok, h⟩
    | false => exact iteF ⟨G, ρ, α, rel, ok, h⟩
theorem qs_ret (he : VQA X e fe) : QS X (.Return (some e) pos) (aRet fe) := PS.imp (ps_ret he) fun D σ H ⟨G, ρ, α, rel, ok, h⟩ => by
  unfold aRet at h
  cases q : fe ρ α with
  | none => rw [q] at h; exact h.elim
  | some d =>
    rw [q] at h
    exact ⟨G, ρ, α, d, rel, ok, q, fun v hv => (show FnA X.K G H σ ρ (some (.rt d, ρ, α)) D from h) G H σ v rel Stp.refl hv⟩
/-! quiet expressions -/
def aVar (i : Nat) : En → Al → Option D := fun ρ _ => imQ ρ[i]?
def aC (d : D) : En → Al → Option D := fun _ _ => some d
def aOp (g : D → D → Option D) (fa fb : En → Al → Option D) : En → Al → Option D := fun ρ α => (fa ρ α).bind fun x => (fb ρ α).bind fun y => g x y
def aCmp (g : D → D → Option Bool) (fa fb : En → Al → Option D) : En → Al → Option Bool := fun ρ α => (fa ρ α).bind fun x => (fb ρ α).bind fun y => g x y
def nodeA (ρ : En) (r : Option (Nat × List Nat)) : Option Tr := r.bind fun q => (rootT ρ[q.1]?).bind fun t0 => subT t0 q.2
def aItem (fp : En → Al → Option (Nat × List Nat)) (fk : En → Al → Option D) : En → Al → Option D := fun ρ α => itT (nodeA ρ (fp ρ α)) (fk ρ α)
def aLen (fp : En → Al → Option (Nat × List Nat)) : En → Al → Option D := fun ρ α => lenT (nodeA ρ (fp ρ α))
def pRoot (i : Nat) : En → Al → Option (Nat × List Nat) := fun ρ _ => (rootT ρ[i]?).map fun _ => (i, [])
def pAl (j : Nat) : En → Al → Option (Nat × List Nat) := fun _ α => α j
def ixA (t : Option Tr) (r : Option (Nat × List Nat)) (k : Option D) : Option (Nat × List Nat) := match t, r, k with
  | some (.ls ts), some q, some (.int z) => (ixN ts.length z).map fun j => (q.1, q.2 ++ [j])
  | _, _, _ => none
def pIxA (fp : En → Al → Option (Nat × List Nat)) (fk : En → Al → Option D) : En → Al → Option (Nat × List Nat) := fun ρ α => ixA (nodeA ρ (fp ρ α)) (fp ρ α) (fk ρ α)
theorem qa_var (i : Nat) (hN : X.N[i]? = some x := by rfl) (hv : Vis X.env.scope x := by first | exact Or.inl rfl | exact Or.inr (Or.inl rfl) | exact Or.inr (Or.inr rfl)) (hd : (x == ("__debug__" : Str)) = false := by decide)
    (hcd : (x == ("__classdict__" : Str)) = false := by decide) : VQA X (.Name x pos) (aVar i) :=
  PE.imp (vq_var i hN hv hd hcd) fun σ H Q ⟨G, ρ, α, d, rel, ok, e, q⟩ => ⟨G, ρ, d, rel, by rw [qVar_eq]; exact e, q⟩
theorem qa_int {i : Int} {j : Nat} : VQA X (.Constant (.int i) j pos) (aC (.int i)) := PE.imp pe_int fun σ H Q ⟨G, ρ, α, d, rel, ok, e, q⟩ => by cases e; exact q _ (.int i)
theorem qa_op {op : Operator} {C : Int → Int → Prop} {k : Int → Int → Int} {g : D → D → Option D} (ho : OpR X (binaryOp op) (rI C fun i j => .int (k i j))) (hg : ∀ y z d, g y z = some d → ∃ i j, y = .int i ∧ z = .int j ∧ C i j ∧ d = .int (k i j)) (ha : VQA X a fa) (hb : VQA X b fb) : VQA X (.BinOp a op b pos) (aOp g fa fb) :=
  PE.imp (pe_op ho ha hb) fun σ H Q ⟨G, ρ, α, d, rel, ok, e, q⟩ => by
    simp only [aOp, Option.bind_eq_some_iff] at e
    obtain ⟨y, e1, z, e2, e3⟩ := e
    obtain ⟨i, j, rfl, rfl, hc, rfl⟩ := hg _ _ _ e3
    refine ⟨G, ρ, α, _, rel, ok, e1, fun u hu => ⟨G, ρ, α, _, rel, ok, e2, fun v hv => ?_⟩⟩
    cases hu; cases hv
    exact ⟨i, j, rfl, rfl, hc, q _ (.int _)⟩
theorem op_addI : OpR X (binaryOp .Add) (rI (fun _ _ => True) fun i j => .int (i + j)) := opI fun _ _ _ _ _ _ _ _ q => add_int q
theorem qa_add (ha : VQA X a fa) (hb : VQA X b fb) : VQA X (.BinOp a .Add b pos) (aOp gAddI fa fb) := qa_op op_addI (fun y z d e => by
  cases y <;> cases z <;> first | (cases e; done) | (cases e; exact ⟨_, _, rfl, rfl, trivial, rfl⟩)) ha hb
theorem qa_sub (ha : VQA X a fa) (hb : VQA X b fb) : VQA X (.BinOp a .Sub b pos) (aOp gSub fa fb) := qa_op op_subA (fun y z d e => by
  cases y <;> cases z <;> first | (cases e; done) | (cases e; exact ⟨_, _, rfl, rfl, trivial, rfl⟩)) ha hb
theorem qa_mul (ha : VQA X a fa) (hb : VQA X b fb) : VQA X (.BinOp a .Mult b pos) (aOp gMul fa fb) := qa_op op_mulX (fun y z d e => by
  cases y <;> cases z <;> first | (cases e; done) | (simp only [gMul] at e; split at e <;> cases e; exact ⟨_, _, rfl, rfl, mulX_log ‹_›, rfl⟩)) ha hb
theorem qa_fdiv (ha : VQA X a fa) (hb : VQA X b fb) : VQA X (.BinOp a .FloorDiv b pos) (aOp gFdiv fa fb) := qa_op op_fdivX (fun y z d e => by
  cases y <;> cases z <;> first | (cases e; done) | (simp only [gFdiv] at e; split at e <;> cases e; exact ⟨_, _, rfl, rfl, ‹_›, rfl⟩)) ha hb
theorem qa_mod (ha : VQA X a fa) (hb : VQA X b fb) : VQA X (.BinOp a .Mod b pos) (aOp gMod fa fb) := qa_op op_modN (fun y z d e => by
  cases y <;> cases z <;> first | (cases e; done) | (simp only [gMod] at e; split at e <;> cases e; exact ⟨_, _, rfl, rfl, ‹_›, rfl⟩)) ha hb
theorem qa_pow (ha : VQA X a fa) (hb : VQA X b fb) : VQA X (.BinOp a .Pow b pos) (aOp gPow fa fb) := qa_op op_powB (fun y z d e => by
  cases y <;> cases z <;> first | (cases e; done) | (simp only [gPow] at e; split at e <;> cases e; exact ⟨_, _, rfl, rfl, ‹_›, rfl⟩)) ha hb
theorem ta_cmp {op : CmpOp} {r : R2} {k : D → D → Option Bool} (ho : OpR X (compareOp op) r) (hs : OpB X.K r k) (ha : VQA X a fa) (hb : VQA X b fb) (hm : behindInMarks op b = false) : VTA X (.Compare a [op] [b] pos) (aCmp k fa fb) :=
  PT.imp (pt_cmpR ho ha hb hm) fun σ H Q ⟨G, ρ, α, d, rel, ok, e, q⟩ => by
    simp only [aCmp, Option.bind_eq_some_iff] at e
    obtain ⟨y, e1, z, e2, e3⟩ := e
    exact ⟨G, ρ, α, y, rel, ok, e1, fun u hu => ⟨G, ρ, α, z, rel, ok, e2, fun v hv => hs u v y z d H _ (hu.mono rel.sub) (hv.mono rel.sub) e3 ⟨d, rfl, q⟩⟩⟩
theorem vp_root (i : Nat) (hN : X.N[i]? = some x := by rfl) (hv : Vis X.env.scope x := by first | exact Or.inl rfl | exact Or.inr (Or.inl rfl) | exact Or.inr (Or.inr rfl)) (hd : (x == ("__debug__" : Str)) = false := by decide)
    (hcd : (x == ("__classdict__" : Str)) = false := by decide) : VPA X (.Name x pos) (pRoot i) :=
  PE.imp (pe_var hN hv hd hcd) fun σ H Q ⟨G, ρ, α, j, p, l, v0, t0, t, rel, ok, ep, el, m, s, es, q⟩ => by
    simp only [pRoot, Option.map_eq_some_iff] at ep
    obtain ⟨_, _, ep⟩ := ep
    cases ep
    rw [subT_nil] at es; cases es
    exact ⟨v0, s, q v0 .nil⟩
theorem NodeAt.fun_ {H : Hp} {v : V} {t : Tr} {p : List Nat} {v1 v2 : V} {t1 t2 : Tr} (a : NodeAt H v t p v1 t1) : NodeAt H v t p v2 t2 → v1 = v2 ∧ t1 = t2 := by
  induction a with
  | nil => intro b; cases b with | nil => exact ⟨rfl, rfl⟩
  | cons h e1 e2 _ ih =>
    intro b
    cases b with
    | cons h' f1 f2 b =>
      rw [h] at h'; cases h'
      rw [e1] at f1; cases f1
      rw [e2] at f2; cases f2
      exact ih b
theorem vp_al (j : Nat) (hN : X.N[j]? = some x := by rfl) (hv : Vis X.env.scope x := by first | exact Or.inl rfl | exact Or.inr (Or.inl rfl) | exact Or.inr (Or.inr rfl)) (hd : (x == ("__debug__" : Str)) = false := by decide)
    (hcd : (x == ("__classdict__" : Str)) = false := by decide) : VPA X (.Name x pos) (pAl j) :=
  PE.imp (pe_var hN hv hd hcd) fun σ H Q ⟨G, ρ, α, i, p, l, v0, t0, t, rel, ok, ep, el, m, s, es, q⟩ => by
    obtain ⟨l', t0', v0', v, us, e1, e2, e3, e4, n⟩ := ok j i p ep
    rw [el] at e1; cases e1
    rw [m] at e2; cases e2
    rw [s] at e3; cases e3
    have := n.sub
    rw [es] at this; cases this
    exact ⟨v, e4, q v n⟩
end
end Dn
namespace Dn
open PySem PySem.Spec PyProof.Rows L2
section
variable {K : PySem.W.Frag} {G H : Hp} {σ : L2.St} {ρ : En}
theorem nodeA_sub {ρ : En} {i : Nat} {p : List Nat} {l : L} {t0 t : Tr} (el : ρ[i]? = some (some l)) (m : l.tr = some t0) : nodeA ρ (some (i, p)) = subT t0 p := by
  unfold nodeA rootT
  simp only [Option.bind_some, el, m]
theorem nodeA_some {ρ : En} {r : Option (Nat × List Nat)} {t : Tr} (h : nodeA ρ r = some t) : ∃ i p l t0, r = some (i, p) ∧ ρ[i]? = some (some l) ∧ l.tr = some t0 ∧ subT t0 p = some t := by
  unfold nodeA at h
  simp only [Option.bind_eq_some_iff] at h
  obtain ⟨⟨i, p⟩, rfl, t0, e0, e1⟩ := h
  unfold rootT at e0
  split at e0
  · exact ⟨i, p, _, t0, rfl, by assumption, e0, e1⟩
  · cases e0
end
section
variable {X : Cx} {w : Wh} {e a b : Expr} {fe fa fb : En → Al → Option D} {fp : En → Al → Option (Nat × List Nat)} {pos p p2 : Pos} {x : Str}
theorem vp_ix (ha : VPA X a fp) (hb : VQA X b fb) (hp : PlainIx b := by exact fun _ _ => rfl) : VPA X (.Subscript a b pos) (pIxA fp fb) :=
  PE.imp (pe_ix ix_seq ha hb hp) fun σ H Q ⟨G, ρ, α, i, p, l, v0, t0, t, rel, ok, ep, el, m, s, es, q⟩ => by
    unfold pIxA ixA at ep
    split at ep
    · rename_i ts q1 z e1 e2 e3
      simp only [Option.map_eq_some_iff] at ep
      obtain ⟨j, ej, ep⟩ := ep
      obtain ⟨i1, p1⟩ := q1
      cases ep
      rw [e2, nodeA_sub (t := .ls ts) el m] at e1
      refine ⟨G, ρ, α, i1, p1, l, v0, t0, .ls ts, rel, ok, e2, el, m, s, e1, fun u nd => ⟨G, ρ, α, _, rel, ok, e3, fun w' hw => ?_⟩⟩
      obtain ⟨o, vs, rfl, ho, hl, tr⟩ := node_at rel el m s nd
      have hj : j < ts.length := (ixN_seq ej).2.1
      have et : ts[j]? = some t := by
        have := subT_snoc e1 (List.getElem?_eq_getElem hj)
        rw [es] at this; cases this; exact List.getElem?_eq_getElem hj
      obtain ⟨j', v, ej', et', ev, ea⟩ := atI_two (z := z) hl (by rw [atI_ix ej]; exact et)
      rw [ej] at ej'; cases ej'
      cases hw
      exact .inl ⟨o, vs, z, v, rfl, rfl, .inl (.inl ho), ea, q v (nd.snoc ho ev et)⟩
    · cases ep
theorem qa_item (ha : VPA X a fp) (hb : VQA X b fb) (hp : PlainIx b := by exact fun _ _ => rfl) : VQA X (.Subscript a b pos) (aItem fp fb) :=
  PE.imp (pe_ix ix_seq ha hb hp) fun σ H Q ⟨G, ρ, α, d, rel, ok, ed, q⟩ => by
    unfold aItem itT at ed
    split at ed
    · rename_i ts z e1 e3
      split at ed
      · rename_i d' ea
        cases ed
        obtain ⟨i, p1, l, t0, e2, el, m, es1⟩ := nodeA_some e1
        obtain ⟨v0, s, _⟩ := rel.cell i l el
        refine ⟨G, ρ, α, i, p1, l, v0, t0, .ls ts, rel, ok, e2, el, m, s, es1, fun u nd => ⟨G, ρ, α, _, rel, ok, e3, fun w' hw => ?_⟩⟩
        obtain ⟨o, vs, rfl, ho, hl, tr⟩ := node_at rel el m s nd
        obtain ⟨j, v, ej, et, ev, ea'⟩ := atI_two (z := z) hl ea
        cases hw
        have hv : DR X.K G v d := by
          cases tr with
          | ls g h l c n dj => rw [ho] at h; cases h; cases c j v _ ev et with | im h => exact h
        exact .inl ⟨o, vs, z, v, rfl, rfl, .inl (.inl ho), ea', q v hv⟩
      · cases ed
    · cases ed
theorem qa_len (hg : Gl X "len") (hm : X.mg "len" = none) (ha : VPA X a fp) (he : starEach [a] X.env = [(false, eval a X.env)] := by rfl) : VQA X (.Call (.Name "len" p) [a] [] pos) (aLen fp) :=
  PE.imp (pe_callB call_len hg hm PySem.boot_len (pa_cons ha pa_nil (by rw [he]; rfl)) (by decide) (by decide) (by rw [he]; rfl) (by rfl)) fun σ H Q ⟨G, ρ, α, d, rel, ok, ed, q⟩ => by
    unfold aLen lenT at ed
    split at ed
    · rename_i ts e1
      cases ed
      obtain ⟨i, p1, l, t0, e2, el, m, es1⟩ := nodeA_some e1
      obtain ⟨v0, s, _⟩ := rel.cell i l el
      refine ⟨G, ρ, α, i, p1, l, v0, t0, .ls ts, rel, ok, e2, el, m, s, es1, fun u nd => ?_⟩
      obtain ⟨o, vs, rfl, ho, hl, tr⟩ := node_at rel el m s nd
      exact ⟨_, ts.length, rfl, .inl ⟨vs, .inl (.inl ho), hl.symm⟩, q _ (.int _)⟩
    · cases ed
/-! #### statements -/
def aSet (j : Nat) (fe : En → Al → Option D) : En → Al → RA := fun ρ α => (fe ρ α).bind fun d => if free ρ[j]? = true ∧ (rootT ρ[j]?).isNone = true then some (.nx, ρ.set j (some (.im d)), putAl j none α) else none
theorem AlOK.put {H : Hp} {σ : L2.St} {ρ : En} {α : Al} {j : Nat} {v : V} {l : L} (ok : AlOK H σ ρ α) (hr : (rootT ρ[j]?).isNone = true) : AlOK H (σ.set j (some v)) (ρ.set j (some l)) (putAl j none α) := fun k i p e => by
  unfold putAl at e
  split at e
  · cases e
  · rename_i hk
    obtain ⟨l', t0, v0, u, us, e1, e2, e3, e4, n⟩ := ok k i p e
    have hi : i ≠ j := fun z => by
      subst z
      rw [e1] at hr
      unfold rootT at hr
      simp only [e2] at hr
      cases hr
    exact ⟨l', t0, v0, u, us, by rw [List.getElem?_set_ne (Ne.symm hi)]; exact e1, e2, by rw [List.getElem?_set_ne (Ne.symm hi)]; exact e3, by rw [List.getElem?_set_ne (Ne.symm hk)]; exact e4, n⟩
theorem qs_set (j : Nat) {pos' : Pos} (hN : X.N.Nodup) (he : VQA X e fe) (hi : X.N[j]? = some x := by rfl) (hx : Loc X.env.scope x := by first | exact Or.inl rfl | exact Or.inr rfl) (hs : swapsWith e (some (.Name x pos')) pos.line X.env = pure false := by rfl)
    (hf : X.fn x = true ∨ X.env.scope.names.lookup x = some .local := by first | exact .inl rfl | exact .inr rfl | assumption) : QS X (.Assign [.Name x pos'] e pos) (aSet j fe) :=
  PS.imp (ps_set hN hi hx he hs hf) fun D σ H ⟨G, ρ, α, rel, ok, h⟩ => by
    unfold aSet at h
    cases q : fe ρ α with
    | none => rw [q] at h; exact h.elim
    | some d =>
      rw [q] at h
      have h' : FnA X.K G H σ ρ (if free ρ[j]? = true ∧ (rootT ρ[j]?).isNone = true then some (.nx, ρ.set j (some (.im d)), putAl j none α) else none) D := h
      refine ⟨G, ρ, α, d, rel, ok, q, fun v hv => ?_⟩
      split at h'
      · rename_i hc
        obtain ⟨c, hc1, hb, ht⟩ := free_ok hc.1
        obtain ⟨r1, s1⟩ := rel.put hc1 hb ht hv
        exact h' G H _ r1 s1 (ok.put hc.2)
      · exact h'.elim
/-- name = a list's place -/
def aAl (j : Nat) (fp : En → Al → Option (Nat × List Nat)) : En → Al → RA := fun ρ α => match fp ρ α, nodeA ρ (fp ρ α) with
  | some q, some (.ls _) => if free ρ[j]? = true ∧ (rootT ρ[j]?).isNone = true then some (.nx, ρ.set j none, putAl j (some q) α) else none
  | _, _ => none
theorem Rel.hide {K : PySem.W.Frag} {G H : Hp} {σ : L2.St} {ρ : En} (r : Rel K G H σ ρ) {j : Nat} {c : Option L} (hc : ρ[j]? = some c) (hb : ∀ ds, c ≠ some (L.bo ds)) (ht : ∀ t, c ≠ some (L.bt t)) (v : V) : Rel K G H (σ.set j (some v)) (ρ.set j none) ∧ Stp G H σ ρ G H (σ.set j (some v)) (ρ.set j none) := by
  have lk : ∀ k l, (ρ.set j none)[k]? = some (some l) → k ≠ j ∧ ρ[k]? = some (some l) := fun k l e => by
    by_cases hk : k = j
    · subst hk; rw [set_same hc] at e; cases e
    · rw [List.getElem?_set_ne (Ne.symm hk)] at e; exact ⟨hk, e⟩
  have sk : ∀ k, k ≠ j → (σ.set j (some v))[k]? = σ[k]? := fun k hk => List.getElem?_set_ne (Ne.symm hk)
  refine ⟨⟨r.sub, by simp [r.len], fun k l e => ?_, fun k m l l2 u u2 a ek em sk1 sm fk fm => ?_⟩, ⟨Same.refl _, fun _ _ h _ => h, fun _ h => .inl h, fun a ⟨k, l, u, e, s, f⟩ => .inl ?_, fun _ h => h, by rw [List.length_set], fun k ds e => ?_, fun k t e => ?_⟩⟩
  · obtain ⟨hk, e'⟩ := lk k l e
    obtain ⟨u, s, c⟩ := r.cell k l e'
    exact ⟨u, by rw [sk k hk]; exact s, c⟩
  · obtain ⟨hk, ek'⟩ := lk k l ek
    obtain ⟨hm, em'⟩ := lk m l2 em
    rw [sk k hk] at sk1; rw [sk m hm] at sm
    exact r.apart k m l l2 u u2 a ek' em' sk1 sm fk fm
  · obtain ⟨hk, e'⟩ := lk k l e
    rw [sk k hk] at s
    exact ⟨k, l, u, e', s, f⟩
  · have hk : k ≠ j := fun z => by subst z; rw [hc] at e; exact hb ds (Option.some.inj e)
    exact ⟨sk k hk, ds, by rw [List.getElem?_set_ne (Ne.symm hk)]; exact e⟩
  · have hk : k ≠ j := fun z => by subst z; rw [hc] at e; exact ht t (Option.some.inj e)
    exact ⟨sk k hk, t, by rw [List.getElem?_set_ne (Ne.symm hk)]; exact e, fun _ _ _ f => f⟩
theorem qs_al (j : Nat) {pos' : Pos} (hN : X.N.Nodup) (he : VPA X e fp) (hi : X.N[j]? = some x := by rfl) (hx : Loc X.env.scope x := by first | exact Or.inl rfl | exact Or.inr rfl) (hs : swapsWith e (some (.Name x pos')) pos.line X.env = pure false := by rfl)
    (hf : X.fn x = true ∨ X.env.scope.names.lookup x = some .local := by first | exact .inl rfl | exact .inr rfl | assumption) : QS X (.Assign [.Name x pos'] e pos) (aAl j fp) :=
  PS.imp (ps_set hN hi hx he hs hf) fun D σ H ⟨G, ρ, α, rel, ok, h⟩ => by
    unfold aAl at h
    split at h
    · rename_i q ts e1 e2
      obtain ⟨i, p1, l, t0, e3, el, m, es1⟩ := nodeA_some e2
      rw [e1] at e3; cases e3
      obtain ⟨v0, s, _⟩ := rel.cell i l el
      refine ⟨G, ρ, α, i, p1, l, v0, t0, .ls ts, rel, ok, e1, el, m, s, es1, fun v nd => ?_⟩
      split at h
      · rename_i hc
        obtain ⟨c, hc1, hb, ht⟩ := free_ok hc.1
        obtain ⟨r1, s1⟩ := rel.hide hc1 hb ht v
        have hij : i ≠ j := fun z => by
          subst z
          have := hc.2
          rw [el] at this
          unfold rootT at this
          simp only [m] at this
          cases this
        have hjσ : j < σ.length := by rw [rel.len]; exact (List.getElem?_eq_some_iff.mp hc1).1
        refine h G H _ r1 s1 fun k i2 p2 e => ?_
        unfold putAl at e
        split at e
        · rename_i hk
          subst hk
          cases e
          exact ⟨l, t0, v0, v, ts, by rw [List.getElem?_set_ne (Ne.symm hij)]; exact el, m, by rw [List.getElem?_set_ne (Ne.symm hij)]; exact s, List.getElem?_set_self hjσ, nd⟩
        · rename_i hk
          obtain ⟨l', t0', v0', u, us, f1, f2, f3, f4, n⟩ := ok k i2 p2 e
          have hi : i2 ≠ j := fun z => by
            subst z
            have := hc.2
            rw [f1] at this
            unfold rootT at this
            simp only [f2] at this
            cases this
          exact ⟨l', t0', v0', u, us, by rw [List.getElem?_set_ne (Ne.symm hi)]; exact f1, f2, by rw [List.getElem?_set_ne (Ne.symm hi)]; exact f3, by rw [List.getElem?_set_ne (Ne.symm hk)]; exact f4, n⟩
      · exact h.elim
    · exact h.elim
theorem AlOK.chg {K : PySem.W.Frag} {G H : Hp} {σ : L2.St} {ρ : En} {α : Al} (rel : Rel K G H σ ρ) (ok : AlOK H σ ρ α) {i : Nat} {l : L} {t0 : Tr} {v0 : V} (el : ρ[i]? = some (some l)) (m : l.tr = some t0) (s : σ[i]? = some (some v0)) {p : List Nat} {o : Addr} {vs vs' : List V} {ts ts' : List Tr} (n : NodeAt H v0 t0 p (.ref o) (.ls ts)) (ho : H o = some (.lst vs)) (c : Chg K G vs ts vs' ts') :
    AlOK (upd H o (.lst vs')) σ (ρ.set i (some (l.putT (updT t0 p (.ls ts'))))) α := fun k i2 p2 e => by
  obtain ⟨l', t1, v1, u, us, e1, e2, e3, e4, nd⟩ := ok k i2 p2 e
  by_cases hi : i2 = i
  · subst hi
    rw [el] at e1; cases e1
    rw [m] at e2; cases e2
    rw [s] at e3; cases e3
    obtain ⟨us', n'⟩ := n.chg rfl rfl ho c ((tr_fo m).1.mp (rel.at_ el s)) nd
    exact ⟨_, _, v0, u, us', set_same el, putT_tr m, s, e4, n'⟩
  · have away : ∀ a, Foot H v1 t1 a → upd H o (.lst vs') a = H a := fun a f => upd_ne fun z => by
      subst z
      have f1 : Fo H l v0 a := ((tr_fo (K := K) (G := G) m).2 a).mpr (n.foot .here)
      have f2 : Fo H l' v1 a := ((tr_fo (K := K) (G := G) e2).2 a).mpr f
      exact hi (rel.apart i2 i l' l v1 v0 a e1 el e3 s f2 f1)
    exact ⟨l', t1, v1, u, us, by rw [List.getElem?_set_ne (Ne.symm hi)]; exact e1, e2, e3, e4, nd.to away⟩
/-- place.append(e) -/
def aApp (fp : En → Al → Option (Nat × List Nat)) (fe : En → Al → Option D) : En → Al → RA := fun ρ α => match fp ρ α, nodeA ρ (fp ρ α), fe ρ α with
  | some q, some (.ls ts), some d => if ts.length < sizeLine then (match ρ[q.1]? with
    | some (some l) => (match l.tr with
      | some t0 => some (.nx, ρ.set q.1 (some (l.putT (updT t0 q.2 (.ls (ts ++ [.im d]))))), α)
      | none => none)
    | _ => none) else none
  | _, _, _ => none
theorem qs_app {apos : Pos} (ha : VPA X a fp) (he : VQA X e fe)
    (hbase : attributeBase a "append" X.env (eval a X.env) = eval a X.env := by rfl) (hline : (apos.endLine == pos.line) = true := by rfl)
    (hfew : ((backTo pos (starEach [e] X.env)).all (fun x => !x.1) && (backToKw pos (keywordEach [] X.env)).all (fun x => x.1.isSome) && decide (([e] : List Expr).length + ([] : List Keyword).length + (if ([] : List Keyword).isEmpty then 0 else 1) < 30)) = true := by rfl)
    (hs : starEach [e] X.env = (false, eval e X.env) :: starEach [] X.env := by rfl) (hsw : swapsWith (.Call (.Attribute a "append" apos) [e] [] pos) none p2.line X.env = pure false := by rfl) :
    QS X (.Expr (.Call (.Attribute a "append" apos) [e] [] pos) p2) (aApp fp fe) :=
  PS.imp (ps_expr (pe_bm PySem.F.plainAttrs_list PySem.F.slot_list_append PySem.F.type_list_append mt_append ha (pa_cons he pa_nil hs) hbase hfew hline hs (by rfl)) hsw) fun Z σ H ⟨G, ρ, α, rel, ok, h⟩ => by
    unfold aApp at h
    split at h
    · rename_i q1 ts d e1 e2 e3
      obtain ⟨i, p1⟩ := q1
      split at h
      · rename_i hz
        split at h
        · rename_i l el
          split at h
          · rename_i t0 e0
            obtain ⟨v0, s, _⟩ := rel.cell i l el
            rw [e1, nodeA_sub (t := .ls ts) el e0] at e2
            refine ⟨G, ρ, α, i, p1, l, v0, t0, .ls ts, rel, ok, e1, el, e0, s, e2, fun u nd => ?_⟩
            obtain ⟨o, vs, rfl, ho, hl, tr⟩ := node_at rel el e0 s nd
            refine ⟨.inl ⟨rfl, vs, .inl (.inl ho)⟩, G, ρ, α, d, rel, ok, e3, fun v hv => ?_⟩
            obtain ⟨r2, s2⟩ := rel.changeT el e0 s nd ho (Chg.app hl hv)
            exact ⟨o, vs, v, rfl, rfl, ho, by rw [hl]; exact hz, h _ _ _ r2 s2 (ok.chg rel el e0 s nd ho (Chg.app hl hv))⟩
          · exact h.elim
        · exact h.elim
      · exact h.elim
    · exact h.elim
/-- place[k] = e: one datum for another -/
def aPut (fp : En → Al → Option (Nat × List Nat)) (fk fe : En → Al → Option D) : En → Al → RA := fun ρ α => match fe ρ α, fp ρ α, nodeA ρ (fp ρ α), fk ρ α with
  | some d, some q, some (.ls ts), some (.int z) => (match ixN ts.length z with
    | some j => (match ts[j]? with
      | some (.im _) => (match ρ[q.1]? with
        | some (some l) => (match l.tr with
          | some t0 => some (.nx, ρ.set q.1 (some (l.putT (updT t0 q.2 (.ls (ts.set j (.im d)))))), α)
          | none => none)
        | _ => none)
      | _ => none)
    | none => none)
  | _, _, _, _ => none
theorem qs_put (hv : VQA X e fe) (ha : VPA X a fp) (hk : VQA X b fb)
    (hasg : ∀ v, assign (.Subscript a b pos) X.env v = (do
      let ov ← holding [v] (eval a X.env)
      let iv ← holding [v, ov] (eval b X.env)
      standAt pos
      holding [v, ov, iv] (setItem ov iv v)
      release [v, ov, iv] []) := by intro _; rfl)
    (hs : swapsWithSole [.Subscript a b pos] e p2.line X.env = pure false := by rfl) (hw : swappedStores [.Subscript a b pos] e X.env = pure none := by rfl)
    (h1 : (assignEach [.Subscript a b pos] X.env).map (·.2) = [assign (.Subscript a b pos) X.env] := by rfl) : QS X (.Assign [.Subscript a b pos] e p2) (aPut fp fb fe) :=
  PS.imp (ps_asg hv (pg_sub ha hk set_list hasg) hs hw h1) fun Z σ H ⟨G, ρ, α, rel, ok, h⟩ => by
    unfold aPut at h
    split at h
    · rename_i d q1 ts z e3 e1 e2 e4
      obtain ⟨i, p1⟩ := q1
      split at h
      · rename_i j ej
        split at h
        · rename_i d0 e5
          split at h
          · rename_i l el
            split at h
            · rename_i t0 e0
              obtain ⟨v0, s, _⟩ := rel.cell i l el
              rw [e1, nodeA_sub (t := .ls ts) el e0] at e2
              refine ⟨G, ρ, α, d, rel, ok, e3, fun v hv => ⟨G, ρ, α, i, p1, l, v0, t0, .ls ts, rel, ok, e1, el, e0, s, e2, fun u nd => ?_⟩⟩
              obtain ⟨o, vs, rfl, ho, hl, tr⟩ := node_at rel el e0 s nd
              refine ⟨G, ρ, α, _, rel, ok, e4, fun y hy => ?_⟩
              cases hy
              obtain ⟨r2, s2⟩ := rel.changeT el e0 s nd ho (Chg.set hl e5 hv)
              exact ⟨o, vs, z, j, rfl, rfl, ho, by rw [hl]; exact ej, h _ _ _ r2 s2 (ok.chg rel el e0 s nd ho (Chg.set hl e5 hv))⟩
            · exact h.elim
          · exact h.elim
        · exact h.elim
      · exact h.elim
    · exact h.elim
end
end Dn
namespace Dn
open PySem PySem.Spec PyProof.Rows L2
/-! reckoning with quiet blocks -/
section
variable (ρ : En) (α : Al)
def thnA (r : RA) (g : En → Al → RA) : RA := match r with
  | some (.nx, ρ1, α1) => g ρ1 α1
  | r => r
@[simp] theorem aSeq_eq (f g : En → Al → RA) : aSeq f g ρ α = thnA (f ρ α) g := rfl
@[simp] theorem thnA_nx (g : En → Al → RA) : thnA (some (.nx, ρ, α)) g = g ρ α := rfl
@[simp] theorem thnA_rt (d : D) (g : En → Al → RA) : thnA (some (.rt d, ρ, α)) g = some (.rt d, ρ, α) := rfl
@[simp] theorem aNx_eq : aNx ρ α = some (.nx, ρ, α) := rfl
@[simp] theorem aIf_eq (c : En → Al → Option Bool) (f g : En → Al → RA) : aIf c f g ρ α = (c ρ α).bind fun b => if b = true then f ρ α else g ρ α := rfl
@[simp] theorem aRet_eq (f : En → Al → Option D) : aRet f ρ α = (f ρ α).bind fun d => some (.rt d, ρ, α) := rfl
@[simp] theorem aVar_eq (i : Nat) : aVar i ρ α = imQ ρ[i]? := rfl
@[simp] theorem aC_eq (d : D) : aC d ρ α = some d := rfl
@[simp] theorem aOp_eq (g : D → D → Option D) (fa fb : En → Al → Option D) : aOp g fa fb ρ α = (fa ρ α).bind fun x => (fb ρ α).bind fun y => g x y := rfl
@[simp] theorem aCmp_eq (g : D → D → Option Bool) (fa fb : En → Al → Option D) : aCmp g fa fb ρ α = (fa ρ α).bind fun x => (fb ρ α).bind fun y => g x y := rfl
@[simp] theorem aItem_eq (fp : En → Al → Option (Nat × List Nat)) (fk : En → Al → Option D) : aItem fp fk ρ α = itT (nodeA ρ (fp ρ α)) (fk ρ α) := rfl
@[simp] theorem aLen_eq (fp : En → Al → Option (Nat × List Nat)) : aLen fp ρ α = lenT (nodeA ρ (fp ρ α)) := rfl
@[simp] theorem pRoot_eq (i : Nat) : pRoot i ρ α = (rootT ρ[i]?).map fun _ => (i, []) := rfl
@[simp] theorem pAl_eq (j : Nat) : pAl j ρ α = α j := rfl
@[simp] theorem pIxA_eq (fp : En → Al → Option (Nat × List Nat)) (fk : En → Al → Option D) : pIxA fp fk ρ α = ixA (nodeA ρ (fp ρ α)) (fp ρ α) (fk ρ α) := rfl
@[simp] theorem nodeA_at (i : Nat) (p : List Nat) : nodeA ρ (some (i, p)) = (rootT ρ[i]?).bind fun t0 => subT t0 p := rfl
@[simp] theorem putAl_same (j : Nat) (x : Option (Nat × List Nat)) : putAl j x α j = x := if_pos rfl
theorem putAl_ne {j k : Nat} (x : Option (Nat × List Nat)) (h : k ≠ j) : putAl j x α k = α k := if_neg h
@[simp] theorem aSet_eq (j : Nat) (fe : En → Al → Option D) : aSet j fe ρ α = (fe ρ α).bind fun d => if free ρ[j]? = true ∧ (rootT ρ[j]?).isNone = true then some (.nx, ρ.set j (some (.im d)), putAl j none α) else none := rfl
@[simp] theorem rootT_no : rootT (some none) = none := rfl
@[simp] theorem rootT_im (d : D) : rootT (some (some (.im d))) = none := rfl
@[simp] theorem rootT_ow (d : List D) : rootT (some (some (.ow d))) = none := rfl
@[simp] theorem dA_rt (f : En → Al → RA) {d : D} {ρ' : En} {α' : Al} (h : f ρ al0 = some (.rt d, ρ', α')) : dA f ρ = .ok (.rt d) ρ' := by unfold dA; rw [h]
end
end Dn
namespace PySem
namespace DnExt
open PySem.AutoSeq1
theorem list_extendP (l : Addr) (items : Array Value) (n : Nat) (b : Addr) (items2 : Array Value) (n2 : Nat) (o2 : Obj) (h1 : o2.cls = .type "list") (h2 : o2.data = .seq items2 n2) (h3 : o2.dict = none) (hc0 : ¬(!items.isEmpty && Builtin.List.listTooLong (items.size + items2.size)) = true) (hc1 : items.size ≤ sizeLine) (hs2 : items.size + items2.size ≤ sizeLine + 1) :
    Meets (Builtin.«list.extend» ⟨[.ref l, .ref b], []⟩) (fun _ R s => s.heap.get? l = some { cls := .type "list", dict := none, data := .seq items n, slots := #[] } ∧ s.heap.get? b = some o2 ∧ R (.ok (.ret Value.none)) { s with heap := s.heap.update l (Obj.mapSeq fun x => x ++ items2), toks := s.toks }) :=
  .of_wp fun prog w A R s h => by
    obtain ⟨hp, g, d, tk, os⟩ := s; obtain ⟨hl, hb, h⟩ := h; have f1 := idx_int; have f2 := sub_tuple_tuple; have f3 := sub_list_list; have f4 := sub_tuple_list; have f5 := sub_list_tuple;
    obtain ⟨c2, d2, dt2, sl2⟩ := o2
    dsimp only at h1 h2 h3
    subst h1 h2 h3
    have hz' : (items ++ items2).size ≤ sizeLine + 1 := by rw [Array.size_append]; exact hs2
    wp_walk using (wpAny_updateSeq hl rfl (hz := hc1) (_hz' := hz')), AutoSeq1.wpAny_loadPart' hl, AutoSeq1.wpAny_loadPart' hb; exact ⟨_, rfl, h⟩
end DnExt
end PySem
namespace Dn
open PySem PySem.Spec PyProof.Rows L2
def rExtendS (K : PySem.W.Frag) : V → List V → Hp → VK → Prop := fun x vs H Q => ∃ l b xs zs, x = .ref l ∧ vs = [.ref b] ∧ H l = some (.lst xs) ∧ SqL K H b zs ∧ xs.length + zs.length ≤ sizeLine ∧ Q .non (upd H l (.lst (xs ++ zs)))
theorem mt_extendS {X : Cx} : MtM X "list.extend" (rExtendS X.K) := by
  intro pins s σ H x vs v us Q I rx rv h
  obtain ⟨l, b, xs, zs, rfl, rfl, hH, hB, hz, q⟩ := h
  cases rx
  obtain ⟨u, rfl, ru⟩ := rv.one
  cases ru
  obtain ⟨z, its, n, r, hl, e⟩ := I.lstM hH
  obtain ⟨its2, r2, ⟨o2, n2, e2, c2, d2, t2⟩, z2⟩ := I.list hB
  have hl2 := r2.length
  have hsz : its.toArray.size + its2.toArray.size ≤ sizeLine := by rw [List.size_toArray, List.size_toArray]; omega
  have hlong : ¬ (!its.toArray.isEmpty && Builtin.List.listTooLong (its.toArray.size + its2.toArray.size)) = true := by
    rw [notLongL hsz, Bool.and_false]
    exact Bool.false_ne_true
  refine call_meets F.slot_list_extend ⟨_, e, rfl⟩ F.entry_list_extend (F.args_list_extend_2 _ _)
    (PySem.DnExt.list_extendP l its.toArray n b its2.toArray n2 o2 c2 t2 d2 hlong (by rw [List.size_toArray]; omega) (by omega)) ⟨e, e2, ?_⟩
  refine ⟨.non, _, I.lset (its' := its ++ its2) hH e (by simp) (r.append r2) ?_, rfl, q⟩
  rw [List.length_append]
  omega
/-- x.extend(e) -/
def dExt (i : Nat) (f : En → R D) : En → R Fl := atMine i f fun l ds d ρ => match d with
  | .list es => if ds.length + es.length ≤ sizeLine then .ok .nx (ρ.set i (some (l.put (ds ++ es)))) else .no
  | _ => .no
section
variable {X : Cx} {w : Wh} {x : Str} {p pos : Pos} {e : Expr} {fe : En → R D}
theorem vs_extend (i : Nat) {apos : Pos} (he : VE X w e fe) (hN : X.N[i]? = some x := by rfl) (hv : Vis X.env.scope x := by first | exact Or.inl rfl | exact Or.inr (Or.inl rfl) | exact Or.inr (Or.inr rfl)) (hd : (x == ("__debug__" : Str)) = false := by decide) (hcd : (x == ("__classdict__" : Str)) = false := by decide)
    (hbase : attributeBase (.Name x p) "extend" X.env (eval (.Name x p) X.env) = eval (.Name x p) X.env := by rfl) (hline : (apos.endLine == pos.line) = true := by rfl)
    (hfew : ((backTo pos (starEach [e] X.env)).all (fun x => !x.1) && (backToKw pos (keywordEach [] X.env)).all (fun x => x.1.isSome) && decide (([e] : List Expr).length + ([] : List Keyword).length + (if ([] : List Keyword).isEmpty then 0 else 1) < 30)) = true := by rfl)
    (hs : starEach [e] X.env = (false, eval e X.env) :: starEach [] X.env := by rfl) {pos2 : Pos} (hsw : swapsWith (.Call (.Attribute (.Name x p) "extend" apos) [e] [] pos) none pos2.line X.env = pure false := by rfl) :
    VS X w (.Expr (.Call (.Attribute (.Name x p) "extend" apos) [e] [] pos) pos2) (dExt i fe) :=
  PS.imp (ps_expr (pe_bm PySem.F.plainAttrs_list PySem.F.slot_list_extend PySem.F.type_list_extend mt_extendS (pe_var hN hv hd hcd) (pa_cons he pa_nil hs) hbase hfew hline hs (by rfl)) hsw) fun Z σ H ⟨G, ρ, rel, h⟩ => by
    obtain ⟨o, s, ⟨vs, ho⟩, h⟩ := FnS.mine rel h
    refine ⟨.ref o, s, .inl ⟨rfl, vs, .inl (.inl ho)⟩, G, ρ, rel, h.imp fun G1 H1 ρ1 d ⟨l, ds, e1, m, r1, s1, h1⟩ v hv => ?_⟩
    obtain ⟨o', ws, s', go, hw, hd⟩ := r1.mine e1 m
    rw [s] at s'; cases s'
    cases hv with
    | @lst b zs es hq hds =>
      have h2 : FnS X.K w G1 H1 σ ρ1 (if ds.length + es.length ≤ sizeLine then .ok .nx (ρ1.set i (some (l.put (ds ++ es)))) else .no) Z := h1
      split at h2
      · obtain ⟨r2, s2⟩ := r1.change e1 m s (hd.append hds)
        exact ⟨o, b, ws, zs, rfl, rfl, hw, r1.sub.seq hq, by rw [hd.length, hds.length]; assumption, FnS.nx h2 r2 s2⟩
      · exact h2.elim
    | _ => exact h1.elim
/-! ### a call without arguments -/
def dFn0 (den : En → R L) : En → R D := fun ρ => match den [] with
  | .ok (.im d) _ => .ok d ρ
  | .ok (.ow ds) _ => .ok (.list ds) ρ
  | _ => .no
theorem ve_call0 {k : Nat} {f : Addr} {fd : FuncData} {ps : List Str} {den : En → R L} {ca : String → Option Value} (F : FnOk X.prog X.w X.K X.mg X.base (L2.CX X.prog X.w) k f fd ps (spD X.K ca 0 den)) (hr : Room k X.A) (tk : Takes X w.W) (hca : w.ca = ca) (hg : Gl X x) (hm : X.mg x = some (.ref f)) (hk : PySem.W.keepIn X.K (.ref f) = true) (hb : Binds X.K fd ps [])
    (hdb : (x == ("__debug__" : Str)) = false := by decide) : VE X w (.Call (.Name x p) [] [] pos) (dFn0 den) :=
  PE.imp (pe_call0 F hr hg hm hk hb .nil (passes_call tk (E := fun _ _ _ => False) fun _ _ _ _ z => z.elim) hdb) fun σ H Q ⟨G, ρ, rel, h⟩ => by
    have hl : lend [] ρ = some [] := rfl
    have h' : Fn X.K w G H σ ρ (match den [] with | .ok (.im d) _ => R.ok d ρ | .ok (.ow ds) _ => .ok (.list ds) ρ | _ => .no) (QD X.K Q) := h
    have key := call_ok (X := X) (w := w0 w) (n := 0) (den := den) (ca := ca) (σ := σ) (H := H) (G := G) (ρ := ρ) (vs := []) (as := []) (ls := []) hca (Q := Q) rel .nil rfl hl
      (fun d ls' e => ?_) (fun ds ls' e => ?_) (fun c ls' e => ?_) (fun e => ?_) (fun l ls' e => ?_)
    · exact key
    · rw [e] at h'
      exact fun G' H' r' s' v hv => by rw [give_nil] at r' s'; exact h' G' H' r' s' v hv
    · rw [e] at h'
      intro G' H' r' s' p hg ho ⟨us, hp, hd⟩ hn
      rw [give_nil] at r' s' ho
      obtain ⟨r2, sg, hdr, hfr⟩ := r'.settle hg ho hp hd
      refine h' _ H' r2 ⟨s'.g.trans sg, s'.h, fun a z => ?_, s'.ow, s'.tr, s'.ln, s'.bo, s'.bt⟩ _ hdr
      rcases hfr a z with y | rfl
      · exact s'.fr a y
      · exact .inr (.inl hn)
    · rw [e] at h'; exact h'.elim
    · rw [e] at h'; exact h'.elim
    · rw [e] at h'
      cases l <;> first | exact .inl ⟨_, rfl⟩ | exact .inr ⟨_, rfl⟩ | exact h'.elim
end
@[simp] theorem dFn0_eq (den : En → R L) (ρ : En) : dFn0 den ρ = (match den [] with
  | .ok (.im d) _ => .ok d ρ
  | .ok (.ow ds) _ => .ok (.list ds) ρ
  | _ => .no) := rfl
end Dn
namespace Dn
open PySem PySem.Spec PyProof.Rows L2
/-! ### sorted(ints) -/
def insI (x : Int) : List Int → List Int
  | [] => [x]
  | y :: ys => if x ≤ y then x :: y :: ys else y :: insI x ys
/-- in rising order -/
def srtI : List Int → List Int
  | [] => []
  | x :: xs => insI x (srtI xs)
theorem insI_perm (x : Int) : ∀ ys : List Int, (insI x ys).Perm (x :: ys)
  | [] => .refl _
  | y :: ys => by
    unfold insI
    split
    · exact .refl _
    · exact ((insI_perm x ys).cons y).trans (.swap x y ys)
theorem srtI_perm : ∀ xs : List Int, (srtI xs).Perm xs
  | [] => .refl _
  | x :: xs => (insI_perm x (srtI xs)).trans ((srtI_perm xs).cons x)
theorem insI_up (x : Int) : ∀ ys : List Int, ys.Pairwise (· ≤ ·) → (insI x ys).Pairwise (· ≤ ·)
  | [], _ => List.pairwise_singleton _ _
  | y :: ys, h => by
    unfold insI
    have hy := List.pairwise_cons.mp h
    split
    · rename_i hx
      refine List.pairwise_cons.mpr ⟨fun z hz => ?_, h⟩
      rcases List.mem_cons.mp hz with rfl | hz
      · exact hx
      · have := hy.1 z hz; omega
    · rename_i hx
      refine List.pairwise_cons.mpr ⟨fun z hz => ?_, insI_up x ys hy.2⟩
      rcases List.mem_cons.mp ((insI_perm x ys).mem_iff.mp hz) with rfl | hz
      · omega
      · exact hy.1 z hz
theorem srtI_up : ∀ xs : List Int, (srtI xs).Pairwise (· ≤ ·)
  | [] => .nil
  | x :: xs => insI_up x _ (srtI_up xs)
theorem up_eq : ∀ {xs ys : List Int}, xs.Pairwise (· ≤ ·) → ys.Pairwise (· ≤ ·) → xs.Perm ys → xs = ys
  | [], ys, _, _, p => (List.nil_perm.mp p).symm
  | x :: xs, [], _, _, p => List.perm_nil.mp p
  | x :: xs, y :: ys, h1, h2, p => by
    have a := List.pairwise_cons.mp h1
    have b := List.pairwise_cons.mp h2
    have e : x = y := by
      have h3 : x ∈ y :: ys := p.mem_iff.mp List.mem_cons_self
      have h4 : y ∈ x :: xs := p.mem_iff.mpr List.mem_cons_self
      rcases List.mem_cons.mp h3 with h3 | h3
      · exact h3
      · rcases List.mem_cons.mp h4 with h4 | h4
        · exact h4.symm
        · have := b.1 x h3; have := a.1 y h4; omega
    subst e
    rw [up_eq a.2 b.2 (List.Perm.cons_inv p)]
def gSorted : List D → Option D
  | [.list ds] => (allOf asInt ds).map fun ns => .list ((srtI ns).map PyData.int)
  | _ => none
section
variable {K : PySem.W.Frag}
theorem cs_sorted : CallS K (rSortedI K) gSorted := fun vs ds d G H σ ρ Q rel h e q => by
  obtain ⟨x, rfl⟩ : ∃ x, ds = [x] := one_of (fun a b t => by cases a <;> rfl) rfl e
  cases h with
  | cons h t =>
    cases t
    cases x with
    | list ds =>
      simp only [gSorted, Option.map_eq_some_iff] at e
      obtain ⟨ns, e, rfl⟩ := e
      obtain ⟨a, vs, rfl, h, hs⟩ := h.lst'
      rw [mapM_ints e] at hs
      rw [hs.ints] at h
      refine ⟨a, ns, rfl, rel.sub.seq h, fun ns' p hp hu hn => ?_⟩
      have : ns' = srtI ns := up_eq hu (srtI_up ns) (hp.trans (srtI_perm ns).symm)
      subst this
      exact hand_new rel q (DR.newL rel (DRs.ofInts _)) p hn
    | _ => cases e
end
@[simp] theorem gSorted_list (ds : List D) : gSorted [.list ds] = (allOf asInt ds).map fun ns => .list ((srtI ns).map PyData.int) := rfl
end Dn
namespace Dn
open PySem PySem.Spec PyProof.Rows L2
/-! ### defs that call themselves: so many times at most -/
theorem vss_no {X : Cx} {w : Wh} {sts : List Stmt} : VSs X w sts (fun _ => .no) := ⟨fun pins s σ H D I h => by
  obtain ⟨G, ρ, rel, h⟩ := h
  exact h.elim⟩
def recD (n : Nat) (b : (En → R L) → En → R Fl) : Nat → En → R L
  | 0 => dDef n (fun _ => .no)
  | k + 1 => dDef n (b (recD n b k))
@[simp] theorem recD_succ (n : Nat) (b : (En → R L) → En → R Fl) (k : Nat) : recD n b (k + 1) = dDef n (b (recD n b k)) := rfl
end Dn
namespace Dn
open PySem PySem.Spec PyProof.Rows L2
/-! ### an expression over all slots as they stand, then the slots as ahead -/
def L.vw : L → Option L
  | .xn _ _ _ => none
  | l => some (.im l.all)
@[simp] theorem vw_im (d : D) : (L.im d).vw = some (.im d) := rfl
@[simp] theorem vw_ow (d : List D) : (L.ow d).vw = some (.im (.list d)) := rfl
@[simp] theorem vw_bo (d : List D) : (L.bo d).vw = some (.im (.list d)) := rfl
@[simp] theorem vw_ot (d : Tr) : (L.ot d).vw = some (.im (trD d)) := rfl
@[simp] theorem vw_bt (d : Tr) : (L.bt d).vw = some (.im (trD d)) := rfl
def viewE (ρ : En) : En := ρ.map fun c => c.bind L.vw
/-- a new list of flat things -/
def nView (f : En → R (List D)) : En → R (List D) := fun ρ => match f (viewE ρ) with
  | .ok ds _ => if ds.all flat = true then .ok ds ρ else .no
  | _ => .no
section
variable {K : PySem.W.Frag} {G H : Hp} {σ : L2.St} {ρ : En}
theorem Rel.viewAll (r : Rel K G H σ ρ) : Rel K (Gt G H σ ρ) H σ (viewE ρ) ∧ ∀ a, ¬ Own H σ (viewE ρ) a := by
  have at_ : ∀ (i : Nat) (l : L), (viewE ρ)[i]? = some (some l) → ∃ l0, ρ[i]? = some (some l0) ∧ l = .im l0.all ∧ ∀ a dx c, l0 ≠ .xn a dx c := fun i l e => by
    unfold viewE at e
    rw [List.getElem?_map, Option.map_eq_some_iff] at e
    obtain ⟨c, e1, e2⟩ := e
    cases c with
    | none => cases e2
    | some l0 =>
      cases l0 <;> first | (cases e2; done) | (cases e2; exact ⟨_, e1, rfl, fun a dx c z => by cases z⟩)
  have no : ∀ a, ¬ Own H σ (viewE ρ) a := fun a ⟨i, l, v, e, _, f⟩ => by
    obtain ⟨l0, _, rfl, _⟩ := at_ i l e
    exact f.elim
  refine ⟨⟨Gt_h r, by unfold viewE; rw [List.length_map]; exact r.len, fun i l e => ?_, fun i j l m v u a ei ej si sj fi fj => absurd ⟨i, l, v, ei, si, fi⟩ (no a)⟩, no⟩
  obtain ⟨l0, e0, rfl, hx⟩ := at_ i l e
  obtain ⟨v, s, _⟩ := r.cell i l0 e0
  have hv : AVs K G σ [v] [.sl i] := .sl s .nil
  have hl : lendT ρ [.sl i] = some [some (.im l0.all)] := by rw [lendT_sl e0 hx]; rfl
  obtain ⟨_, h2⟩ := lendT_ok r hv hl
  obtain ⟨d, v', ed, ev, hd⟩ := h2 0 _ rfl
  cases ed
  have : v' = v := by simpa using ev.symm
  subst this
  exact ⟨v', s, hd⟩
theorem flat_drs {G' : Hp} : ∀ {vs : List V} {ds : List D}, DRs K G vs ds → ds.all flat = true → DRs K G' vs ds
  | _, _, .nil, _ => .nil
  | _, _, .cons h t, e => by
    rw [List.all_cons, Bool.and_eq_true] at e
    exact .cons (flat_dr h e.1) (flat_drs t e.2)
end
section
variable {X : Cx} {w : Wh} {e : Expr} {f : En → R (List D)}
theorem vn_view (h : VN X w e f) : VN X w e (nView f) := PE.imp h fun σ H Q ⟨G, ρ, rel, h⟩ => by
  obtain ⟨r0, no⟩ := rel.viewAll
  refine ⟨_, _, r0, ?_⟩
  unfold nView at h
  cases q : f (viewE ρ) with
  | no => rw [q] at h; exact h.elim
  | ex c ρ' => rw [q] at h; exact h.elim
  | ok ds ρ' =>
    rw [q] at h
    have h' : Fn X.K w G H σ ρ (if ds.all flat = true then R.ok ds ρ else .no) (QN X.K H σ Q) := h
    split at h'
    · rename_i hf
      intro G1 H1 r1 s1 p n
      have sH : Same H H1 := fun a o ea => s1.h a o ea (no a)
      obtain ⟨r2, s2⟩ := rel.still sH
      obtain ⟨vs, hp, hd⟩ := n.here
      refine h' G H1 r2 s2 p ⟨Same.free rel.sub n.new, fun z => ?_, ⟨vs, hp, flat_drs hd hf⟩, n.new⟩
      rcases s2.ow p z with y | y
      · obtain ⟨_, us, q'⟩ := rel.own y
        rw [n.new] at q'; cases q'
      · exact not_own rel n.new (by
          have hk : ∀ a, Own H σ ρ a → H1 a = H a := fun a z => by
            obtain ⟨_, us, q⟩ := rel.own z
            rw [q]; exact sH _ _ q
          exact ((rel.keep (G' := G) (H' := H1) (Same.refl _) (rel.sub.trans sH) (fun a z => (rel.own z).1) hk).2 p).mp z)
    · exact h'.elim
end
@[simp] theorem nView_eq (f : En → R (List D)) (ρ : En) : nView f ρ = (match f (viewE ρ) with
  | .ok ds _ => if ds.all flat = true then .ok ds ρ else .no
  | _ => .no) := rfl
@[simp] theorem viewE_nil : viewE [] = [] := rfl
@[simp] theorem viewE_cons (c : Option L) (ρ : En) : viewE (c :: ρ) = c.bind L.vw :: viewE ρ := rfl
end Dn
namespace Dn
open PySem PySem.Spec PyProof.Rows L2
/-! ### exceptions with a field -/
/-- what C.__init__(self, f) does -/
def spI (C : Addr) (f : Str) : Sp := fun vs H Q _ => ∃ a y, vs = [.ref a, y] ∧ H a = some (exo a C none) ∧ ∀ dx, H dx = none → dx ≠ a → Q .non (upd (upd H dx (exd dx [(f, y)])) a (exo a C (some dx)))
theorem init_ok {P : Program} {wd : World} {K : PySem.W.Frag} {mg : Str → Option Value} {base : Heap} {CX : CXT} {qual : Str} {params : Arguments} {scope : Scope} {fI C : Addr} {fd : FuncData} {r f : Str} {p1 p2 p3 p4 : Pos}
    (F : FunD K "__init__" qual params [.Assign [.Attribute (.Name "self" p1) f p2] (.Name r p3) p4] scope [] [] fI fd) (S : FnScope ["self", r] ["self", r] scope) (T : OexC K C) (hno : PySem.W.findIn K (.ref C) f = some none)
    (hv : ∀ X : Cx, X.env.scope = scope → Vis X.env.scope "self" ∧ Vis X.env.scope r) (hd : (r == ("__debug__" : Str)) = false) (hcd : (r == ("__classdict__" : Str)) = false) : FnOk P wd K mg base CX 1 fI fd ["self", r] (spI C f) := by
  refine F.ok S (fun vs H Q E h => ?_) (fun cdv A outer s H vs Q E hr h => ?_)
  · obtain ⟨a, y, rfl, _⟩ := h; rfl
  · obtain ⟨v1, v2⟩ := hv (cxOf CX P wd K mg base ["self", r] qual scope fI cdv A outer s H E) rfl
    refine ⟨_, pss_one (ps_ost (pe_var (i := 0) rfl v1) (pe_var (i := 1) rfl v2 hd hcd)), ?_⟩
    obtain ⟨a, y, rfl, ea, q⟩ := h
    exact ⟨y, rfl, .ref a, rfl, a, C, rfl, T, hno, .inl ⟨ea, q⟩⟩
def dRaiseF (c : String) (f : Str) (fe : En → R D) : En → R Fl := fun ρ => (fe ρ).bind fun d ρ1 => .ex ⟨c, some (f, d)⟩ ρ1
@[simp] theorem dRaiseF_eq (c : String) (f : Str) (fe : En → R D) (ρ : En) : dRaiseF c f fe ρ = (fe ρ).bind fun d ρ1 => .ex ⟨c, some (f, d)⟩ ρ1 := rfl
section
variable {X : Cx} {w : Wh} {x : Str} {p p2 pos np pos' : Pos}
theorem vs_raiseF {nm : String} {f : Str} {C fI : Addr} {k : Nat} {fd : FuncData} {ps : List Str} {CX : CXT} {e : Expr} {fe : En → R D} (hc : X.calm = true) (tk : Takes X w.W) (hca : w.ca nm = some (.ref C)) (T : OexC X.K C)
    (iC : PySem.W.findIn X.K (.ref C) "__init__" = some (some (.ref fI))) (tI : PySem.W.typeIn X.K (.ref fI) = some (.type "function")) (F1 : FnOk X.prog X.w X.K X.mg X.base CX k fI fd ps (spI C f)) (hr : Room (k + 1) X.A) (hb : Binds X.K fd ps [])
    (hx : Passes CX X (fun _ _ _ => False)) (hg : Gl X x) (hm : X.mg x = some (.ref C)) (he : VE X w e fe) (hdb : (x == ("__debug__" : Str)) = false := by decide)
    (hs : starEach [e] X.env = (false, eval e X.env) :: starEach [] X.env := by rfl) (hpl : (backTo pos (starEach [] X.env)).any (·.1) = false := by rfl) : VS X w (.Raise (some (.Call (.Name x p) [e] [] pos)) none pos') (dRaiseF nm f fe) :=
  PS.imp (ps_raise hc tk (pmk_oex (dvs := []) T iC tI F1 hr hb .nil hx hg hm (pa_cons he pa_nil hs) hdb hs hpl)) fun Z σ H ⟨G, ρ, rel, h⟩ => by
    refine ⟨G, ρ, rel, (FnS.bind rel h).imp fun G1 H1 ρ1 d ⟨r1, s1, h1⟩ v hv => ?_⟩
    refine ⟨by simp, fun a ha => ?_⟩
    refine ⟨a, v, rfl, upd_same, fun dx hdx hne => ⟨rfl, dx, [(f, v)], upd_same, ?_, ?_, ?_⟩⟩
    · rw [upd_ne hne, upd_same]
    · rwa [upd_ne hne] at hdx
    · have hdx1 : H1 dx = none := by rwa [upd_ne hne] at hdx
      have eH : upd (del (upd (upd (upd H1 a (exo a C none)) dx (exd dx [(f, v)])) a (exo a C (some dx))) a) dx (.xd [(f, v)]) = upd H1 dx (.xd [(f, v)]) := by
        funext b
        by_cases hb : b = dx
        · subst hb; rw [upd_same, upd_same]
        · rw [upd_ne hb, upd_ne hb]
          by_cases ha' : b = a
          · subst ha'; rw [del_same, ha]
          · rw [del_ne ha', upd_ne ha', upd_ne hb, upd_ne ha']
      rw [eH]
      obtain ⟨r2, s2⟩ := r1.laid (p := dx) (o := .xd [(f, v)]) hdx1
      have h2 : FnS X.K w G1 H1 σ ρ1 (.ex ⟨nm, some (f, d)⟩ ρ1) Z := h1
      exact h2 _ _ _ _ _ r2 s2 ⟨hca, (fun e => nomatch e), fun f' d' e => by cases e; exact ⟨dx, v, rfl, upd_same, hv.mono s2.g⟩⟩
end

/-! ### try .. except X as e -/
section
variable {K : PySem.W.Frag} {G H G0 H0 : Hp} {σ σ0 : L2.St} {ρ ρ0 : En}
/-- a slot that holds nothing of one's own -/
def quietC (c : Option L) : Prop := c = none ∨ ∃ a dx e, c = some (.xn a dx e)
theorem own_slot {i : Nat} {c : Option L} (hc : quietC c) {v : Option V} {a : Addr} (h : Own H (σ.set i v) (ρ.set i c) a) : Own H σ ρ a := by
  obtain ⟨j, l, u, e, s, f⟩ := h
  by_cases hj : j = i
  · subst hj
    by_cases hl : j < ρ.length
    · rw [List.getElem?_set_self hl] at e
      rcases hc with rfl | ⟨a', dx, x, rfl⟩
      · cases e
      · cases e; exact f.elim
    · rw [List.getElem?_eq_none (by simpa using hl)] at e; cases e
  · rw [List.getElem?_set_ne (Ne.symm hj)] at e s
    exact ⟨j, l, u, e, s, f⟩
theorem Stp.slot (s : Stp G0 H0 σ0 ρ0 G H σ ρ) {i : Nat} (hb : ∀ ds, ρ0[i]? ≠ some (some (L.bo ds))) (ht : ∀ t, ρ0[i]? ≠ some (some (L.bt t))) {c : Option L} (hc : quietC c) (v : Option V) : Stp G0 H0 σ0 ρ0 G H (σ.set i v) (ρ.set i c) := by
  refine ⟨s.g, s.h, s.fr, fun a h => s.ow a (own_slot hc h), s.tr, by rw [List.length_set]; exact s.ln, fun j ds e => ?_, fun j t e => ?_⟩
  · have hj : j ≠ i := fun z => by subst z; exact hb ds e
    obtain ⟨e1, ds', e2⟩ := s.bo j ds e
    exact ⟨by rw [List.getElem?_set_ne (Ne.symm hj)]; exact e1, ds', by rw [List.getElem?_set_ne (Ne.symm hj)]; exact e2⟩
  · have hj : j ≠ i := fun z => by subst z; exact ht t e
    obtain ⟨e1, t', e2, f⟩ := s.bt j t e
    exact ⟨by rw [List.getElem?_set_ne (Ne.symm hj)]; exact e1, t', by rw [List.getElem?_set_ne (Ne.symm hj)]; exact e2, f⟩
theorem Rel.unset (r : Rel K G H σ ρ) (i : Nat) : Rel K G H (σ.set i none) (ρ.set i none) := by
  have key : ∀ (j : Nat) (l : L), (ρ.set i none)[j]? = some (some l) → j ≠ i ∧ ρ[j]? = some (some l) := fun j l e => by
    by_cases hj : j = i
    · subst hj
      by_cases hl : j < ρ.length
      · rw [List.getElem?_set_self hl] at e; cases e
      · rw [List.getElem?_eq_none (by simpa using hl)] at e; cases e
    · rw [List.getElem?_set_ne (Ne.symm hj)] at e; exact ⟨hj, e⟩
  refine ⟨r.sub, by rw [List.length_set, List.length_set]; exact r.len, fun j l e => ?_, fun j k l m v u a ej ek sj sk fj fk => ?_⟩
  · obtain ⟨hj, e'⟩ := key j l e
    obtain ⟨v, s, c⟩ := r.cell j l e'
    exact ⟨v, by rw [List.getElem?_set_ne (Ne.symm hj)]; exact s, c⟩
  · obtain ⟨hj, ej'⟩ := key j l ej
    obtain ⟨hk, ek'⟩ := key k m ek
    rw [List.getElem?_set_ne (Ne.symm hj)] at sj
    rw [List.getElem?_set_ne (Ne.symm hk)] at sk
    exact r.apart j k l m v u a ej' ek' sj sk fj fk
theorem Rel.setX (r : Rel K G H σ ρ) {i : Nat} (hi : i < ρ.length) {a : Addr} {dx : Option Addr} {c : Exn} (hs : ∀ f d, c.arg = some (f, d) → ∃ o y, dx = some o ∧ G o = some (.xd [(f, y)]) ∧ DR K G y d) : Rel K G H (σ.set i (some (.ref a))) (ρ.set i (some (.xn a dx c))) := by
  obtain ⟨r', _⟩ := r.set1 (G' := G) (H' := H) (v' := .ref a) (l' := .xn a dx c) (c := ρ[i]) (by rw [List.getElem?_eq_getElem hi]) (Same.refl _) r.sub (fun a h => (r.own h.own).1) (fun _ _ => rfl) ⟨rfl, hs⟩ (fun a f => f.elim)
  exact r'
end
def wipe1 (i : Nat) : R Fl → R Fl
  | .ok (.rl _) _ => .no
  | .ok f ρ => .ok f (ρ.set i none)
  | r => r
open Classical in
/-- the same whatever the exception's addresses are -/
noncomputable def asK (F : Addr → Option Addr → R Fl) : R Fl := if ∀ a dx, F a dx = F 0 none then F 0 none else .no
theorem asK_eq {F : Addr → Option Addr → R Fl} {r : R Fl} (h : ∀ a dx, F a dx = r) : asK F = r := by
  unfold asK
  rw [if_pos (fun a dx => by rw [h, h]), h]
theorem asK_of {F : Addr → Option Addr → R Fl} (h : asK F ≠ .no) (a : Addr) (dx : Option Addr) : asK F = F a dx := by
  unfold asK at h ⊢
  split
  · rename_i q; exact (q a dx).symm
  · rename_i q; rw [if_neg q] at h; exact absurd rfl h
noncomputable def dTryAs (i : Nat) (b : En → R Fl) (cat : String → Option Bool) (s : Addr → Option Addr → Exn → En → R Fl) : En → R Fl := fun ρ => match b ρ with
  | .ex e ρ1 => match cat e.cls with
    | some true => if free ρ1[i]? = true then asK (fun a dx => wipe1 i (noX (s a dx e (ρ1.set i (some (.xn a dx e)))))) else .no
    | some false => .ex e ρ1
    | none => .no
  | r => r
section
variable {X : Cx} {w : Wh} {x n : Str} {p p2 pos np pos' : Pos}
theorem vs_tryAs (i : Nat) {c : Value} {b₀ : Stmt} {body suite : List Stmt} {fb : En → R Fl} {fs : Addr → Option Addr → Exn → En → R Fl} {cat : String → Option Bool} (hs : X.stack = X.env :: X.outer) (hf : X.env.frame = some X.env.locals) (hN : X.N.Nodup) (hi : X.N[i]? = some n)
    (hln : X.env.kindOf n = some .local) (hc : Names X x c) (tk : Takes X w.W) (hcalm : X.calm = true) {k : Nat} (hr : Room k X.A)
    (hcat : ∀ e b cls, cat e = some b → w.ca e = some cls → PySem.W.exmOne X.K cls c = some b)
    (hb : ∀ (W : WX) (pn : List (Addr × Obj)) (xe : Value → Shared → Prop), Gd (X.tr pn xe) ⟨w.ca, W⟩ k → VSs (X.tr pn xe) ⟨w.ca, W⟩ body fb)
    (hsu : ∀ (a : Addr) (oe : Obj) (cls : Value) (d : Option Addr) (pn : List (Addr × Obj)) (e : Exn), Zc cls d oe → (∃ vs, oe.data = .fields vs) → w.ca e.cls = some cls → (e.arg = none → d = none ∨ ∃ n, cls = Value.type n) →
      VSs (X.suite a ((a, oe) :: pn)) (w0 w) (b₀ :: suite) (fs a d e)) :
    VS X w (.Try body [.ExceptHandler (some (.Name x np)) (some n) (b₀ :: suite) pos'] [] [] pos) (dTryAs i fb cat fs) :=
  PS.imp (ps_try_as (i := i) (tb := fun W => tsS X.K ⟨w.ca, W⟩ fb) (ts := fun a cls d D σ H => ∃ e : Exn, w.ca e.cls = some cls ∧ (e.arg = none → d = none ∨ ∃ n, cls = Value.type n) ∧ tsS X.K (w0 w) (fs a d e) D σ H) hs hf hN hi hln hc tk (fun W pn xe t po => hb W pn xe ⟨hcalm, t, po, hr⟩)
    (fun a oe cls d pn hz hfl => ⟨fun pins s σ H D I ⟨e, h1, h2, h⟩ => (hsu a oe cls d pn e hz hfl h1 h2).run pins s σ H D I h⟩)) fun Z σ H ⟨G, ρ, rel, h⟩ => by
    refine ⟨G, ρ, rel, ?_⟩
    unfold dTryAs at h
    cases q : fb ρ with
    | no => rw [q] at h; exact h
    | ok f ρ1 => rw [q] at h; cases f <;> exact h
    | ex e ρ1 =>
      rw [q] at h
      have h2 : FnS X.K w G H σ ρ (match cat e.cls with | some true => if free ρ1[i]? = true then asK (fun a dx => wipe1 i (noX (fs a dx e (ρ1.set i (some (.xn a dx e)))))) else .no | some false => .ex e ρ1 | none => .no) Z := h
      intro G' H' σ' cls dx r' s' x'
      cases q2 : cat e.cls with
      | none => rw [q2] at h2; exact h2.elim
      | some b =>
        rw [q2] at h2
        refine ⟨b, hcat e.cls b cls q2 x'.hc, fun hb a ha => ?_, fun hb => ?_⟩
        · subst hb
          have h3 : FnS X.K w G H σ ρ (if free ρ1[i]? = true then asK (fun a dx => wipe1 i (noX (fs a dx e (ρ1.set i (some (.xn a dx e)))))) else .no) Z := h2
          split at h3
          · rename_i hfree
            obtain ⟨c0, hc0, nb, nt⟩ := free_ok hfree
            have hil : i < ρ1.length := (List.getElem?_eq_some_iff.mp hc0).1
            have hb0 : ∀ ds, ρ[i]? ≠ some (some (L.bo ds)) := fun ds z => by
              obtain ⟨_, ds', e2⟩ := s'.bo i ds z
              rw [hc0] at e2; cases e2; exact nb _ rfl
            have ht0 : ∀ t, ρ[i]? ≠ some (some (L.bt t)) := fun t z => by
              obtain ⟨_, t', e2, _⟩ := s'.bt i t z
              rw [hc0] at e2; cases e2; exact nt _ rfl
            have rX := r'.setX hil (a := a) (dx := dx) (c := e) (fun f d ea => x'.hs f d ea)
            have sA := s'.slot hb0 ht0 (c := some (.xn a dx e)) (.inr ⟨a, dx, e, rfl⟩) (some (.ref a))
            refine ⟨e, x'.hc, x'.hn, G', ρ1.set i (some (.xn a dx e)), rX, ?_⟩
            have hno : asK (fun a dx => wipe1 i (noX (fs a dx e (ρ1.set i (some (.xn a dx e)))))) ≠ .no := fun z => by rw [z] at h3; exact h3.elim
            rw [asK_of hno a dx] at h3
            have h4 : FnS X.K w G H σ ρ (wipe1 i (noX (fs a dx e (ρ1.set i (some (.xn a dx e)))))) Z := h3
            cases q3 : fs a dx e (ρ1.set i (some (.xn a dx e))) with
            | no => rw [q3] at h4; exact h4.elim
            | ex e2 ρ2 => rw [q3] at h4; exact h4.elim
            | ok f ρ2 =>
              rw [q3] at h4
              have qn : quietC (none : Option L) := .inl rfl
              cases f with
              | nx => exact fun G2 H2 σ2 r2 s2 => h4 G2 H2 _ (r2.unset i) ((sA.trans rel s2).slot hb0 ht0 qn none)
              | bk => exact fun G2 H2 σ2 r2 s2 => h4 G2 H2 _ (r2.unset i) ((sA.trans rel s2).slot hb0 ht0 qn none)
              | ct => exact fun G2 H2 σ2 r2 s2 => h4 G2 H2 _ (r2.unset i) ((sA.trans rel s2).slot hb0 ht0 qn none)
              | rt d => exact fun G2 H2 σ2 v r2 s2 hv => h4 G2 H2 _ v (r2.unset i) ((sA.trans rel s2).slot hb0 ht0 qn none) hv
              | rl ds => exact h4.elim
          · exact h3.elim
        · subst hb
          exact h2 G' H' σ' cls dx r' s' (x'.to rfl)
end
open Classical in
noncomputable def atX {α : Type} (a : Addr) (dx : Option Addr) (c : Exn) (i : Nat) (g : En → R α) : En → R α := fun ρ => if ρ[i]? = some (some (.xn a dx c)) then g ρ else .no
theorem atX_eq {α : Type} {a : Addr} {dx : Option Addr} {c : Exn} {i : Nat} {g : En → R α} {ρ : En} (h : ρ[i]? = some (some (.xn a dx c))) : atX a dx c i g ρ = g ρ := if_pos h
/-- e.f, e of the class nm -/
noncomputable def dXF (a : Addr) (dx : Option Addr) (c : Exn) (i : Nat) (nm : String) (f : Str) : En → R D := atX a dx c i fun ρ => match c.arg with
  | some (f', d) => if f' = f ∧ c.cls = nm then .ok d ρ else .no
  | none => .no
/-- isinstance(e, C), by the table -/
noncomputable def dIsE (a : Addr) (dx : Option Addr) (c : Exn) (i : Nat) (tab : String → Option Bool) : En → R Bool := atX a dx c i fun ρ => match tab c.cls with
  | some b => .ok b ρ
  | none => .no
section
variable {X : Cx} {w : Wh} {x n : Str} {p p1 p2 pos : Pos} {a : Addr} {d : Option Addr} {c : Exn} {oe : Obj} {cls : Value} {pn : List (Addr × Obj)}
theorem ve_xf (i : Nat) {nm : String} {f : Str} {C : Addr} (hz : Zc cls d oe) (hf : ∃ vs, oe.data = .fields vs) (hc : w.ca c.cls = some cls) (hca : w.ca nm = some (.ref C)) (T : XfC X.K C) (hno : PySem.W.findIn X.K (.ref C) f = some none)
    (hN : (X.suite a ((a, oe) :: pn)).N[i]? = some n := by rfl) (hv : Vis (X.suite a ((a, oe) :: pn)).env.scope n := by first | exact Or.inl rfl | exact Or.inr (Or.inl rfl) | exact Or.inr (Or.inr rfl)) (hd : (n == ("__debug__" : Str)) = false := by decide)
    (hcd : (n == ("__classdict__" : Str)) = false := by decide) (hb : attributeBase (.Name n p) f X.env (eval (.Name n p) X.env) = eval (.Name n p) X.env := by rfl) : VE (X.suite a ((a, oe) :: pn)) w (.Attribute (.Name n p) f pos) (dXF a d c i nm f) :=
  PE.imp (pe_xf (X := X) (C := C) T hno hz hf (pe_var hN hv hd hcd) hb) fun σ H Q ⟨G, ρ, rel, h⟩ => by
    unfold dXF atX at h
    split at h
    · rename_i e
      cases q : c.arg with
      | none => rw [q] at h; exact h.elim
      | some fd =>
        obtain ⟨f', dd⟩ := fd
        rw [q] at h
        have h2 : Fn X.K w G H σ ρ (if f' = f ∧ c.cls = nm then R.ok dd ρ else .no) (QD X.K Q) := h
        split at h2
        · rename_i hh
          obtain ⟨rfl, hnm⟩ := hh
          obtain ⟨v, s, ev, hs⟩ := rel.cell i _ e
          subst ev
          obtain ⟨o, y, ed, hG, hy⟩ := hs _ _ q
          have ecls : cls = .ref C := by rw [hnm, hca] at hc; cases hc; rfl
          refine ⟨.ref a, s, rfl, ecls, o, [(f', y)], y, ed, rel.sub _ _ hG, by simp [List.lookup], ?_⟩
          exact h2.ok rel y hy
        · exact h2.elim
    · exact h.elim
/-- isinstance(e, c), e the exception that the suite holds, whatever dict it has -/
def rIsX (K : PySem.W.Frag) (D a : Addr) (d : Option Addr) : List V → Hp → VK → Prop := fun xs H Q => ∃ (c : V) (cv : Value) (b : Bool), xs = [.ref a, c] ∧ (∀ u, RelV c u → u = cv) ∧ PySem.W.kitOne K (.ref D) cv = some b ∧ (∀ dd, d = some dd → ∃ fs, H dd = some (.xd fs)) ∧ Q (.bl b) H
theorem call_isX {D : Addr} (C : ExcC X.K D) (hz : Zc (.ref D) d oe) (hf : ∃ vs, oe.data = .fields vs) : CallR (X.suite a ((a, oe) :: pn)) (.builtin "isinstance") (rIsX X.K D a d) := by
  intro pins s σ H xs us Q I r h
  obtain ⟨c, cv, b, rfl, hcv, e, hdd, q⟩ := h
  cases r with
  | cons rx rr =>
    cases rr with
    | cons rt rr =>
      cases rr
      cases rx
      have ec := hcv _ rt
      subst ec
      obtain ⟨hget, _⟩ := I.pin (a, oe) (List.mem_append.mpr (.inl List.mem_cons_self))
      obtain ⟨vs, hv⟩ := hf
      obtain ⟨cd, hcl, _⟩ := PySem.W.any_some C.hd
      have hclS : (PySem.W.clsIn X.K D).isSome = true := by rw [hcl]; rfl
      obtain ⟨od, J⟩ : ∃ od, PySem.W.InstAt s.heap a oe D od := by
        cases d with
        | none =>
          refine ⟨none, hget, hz.1, ?_, ?_⟩
          · unfold PySem.W.notCls; rw [hv] <;> rfl
          · rw [hz.2]; trivial
        | some dd =>
          obtain ⟨fs, hH⟩ := hdd dd rfl
          have hx : ObjOk X.prog X.w H s.heap dd (.xd fs) := I.hok dd _ hH
          obtain ⟨mA, hns, hr⟩ := hx
          obtain ⟨od, ho, hl⟩ := lookIn_ns hns
          exact ⟨some od, hget, hz.1, by unfold PySem.W.notCls; rw [hv] <;> rfl, by rw [hz.2]; exact ho⟩
      exact PySem.W.kia_one (PySem.W.kitx_exc (gt := none) hclS C.hg C.hk C.hs C.ha C.hn C.ht C.hm) I.kIn J e (fun z => nomatch z) fun tk => ⟨.bl b, H, I.kept (t' := tk) fun _ _ z => z, rfl, q⟩
theorem ve_isE (i : Nat) {D : Addr} {y : Str} {yv : V} {cv : Value} {tab : String → Option Bool} (hz : Zc cls d oe) (hf : ∃ vs, oe.data = .fields vs) (hc : w.ca c.cls = some cls) (hn : c.arg = none → d = none ∨ ∃ n, cls = Value.type n) (hcls : tab c.cls ≠ none → cls = .ref D ∧ ExcC X.K D)
    (htab : ∀ b, tab c.cls = some b → PySem.W.kitOne X.K cls cv = some b) (hg : Gl X "isinstance") (hm : X.mg "isinstance" = none) (hy : PE (X.suite a ((a, oe) :: pn)) (.Name y p2) (tC yv)) (hcv : ∀ u, RelV yv u → u = cv)
    (hN : (X.suite a ((a, oe) :: pn)).N[i]? = some n := by rfl) (hv : Vis (X.suite a ((a, oe) :: pn)).env.scope n := by first | exact Or.inl rfl | exact Or.inr (Or.inl rfl) | exact Or.inr (Or.inr rfl)) (hd : (n == ("__debug__" : Str)) = false := by decide)
    (hcd : (n == ("__classdict__" : Str)) = false := by decide)
    (he : starEach [Expr.Name n p1, Expr.Name y p2] X.env = [(false, eval (.Name n p1) X.env), (false, eval (.Name y p2) X.env)] := by rfl) (he2 : starEach [Expr.Name y p2] X.env = [(false, eval (.Name y p2) X.env)] := by rfl) :
    VE (X.suite a ((a, oe) :: pn)) w (.Call (.Name "isinstance" p) [.Name n p1, .Name y p2] [] pos) (dB (dIsE a d c i tab)) := by
  by_cases ht : tab c.cls = none
  · refine ⟨fun pins s σ H Q I ⟨G, ρ, rel, h⟩ => ?_⟩
    exfalso
    have h2 : Fn X.K w G H σ ρ ((dIsE a d c i tab ρ).bind fun b ρ1 => .ok (.bool b) ρ1) (QD X.K Q) := h
    unfold dIsE atX at h2
    split at h2
    · rw [ht] at h2; exact h2
    · exact h2
  · obtain ⟨rfl, E⟩ := hcls ht
    refine PE.imp (pe_callB (call_isX (X := X) E hz hf) hg hm (by decide +kernel) (pa_cons (pe_var hN hv hd hcd) (pa_cons hy pa_nil (by rw [he2]; rfl)) (by rw [he, he2])) (by decide) (by decide) (by rw [he, he2]) (by rw [he2]; rfl)) fun σ H Q ⟨G, ρ, rel, h⟩ => ?_
    have h2 : Fn X.K w G H σ ρ ((dIsE a d c i tab ρ).bind fun b ρ1 => .ok (.bool b) ρ1) (QD X.K Q) := h
    unfold dIsE atX at h2
    split at h2
    · rename_i es
      cases q : tab c.cls with
      | none => exact absurd q ht
      | some b =>
        rw [q] at h2
        have h3 : Fn X.K w G H σ ρ (.ok (.bool b) ρ) (QD X.K Q) := h2
        obtain ⟨v, s, ev, hs⟩ := rel.cell i _ es
        subst ev
        refine ⟨.ref a, s, ?_⟩
        refine ⟨yv, cv, b, rfl, hcv, htab b q, fun dd ed => ?_, h3.ok rel _ (.bl b)⟩
        cases q2 : c.arg with
        | none =>
          rcases hn q2 with z | ⟨n, z⟩
          · rw [z] at ed; cases ed
          · cases z
        | some fd =>
          obtain ⟨f', d'⟩ := fd
          obtain ⟨o, y', ed', hG, _⟩ := hs _ _ q2
          rw [ed] at ed'; cases ed'
          exact ⟨_, rel.sub _ _ hG⟩
    · exact h2.elim
end
end Dn
namespace Dn
open PySem PySem.Spec PyProof.Rows L2
/-! ### what the head tells of exception classes -/
def oexB (K : PySem.W.Frag) (C : Addr) : Bool := (match K.lookup C with
  | some ⟨.type "type", _, .cls cd, sl⟩ => (match cd.mro, sl.toList with
    | .ref C' :: bm, [_, _, _, _, some (.builtin n), _] => C' == C && n == "ValueError.__new__" && !cd.hasDel && PySem.HandSPX.refsVE bm && cd.hasDict
    | _, _ => false)
  | _ => false) && (decide (PySem.W.findIn K (.ref C) "__setattr__" = some (some (.builtin "object.__setattr__"))) && (decide (PySem.W.subIn K (.ref C) (.type "BaseException") = some true) && (decide (PySem.W.typeIn K (.ref C) = some (.type "type")) && PySem.W.keepIn K (.ref C))))
theorem oexB_ok {K : PySem.W.Frag} {C : Addr} (h : oexB K C = true) : OexC K C := by
  obtain ⟨h1, h⟩ := Bool.and_eq_true_iff.mp h
  obtain ⟨h2, h⟩ := Bool.and_eq_true_iff.mp h
  obtain ⟨h3, h⟩ := Bool.and_eq_true_iff.mp h
  obtain ⟨h4, h5⟩ := Bool.and_eq_true_iff.mp h
  refine ⟨?_, of_decide_eq_true h2, of_decide_eq_true h3, of_decide_eq_true h4, h5⟩
  split at h1
  · rename_i dd cd sl ho
    split at h1
    · rename_i C' bm k0 k1 k2 k3 n k5 hm hs
      simp only [Bool.and_eq_true, beq_iff_eq, Bool.not_eq_true'] at h1
      obtain ⟨⟨⟨⟨rfl, rfl⟩, hdel⟩, ht⟩, hdict⟩ := h1
      obtain ⟨nm, bs, mro, ns, qn, hd, sn, sub, ab, col, del⟩ := cd
      dsimp only at hm hdel hdict
      subst hm hdel hdict
      have hsl : sl = #[k0, k1, k2, k3, some (.builtin "ValueError.__new__"), k5] := by
        obtain ⟨l⟩ := sl
        simp only at hs
        rw [hs]
      subst hsl
      exact ⟨nm, qn, ns, bs, bm, sn, sub, ab, col, dd, k0, k1, k2, k3, k5, ho, ht⟩
    · cases h1
  · cases h1
/-- a class with its own __init__, which stores one field -/
structure IniC (K : PySem.W.Frag) (x f : Str) : Prop where
  o : OexC K (He.ga K x)
  i : PySem.W.findIn K (.ref (He.ga K x)) "__init__" = some (some (.ref (He.fAd K (x, some "__init__"))))
  t : PySem.W.typeIn K (.ref (He.fAd K (x, some "__init__"))) = some (.type "function")
  n : PySem.W.findIn K (.ref (He.ga K x)) f = some none
  x : XfC K (He.ga K x)
def iniB (x f : Str) (K : PySem.W.Frag) : Bool := oexB K (He.ga K x) && (decide (PySem.W.findIn K (.ref (He.ga K x)) "__init__" = some (some (.ref (He.fAd K (x, some "__init__"))))) && (decide (PySem.W.typeIn K (.ref (He.fAd K (x, some "__init__"))) = some (.type "function")) && (decide (PySem.W.findIn K (.ref (He.ga K x)) f = some none) && xfB K (He.ga K x))))
theorem iniB_ok {K : PySem.W.Frag} {x f : Str} (h : iniB x f K = true) : IniC K x f := by
  obtain ⟨h1, h⟩ := Bool.and_eq_true_iff.mp h
  obtain ⟨h2, h⟩ := Bool.and_eq_true_iff.mp h
  obtain ⟨h3, h⟩ := Bool.and_eq_true_iff.mp h
  obtain ⟨h4, h5⟩ := Bool.and_eq_true_iff.mp h
  exact ⟨oexB_ok h1, of_decide_eq_true h2, of_decide_eq_true h3, of_decide_eq_true h4, xfB_ok h5⟩
def exiB (x : Str) (K : PySem.W.Frag) : Bool :=
  decide (PySem.W.findIn K (.ref (He.ga K x)) "__getattribute__" = some (some (.builtin "BaseException.__getattribute__"))) && (decide (PySem.W.findIn K (.ref (He.ga K x)) "__getattr__" = some none) && (decide (PySem.W.subIn K (.ref (He.ga K x)) (.type "BaseException") = some true) && (PySem.W.hasDictIn K (He.ga K x) &&
  (decide (PySem.W.findIn K (.ref (He.ga K x)) "__class__" = some (some (.builtin "object.__class__"))) && (decide (PySem.W.specialIn K (.builtin "object.__class__") "__get__" = some (some (.builtin "getset_descriptor.__get__"))) && (decide (PySem.W.takesIn K (.builtin "object.__class__") = some true) && decide (PySem.W.mroIn K (He.ga K x) (.type "object") = some true)))))))
theorem exiB_ok {x : Str} {K : PySem.W.Frag} (h : exiB x K = true) : ExcC K (He.ga K x) := by
  obtain ⟨h1, h⟩ := Bool.and_eq_true_iff.mp h
  obtain ⟨h2, h⟩ := Bool.and_eq_true_iff.mp h
  obtain ⟨h3, h⟩ := Bool.and_eq_true_iff.mp h
  obtain ⟨h4, h⟩ := Bool.and_eq_true_iff.mp h
  obtain ⟨h5, h⟩ := Bool.and_eq_true_iff.mp h
  obtain ⟨h6, h⟩ := Bool.and_eq_true_iff.mp h
  obtain ⟨h7, h8⟩ := Bool.and_eq_true_iff.mp h
  exact ⟨of_decide_eq_true h1, of_decide_eq_true h2, of_decide_eq_true h3, h4, of_decide_eq_true h5, of_decide_eq_true h6, of_decide_eq_true h7, of_decide_eq_true h8⟩
def kitB (x : Str) (y : Option Str) (t : String) (b : Bool) (K : PySem.W.Frag) : Bool := decide (PySem.W.kitOne K (.ref (He.ga K x)) (match y with | some y => .ref (He.ga K y) | none => .type t) = some b)
theorem kitB_own {x y : Str} {t : String} {b : Bool} {K : PySem.W.Frag} (h : kitB x (some y) t b K = true) : PySem.W.kitOne K (.ref (He.ga K x)) (.ref (He.ga K y)) = some b := of_decide_eq_true h
theorem kitB_ty {x : Str} {t : String} {b : Bool} {K : PySem.W.Frag} (h : kitB x none t b K = true) : PySem.W.kitOne K (.ref (He.ga K x)) (.type t) = some b := of_decide_eq_true h
/-- all of these -/
def allB (l : List (PySem.W.Frag → Bool)) (K : PySem.W.Frag) : Bool := l.all fun f => f K
theorem allB_at {l : List (PySem.W.Frag → Bool)} {K : PySem.W.Frag} (h : allB l K = true) (i : Nat) {f : PySem.W.Frag → Bool} (e : l[i]? = some f := by rfl) : f K = true := List.all_eq_true.mp h f (List.mem_of_getElem? e)
/-! reckoning -/
@[simp] theorem dXF_at (a : Addr) (dx : Option Addr) (c : Exn) (i : Nat) (nm : String) (f : Str) (ρ : En) (h : ρ[i]? = some (some (.xn a dx c))) : dXF a dx c i nm f ρ = (match c.arg with | some (f', d) => if f' = f ∧ c.cls = nm then .ok d ρ else .no | none => .no) := atX_eq h
@[simp] theorem dIsE_at (a : Addr) (dx : Option Addr) (c : Exn) (i : Nat) (tab : String → Option Bool) (ρ : En) (h : ρ[i]? = some (some (.xn a dx c))) : dIsE a dx c i tab ρ = (match tab c.cls with | some b => .ok b ρ | none => .no) := atX_eq h
theorem tryAs_ok {i : Nat} {b : En → R Fl} {cat : String → Option Bool} {s : Addr → Option Addr → Exn → En → R Fl} {ρ ρ1 : En} {f : Fl} (h : b ρ = .ok f ρ1) : dTryAs i b cat s ρ = .ok f ρ1 := by
  unfold dTryAs; rw [h]
theorem tryAs_ex {i : Nat} {b : En → R Fl} {cat : String → Option Bool} {s : Addr → Option Addr → Exn → En → R Fl} {ρ ρ1 ρ2 : En} {e : Exn} {d : D} (h : b ρ = .ex e ρ1) (hc : cat e.cls = some true) (hf : free ρ1[i]? = true)
    (hs : ∀ a dx, ∃ ρ3, s a dx e (ρ1.set i (some (.xn a dx e))) = .ok (.rt d) ρ3 ∧ ρ3.set i none = ρ2) : dTryAs i b cat s ρ = .ok (.rt d) ρ2 := by
  unfold dTryAs
  rw [h]
  show (match cat e.cls with | some true => if free ρ1[i]? = true then asK (fun a dx => wipe1 i (noX (s a dx e (ρ1.set i (some (.xn a dx e)))))) else .no | some false => .ex e ρ1 | none => .no) = _
  rw [hc]
  show (if free ρ1[i]? = true then asK (fun a dx => wipe1 i (noX (s a dx e (ρ1.set i (some (.xn a dx e)))))) else .no) = _
  rw [if_pos hf]
  refine asK_eq fun a dx => ?_
  obtain ⟨ρ3, e3, e4⟩ := hs a dx
  rw [e3]
  show R.ok (Fl.rt d) (ρ3.set i none) = _
  rw [e4]
/-- never reached -/
def dNever : En → R Fl := fun _ => .no
theorem vs_never {X : Cx} {w : Wh} {st : Stmt} : VS X w st dNever := ⟨fun pins s σ H D I ⟨_, _, _, h⟩ => h.elim⟩
end Dn
namespace Dn
open PySem PySem.Spec PyProof.Rows L2
abbrev cI (i : Int) : Option L := some (.im (.int i))
abbrev cD (d : D) : Option L := some (.im d)
/-- the greatest divisor, by the loop -/
theorem gcd_loop : ∀ (n : Nat) (a b : Int), b.natAbs ≤ n → ∃ g : Int, g.natAbs = Int.gcd a b ∧
    dWhile (dCmp gNe (dVar 1) (dC (.int 0))) (dPar 0 1 (aIm (dVar 1) (aIm (dOp gMod (dVar 0) (dVar 1)) aNil))) [cI a, cI b] = .ok .nx [cI g, cI 0]
  | n, a, b, h => by
    rw [dWhile_turn]
    by_cases hb : b = 0
    · subst hb
      exact ⟨a, by simp, by simp⟩
    · cases n with
      | zero => omega
      | succ n =>
        have hlt : (a.fmod b).natAbs < b.natAbs := by
          rcases Int.lt_trichotomy b 0 with h1 | h1 | h1
          · have e : a.fmod b = -((-a).fmod (-b)) := by rw [Int.neg_fmod_neg]; omega
            rw [e, Int.natAbs_neg, Int.fmod_eq_emod_of_nonneg _ (by omega)]
            have h2 := Int.emod_nonneg (-a) (show -b ≠ 0 by omega)
            have h3 := Int.emod_lt_of_pos (-a) (show 0 < -b by omega)
            omega
          · exact absurd h1 hb
          · rw [Int.fmod_eq_emod_of_nonneg _ (by omega)]
            have h2 := Int.emod_nonneg a hb
            have h3 := Int.emod_lt_of_pos a h1
            omega
        obtain ⟨g, hg, e⟩ := gcd_loop n b (a.fmod b) (by omega)
        refine ⟨g, ?_, ?_⟩
        · rw [hg]
          have e1 : a.fmod b = a - b * a.fdiv b := by have := Int.fmod_add_mul_fdiv a b; omega
          rw [e1, Int.gcd_sub_mul_left_right, Int.gcd_comm]
        · simp [hb, gMod_of hb, e]
theorem pow60 : gPow (.int 10) (.int 60) = some (.int (10 ^ 60)) := gPow_of (by decide) (by decide) (by decide)
theorem pow59 : gPow (.int 10) (.int 59) = some (.int (10 ^ 59)) := gPow_of (by decide) (by decide) (by decide)
/-- a number in lowest terms, made of two ints -/
theorem lowest_of (top bottom : Int) (hb : 0 < bottom) (M : Nat) (h1 : top.natAbs < M) (h2 : bottom.natAbs < M) {n : Nat} (hM : M ≤ 2 ^ n) (hn : 0 < n) (h9 : n ≤ 9000) : ∃ t b : Int, 0 < b ∧ t.natAbs < M ∧ b.natAbs < M ∧ Int.gcd t b = 1 ∧ t * bottom = top * b ∧
    gFdiv (.int top) (.int (Int.gcd top bottom)) = some (.int t) ∧ gFdiv (.int bottom) (.int (Int.gcd top bottom)) = some (.int b) := by
  have hg : 0 < Int.gcd top bottom := Int.gcd_pos_of_ne_zero_right _ (by omega)
  have d1 := Int.gcd_dvd_left top bottom
  have d2 := Int.gcd_dvd_right top bottom
  have hle : Int.gcd top bottom ≤ bottom.natAbs := Nat.le_of_dvd (by omega) (by have := Int.natAbs_dvd_natAbs.mpr d2; simpa using this)
  have hgl : (Int.gcd top bottom : Int).natAbs < 2 ^ n := by
    rw [Int.natAbs_natCast]
    exact Nat.lt_of_le_of_lt hle (Nat.lt_of_lt_of_le h2 hM)
  refine ⟨top / Int.gcd top bottom, bottom / Int.gcd top bottom, ?_, ?_, ?_, ?_, ?_, gFdiv_pos (by omega) hgl hn h9, gFdiv_pos (by omega) hgl hn h9⟩
  · exact Int.ediv_pos_of_pos_of_dvd hb (by omega) d2
  · obtain ⟨q, hq⟩ := d1
    have e : top / (Int.gcd top bottom : Int) = q := by
      conv => lhs; lhs; rw [hq]
      exact Int.mul_ediv_cancel_left q (by omega)
    rw [e]
    have : top.natAbs = Int.gcd top bottom * q.natAbs := by
      conv => lhs; rw [hq]
      rw [Int.natAbs_mul]; rfl
    have h3 : q.natAbs ≤ Int.gcd top bottom * q.natAbs := Nat.le_mul_of_pos_left _ hg
    omega
  · obtain ⟨q, hq⟩ := d2
    have e : bottom / (Int.gcd top bottom : Int) = q := by
      conv => lhs; lhs; rw [hq]
      exact Int.mul_ediv_cancel_left q (by omega)
    rw [e]
    have : bottom.natAbs = Int.gcd top bottom * q.natAbs := by
      conv => lhs; rw [hq]
      rw [Int.natAbs_mul]; rfl
    have h3 : q.natAbs ≤ Int.gcd top bottom * q.natAbs := Nat.le_mul_of_pos_left _ hg
    omega
  · exact Int.gcd_ediv_gcd_ediv_gcd hg
  · obtain ⟨q, hq⟩ := d1
    obtain ⟨r, hr⟩ := d2
    have e1 : top / (Int.gcd top bottom : Int) = q := by
      conv => lhs; lhs; rw [hq]
      exact Int.mul_ediv_cancel_left q (by omega)
    have e2 : bottom / (Int.gcd top bottom : Int) = r := by
      conv => lhs; lhs; rw [hr]
      exact Int.mul_ediv_cancel_left r (by omega)
    rw [e1, e2]
    generalize (Int.gcd top bottom : Int) = g at hq hr
    rw [hq, hr]
    rw [Int.mul_comm g r, ← Int.mul_assoc, Int.mul_comm (q * r) g, ← Int.mul_assoc]
/-- the same over any bottom but 0 -/
theorem lowest_any (top bottom : Int) (hb : bottom ≠ 0) (M : Nat) (h1 : top.natAbs < M) (h2 : bottom.natAbs < M) {n : Nat} (hM : M ≤ 2 ^ n) (hn : 0 < n) (h9 : n ≤ 9000) : ∃ t b : Int, 0 < b ∧ t.natAbs < M ∧ b.natAbs < M ∧ Int.gcd t b = 1 ∧ t * bottom = top * b ∧
    gFdiv (.int top) (.int (if bottom < 0 then 0 - (Int.gcd top bottom : Int) else Int.gcd top bottom)) = some (.int t) ∧ gFdiv (.int bottom) (.int (if bottom < 0 then 0 - (Int.gcd top bottom : Int) else Int.gcd top bottom)) = some (.int b) := by
  by_cases h : bottom < 0
  · obtain ⟨t, b, c1, c2, c3, c4, c5, c6, c7⟩ := lowest_of (-top) (-bottom) (by omega) M (by omega) (by omega) hM hn h9
    rw [Int.neg_gcd, Int.gcd_neg] at c6 c7
    refine ⟨t, b, c1, c2, c3, c4, ?_, ?_, ?_⟩
    · rw [Int.mul_neg, Int.neg_mul] at c5; omega
    · have hg : (Int.gcd top bottom : Int) ≠ 0 := by have := Int.gcd_pos_of_ne_zero_right top hb; omega
      rw [if_pos h]
      have hl : (Int.gcd top bottom : Int).natAbs < 2 ^ n := by
        rw [Int.natAbs_natCast]
        have := Int.gcd_dvd_right top bottom
        have hle : Int.gcd top bottom ≤ bottom.natAbs := Nat.le_of_dvd (by omega) (by have := Int.natAbs_dvd_natAbs.mpr this; simpa using this)
        exact Nat.lt_of_le_of_lt hle (Nat.lt_of_lt_of_le h2 hM)
      rw [gFdiv_of (by omega) (show (0 - (Int.gcd top bottom : Int)).natAbs < 2 ^ n by rw [Int.zero_sub, Int.natAbs_neg]; exact hl) hn h9]
      rw [gFdiv_of hg hl hn h9] at c6
      have e : top.fdiv (0 - (Int.gcd top bottom : Int)) = (-top).fdiv (Int.gcd top bottom) := by
        rw [Int.zero_sub, ← Int.neg_fdiv_neg (-top), Int.neg_neg]
      rw [e]; exact c6
    · have hg : (Int.gcd top bottom : Int) ≠ 0 := by have := Int.gcd_pos_of_ne_zero_right top hb; omega
      rw [if_pos h]
      have hl : (Int.gcd top bottom : Int).natAbs < 2 ^ n := by
        rw [Int.natAbs_natCast]
        have := Int.gcd_dvd_right top bottom
        have hle : Int.gcd top bottom ≤ bottom.natAbs := Nat.le_of_dvd (by omega) (by have := Int.natAbs_dvd_natAbs.mpr this; simpa using this)
        exact Nat.lt_of_le_of_lt hle (Nat.lt_of_lt_of_le h2 hM)
      rw [gFdiv_of (by omega) (show (0 - (Int.gcd top bottom : Int)).natAbs < 2 ^ n by rw [Int.zero_sub, Int.natAbs_neg]; exact hl) hn h9]
      rw [gFdiv_of hg hl hn h9] at c7
      have e : bottom.fdiv (0 - (Int.gcd top bottom : Int)) = (-bottom).fdiv (Int.gcd top bottom) := by
        rw [Int.zero_sub, ← Int.neg_fdiv_neg (-bottom), Int.neg_neg]
      rw [e]; exact c7
  · rw [if_neg h]
    exact lowest_of top bottom (by omega) M h1 h2 hM hn h9
/-- a number as data -/
abbrev nD (t d : Int) : D := .tuple [.int t, .int d]
/-- over a range, by the turn -/
theorem forL_ix {g : D → En → R Unit} {b : En → R Fl} {f : Nat → D} {P : Nat → En → Prop} : ∀ (n k : Nat), (∀ i, k ≤ i → i < k + n → ∀ ρ, P i ρ → ∃ ρ1 ρ2, g (f i) ρ = .ok () ρ1 ∧ b ρ1 = .ok .nx ρ2 ∧ P (i + 1) ρ2) → ∀ ρ, P k ρ →
    ∃ ρ', dForL g b ((List.range' k n).map f) ρ = .ok .nx ρ' ∧ P (k + n) ρ'
  | 0, k, _, ρ, h => ⟨ρ, rfl, h⟩
  | n + 1, k, h, ρ, hp => by
    obtain ⟨ρ1, ρ2, e1, e2, p2⟩ := h k (Nat.le_refl _) (by omega) ρ hp
    obtain ⟨ρ', e, p'⟩ := forL_ix n (k + 1) (fun i h1 h2 => h i (by omega) (by omega)) ρ2 p2
    refine ⟨ρ', ?_, by rw [show k + (n + 1) = k + 1 + n by omega]; exact p'⟩
    rw [List.range'_succ, List.map_cons]
    show (g (f k) ρ).bind _ = _
    rw [e1]
    show (b ρ1).bind _ = _
    rw [e2]
    exact e
theorem forL_rng {g : D → En → R Unit} {b : En → R Fl} {lo : Int} {n : Nat} {P : Nat → En → Prop} (h : ∀ i, i < n → ∀ ρ, P i ρ → ∃ ρ1 ρ2, g (.int (lo + (i : Int))) ρ = .ok () ρ1 ∧ b ρ1 = .ok .nx ρ2 ∧ P (i + 1) ρ2) (ρ : En) (hp : P 0 ρ) :
    ∃ ρ', dForL g b (rngD lo n) ρ = .ok .nx ρ' ∧ P n ρ' := by
  obtain ⟨ρ', e, p⟩ := forL_ix (f := fun i => PyData.int (lo + (i : Int))) n 0 (fun i _ h2 => h i (by omega)) ρ hp
  refine ⟨ρ', ?_, by simpa using p⟩
  rw [rngD, List.range_eq_range']
  exact e
/-! what is the same is equal -/
mutual
theorem eqv_refl : ∀ {d : PyData}, d.canLay0 = true → PyData.eqv d d = true
  | .none, _ => by simp only [PyData.eqv]
  | .bool b, _ => by simp only [PyData.eqv]; simp
  | .int i, _ => by simp only [PyData.eqv]; simp
  | .str s, _ => by simp only [PyData.eqv]; simp
  | .list l, h => by
    simp only [PyData.eqv]
    exact eqvAll_refl (by simpa [PyData.canLay0] using h)
  | .tuple l, h => by
    simp only [PyData.eqv]
    exact eqvAll_refl (by simpa [PyData.canLay0] using h)
  | .dict l, h => by simp [PyData.canLay0] at h
theorem eqvAll_refl : ∀ {l : List PyData}, PyData.canLayAll0 l = true → PyData.eqvAll l l = true
  | [], _ => by simp only [PyData.eqvAll]
  | d :: l, h => by
    simp only [PyData.canLayAll0, Bool.and_eq_true] at h
    simp only [PyData.eqvAll, eqv_refl h.1, eqvAll_refl h.2, Bool.and_true]
end
theorem gEq_self {d : D} (h : shp d = true) : gEq d d = some true := by rw [gEq_of h h, eqv_refl (SeqAt.canLay_of_shaped h)]
theorem gNe_self {d : D} (h : shp d = true) : gNe d d = some false := by rw [gNe_of h h, eqv_refl (SeqAt.canLay_of_shaped h)]; rfl
theorem fm_congr {α β : Type} {f g : α → Option β} : ∀ {l : List α}, (∀ x ∈ l, f x = g x) → l.filterMap f = l.filterMap g
  | [], _ => rfl
  | a :: l, h => by rw [List.filterMap_cons, List.filterMap_cons, h a List.mem_cons_self, fm_congr fun x hx => h x (List.mem_cons_of_mem _ hx)]
/-- a comprehension whose turns change what stands about -/
theorem lcL_inv {t : D → En → R (Option D)} {vs : List Nat} {P : En → Prop} {S : D → Prop} : ∀ {ds acc : List D} {ρ : En}, (∀ d ∈ ds, ∀ ρ, P ρ → ∃ y ρ3, t d (wipeE ρ vs) = .ok (some y) ρ3 ∧ S y ∧ P (restE ρ ρ3 vs)) → P ρ → acc.length + ds.length ≤ sizeLine →
    ∃ ys ρ', lcL t vs ds acc ρ = .ok (acc ++ ys) ρ' ∧ ys.length = ds.length ∧ (∀ y ∈ ys, S y) ∧ P ρ'
  | [], acc, ρ, _, p, _ => ⟨[], ρ, by rw [lcL, List.append_nil], rfl, fun y h => by simp at h, p⟩
  | d :: ds, acc, ρ, h, p, hl => by
    obtain ⟨y, ρ3, e1, s1, p1⟩ := h d List.mem_cons_self ρ p
    have hl' : acc.length + (ds.length + 1) ≤ sizeLine := hl
    obtain ⟨ys, ρ', e2, l2, s2, p2⟩ := lcL_inv (acc := acc ++ [y]) (fun d hd => h d (List.mem_cons_of_mem _ hd)) p1 (by rw [List.length_append]; simp; omega)
    refine ⟨y :: ys, ρ', ?_, by simp [l2], fun z hz => ?_, p2⟩
    · rw [lcL, e1]
      show (if acc.length < sizeLine then lcL t vs ds (acc ++ [y]) (restE ρ ρ3 vs) else .no) = _
      rw [if_pos (by omega), e2]
      simp
    · rcases List.mem_cons.mp hz with q | q
      · subst q; exact s1
      · exact s2 z q
end Dn
namespace Dn
open PySem PySem.Spec PyProof.Rows L2
/-! ### the same data, with empty dicts within, compared -/
mutual
def okE : PyData → Bool
  | .dict l => l.isEmpty
  | .list l => okEs l
  | .tuple l => okEs l
  | _ => true
def okEs : List PyData → Bool
  | [] => true
  | d :: l => okE d && okEs l
end
mutual
def dpE : PyData → Nat
  | .list l => dpEs l + 1
  | .tuple l => dpEs l + 1
  | _ => 1
def dpEs : List PyData → Nat
  | [] => 0
  | d :: l => max (dpE d) (dpEs l)
end
section
variable {X : Cx} {pins : List (Addr × Obj)} {σ : L2.St} {H : Hp} {s : Shared}
theorem dict0_eq {A : Around} {a b : Addr} (I : Inv X pins σ H s) (ha : H a = some (.dK [])) (hb : H b = some (.dK [])) (hu : A.units < cLine) : SeqAt.EqAt A s (.ref a) (.ref b) true := by
  by_cases hab : a = b
  · subst hab; exact SeqAt.EqAt.same _
  · refine SeqAt.EqAt.of_refs hab fun prog w E Q q => ?_
    obtain ⟨_, ya, va, ra, da⟩ := (show ObjOk X.prog X.w H s.heap a (.dK []) from I.hok a _ ha)
    obtain ⟨_, yb, vb, rb, db⟩ := (show ObjOk X.prog X.w H s.heap b (.dK []) from I.hok b _ hb)
    have e0 : ∀ {vs : List (Key × Value)}, KV [] vs → vs = [] := fun h => List.length_eq_zero_iff.mp h.length.symm
    rw [e0 ra] at da
    rw [e0 rb] at db
    have to : ∀ {c : Addr}, s.heap.DictOf (mixKind X.prog X.w) c [] → s.heap.DictOf (mixKind prog w) c [] := fun ⟨o, es, ep, h1, h2, h3, h4, h5, h6⟩ => by
      have : es = #[] := by
        have := h5.length
        exact Array.eq_empty_of_size_eq_zero (by simpa using this)
      subst this
      exact ⟨o, #[], ep, h1, h2, h3, fun e he => by simp at he, .nil, by simp⟩
    exact PySem.W.keq_eq (knd := mixKind prog w) (r := true) ya yb (to da) (to db) hu (fun _ => .nil) q

theorem paired_at {xs : List V} {us : List Value} (r : Paired RelV xs us) : ∀ {j : Nat} {v : V}, xs[j]? = some v → ∃ u, us[j]? = some u ∧ RelV v u := fun {j v} e => Vals.get r e
mutual
theorem eqE (I : Inv X pins σ H s) : ∀ (d : PyData) (A : Around) (x y : V) (v u : Value), okE d = true → A.units + dpE d < cLine → DR X.K H x d → DR X.K H y d → RelV x v → RelV y u → SeqAt.EqAt A s v u true
  | .none, A, x, y, v, u, _, _, hx, hy, rx, ry => by
    cases hx; cases hy; cases rx; cases ry; exact SeqAt.EqAt.same _
  | .bool b, A, x, y, v, u, _, _, hx, hy, rx, ry => by
    cases hx; cases hy; cases rx; cases ry; exact SeqAt.EqAt.same _
  | .int i, A, x, y, v, u, _, _, hx, hy, rx, ry => by
    cases hx; cases hy
    obtain ⟨t, rfl⟩ := rx
    obtain ⟨t', rfl⟩ := ry
    have := SeqAt.EqAt.int_int (A := A) (s := s) i t i t'
    simpa using this
  | .str a, A, x, y, v, u, _, _, hx, hy, rx, ry => by
    cases hx; cases hy
    obtain ⟨t, rfl⟩ := rx
    obtain ⟨t', rfl⟩ := ry
    have := SeqAt.EqAt.str_str (A := A) (s := s) a t a t'
    simpa using this
  | .list l, A, x, y, v, u, ho, hu, hx, hy, rx, ry => by
    cases hx with
    | lst h1 d1 =>
      cases hy with
      | lst h2 d2 =>
        cases rx; cases ry
        rename_i a xs b ys
        by_cases hab : a = b
        · subst hab; exact SeqAt.EqAt.same _
        obtain ⟨its, r, p, _⟩ := I.list h1
        obtain ⟨its2, r2, p2, _⟩ := I.list h2
        have hu2 : A.in1.units + dpEs l < cLine := by
          have h3 : A.units + (dpEs l + 1) < cLine := by simpa [dpE] using hu
          show A.units + 1 + dpEs l < cLine
          omega
        have E := eqEs I l A.in1 xs ys its its2 (by simpa [okE] using ho) hu2 d1 d2 r r2
        have hl : its.toArray.size = its2.toArray.size := by
          have := r.length; have := r2.length; have := d1.length; have := d2.length
          simp; omega
        have R := SeqAt.RcAt.lists (A := A) (s := s) (e := fun _ => true) p.isList p2.isList hl (by omega) (fun j h1 h2 => by
          have := E j (by simpa using h1) (by simpa using h2)
          simpa using this)
        have et : (List.range its.toArray.size).all (fun _ => true) = true := by simp
        rw [et] at R
        exact SeqAt.EqAt.of_refs hab R
  | .tuple l, A, x, y, v, u, ho, hu, hx, hy, rx, ry => by
    cases hx with
    | tup h1 d1 =>
      cases hy with
      | tup h2 d2 =>
        cases rx; cases ry
        rename_i a xs b ys
        by_cases hab : a = b
        · subst hab; exact SeqAt.EqAt.same _
        obtain ⟨its, r, p, _⟩ := I.tuple h1
        obtain ⟨its2, r2, p2, _⟩ := I.tuple h2
        have hu2 : A.in1.units + dpEs l < cLine := by
          have h3 : A.units + (dpEs l + 1) < cLine := by simpa [dpE] using hu
          show A.units + 1 + dpEs l < cLine
          omega
        have E := eqEs I l A.in1 xs ys its its2 (by simpa [okE] using ho) hu2 d1 d2 r r2
        have hl : its.toArray.size = its2.toArray.size := by
          have := r.length; have := r2.length; have := d1.length; have := d2.length
          simp; omega
        have R := SeqAt.RcAt.tuples (A := A) (s := s) (e := fun _ => true) p p2 (by omega) (fun j h1 h2 => by
          have := E j (by simpa using h1) (by simpa using h2)
          simpa using this)
        have et : ((List.range (min its.toArray.size its2.toArray.size)).all (fun _ => true) && its.toArray.size == its2.toArray.size) = true := by rw [hl]; simp
        rw [et] at R
        exact SeqAt.EqAt.of_refs hab R
  | .dict l, A, x, y, v, u, ho, hu, hx, hy, rx, ry => by
    have : l = [] := by simpa [okE] using ho
    subst this
    generalize hD : PyData.dict [] = D0 at hx hy
    cases hx with
    | @dic a kvs ds h1 d1 =>
      have k0 : kvs = [] := by
        have := congrArg (fun d => match d with | PyData.dict l => l.length | _ => 0) hD
        simp at this
        have h2 := d1.length
        simp at h2
        cases kvs with
        | nil => rfl
        | cons p r => simp at h2 this; omega
      subst k0
      generalize hD2 : PyData.dict _ = D1 at hy
      cases hy with
      | @dic b kvs2 ds2 h2 d2 =>
        have k2 : kvs2 = [] := by
          have := congrArg (fun d => match d with | PyData.dict l => l.length | _ => 0) hD2
          simp at this
          have h3 := d2.length
          simp at h3
          cases kvs2 with
          | nil => rfl
          | cons p r => simp at h3 this; omega
        subst k2
        cases rx; cases ry
        exact dict0_eq I h1 h2 (by omega)
      | _ => cases hD2
    | _ => cases hD
theorem eqEs (I : Inv X pins σ H s) : ∀ (l : List PyData) (A : Around) (xs ys : List V) (vs us : List Value), okEs l = true → A.units + dpEs l < cLine → DRs X.K H xs l → DRs X.K H ys l → Paired RelV xs vs → Paired RelV ys us → ∀ (j : Nat) (h1 : j < vs.length) (h2 : j < us.length), SeqAt.EqAt A s vs[j] us[j] true
  | [], A, xs, ys, vs, us, _, _, hx, hy, rx, ry => fun j h1 h2 => by
    cases hx; cases rx; simp at h1
  | d :: l, A, xs, ys, vs, us, ho, hu, hx, hy, rx, ry => fun j h1 h2 => by
    cases hx with
    | cons hd ht =>
      cases hy with
      | cons hd2 ht2 =>
        cases rx with
        | cons r1 rt =>
          cases ry with
          | cons r2 rt2 =>
            have ho' : okE d = true ∧ okEs l = true := by simpa [okEs] using ho
            have hm : dpE d ≤ dpEs (d :: l) ∧ dpEs l ≤ dpEs (d :: l) := by simp only [dpEs]; omega
            cases j with
            | zero => exact eqE I d A _ _ _ _ ho'.1 (by omega) hd hd2 r1 r2
            | succ j => exact eqEs I l A _ _ _ _ ho'.2 (by omega) ht ht2 rt rt2 j (by simpa using h1) (by simpa using h2)
end
end
/-- what is compared is the same -/
def seqE : PyData → Bool
  | .list _ => true
  | .tuple _ => true
  | _ => false
def rNeE (K : PySem.W.Frag) : R2 := fun x y H Q => ∃ d, seqE d = true ∧ okE d = true ∧ dpE d ≤ 60 ∧ DR K H x d ∧ DR K H y d ∧ Q (.bl false) H
section
variable {X : Cx}
theorem op_neE (hu : X.A.units + 64 < cLine) : OpR X (compareOp .NotEq) (rNeE X.K) := by
  intro pins s σ H x y v u Q I rx ry h
  obtain ⟨d, sd, od, dd, hx, hy, q⟩ := h
  cases d with
  | list l =>
    cases hx with
    | lst h1 d1 =>
      cases hy with
      | lst h2 d2 =>
        cases rx; cases ry
        obtain ⟨its, r, p, _⟩ := I.list h1
        obtain ⟨its2, r2, p2, _⟩ := I.list h2
        have hu2 : X.A.in1.units + dpEs l < cLine := by
          have h3 : dpEs l + 1 ≤ 60 := by simpa [dpE] using dd
          show X.A.units + 1 + dpEs l < cLine
          omega
        have E := eqEs I l X.A.in1 _ _ its its2 (by simpa [okE] using od) hu2 d1 d2 r r2
        have hl : its.toArray.size = its2.toArray.size := by
          have := r.length; have := r2.length; have := d1.length; have := d2.length
          simp; omega
        have R := SeqAt.RcNeAt.lists (A := X.A) (s := s) (e := fun _ => true) p.isList p2.isList hl (by omega) (fun j h1 h2 => by
          have := E j (by simpa using h1) (by simpa using h2)
          simpa using this)
        have et : (!(List.range its.toArray.size).all (fun _ => true)) = false := by simp
        rw [et] at R
        exact R X.prog X.w _ _ ⟨.bl false, H, I, rfl, q⟩
  | tuple l =>
    cases hx with
    | tup h1 d1 =>
      cases hy with
      | tup h2 d2 =>
        cases rx; cases ry
        obtain ⟨its, r, p, _⟩ := I.tuple h1
        obtain ⟨its2, r2, p2, _⟩ := I.tuple h2
        have hu2 : X.A.in1.units + dpEs l < cLine := by
          have h3 : dpEs l + 1 ≤ 60 := by simpa [dpE] using dd
          show X.A.units + 1 + dpEs l < cLine
          omega
        have E := eqEs I l X.A.in1 _ _ its its2 (by simpa [okE] using od) hu2 d1 d2 r r2
        have hl : its.toArray.size = its2.toArray.size := by
          have := r.length; have := r2.length; have := d1.length; have := d2.length
          simp; omega
        have R := SeqAt.RcNeAt.tuples (A := X.A) (s := s) (e := fun _ => true) p p2 (by omega) (fun j h1 h2 => by
          have := E j (by simpa using h1) (by simpa using h2)
          simpa using this)
        have et : (!((List.range (min its.toArray.size its2.toArray.size)).all (fun _ => true) && its.toArray.size == its2.toArray.size)) = false := by rw [hl]; simp
        rw [et] at R
        exact R X.prog X.w _ _ ⟨.bl false, H, I, rfl, q⟩
  | _ => cases sd
open Classical in
noncomputable def gNeE (a b : D) : Option Bool := match gNe a b with
  | some r => some r
  | none => if a = b ∧ seqE a = true ∧ okE a = true ∧ dpE a ≤ 60 then some false else none
theorem op_neX (hu : X.A.units + 64 < cLine) : OpR X (compareOp .NotEq) (fun x y H Q => rNeD X.K x y H Q ∨ rNeE X.K x y H Q) := (op_neD hu).or (op_neE hu)
open Classical in
theorem ob_neX : OpB X.K (fun x y H Q => rNeD X.K x y H Q ∨ rNeE X.K x y H Q) gNeE := fun x y dx dy b H Q hx hy e q => by
  unfold gNeE at e
  cases q1 : gNe dx dy with
  | some r =>
    rw [q1] at e; cases e
    exact .inl (ob_ne x y dx dy b H Q hx hy q1 q)
  | none =>
    rw [q1] at e
    have e' : (if dx = dy ∧ seqE dx = true ∧ okE dx = true ∧ dpE dx ≤ 60 then some false else none) = some b := e
    split at e'
    · rename_i h
      obtain ⟨rfl, h1, h2, h3⟩ := h
      cases e'
      exact .inr ⟨dx, h1, h2, h3, hx, hy, q⟩
    · cases e'
theorem gNeE_of {a b : D} {r : Bool} (h : gNe a b = some r) : gNeE a b = some r := by unfold gNeE; rw [h]
theorem gNeE_self {a : D} (h1 : seqE a = true) (h2 : okE a = true) (h3 : dpE a ≤ 60) : gNeE a a = some false := by
  unfold gNeE
  cases q : gNe a a with
  | none => exact if_pos ⟨rfl, h1, h2, h3⟩
  | some r =>
    show some r = _
    unfold gNe gEq at q
    split at q
    · rename_i h
      rw [eqv_refl (SeqAt.canLay_of_shaped h.1)] at q
      cases q; rfl
    · cases q
end
end Dn
namespace Dn
open PySem PySem.Spec PyProof.Rows L2
/-! ### a told list so many times -/
theorem int_rmul_listW (a : Int) (t : Tok) (l : Addr) (items : Array Value) (n : Nat) (dd : Option Addr) (sl : Array (Option Value)) :
    Meets (Builtin.«int.__rmul__» ⟨[.int a t, .ref l], []⟩) (fun _ R s => s.heap.get? l = some { cls := .type "list", dict := dd, data := .seq items n, slots := sl } ∧ R (.ok (.ret Value.notImplemented)) s) :=
  .of_wp fun prog w A R s h => by obtain ⟨hp, g, d, tk, os⟩ := s; obtain ⟨hl, h⟩ := h; wp_walk using wpAny_loadPart' hl; exact ⟨_, rfl, h⟩
theorem list_mulW (l : Addr) (items : Array Value) (n : Nat) (dd : Option Addr) (sl : Array (Option Value)) (x : Int) (u : Tok) (hc0 : ¬(!Builtin.List.listFitsIndex x) = true) (hc1 : ¬items.size * x.toNat > (2 ^ 63 - 1) / 8) (hc2 : ¬Builtin.List.listTooLong (items.size * x.toNat) = true) :
    Meets (Builtin.«list.__mul__» ⟨[.ref l, .int x u], []⟩) (fun _ R s => s.heap.get? l = some { cls := .type "list", dict := dd, data := .seq items n, slots := sl } ∧ R (.ok (.ret (Value.ref s.heap.objs.size))) { s with heap := s.heap.push { cls := Value.type "list", data := Data.seq (List.foldl (fun x1 x2 => x1 ++ x2) #[] (List.replicate (if items.isEmpty = true then 0 else x.toNat) items)) }, toks := s.toks }) :=
  .of_wp fun prog w A R s h => by
    obtain ⟨hp, g, d, tk, os⟩ := s; obtain ⟨hl, h⟩ := h
    have hsz := PySem.AutoListH.joined_fits hc2
    wp_walk using wpAny_loadPart' hl; refine wpAny_ite_false (decide_eq_false (Nat.not_lt.mpr hsz)) ?_; wp_walk using wpAny_loadPart' hl; exact ⟨_, rfl, h⟩
def rRepR (K : PySem.W.Frag) : R2 := fun x y H Q => ∃ l k xs, x = .ref l ∧ y = .int k ∧ SqL K H l xs ∧ 0 ≤ k ∧ k < 2 ^ 63 ∧ xs.length * k.toNat ≤ sizeLine ∧
  ∀ p, H p = none → Q (.ref p) (upd H p (.lst (List.replicate k.toNat xs).flatten))
section
variable {X : Cx} {w : Wh} {a b : Expr} {fa fb : En → R D} {pos : Pos}
theorem op_repR : OpR X (binaryOp .Mult) (rRepR X.K) := by
  intro pins s σ H x y v u Q I rx ry h
  obtain ⟨l, k, xs, rfl, rfl, hH, h1, h2, hz, q⟩ := h
  cases rx
  obtain ⟨t, rfl⟩ := ry
  obtain ⟨its, r, ⟨⟨cls, dd, data, sl⟩, n, e, hc, hdn, hd⟩, z⟩ := I.list hH
  simp only at hc hd
  subst hc hd
  have hl := r.length
  have hlen : its.toArray.size * k.toNat ≤ sizeLine := by rw [List.size_toArray, ← hl]; exact hz
  have hcap : ¬ its.toArray.size * k.toNat > (2 ^ 63 - 1) / 8 := by
    have : (sizeLine : Nat) ≤ (2 ^ 63 - 1) / 8 := by decide
    omega
  have hfit : ¬ (!Builtin.List.listFitsIndex k) = true := by
    rw [fitsIndex_both (by omega) h2]
    exact Bool.false_ne_true
  have hlong : ¬ Builtin.List.listTooLong (its.toArray.size * k.toNat) = true := by
    rw [notLongL hlen]
    exact Bool.false_ne_true
  have hnew : List.foldl (fun x1 x2 => x1 ++ x2) #[] (List.replicate (if its.toArray.isEmpty = true then 0 else k.toNat) its.toArray) = (List.replicate k.toNat its).flatten.toArray := by
    have f0 : ∀ m : Nat, List.foldl (fun x1 x2 => x1 ++ x2) #[] (List.replicate m its.toArray) = (List.replicate m its).flatten.toArray := fun m => by
      have := foldl_rep its m []
      rw [List.nil_append] at this
      exact this
    rw [f0]
    cases its with
    | nil => simp
    | cons a r' => rw [if_neg (by simp)]
  refine wpAny_binaryOp_repeat_ref (T := "list") (U := "int") (by decide) ⟨_, e, rfl⟩ (fun s' => typeIs_int s' k t) noFill_list_mul F.fills_int_mul F.slot_int_rmul repeat_list F.slot_int_index.lookup
    (call_meets F.slot_int_rmul (typeIs_int s k t) F.entry_int_rmul (F.args_int_rmul_2 _ _) (int_rmul_listW k t l its.toArray n dd sl)
      ⟨e, rfl, ⟨_, e, rfl⟩, call_meets F.slot_list_mul ⟨_, e, rfl⟩ F.entry_list_mul (F.args_list_mul_2 _ _) (list_mulW l its.toArray n dd sl k t hfit hcap hlong) ⟨e, ?_⟩⟩)
  rw [hnew]
  exact ⟨.ref _, _, I.lnew (t' := s.toks) (r.rep k.toNat) (by rw [PyProof.Rows.lm_len_rep_flat, Nat.mul_comm]; exact hz), rfl, q _ I.fresh⟩
def gMulX : D → D → Option D
  | .list ds, k => repL ds k
  | x, y => gMul x y
theorem op_mulLX : OpR X (binaryOp .Mult) (fun x y H Q => rI CMulX (fun i j => .int (i * j)) x y H Q ∨ rRepR X.K x y H Q) := op_mulX.or op_repR
theorem os_mulLX : OpS X.K (fun x y H Q => rI CMulX (fun i j => .int (i * j)) x y H Q ∨ rRepR X.K x y H Q) gMulX := by
  intro w x y dx dy d G H σ ρ Q r hx hy e q
  cases hx with
  | @lst a xs ds h hs =>
    replace e : repL ds dy = some d := e
    unfold repL at e
    split at e
    · rename_i z
      split at e
      · rename_i hz
        cases e
        cases hy
        refine .inr ⟨a, z, xs, rfl, rfl, r.sub.seq h, by omega, by omega, by rw [hs.length]; exact hz.2.2, ?_⟩
        exact hand_new r q (DR.newL r (hs.rep _))
      · cases e
    · cases e
  | int i => exact .inl (os_mul w _ _ _ _ _ G H σ ρ Q r (.int i) hy e q)
  | _ => cases e
theorem ve_mulX (ha : VE X w a fa) (hb : VE X w b fb) : VE X w (.BinOp a .Mult b pos) (dOp gMulX fa fb) := ve_op op_mulLX os_mulLX ha hb
end
theorem gMulX_int (i j : Int) : gMulX (.int i) (.int j) = gMul (.int i) (.int j) := rfl
theorem gMulX_list {ds : List D} {n : Nat} (h : n ≤ 10000) (hl : ds.length * n ≤ 1000000) : gMulX (.list ds) (.int (n : Int)) = some (.list (List.replicate n ds).flatten) := by
  have hs := PySem.sizeLine_eq
  show repL ds (.int (n : Int)) = _
  unfold repL
  simp only
  rw [if_pos ⟨by omega, by omega, by simp only [Int.toNat_natCast]; omega⟩]
  rfl
end Dn
namespace Dn
open PySem PySem.Spec PyProof.Rows L2
/-! ### a list of any things != [] -/
def rNe0 (K : PySem.W.Frag) : R2 := fun x y H Q => ∃ l m xs, x = .ref l ∧ y = .ref m ∧ SqL K H l xs ∧ SqL K H m [] ∧ Q (.bl (!xs.isEmpty)) H
section
variable {X : Cx}
theorem op_ne0 (hu : X.A.units + 64 < cLine) : OpR X (compareOp .NotEq) (rNe0 X.K) := by
  intro pins s σ H x y v u Q I rx ry h
  obtain ⟨l, m, xs, rfl, rfl, h1, h2, q⟩ := h
  cases rx
  cases ry
  obtain ⟨its, r, p, _⟩ := I.list h1
  obtain ⟨its2, r2, p2, _⟩ := I.list h2
  cases r2
  have hl : xs.length = its.length := r.length
  cases its with
  | nil =>
    have hx : xs = [] := List.eq_nil_of_length_eq_zero (by simpa using hl)
    subst hx
    have R := SeqAt.RcNeAt.lists (A := X.A) (s := s) (e := fun _ => true) p.isList p2.isList rfl (by omega) (fun j h1 h2 => by simp at h2)
    exact R X.prog X.w _ _ ⟨.bl false, H, I, rfl, q⟩
  | cons a its =>
    have R := SeqAt.RcNeAt.lists_lengths (A := X.A) (s := s) p.isList p2.isList (by simp) (by omega)
    refine R X.prog X.w _ _ ⟨.bl true, H, I, rfl, ?_⟩
    cases xs with
    | nil => cases hl
    | cons _ _ => exact q
theorem op_ne0X (hu : X.A.units + 64 < cLine) : OpR X (compareOp .NotEq) (fun x y H Q => rNeD X.K x y H Q ∨ rNe0 X.K x y H Q) := (op_neD hu).or (op_ne0 hu)
def gNe0 (a b : D) : Option Bool := match gNe a b with
  | some r => some r
  | none => match a, b with
    | .list xs, .list [] => some (!xs.isEmpty)
    | _, _ => none
theorem ob_ne0X : OpB X.K (fun x y H Q => rNeD X.K x y H Q ∨ rNe0 X.K x y H Q) gNe0 := fun x y dx dy b H Q hx hy e q => by
  unfold gNe0 at e
  cases q1 : gNe dx dy with
  | some r =>
    rw [q1] at e; cases e
    exact .inl (ob_ne x y dx dy b H Q hx hy q1 q)
  | none =>
    rw [q1] at e
    cases dx with
    | list xs =>
      cases dy with
      | list ys =>
        cases ys with
        | nil =>
          cases e
          cases hx with
          | lst hq hs =>
            cases hy with
            | lst hq2 hs2 =>
              cases hs2
              refine .inr ⟨_, _, _, rfl, rfl, hq, hq2, ?_⟩
              rw [hs.emp]; exact q
        | cons _ _ => cases e
      | _ => cases e
    | _ => cases dy <;> cases e
@[simp] theorem gNe0_nil (xs : List D) : gNe0 (.list xs) (.list []) = some (!xs.isEmpty) := by
  unfold gNe0
  cases q : gNe (.list xs) (.list []) with
  | none => rfl
  | some r =>
    unfold gNe gEq at q
    split at q
    · simp only [Option.map_some, Option.some.injEq] at q
      subst q
      cases xs <;> simp [PyData.eqv, PyData.eqvAll]
    · cases q
end
end Dn
namespace Dn
open PySem PySem.Spec PyProof.Rows L2
/-! ### except (A, B): a suite that raises -/
section
variable {X : Cx} {pins : List (Addr × Obj)} {σ : L2.St} {H : Hp} {s : Shared}
/-- what flies goes on flying where only new objects were laid -/
theorem fly_more {B h h' : Heap} {l : List Env} {a : Addr} {Z : Obj → Prop} (k : ∀ b o, h.get? b = some o → h'.get? b = some o) (f : HandSPX.FlyingZ B l a Z h) : HandSPX.FlyingZ B l a Z h' := by
  obtain ⟨f1, f2, f3, oe, vs, T, oT, ts, e1, e2, e3, e4, e5, e6, e7, e8, e9⟩ := f
  exact ⟨fun b o e => k b o (f1 b o e), f2, f3.of_keeps fun b o e _ => ⟨o, k b o e, rfl⟩, oe, vs, T, oT, ts, k _ _ e1, e2, e3, e4, e5, e6, k _ _ e7, e8, e9⟩
/-- the two names of a clause: a new tuple, and the look -/
theorem clause2 {x1 x2 : Str} {c1 c2 cls : Value} {p1 p2 tp : Pos} {kk : Nat} {b : Bool} {a : Addr} {pn : List (Addr × Obj)} {E : Value → Shared → Prop} {Q : Bool → Shared → Prop} (n1 : Names X x1 c1) (n2 : Names X x2 c2)
    (S : Inv (X.suite a pn) [] σ H s) (LT : PySem.W.Looks (model X.prog X.w) s.heap (typeOf (.ref a)) cls) (he : PySem.W.exmAny X.K cls [c1, c2] = some b)
    (q : ∀ h', (∀ c o, s.heap.get? c = some o → h'.get? c = some o) → Q b { s with heap := h' }) :
    wpAny (model X.prog X.w) (X.A.mark (some (.ref a))) (eval (.Tuple [.Name x1 p1, .Name x2 p2] kk tp) X.env) (fun c s₁ => wpAny (model X.prog X.w) (X.A.mark (some (.ref a))) (excMatches (.ref a) c) Q E s₁) E s := by
  have one : ∀ {x : Str} {c : Value} {p : Pos} {R : Value → Shared → Prop}, Names X x c → R c s → wpAny (model X.prog X.w) (X.A.mark (some (.ref a))) (eval (.Name x p) X.env) R E s := fun {x c p R} n r => by
    obtain ⟨g1, g2, m | ⟨m, v, u⟩⟩ := n
    · exact ld_glob (X := X.suite a pn) S g1 m r g2
    · exact ld_blt (X := X.suite a pn) S g1 m v r u g2
  have kp : ∀ c o, s.heap.get? c = some o → (s.heap.push { cls := .type "tuple", data := .seq [c1, c2].toArray }).get? c = some o := fun _ _ z => Heap.get?_push_of_some _ z
  refine wpAny_Tuple (wpAny_items_cons (one n1 (wpAny_items_cons (one n2 (wpAny_items_nil ⟨by size_fits, ?_⟩)))))
  exact (PySem.W.exm_tup2 (S.kIn.keeps kp) (LT.keeps kp) (Heap.get?_push_size s.heap rfl) he).here (q _ kp)
/-- what the body may raise: the clause takes it -/
def wTup (K : PySem.W.Frag) (c1 c2 : Value) (ts : Addr → Value → Option Addr → TS) (D : Ends) : WX := fun cls d σ H => PySem.W.exmAny K cls [c1, c2] = some true ∧ ∀ a, H a = none → ts a cls d D σ H
end
section
variable {X : Cx} {x1 x2 : Str} {c1 c2 : Value} {body suite : List Stmt} {b₀ : Stmt} {p1 p2 tp pos pos' : Pos} {kk : Nat} {tb : WX → TS} {ts : Addr → Value → Option Addr → TS} {Wout : WX}
open L2H HotX in
theorem ps_try_tup (stk : X.stack = X.env :: X.outer) (fr : X.env.frame = some X.env.locals) (n1 : Names X x1 c1) (n2 : Names X x2 c2) (back : ∀ hd : Option Value, PassesOwnAt (model X.prog X.w) (X.A.mark hd) X.A X.env X.xe) (tk : L2.Takes X Wout)
    (hb : ∀ (W : WX) (pn : List (Addr × Obj)) (xe : Value → Shared → Prop), L2N.Takes (X.tr pn xe) W → PassesOwn (model X.prog X.w) X.A X.env xe → PSs (X.tr pn xe) body (tb W))
    (hsu : ∀ (a : Addr) (oe : Obj) (cls : Value) (d : Option Addr) (pn : List (Addr × Obj)), L2N.Zn cls d oe → L2.Takes (suiteX X a ((a, oe) :: pn)) Wout → HotC (suiteX X a ((a, oe) :: pn)) → PSs (suiteX X a ((a, oe) :: pn)) (b₀ :: suite) (ts a cls d)) :
    PS X (.Try body [.ExceptHandler (some (.Tuple [.Name x1 p1, .Name x2 p2] kk tp)) none (b₀ :: suite) pos'] [] [] pos) (fun D σ H => tb (wTup X.K c1 c2 ts D) D σ H) := ⟨fun pins s σ H D I h => by
  have ok := I.ok
  have afr : X.A.frames = some (X.env :: X.outer) := by rw [ok.frames, stk]
  refine wpAny_Try_except (wpAny_mono ((hb (wTup X.K c1 c2 ts D) (X.pn ++ pins) (fun e s₁ => wpAny (model X.prog X.w) X.A (noteFrame e X.env) (fun _ s₂ => wpAny (model X.prog X.w) X.A (setFlight e none) (fun _ s₃ =>
    wpAny (model X.prog X.w) X.A (handleBy e X.env [.ExceptHandler (some (.Tuple [.Name x1 p1, .Name x2 p2] kk tp)) none (b₀ :: suite) pos']) (SP X pins D) X.xe s₃) X.xe s₂) X.xe s₁) ?_ PassesOwn.looking).run [] s σ H D (I.toTry _) h) (fun f s1 r => ?_) fun e s1 he => he)
  · rintro u s' ⟨a, B, sI, pins', σ', H', cls, d, rfl, J', nb, up, sky, na, os, ag, hit, go⟩
    have J : Inv X pins σ' H' sI := J'.ofTry ok
    rw [show (X.tr (X.pn ++ pins) _).stack = X.env :: X.outer from stk] at sky
    show wpAny (model X.prog X.w) X.A (noteFrame (.ref a) X.env) _ _ _
    refine L2N.Sky.land L2N.Zn.steady afr fr sky fun h3 fly up3 => ?_
    have J3 : Inv X pins σ' H' { s' with heap := h3 } := J.landed nb fly.1 (up.trans up3) os ag
    obtain ⟨o3, v3, e3, z3, d3⟩ := fly.there
    have apart : a ∉ frs (X.env :: X.outer) := fun hm => by
      obtain ⟨_, o', e', no⟩ := fly.2.2.1.mem hm
      rw [e3] at e'
      cases e'
      exact no _ d3
    have nL : a ≠ X.env.locals := fun z => apart (List.mem_filterMap.mpr ⟨X.env, List.mem_cons_self, by rw [fr, z]⟩)
    have nF : a ∉ X.fs := fun hm => by
      obtain ⟨e, he, q⟩ := List.mem_filterMap.mp hm
      exact apart (List.mem_filterMap.mpr ⟨e, List.mem_cons_of_mem _ he, q⟩)
    refine wpAny_handleBy_cons (codeAny_handlers_test (clause2 n1 n2 (J3.suite e3 d3 na nL nF) (fun A Q E s k q => wpAny_typeOf_ref (k _ _ e3) (by rw [z3.1]; exact q)) hit fun h4 k4 => ?_)) (by intro q; cases q)
    refine codeAny_handlers_suite (HandSPX.lands_againZ (fly_more k4 fly) fun h5 fly5 up5 => ?_)
    have J5 : Inv X pins σ' H' { s' with heap := h5 } := J.landed nb fly5.1 (((up.trans up3).trans (Heap.UpToSlots.of_keeps k4)).trans up5) os ag
    obtain ⟨o5, v5, e5, z5, d5⟩ := fly5.there
    refine wpAny_mono ((hsu a o5 cls d (X.pn ++ pins) z5 (fun u2 s2 y => ?_) ⟨(a, o5), ⟨rfl, v5, d5, z5.2.2 v5 d5⟩, List.mem_cons_self⟩).run [] _ _ H' _ (suiteX_of (J5.suite e5 d5 na nL nF)) (go a na)) (fun f s6 r => ?_) (fun e6 s6 z => back (some (.ref a)) e6 s6 z)
    · obtain ⟨a2, B2, sI2, pn2, σ2, H2, cls2, d2, y1, y2, y3⟩ := y
      exact tk u2 s2 ⟨a2, B2, sI2, pins, σ2, H2, cls2, d2, y1, unsuiteX y2 ok, y3⟩
    · cases f with
      | next => obtain ⟨σ6, H6, S6, q6⟩ := r; exact ⟨_, _, unsuiteX S6 ok, q6⟩
      | brk => obtain ⟨σ6, H6, S6, q6⟩ := r; exact ⟨_, _, unsuiteX S6 ok, q6⟩
      | cont => obtain ⟨σ6, H6, S6, q6⟩ := r; exact ⟨_, _, unsuiteX S6 ok, q6⟩
      | ret u => obtain ⟨v6, σ6, H6, S6, r6, q6⟩ := r; exact ⟨_, _, _, unsuiteX S6 ok, r6, q6⟩
  · cases f with
    | next => obtain ⟨σ', H', J', q⟩ := r; exact wpAny_execs_nil ⟨σ', H', J'.ofTry ok, q⟩
    | brk => obtain ⟨σ', H', J', q⟩ := r; exact ⟨σ', H', J'.ofTry ok, q⟩
    | cont => obtain ⟨σ', H', J', q⟩ := r; exact ⟨σ', H', J'.ofTry ok, q⟩
    | ret u => obtain ⟨v, σ', H', J', r', q⟩ := r; exact ⟨v, σ', H', J'.ofTry ok, r', q⟩⟩
end
end Dn
namespace Dn
open PySem PySem.Spec PyProof.Rows L2
/-! ### defs whose exceptions are known to have no context -/
theorem sky_zc {B h : Heap} {l : List Env} {a L : Addr} {cls : Value} {d : Option Addr} (x : Sky B l a (L2N.Zn cls d) L h) : Sky B l a (Zc cls d) L h := by
  rcases x with ⟨x1, x2, x3, oe, vs, x4, x5, x6, x7⟩ | ⟨x1, x2, x3, oe, vs, T, oT, ts, x4, x5, x6⟩ | ⟨x1, x2, x3, oe, vs, T, oT, ts, x4, x5, x6⟩
  · exact .inl ⟨x1, x2, x3, oe, vs, x4, x5.zc, x6, x7⟩
  · exact .inr (.inl ⟨x1, x2, x3, oe, vs, T, oT, ts, x4, x5.zc, x6⟩)
  · exact .inr (.inr ⟨x1, x2, x3, oe, vs, T, oT, ts, x4, x5.zc, x6⟩)
theorem toN {X : Cx} {W : WX} (t : L2.Takes X W) : L2N.Takes X W := fun u s' ⟨a, B, sI, pins, σ, H, cls, d, e, I, nb, up, sky, r⟩ => t u s' ⟨a, B, sI, pins, σ, H, cls, d, e, I, nb, up, sky_zc sky, r⟩
structure GdN (X : Cx) (w : Wh) (k : Nat) : Prop where
  calm : X.calm = true
  tn : L2N.Takes X w.W
  po : PassesOwn (model X.prog X.w) X.A X.env X.xe
  hr : Room k X.A
theorem GdN.u65 {X : Cx} {w : Wh} {k : Nat} (g : GdN X w k) : X.A.units + 65 < cLine := by have := g.hr.un; omega
theorem Gd.tn {X : Cx} {w : Wh} {k : Nat} (g : Gd X w k) : L2N.Takes X w.W := toN g.tk
theorem fn_denN {P : Program} {wd : World} {K : PySem.W.Frag} {mg : Str → Option Value} {base : Heap} {ca : String → Option Value} {x qual : Str} {params : Arguments} {body : List Stmt} {scope : Scope} {dvs : List V} {kws : List (Str × V)} {f : Addr} {fd : FuncData} {N ps : List Str} {k : Nat} {b : En → R Fl}
    (F : FunD K x qual params body scope dvs kws f fd) (S : FnScope N ps scope)
    (hb : ∀ (cdv : Value) (A : Around) (outer : List Env) (s : Shared) (H : Hp) (E : XK), GdN (cxOf (L2N.CX P wd) P wd K mg base N qual scope f cdv A outer s H E) (wh ca E) k →
      VSs (cxOf (L2N.CX P wd) P wd K mg base N qual scope f cdv A outer s H E) (wh ca E) body b) :
    FnOk P wd K mg base (L2N.CX P wd) (k + 1) f fd ps (spD K ca ps.length (dDef N.length b)) := by
  refine F.ok S (fun vs H Q E h => ?_) (fun cdv A outer s H vs Q E hr h => ?_)
  · obtain ⟨_, _, _, _, e, _⟩ := h; exact e
  · obtain ⟨G, ls, rel, no, hl, h⟩ := h
    refine ⟨_, hb cdv A outer s H E ⟨rfl, L2N.takes_of rfl rfl rfl rfl, passes_of rfl, hr⟩, ?_⟩
    obtain ⟨r0, o1, o2⟩ := rel.more (n := N.length)
    refine ⟨G, _, r0, ?_⟩
    unfold dDef at h
    show FnS K (wh ca E) G H (vs.map some ++ List.replicate (N.length - vs.length) none) (ls ++ List.replicate (N.length - ls.length) none) (b (ls ++ List.replicate (N.length - ls.length) none)) { nx := fun _ H' => Q .non H', rt := Q }
    cases q : b (ls ++ List.replicate (N.length - ls.length) none) with
    | no => rw [q] at h; exact h
    | ex c ρ' =>
      rw [q] at h
      intro G' H' σ' cls dx r' s' x'
      obtain ⟨r2, s2, _⟩ := rel.back no r' s'
      exact h G' H' cls dx r2 s2 x'
    | ok fl ρ' =>
      rw [q] at h
      cases fl with
      | nx =>
        intro G' H' σ' r' s'
        obtain ⟨r2, s2, _⟩ := rel.back no r' s'
        exact h G' H' .non r2 s2 .non
      | bk => exact h.elim
      | ct => exact h.elim
      | rt d =>
        intro G' H' σ' v r' s' hv
        obtain ⟨r2, s2, _⟩ := rel.back no r' s'
        exact h G' H' v r2 s2 hv
      | rl ds =>
        intro G' H' σ' p r' s' ho
        obtain ⟨r2, s2, o3⟩ := rel.back no r' s'
        refine h G' H' p r2 s2 ho.g (fun z => ho.own (o3 p z)) ho.here ?_
        rcases ho.new with z | ⟨i, l, v, e, lo, _⟩
        · exact z
        · by_cases hi : i < ls.length
          · rw [List.getElem?_append_left hi] at e
            have := no i l e
            rw [lo] at this; cases this
          · rw [List.getElem?_append_right (by omega), List.getElem?_replicate] at e
            split at e <;> cases e
section
variable {X : Cx} {w : Wh} {k n : Nat} {f : Addr} {fd : FuncData} {ps : List Str} {den : En → R L} {ca : String → Option Value} {x : Str} {p pos : Pos} {e : Expr} {es : List Expr} {ga : En → R (List AV)}
theorem ve_callN (F : FnOk X.prog X.w X.K X.mg X.base (L2N.CX X.prog X.w) k f fd ps (spD X.K ca n den)) (hr : Room k X.A) (tk : L2N.Takes X w.W) (hca : w.ca = ca) (hg : Gl X x) (hm : X.mg x = some (.ref f)) (hk : PySem.W.keepIn X.K (.ref f) = true) (hb : Binds X.K fd ps [])
    (ha : VA X w (e :: es) ga) (hdb : (x == ("__debug__" : Str)) = false := by decide) (he : starEach (e :: es) X.env = (false, eval e X.env) :: starEach es X.env := by rfl) (hpl : (backTo pos (starEach es X.env)).any (·.1) = false := by rfl) :
    VE X w (.Call (.Name x p) (e :: es) [] pos) (dFn n den ga) :=
  PE.imp (pe_callS F hr hg hm hk hb (L2N.passAt tk) ha hdb he hpl) fun σ H Q ⟨G, ρ, rel, h⟩ => ⟨G, ρ, rel, (Fn.bind rel h).imp fun G1 H1 ρ1 as ⟨r1, s1, h1⟩ vs hvs => by
    split at h1
    · rename_i hl
      cases q : lend as ρ1 with
      | none => rw [q] at h1; exact h1.elim
      | some ls =>
        rw [q] at h1
        have h1' : Fn X.K w G1 H1 σ ρ1 (match den ls with | .ok (.im d) ls' => R.ok d (giveB as ls' ρ1) | .ok (.ow ds) ls' => .ok (.list ds) (giveB as ls' ρ1) | .ok _ _ => .no | .ex c ls' => .ex c (giveB as ls' ρ1) | .no => .no) (QD X.K Q) := h1
        refine call_ok hca r1 hvs hl q (fun d ls' e => ?_) (fun ds ls' e => ?_) (fun c ls' e => ?_) (fun e => ?_) (fun l ls' e => ?_)
        · rw [e] at h1'; exact fun G' H' r' s' v hv => h1' G' H' r' s' v hv
        · rw [e] at h1'
          intro G' H' r' s' p hg ho ⟨us, hp, hd⟩ hn
          obtain ⟨r2, sg, hdr, hfr⟩ := r'.settle hg ho hp hd
          refine h1' _ H' r2 ⟨s'.g.trans sg, s'.h, fun a z => ?_, s'.ow, s'.tr, s'.ln, s'.bo, s'.bt⟩ _ hdr
          rcases hfr a z with y | rfl
          · exact s'.fr a y
          · exact .inr (.inl hn)
        · rw [e] at h1'; exact fun G' H' cls dx r' s' x' => h1' G' H' cls dx r' s' x'
        · rw [e] at h1'; exact h1'
        · rw [e] at h1'
          cases l <;> first | exact .inl ⟨_, rfl⟩ | exact .inr ⟨_, rfl⟩ | exact h1'.elim
    · exact h1.elim⟩
end
section
variable {X : Cx} {w : Wh} {x : Str} {p p2 pos np pos' : Pos} {C : Addr} {B newId initId : String} {bmB : List Value}
theorem vs_raiseN {nm : String} {m : Str} {j : Nat} (hc : X.calm = true) (tk : L2N.Takes X w.W) (hca : w.ca nm = some (.ref C)) (F : ExcBaseFacts B newId initId bmB) (q : PySem.W.excIn X.K C bmB newId = true) (gC : X.mg x = some (.ref C)) (kC : PySem.W.keepIn X.K (.ref C) = true) (r : Raises X (.ref C)) (hg : Gl X x)
    (hdb : (x == ("__debug__" : Str)) = false := by decide) : VS X w (.Raise (some (.Call (.Name x p) [.Constant (.str m) j p2] [] pos)) none pos') (dRaise nm) :=
  PS.imp (L2N.ps_raise hc tk (L2N.pmk_own F q gC kC r hg hdb)) fun Z σ H ⟨G, ρ, rel, h⟩ => by
    have h' : FnS X.K w G H σ ρ (.ex ⟨nm, none⟩ ρ) Z := h
    exact h' G H σ _ none rel Stp.refl ⟨hca, fun _ => .inl rfl, fun f d e => nomatch e⟩
end
end Dn
namespace Dn
open PySem PySem.Spec PyProof.Rows L2
/-! ### raise C(e) from None within an except suite -/
theorem init_okH {P : Program} {wd : World} {K : PySem.W.Frag} {mg : Str → Option Value} {base : Heap} {CX : CXT} {qual : Str} {params : Arguments} {scope : Scope} {fI C : Addr} {fd : FuncData} {r f : Str} {p1 p2 p3 p4 : Pos}
    (F : FunD K "__init__" qual params [.Assign [.Attribute (.Name "self" p1) f p2] (.Name r p3) p4] scope [] [] fI fd) (S : FnScope ["self", r] ["self", r] scope) (T : OexC K C) (hno : PySem.W.findIn K (.ref C) f = some none)
    (hv : ∀ X : Cx, X.env.scope = scope → Vis X.env.scope "self" ∧ Vis X.env.scope r) (hd : (r == ("__debug__" : Str)) = false) (hcd : (r == ("__classdict__" : Str)) = false) : L2H.FnH P wd K mg base CX 1 fI fd ["self", r] (spI C f) := by
  obtain ⟨oc, od, dV, kV, doc, pm, an, cdv, ct, osl, rfl, lk, hcode, _, _⟩ := F.ex
  refine L2H.fn_ofH lk hcode S (fun vs H Q E h => ?_) (fun A outer s H vs Q E p hot hr h => ?_)
  · obtain ⟨a, y, rfl, _⟩ := h; rfl
  · obtain ⟨v1, v2⟩ := hv (L2H.cxH CX P wd K mg base ["self", r] qual scope fI cdv A outer s H E p) rfl
    refine ⟨_, pss_one (ps_ost (pe_var (i := 0) rfl v1) (pe_var (i := 1) rfl v2 hd hcd)), ?_⟩
    obtain ⟨a, y, rfl, ea, q⟩ := h
    exact ⟨y, rfl, .ref a, rfl, a, C, rfl, T, hno, .inl ⟨ea, q⟩⟩
section
variable {X : Cx} {w : Wh} {x : Str} {p p2 pos np pos' : Pos}
theorem vs_raiseFH {j : Nat} {cpos : Pos} {nm : String} {f : Str} {C fI : Addr} {k : Nat} {fd : FuncData} {ps : List Str} {CX : CXT} {e : Expr} {fe : En → R D} (hc : L2H.HotC X) (tk : L2.Takes X w.W) (hca : w.ca nm = some (.ref C)) (T : OexC X.K C)
    (iC : PySem.W.findIn X.K (.ref C) "__init__" = some (some (.ref fI))) (tI : PySem.W.typeIn X.K (.ref fI) = some (.type "function")) (F1 : L2H.FnH X.prog X.w X.K X.mg X.base CX k fI fd ps (spI C f)) (hr : L2H.RoomH (k + 1) X.A) (hb : Binds X.K fd ps [])
    (hx : Passes CX X (fun _ _ _ => False)) (hg : Gl X x) (hm : X.mg x = some (.ref C)) (he : VE X w e fe) (hdb : (x == ("__debug__" : Str)) = false := by decide)
    (hs : starEach [e] X.env = (false, eval e X.env) :: starEach [] X.env := by rfl) (hpl : (backTo pos (starEach [] X.env)).any (·.1) = false := by rfl) : VS X w (.Raise (some (.Call (.Name x p) [e] [] pos)) (some (.Constant .none j cpos)) pos') (dRaiseF nm f fe) :=
  PS.imp (L2H.ps_raiseHN hc tk (L2H.pmk5_oexH T iC tI F1 hr hc hb hx hg hm (pa_cons he pa_nil hs) hdb hs hpl)) fun Z σ H ⟨G, ρ, rel, h⟩ => by
    refine ⟨G, ρ, rel, (FnS.bind rel h).imp fun G1 H1 ρ1 d ⟨r1, s1, h1⟩ v hv => ?_⟩
    refine ⟨by simp, fun a ha => ?_⟩
    refine ⟨a, v, rfl, upd_same, fun dx hdx hne => ⟨rfl, dx, [(f, v)], upd_same, ?_, ?_, ?_⟩⟩
    · rw [upd_ne hne, upd_same]
    · rwa [upd_ne hne] at hdx
    · have hdx1 : H1 dx = none := by rwa [upd_ne hne] at hdx
      have eH : upd (del (upd (upd (upd H1 a (exo a C none)) dx (exd dx [(f, v)])) a (exo a C (some dx))) a) dx (.xd [(f, v)]) = upd H1 dx (.xd [(f, v)]) := by
        funext b
        by_cases hb : b = dx
        · subst hb; rw [upd_same, upd_same]
        · rw [upd_ne hb, upd_ne hb]
          by_cases ha' : b = a
          · subst ha'; rw [del_same, ha]
          · rw [del_ne ha', upd_ne ha', upd_ne hb, upd_ne ha']
      rw [eH]
      obtain ⟨r2, s2⟩ := r1.laid (p := dx) (o := .xd [(f, v)]) hdx1
      have h2 : FnS X.K w G1 H1 σ ρ1 (.ex ⟨nm, some (f, d)⟩ ρ1) Z := h1
      exact h2 _ _ _ _ _ r2 s2 ⟨hca, (fun e => nomatch e), fun f' d' e => by cases e; exact ⟨dx, v, rfl, upd_same, hv.mono s2.g⟩⟩
end
def dTryR (b : En → R Fl) (cat : String → Option Bool) (s : En → R Fl) : En → R Fl := fun ρ => match b ρ with
  | .ex e ρ1 => match cat e.cls with
    | some true => s ρ1
    | _ => .no
  | r => r
section
variable {X : Cx} {w : Wh} {x1 x2 : Str} {c1 c2 : Value} {p1 p2 tp pos pos' : Pos} {kk : Nat} {b₀ : Stmt} {body suite : List Stmt} {fb fs : En → R Fl} {cat : String → Option Bool}
theorem vs_tryTup (hs : X.stack = X.env :: X.outer) (hf : X.env.frame = some X.env.locals) (n1 : Names X x1 c1) (n2 : Names X x2 c2) (back : ∀ hd : Option Value, PassesOwnAt (model X.prog X.w) (X.A.mark hd) X.A X.env X.xe) (tk : L2.Takes X w.W) (hcalm : X.calm = true) {k : Nat} (hr : Room k X.A)
    (hcat : ∀ e cls, cat e = some true → w.ca e = some cls → PySem.W.exmAny X.K cls [c1, c2] = some true)
    (hb : ∀ (W : WX) (pn : List (Addr × Obj)) (xe : Value → Shared → Prop), GdN (X.tr pn xe) ⟨w.ca, W⟩ k → VSs (X.tr pn xe) ⟨w.ca, W⟩ body fb)
    (hsu : ∀ (a : Addr) (oe : Obj) (pn : List (Addr × Obj)), L2.Takes (L2H.suiteX X a ((a, oe) :: pn)) w.W → L2H.HotC (L2H.suiteX X a ((a, oe) :: pn)) → VSs (L2H.suiteX X a ((a, oe) :: pn)) w (b₀ :: suite) fs) :
    VS X w (.Try body [.ExceptHandler (some (.Tuple [.Name x1 p1, .Name x2 p2] kk tp)) none (b₀ :: suite) pos'] [] [] pos) (dTryR fb cat fs) :=
  PS.imp (ps_try_tup (tb := fun W => tsS X.K ⟨w.ca, W⟩ fb) (ts := fun _ _ _ => tsS X.K w fs) hs hf n1 n2 back tk (fun W pn xe t po => hb W pn xe ⟨hcalm, t, po, hr⟩) (fun a oe cls d pn _ t h => hsu a oe pn t h)) fun Z σ H ⟨G, ρ, rel, h⟩ => by
    refine ⟨G, ρ, rel, ?_⟩
    unfold dTryR at h
    cases q : fb ρ with
    | no => rw [q] at h; exact h
    | ok f ρ1 => rw [q] at h; cases f <;> exact h
    | ex e ρ1 =>
      rw [q] at h
      have h2 : FnS X.K w G H σ ρ (match cat e.cls with | some true => fs ρ1 | _ => .no) Z := h
      intro G' H' σ' cls dx r' s' x'
      cases q2 : cat e.cls with
      | none => rw [q2] at h2; exact h2.elim
      | some b =>
        cases b with
        | false => rw [q2] at h2; exact h2.elim
        | true =>
          rw [q2] at h2
          exact ⟨hcat e.cls cls q2 x'.hc, fun a ha => ⟨G', ρ1, r', FnS.after rel r' s' h2⟩⟩
end
def catOr (f g : String → Option Bool) : String → Option Bool := fun s => match f s, g s with
  | some a, some b => some (a || b)
  | _, _ => none
theorem catOr_ok {K : PySem.W.Frag} {ca : String → Option Value} {c1 c2 : Value} {f g : String → Option Bool} (hf : ∀ e b cls, f e = some b → ca e = some cls → PySem.W.exmOne K cls c1 = some b) (hg : ∀ e b cls, g e = some b → ca e = some cls → PySem.W.exmOne K cls c2 = some b) :
    ∀ e cls, catOr f g e = some true → ca e = some cls → PySem.W.exmAny K cls [c1, c2] = some true := fun e cls h hc => by
  unfold catOr at h
  cases q1 : f e with
  | none => rw [q1] at h; cases h
  | some a =>
    cases q2 : g e with
    | none => rw [q1, q2] at h; cases h
    | some b =>
      rw [q1, q2] at h
      have h : (a || b) = true := Option.some.inj h
      simp only [PySem.W.exmAny, hf e a cls q1 hc, hg e b cls q2 hc, Bool.or_false, h]
theorem tryR_ok {b s : En → R Fl} {cat : String → Option Bool} {ρ ρ1 : En} {f : Fl} (h : b ρ = .ok f ρ1) : dTryR b cat s ρ = .ok f ρ1 := by
  unfold dTryR; rw [h]
theorem tryR_ex {b s : En → R Fl} {cat : String → Option Bool} {ρ ρ1 : En} {e : Exn} (h : b ρ = .ex e ρ1) (hc : cat e.cls = some true) : dTryR b cat s ρ = s ρ1 := by
  unfold dTryR; rw [h]
  show (match cat e.cls with | some true => s ρ1 | _ => .no) = _
  rw [hc]
end Dn
namespace Dn
open PySem PySem.Spec PyProof.Rows L2
/-! ### a new list out of two -/
def lsO : D → Option (List D)
  | .list l => some l
  | _ => none
def catO (x y : D) : Option (List D) := match lsO x, lsO y with
  | some a, some b => if a.length + b.length ≤ sizeLine then some (a ++ b) else none
  | _, _ => none
def nCat (fa fb : En → R D) : En → R (List D) := fun ρ => (fa ρ).bind fun x ρ1 => (fb ρ1).bind fun y ρ2 => lift (catO x y) ρ2
section
variable {X : Cx} {w : Wh} {a b : Expr} {fa fb : En → R D} {pos : Pos}
theorem vn_cat (ha : VE X w a fa) (hb : VE X w b fb) : VN X w (.BinOp a .Add b pos) (nCat fa fb) :=
  PE.imp (pe_op op_catR ha hb) fun σ H Q ⟨G, ρ, rel, h⟩ => ⟨G, ρ, rel, (Fn.bind rel h).imp fun G1 H1 ρ1 dx ⟨r1, s1, h1⟩ x hx => ⟨G1, ρ1, r1, (Fn.bind r1 h1).imp fun G2 H2 ρ2 dy ⟨r2, s2, h2⟩ y hy => by
    obtain ⟨ds, e, q⟩ := Fn.lift h2
    have hx2 := hx.mono s2.g
    unfold catO at e
    cases dx with
    | list la =>
      cases dy with
      | list lb =>
        obtain ⟨p, us, rfl, hp, hu⟩ := hx2.lst'
        obtain ⟨p2, us2, rfl, hp2, hu2⟩ := hy.lst'
        have e2 : (if la.length + lb.length ≤ sizeLine then some (la ++ lb) else none) = some ds := e
        split at e2
        · rename_i hz
          cases e2
          refine ⟨p, p2, us, us2, rfl, rfl, r2.sub.seq hp, r2.sub.seq hp2, by rw [hu.length, hu2.length]; exact hz, fun l hl => ?_⟩
          obtain ⟨r3, s3⟩ := r2.laidM (o := .lst (us ++ us2)) hl
          exact q _ _ r3 s3 l (NewL.of rel r2 (Stp.trans rel s1 s2) hl (hu.append hu2))
        · cases e2
      | _ => cases e
    | _ => cases e⟩⟩
end
@[simp] theorem nCat_eq (fa fb : En → R D) (ρ : En) : nCat fa fb ρ = (fa ρ).bind fun x ρ1 => (fb ρ1).bind fun y ρ2 => lift (catO x y) ρ2 := rfl
theorem catO_of {a b : List D} (h : a.length + b.length ≤ sizeLine) : catO (.list a) (.list b) = some (a ++ b) := if_pos h
end Dn
namespace Lw
open PySem PySem.Spec PyProof.Rows L2 Dn
def topS (i : Nat) : Stmt := PySem.Challenge.pw_twobytwo_k10_cells_as_texts.main.body.getD i (.Pass ⟨0, 0, 0, 0⟩)
def dd_is_whole : He.DefD := ⟨("is_whole", none), "is_whole", "is_whole", defArgs (topS 6), defBody (topS 6), defScope (topS 6), [], []⟩
def dd_divisor : He.DefD := ⟨("divisor", none), "divisor", "divisor", defArgs (topS 7), defBody (topS 7), defScope (topS 7), [], []⟩
def dd_is_number : He.DefD := ⟨("is_number", none), "is_number", "is_number", defArgs (topS 8), defBody (topS 8), defScope (topS 8), [], []⟩
def dd_show_number : He.DefD := ⟨("show_number", none), "show_number", "show_number", defArgs (topS 12), defBody (topS 12), defScope (topS 12), [], []⟩
def dd_count_of : He.DefD := ⟨("count_of", none), "count_of", "count_of", defArgs (topS 13), defBody (topS 13), defScope (topS 13), [], []⟩
def dd_top_of : He.DefD := ⟨("top_of", none), "top_of", "top_of", defArgs (topS 14), defBody (topS 14), defScope (topS 14), [], []⟩
def dd_read_number : He.DefD := ⟨("read_number", none), "read_number", "read_number", defArgs (topS 15), defBody (topS 15), defScope (topS 15), [], []⟩
def dd_is_told : He.DefD := ⟨("is_told", none), "is_told", "is_told", defArgs (topS 16), defBody (topS 16), defScope (topS 16), [], []⟩
def dd_is_leap : He.DefD := ⟨("is_leap", none), "is_leap", "is_leap", defArgs (topS 20), defBody (topS 20), defScope (topS 20), [], []⟩
def dd_length_of : He.DefD := ⟨("length_of", none), "length_of", "length_of", defArgs (topS 21), defBody (topS 21), defScope (topS 21), [], []⟩
def dd_ahead_of : He.DefD := ⟨("ahead_of", none), "ahead_of", "ahead_of", defArgs (topS 22), defBody (topS 22), defScope (topS 22), [], []⟩
def dd_is_day : He.DefD := ⟨("is_day", none), "is_day", "is_day", defArgs (topS 23), defBody (topS 23), defScope (topS 23), [], []⟩
def dd_is_told_day : He.DefD := ⟨("is_told_day", none), "is_told_day", "is_told_day", defArgs (topS 24), defBody (topS 24), defScope (topS 24), [], []⟩
def dd_day_of : He.DefD := ⟨("day_of", none), "day_of", "day_of", defArgs (topS 25), defBody (topS 25), defScope (topS 25), [], []⟩
def dd_parts_of : He.DefD := ⟨("parts_of", none), "parts_of", "parts_of", defArgs (topS 26), defBody (topS 26), defScope (topS 26), [], []⟩
def dd_show_day : He.DefD := ⟨("show_day", none), "show_day", "show_day", defArgs (topS 27), defBody (topS 27), defScope (topS 27), [], []⟩
def dd_read_day : He.DefD := ⟨("read_day", none), "read_day", "read_day", defArgs (topS 28), defBody (topS 28), defScope (topS 28), [], []⟩
def dd_is_word : He.DefD := ⟨("is_word", none), "is_word", "is_word", defArgs (topS 31), defBody (topS 31), defScope (topS 31), [], []⟩
def dd_is_cell : He.DefD := ⟨("is_cell", none), "is_cell", "is_cell", defArgs (topS 32), defBody (topS 32), defScope (topS 32), [], []⟩
def dd_show_cell : He.DefD := ⟨("show_cell", none), "show_cell", "show_cell", defArgs (topS 34), defBody (topS 34), defScope (topS 34), [], []⟩
def dd_cell_by : He.DefD := ⟨("cell_by", none), "cell_by", "cell_by", defArgs (topS 35), defBody (topS 35), defScope (topS 35), [], []⟩
def dd_read_cell : He.DefD := ⟨("read_cell", none), "read_cell", "read_cell", defArgs (topS 36), defBody (topS 36), defScope (topS 36), [], []⟩
def dd_law_draws : He.DefD := ⟨("_law_draws", none), "_law_draws", "_law_draws", defArgs (topS 38), defBody (topS 38), defScope (topS 38), [], []⟩
def dd_law_whole : He.DefD := ⟨("_law_whole", none), "_law_whole", "_law_whole", defArgs (topS 39), defBody (topS 39), defScope (topS 39), [], []⟩
def dd_law_divisor : He.DefD := ⟨("_law_divisor", none), "_law_divisor", "_law_divisor", defArgs (topS 40), defBody (topS 40), defScope (topS 40), [], []⟩
def dd_law_lengths : He.DefD := ⟨("_law_lengths", none), "_law_lengths", "_law_lengths", defArgs (topS 41), defBody (topS 41), defScope (topS 41), [], []⟩
def dd_law_number : He.DefD := ⟨("_law_number", none), "_law_number", "_law_number", defArgs (topS 42), defBody (topS 42), defScope (topS 42), [], []⟩
def dd_law_word : He.DefD := ⟨("_law_word", none), "_law_word", "_law_word", defArgs (topS 43), defBody (topS 43), defScope (topS 43), [], []⟩
def dd_law_day : He.DefD := ⟨("_law_day", none), "_law_day", "_law_day", defArgs (topS 44), defBody (topS 44), defScope (topS 44), [], []⟩
def dd_law_good : He.DefD := ⟨("_law_good", none), "_law_good", "_law_good", defArgs (topS 45), defBody (topS 45), defScope (topS 45), [], []⟩
def dd_law_figures : He.DefD := ⟨("_law_figures", none), "_law_figures", "_law_figures", defArgs (topS 46), defBody (topS 46), defScope (topS 46), [], []⟩
def dd_law_number_by : He.DefD := ⟨("_law_number_by", none), "_law_number_by", "_law_number_by", defArgs (topS 47), defBody (topS 47), defScope (topS 47), [], []⟩
def dd_law_day_by : He.DefD := ⟨("_law_day_by", none), "_law_day_by", "_law_day_by", defArgs (topS 48), defBody (topS 48), defScope (topS 48), [], []⟩
def dd_law_cell_by : He.DefD := ⟨("_law_cell_by", none), "_law_cell_by", "_law_cell_by", defArgs (topS 49), defBody (topS 49), defScope (topS 49), [], []⟩
def dd_law_made : He.DefD := ⟨("_law_made", none), "_law_made", "_law_made", defArgs (topS 50), defBody (topS 50), defScope (topS 50), [], []⟩
def dd_law_alike : He.DefD := ⟨("_law_alike", none), "_law_alike", "_law_alike", defArgs (topS 51), defBody (topS 51), defScope (topS 51), [], []⟩
def dd_law_refused : He.DefD := ⟨("_law_refused", none), "_law_refused", "_law_refused", defArgs (topS 52), defBody (topS 52), defScope (topS 52), [], []⟩
def dd_law : He.DefD := ⟨("law", none), "law", "law", defArgs (topS 53), defBody (topS 53), defScope (topS 53), [], []⟩
def methS (i j : Nat) : Stmt := match topS i with
  | .ClassDef _ _ _ b _ _ _ _ _ _ _ => b.getD j (.Pass ⟨0, 0, 0, 0⟩)
  | s => s
def dd_ini_NoTable : He.DefD := ⟨("NoTable", some "__init__"), "__init__", "NoTable.__init__", defArgs (methS 4 0), defBody (methS 4 0), defScope (methS 4 0), [], []⟩
def fnL : List He.DefD := [dd_is_whole, dd_divisor, dd_is_number, dd_show_number, dd_count_of, dd_top_of, dd_read_number, dd_is_told, dd_is_leap, dd_length_of, dd_ahead_of, dd_is_day, dd_is_told_day, dd_day_of, dd_parts_of, dd_show_day, dd_read_day, dd_is_word, dd_is_cell, dd_show_cell, dd_cell_by, dd_read_cell, dd_law_draws, dd_law_whole, dd_law_divisor, dd_law_lengths, dd_law_number, dd_law_word, dd_law_day, dd_law_good, dd_law_figures, dd_law_number_by, dd_law_day_by, dd_law_cell_by, dd_law_made, dd_law_alike, dd_law_refused, dd_law, dd_ini_NoTable]
def faL : List He.Fa := [.glo "is_whole", .glo "divisor", .glo "is_number", .glo "show_number", .glo "count_of", .glo "top_of", .glo "read_number", .glo "is_told", .glo "is_leap", .glo "length_of", .glo "ahead_of", .glo "is_day", .glo "is_told_day", .glo "day_of", .glo "parts_of", .glo "show_day", .glo "read_day", .glo "is_word", .glo "is_cell", .glo "show_cell", .glo "cell_by", .glo "read_cell", .glo "_law_draws", .glo "_law_whole", .glo "_law_divisor", .glo "_law_lengths", .glo "_law_number", .glo "_law_word", .glo "_law_day", .glo "_law_good", .glo "_law_figures", .glo "_law_number_by", .glo "_law_day_by", .glo "_law_cell_by", .glo "_law_made", .glo "_law_alike", .glo "_law_refused", .glo "law", .free "isinstance", .free "bool", .free "int", .free "abs", .free "len", .free "tuple", .free "str", .free "range", .free "all", .free "sum", .free "ValueError", .int "MOST" 60, .str "FIGURES_figures" "0123456789", .int "LAST" 3652058, .str "FIGURES_days" "0123456789", .str "LETTERS" "abcdefghijklmnopqrstuvwxyz", .glo "NoNumber", .exc "NoNumber", .glo "NoDay", .exc "NoDay", .glo "NoTable", .glo "MarkError", .exm "MarkError" "NoNumber" false, .exm "NoNumber" "NoNumber" true, .exm "NoDay" "NoNumber" false, .exm "NoTable" "NoNumber" false, .exm "MarkError" "NoDay" false, .exm "NoNumber" "NoDay" false, .exm "NoDay" "NoDay" true, .exm "NoTable" "NoDay" false, .exm "MarkError" "NoTable" false, .exm "NoNumber" "NoTable" false, .exm "NoDay" "NoTable" false, .exm "NoTable" "NoTable" true]
def exL : List (PySem.W.Frag → Bool) := [iniB "NoTable" "row", exiB "NoDay", exiB "NoNumber", exiB "NoTable", kitB "NoDay" none "ValueError" true, kitB "NoNumber" none "ValueError" true, kitB "NoTable" none "ValueError" true, kitB "NoDay" (some "NoDay") "" true, kitB "NoNumber" (some "NoDay") "" false, kitB "NoTable" (some "NoDay") "" false, kitB "NoDay" (some "NoNumber") "" false, kitB "NoNumber" (some "NoNumber") "" true, kitB "NoTable" (some "NoNumber") "" false, kitB "NoDay" (some "MarkError") "" true, kitB "NoNumber" (some "MarkError") "" true, kitB "NoTable" (some "MarkError") "" true]
structure Tx (K : PySem.W.Frag) (mg : Str → Option Value) : Prop where
  says : He.SaysD faL fnL K
  more : allB exL K = true
  glo : ∀ x, (He.Fa.glo x).ok K = true → mg x = some (.ref (He.ga K x))
  free : ∀ x, (He.Fa.free x).ok K = true → mg x = none
  str : ∀ x z, (He.Fa.str x z).ok K = true → ∃ t, mg x = some (.str z t)
  int : ∀ x z, (He.Fa.int x z).ok K = true → ∃ t, mg x = some (.int z t)
section
variable {K : PySem.W.Frag} {mg : Str → Option Value}
theorem x_is_whole (T : Tx K mg) : ∃ fd, FunD K "is_whole" "is_whole" (defArgs (topS 6)) (defBody (topS 6)) (defScope (topS 6)) [] [] (He.ga K "is_whole") fd := T.says.def_ 0 (d := dd_is_whole) rfl
noncomputable def fd_is_whole (T : Tx K mg) : FuncData := (x_is_whole T).choose
theorem F_is_whole (T : Tx K mg) : FunD K "is_whole" "is_whole" (defArgs (topS 6)) (defBody (topS 6)) (defScope (topS 6)) [] [] (He.ga K "is_whole") (fd_is_whole T) := (x_is_whole T).choose_spec
theorem g_is_whole (T : Tx K mg) : mg "is_whole" = some (.ref (He.ga K "is_whole")) := T.glo _ (T.says.fact 0 (f := .glo "is_whole") rfl)
theorem bi_is_whole (T : Tx K mg) : Binds K (fd_is_whole T) ["thing"] [] := (F_is_whole T).bindsN fun _ _ _ _ _ _ us hl => match us, hl with | [_], _ => rfl
theorem x_divisor (T : Tx K mg) : ∃ fd, FunD K "divisor" "divisor" (defArgs (topS 7)) (defBody (topS 7)) (defScope (topS 7)) [] [] (He.ga K "divisor") fd := T.says.def_ 1 (d := dd_divisor) rfl
noncomputable def fd_divisor (T : Tx K mg) : FuncData := (x_divisor T).choose
theorem F_divisor (T : Tx K mg) : FunD K "divisor" "divisor" (defArgs (topS 7)) (defBody (topS 7)) (defScope (topS 7)) [] [] (He.ga K "divisor") (fd_divisor T) := (x_divisor T).choose_spec
theorem g_divisor (T : Tx K mg) : mg "divisor" = some (.ref (He.ga K "divisor")) := T.glo _ (T.says.fact 1 (f := .glo "divisor") rfl)
theorem bi_divisor (T : Tx K mg) : Binds K (fd_divisor T) ["one", "other"] [] := (F_divisor T).bindsN fun _ _ _ _ _ _ us hl => match us, hl with | [_, _], _ => rfl
theorem x_is_number (T : Tx K mg) : ∃ fd, FunD K "is_number" "is_number" (defArgs (topS 8)) (defBody (topS 8)) (defScope (topS 8)) [] [] (He.ga K "is_number") fd := T.says.def_ 2 (d := dd_is_number) rfl
noncomputable def fd_is_number (T : Tx K mg) : FuncData := (x_is_number T).choose
theorem F_is_number (T : Tx K mg) : FunD K "is_number" "is_number" (defArgs (topS 8)) (defBody (topS 8)) (defScope (topS 8)) [] [] (He.ga K "is_number") (fd_is_number T) := (x_is_number T).choose_spec
theorem g_is_number (T : Tx K mg) : mg "is_number" = some (.ref (He.ga K "is_number")) := T.glo _ (T.says.fact 2 (f := .glo "is_number") rfl)
theorem bi_is_number (T : Tx K mg) : Binds K (fd_is_number T) ["thing"] [] := (F_is_number T).bindsN fun _ _ _ _ _ _ us hl => match us, hl with | [_], _ => rfl
theorem x_show_number (T : Tx K mg) : ∃ fd, FunD K "show_number" "show_number" (defArgs (topS 12)) (defBody (topS 12)) (defScope (topS 12)) [] [] (He.ga K "show_number") fd := T.says.def_ 3 (d := dd_show_number) rfl
noncomputable def fd_show_number (T : Tx K mg) : FuncData := (x_show_number T).choose
theorem F_show_number (T : Tx K mg) : FunD K "show_number" "show_number" (defArgs (topS 12)) (defBody (topS 12)) (defScope (topS 12)) [] [] (He.ga K "show_number") (fd_show_number T) := (x_show_number T).choose_spec
theorem g_show_number (T : Tx K mg) : mg "show_number" = some (.ref (He.ga K "show_number")) := T.glo _ (T.says.fact 3 (f := .glo "show_number") rfl)
theorem bi_show_number (T : Tx K mg) : Binds K (fd_show_number T) ["one"] [] := (F_show_number T).bindsN fun _ _ _ _ _ _ us hl => match us, hl with | [_], _ => rfl
theorem x_count_of (T : Tx K mg) : ∃ fd, FunD K "count_of" "count_of" (defArgs (topS 13)) (defBody (topS 13)) (defScope (topS 13)) [] [] (He.ga K "count_of") fd := T.says.def_ 4 (d := dd_count_of) rfl
noncomputable def fd_count_of (T : Tx K mg) : FuncData := (x_count_of T).choose
theorem F_count_of (T : Tx K mg) : FunD K "count_of" "count_of" (defArgs (topS 13)) (defBody (topS 13)) (defScope (topS 13)) [] [] (He.ga K "count_of") (fd_count_of T) := (x_count_of T).choose_spec
theorem g_count_of (T : Tx K mg) : mg "count_of" = some (.ref (He.ga K "count_of")) := T.glo _ (T.says.fact 4 (f := .glo "count_of") rfl)
theorem bi_count_of (T : Tx K mg) : Binds K (fd_count_of T) ["text"] [] := (F_count_of T).bindsN fun _ _ _ _ _ _ us hl => match us, hl with | [_], _ => rfl
theorem x_top_of (T : Tx K mg) : ∃ fd, FunD K "top_of" "top_of" (defArgs (topS 14)) (defBody (topS 14)) (defScope (topS 14)) [] [] (He.ga K "top_of") fd := T.says.def_ 5 (d := dd_top_of) rfl
noncomputable def fd_top_of (T : Tx K mg) : FuncData := (x_top_of T).choose
theorem F_top_of (T : Tx K mg) : FunD K "top_of" "top_of" (defArgs (topS 14)) (defBody (topS 14)) (defScope (topS 14)) [] [] (He.ga K "top_of") (fd_top_of T) := (x_top_of T).choose_spec
theorem g_top_of (T : Tx K mg) : mg "top_of" = some (.ref (He.ga K "top_of")) := T.glo _ (T.says.fact 5 (f := .glo "top_of") rfl)
theorem bi_top_of (T : Tx K mg) : Binds K (fd_top_of T) ["text"] [] := (F_top_of T).bindsN fun _ _ _ _ _ _ us hl => match us, hl with | [_], _ => rfl
theorem x_read_number (T : Tx K mg) : ∃ fd, FunD K "read_number" "read_number" (defArgs (topS 15)) (defBody (topS 15)) (defScope (topS 15)) [] [] (He.ga K "read_number") fd := T.says.def_ 6 (d := dd_read_number) rfl
noncomputable def fd_read_number (T : Tx K mg) : FuncData := (x_read_number T).choose
theorem F_read_number (T : Tx K mg) : FunD K "read_number" "read_number" (defArgs (topS 15)) (defBody (topS 15)) (defScope (topS 15)) [] [] (He.ga K "read_number") (fd_read_number T) := (x_read_number T).choose_spec
theorem g_read_number (T : Tx K mg) : mg "read_number" = some (.ref (He.ga K "read_number")) := T.glo _ (T.says.fact 6 (f := .glo "read_number") rfl)
theorem bi_read_number (T : Tx K mg) : Binds K (fd_read_number T) ["text"] [] := (F_read_number T).bindsN fun _ _ _ _ _ _ us hl => match us, hl with | [_], _ => rfl
theorem x_is_told (T : Tx K mg) : ∃ fd, FunD K "is_told" "is_told" (defArgs (topS 16)) (defBody (topS 16)) (defScope (topS 16)) [] [] (He.ga K "is_told") fd := T.says.def_ 7 (d := dd_is_told) rfl
noncomputable def fd_is_told (T : Tx K mg) : FuncData := (x_is_told T).choose
theorem F_is_told (T : Tx K mg) : FunD K "is_told" "is_told" (defArgs (topS 16)) (defBody (topS 16)) (defScope (topS 16)) [] [] (He.ga K "is_told") (fd_is_told T) := (x_is_told T).choose_spec
theorem g_is_told (T : Tx K mg) : mg "is_told" = some (.ref (He.ga K "is_told")) := T.glo _ (T.says.fact 7 (f := .glo "is_told") rfl)
theorem bi_is_told (T : Tx K mg) : Binds K (fd_is_told T) ["thing"] [] := (F_is_told T).bindsN fun _ _ _ _ _ _ us hl => match us, hl with | [_], _ => rfl
theorem x_is_leap (T : Tx K mg) : ∃ fd, FunD K "is_leap" "is_leap" (defArgs (topS 20)) (defBody (topS 20)) (defScope (topS 20)) [] [] (He.ga K "is_leap") fd := T.says.def_ 8 (d := dd_is_leap) rfl
noncomputable def fd_is_leap (T : Tx K mg) : FuncData := (x_is_leap T).choose
theorem F_is_leap (T : Tx K mg) : FunD K "is_leap" "is_leap" (defArgs (topS 20)) (defBody (topS 20)) (defScope (topS 20)) [] [] (He.ga K "is_leap") (fd_is_leap T) := (x_is_leap T).choose_spec
theorem g_is_leap (T : Tx K mg) : mg "is_leap" = some (.ref (He.ga K "is_leap")) := T.glo _ (T.says.fact 8 (f := .glo "is_leap") rfl)
theorem bi_is_leap (T : Tx K mg) : Binds K (fd_is_leap T) ["year"] [] := (F_is_leap T).bindsN fun _ _ _ _ _ _ us hl => match us, hl with | [_], _ => rfl
theorem x_length_of (T : Tx K mg) : ∃ fd, FunD K "length_of" "length_of" (defArgs (topS 21)) (defBody (topS 21)) (defScope (topS 21)) [] [] (He.ga K "length_of") fd := T.says.def_ 9 (d := dd_length_of) rfl
noncomputable def fd_length_of (T : Tx K mg) : FuncData := (x_length_of T).choose
theorem F_length_of (T : Tx K mg) : FunD K "length_of" "length_of" (defArgs (topS 21)) (defBody (topS 21)) (defScope (topS 21)) [] [] (He.ga K "length_of") (fd_length_of T) := (x_length_of T).choose_spec
theorem g_length_of (T : Tx K mg) : mg "length_of" = some (.ref (He.ga K "length_of")) := T.glo _ (T.says.fact 9 (f := .glo "length_of") rfl)
theorem bi_length_of (T : Tx K mg) : Binds K (fd_length_of T) ["year", "month"] [] := (F_length_of T).bindsN fun _ _ _ _ _ _ us hl => match us, hl with | [_, _], _ => rfl
theorem x_ahead_of (T : Tx K mg) : ∃ fd, FunD K "ahead_of" "ahead_of" (defArgs (topS 22)) (defBody (topS 22)) (defScope (topS 22)) [] [] (He.ga K "ahead_of") fd := T.says.def_ 10 (d := dd_ahead_of) rfl
noncomputable def fd_ahead_of (T : Tx K mg) : FuncData := (x_ahead_of T).choose
theorem F_ahead_of (T : Tx K mg) : FunD K "ahead_of" "ahead_of" (defArgs (topS 22)) (defBody (topS 22)) (defScope (topS 22)) [] [] (He.ga K "ahead_of") (fd_ahead_of T) := (x_ahead_of T).choose_spec
theorem g_ahead_of (T : Tx K mg) : mg "ahead_of" = some (.ref (He.ga K "ahead_of")) := T.glo _ (T.says.fact 10 (f := .glo "ahead_of") rfl)
theorem bi_ahead_of (T : Tx K mg) : Binds K (fd_ahead_of T) ["year"] [] := (F_ahead_of T).bindsN fun _ _ _ _ _ _ us hl => match us, hl with | [_], _ => rfl
theorem x_is_day (T : Tx K mg) : ∃ fd, FunD K "is_day" "is_day" (defArgs (topS 23)) (defBody (topS 23)) (defScope (topS 23)) [] [] (He.ga K "is_day") fd := T.says.def_ 11 (d := dd_is_day) rfl
noncomputable def fd_is_day (T : Tx K mg) : FuncData := (x_is_day T).choose
theorem F_is_day (T : Tx K mg) : FunD K "is_day" "is_day" (defArgs (topS 23)) (defBody (topS 23)) (defScope (topS 23)) [] [] (He.ga K "is_day") (fd_is_day T) := (x_is_day T).choose_spec
theorem g_is_day (T : Tx K mg) : mg "is_day" = some (.ref (He.ga K "is_day")) := T.glo _ (T.says.fact 11 (f := .glo "is_day") rfl)
theorem bi_is_day (T : Tx K mg) : Binds K (fd_is_day T) ["thing"] [] := (F_is_day T).bindsN fun _ _ _ _ _ _ us hl => match us, hl with | [_], _ => rfl
theorem x_is_told_day (T : Tx K mg) : ∃ fd, FunD K "is_told_day" "is_told_day" (defArgs (topS 24)) (defBody (topS 24)) (defScope (topS 24)) [] [] (He.ga K "is_told_day") fd := T.says.def_ 12 (d := dd_is_told_day) rfl
noncomputable def fd_is_told_day (T : Tx K mg) : FuncData := (x_is_told_day T).choose
theorem F_is_told_day (T : Tx K mg) : FunD K "is_told_day" "is_told_day" (defArgs (topS 24)) (defBody (topS 24)) (defScope (topS 24)) [] [] (He.ga K "is_told_day") (fd_is_told_day T) := (x_is_told_day T).choose_spec
theorem g_is_told_day (T : Tx K mg) : mg "is_told_day" = some (.ref (He.ga K "is_told_day")) := T.glo _ (T.says.fact 12 (f := .glo "is_told_day") rfl)
theorem bi_is_told_day (T : Tx K mg) : Binds K (fd_is_told_day T) ["thing"] [] := (F_is_told_day T).bindsN fun _ _ _ _ _ _ us hl => match us, hl with | [_], _ => rfl
theorem x_day_of (T : Tx K mg) : ∃ fd, FunD K "day_of" "day_of" (defArgs (topS 25)) (defBody (topS 25)) (defScope (topS 25)) [] [] (He.ga K "day_of") fd := T.says.def_ 13 (d := dd_day_of) rfl
noncomputable def fd_day_of (T : Tx K mg) : FuncData := (x_day_of T).choose
theorem F_day_of (T : Tx K mg) : FunD K "day_of" "day_of" (defArgs (topS 25)) (defBody (topS 25)) (defScope (topS 25)) [] [] (He.ga K "day_of") (fd_day_of T) := (x_day_of T).choose_spec
theorem g_day_of (T : Tx K mg) : mg "day_of" = some (.ref (He.ga K "day_of")) := T.glo _ (T.says.fact 13 (f := .glo "day_of") rfl)
theorem bi_day_of (T : Tx K mg) : Binds K (fd_day_of T) ["year", "month", "day"] [] := (F_day_of T).bindsN fun _ _ _ _ _ _ us hl => match us, hl with | [_, _, _], _ => rfl
theorem x_parts_of (T : Tx K mg) : ∃ fd, FunD K "parts_of" "parts_of" (defArgs (topS 26)) (defBody (topS 26)) (defScope (topS 26)) [] [] (He.ga K "parts_of") fd := T.says.def_ 14 (d := dd_parts_of) rfl
noncomputable def fd_parts_of (T : Tx K mg) : FuncData := (x_parts_of T).choose
theorem F_parts_of (T : Tx K mg) : FunD K "parts_of" "parts_of" (defArgs (topS 26)) (defBody (topS 26)) (defScope (topS 26)) [] [] (He.ga K "parts_of") (fd_parts_of T) := (x_parts_of T).choose_spec
theorem g_parts_of (T : Tx K mg) : mg "parts_of" = some (.ref (He.ga K "parts_of")) := T.glo _ (T.says.fact 14 (f := .glo "parts_of") rfl)
theorem bi_parts_of (T : Tx K mg) : Binds K (fd_parts_of T) ["day"] [] := (F_parts_of T).bindsN fun _ _ _ _ _ _ us hl => match us, hl with | [_], _ => rfl
theorem x_show_day (T : Tx K mg) : ∃ fd, FunD K "show_day" "show_day" (defArgs (topS 27)) (defBody (topS 27)) (defScope (topS 27)) [] [] (He.ga K "show_day") fd := T.says.def_ 15 (d := dd_show_day) rfl
noncomputable def fd_show_day (T : Tx K mg) : FuncData := (x_show_day T).choose
theorem F_show_day (T : Tx K mg) : FunD K "show_day" "show_day" (defArgs (topS 27)) (defBody (topS 27)) (defScope (topS 27)) [] [] (He.ga K "show_day") (fd_show_day T) := (x_show_day T).choose_spec
theorem g_show_day (T : Tx K mg) : mg "show_day" = some (.ref (He.ga K "show_day")) := T.glo _ (T.says.fact 15 (f := .glo "show_day") rfl)
theorem bi_show_day (T : Tx K mg) : Binds K (fd_show_day T) ["day"] [] := (F_show_day T).bindsN fun _ _ _ _ _ _ us hl => match us, hl with | [_], _ => rfl
theorem x_read_day (T : Tx K mg) : ∃ fd, FunD K "read_day" "read_day" (defArgs (topS 28)) (defBody (topS 28)) (defScope (topS 28)) [] [] (He.ga K "read_day") fd := T.says.def_ 16 (d := dd_read_day) rfl
noncomputable def fd_read_day (T : Tx K mg) : FuncData := (x_read_day T).choose
theorem F_read_day (T : Tx K mg) : FunD K "read_day" "read_day" (defArgs (topS 28)) (defBody (topS 28)) (defScope (topS 28)) [] [] (He.ga K "read_day") (fd_read_day T) := (x_read_day T).choose_spec
theorem g_read_day (T : Tx K mg) : mg "read_day" = some (.ref (He.ga K "read_day")) := T.glo _ (T.says.fact 16 (f := .glo "read_day") rfl)
theorem bi_read_day (T : Tx K mg) : Binds K (fd_read_day T) ["text"] [] := (F_read_day T).bindsN fun _ _ _ _ _ _ us hl => match us, hl with | [_], _ => rfl
theorem x_is_word (T : Tx K mg) : ∃ fd, FunD K "is_word" "is_word" (defArgs (topS 31)) (defBody (topS 31)) (defScope (topS 31)) [] [] (He.ga K "is_word") fd := T.says.def_ 17 (d := dd_is_word) rfl
noncomputable def fd_is_word (T : Tx K mg) : FuncData := (x_is_word T).choose
theorem F_is_word (T : Tx K mg) : FunD K "is_word" "is_word" (defArgs (topS 31)) (defBody (topS 31)) (defScope (topS 31)) [] [] (He.ga K "is_word") (fd_is_word T) := (x_is_word T).choose_spec
theorem g_is_word (T : Tx K mg) : mg "is_word" = some (.ref (He.ga K "is_word")) := T.glo _ (T.says.fact 17 (f := .glo "is_word") rfl)
theorem bi_is_word (T : Tx K mg) : Binds K (fd_is_word T) ["thing"] [] := (F_is_word T).bindsN fun _ _ _ _ _ _ us hl => match us, hl with | [_], _ => rfl
theorem x_is_cell (T : Tx K mg) : ∃ fd, FunD K "is_cell" "is_cell" (defArgs (topS 32)) (defBody (topS 32)) (defScope (topS 32)) [] [] (He.ga K "is_cell") fd := T.says.def_ 18 (d := dd_is_cell) rfl
noncomputable def fd_is_cell (T : Tx K mg) : FuncData := (x_is_cell T).choose
theorem F_is_cell (T : Tx K mg) : FunD K "is_cell" "is_cell" (defArgs (topS 32)) (defBody (topS 32)) (defScope (topS 32)) [] [] (He.ga K "is_cell") (fd_is_cell T) := (x_is_cell T).choose_spec
theorem g_is_cell (T : Tx K mg) : mg "is_cell" = some (.ref (He.ga K "is_cell")) := T.glo _ (T.says.fact 18 (f := .glo "is_cell") rfl)
theorem bi_is_cell (T : Tx K mg) : Binds K (fd_is_cell T) ["kind", "thing"] [] := (F_is_cell T).bindsN fun _ _ _ _ _ _ us hl => match us, hl with | [_, _], _ => rfl
theorem x_show_cell (T : Tx K mg) : ∃ fd, FunD K "show_cell" "show_cell" (defArgs (topS 34)) (defBody (topS 34)) (defScope (topS 34)) [] [] (He.ga K "show_cell") fd := T.says.def_ 19 (d := dd_show_cell) rfl
noncomputable def fd_show_cell (T : Tx K mg) : FuncData := (x_show_cell T).choose
theorem F_show_cell (T : Tx K mg) : FunD K "show_cell" "show_cell" (defArgs (topS 34)) (defBody (topS 34)) (defScope (topS 34)) [] [] (He.ga K "show_cell") (fd_show_cell T) := (x_show_cell T).choose_spec
theorem g_show_cell (T : Tx K mg) : mg "show_cell" = some (.ref (He.ga K "show_cell")) := T.glo _ (T.says.fact 19 (f := .glo "show_cell") rfl)
theorem bi_show_cell (T : Tx K mg) : Binds K (fd_show_cell T) ["kind", "cell"] [] := (F_show_cell T).bindsN fun _ _ _ _ _ _ us hl => match us, hl with | [_, _], _ => rfl
theorem x_cell_by (T : Tx K mg) : ∃ fd, FunD K "cell_by" "cell_by" (defArgs (topS 35)) (defBody (topS 35)) (defScope (topS 35)) [] [] (He.ga K "cell_by") fd := T.says.def_ 20 (d := dd_cell_by) rfl
noncomputable def fd_cell_by (T : Tx K mg) : FuncData := (x_cell_by T).choose
theorem F_cell_by (T : Tx K mg) : FunD K "cell_by" "cell_by" (defArgs (topS 35)) (defBody (topS 35)) (defScope (topS 35)) [] [] (He.ga K "cell_by") (fd_cell_by T) := (x_cell_by T).choose_spec
theorem g_cell_by (T : Tx K mg) : mg "cell_by" = some (.ref (He.ga K "cell_by")) := T.glo _ (T.says.fact 20 (f := .glo "cell_by") rfl)
theorem bi_cell_by (T : Tx K mg) : Binds K (fd_cell_by T) ["kind", "text"] [] := (F_cell_by T).bindsN fun _ _ _ _ _ _ us hl => match us, hl with | [_, _], _ => rfl
theorem x_read_cell (T : Tx K mg) : ∃ fd, FunD K "read_cell" "read_cell" (defArgs (topS 36)) (defBody (topS 36)) (defScope (topS 36)) [] [] (He.ga K "read_cell") fd := T.says.def_ 21 (d := dd_read_cell) rfl
noncomputable def fd_read_cell (T : Tx K mg) : FuncData := (x_read_cell T).choose
theorem F_read_cell (T : Tx K mg) : FunD K "read_cell" "read_cell" (defArgs (topS 36)) (defBody (topS 36)) (defScope (topS 36)) [] [] (He.ga K "read_cell") (fd_read_cell T) := (x_read_cell T).choose_spec
theorem g_read_cell (T : Tx K mg) : mg "read_cell" = some (.ref (He.ga K "read_cell")) := T.glo _ (T.says.fact 21 (f := .glo "read_cell") rfl)
theorem bi_read_cell (T : Tx K mg) : Binds K (fd_read_cell T) ["kind", "text"] [] := (F_read_cell T).bindsN fun _ _ _ _ _ _ us hl => match us, hl with | [_, _], _ => rfl
theorem x_law_draws (T : Tx K mg) : ∃ fd, FunD K "_law_draws" "_law_draws" (defArgs (topS 38)) (defBody (topS 38)) (defScope (topS 38)) [] [] (He.ga K "_law_draws") fd := T.says.def_ 22 (d := dd_law_draws) rfl
noncomputable def fd_law_draws (T : Tx K mg) : FuncData := (x_law_draws T).choose
theorem F_law_draws (T : Tx K mg) : FunD K "_law_draws" "_law_draws" (defArgs (topS 38)) (defBody (topS 38)) (defScope (topS 38)) [] [] (He.ga K "_law_draws") (fd_law_draws T) := (x_law_draws T).choose_spec
theorem g_law_draws (T : Tx K mg) : mg "_law_draws" = some (.ref (He.ga K "_law_draws")) := T.glo _ (T.says.fact 22 (f := .glo "_law_draws") rfl)
theorem bi_law_draws (T : Tx K mg) : Binds K (fd_law_draws T) ["cell", "tops"] [] := (F_law_draws T).bindsN fun _ _ _ _ _ _ us hl => match us, hl with | [_, _], _ => rfl
theorem x_law_whole (T : Tx K mg) : ∃ fd, FunD K "_law_whole" "_law_whole" (defArgs (topS 39)) (defBody (topS 39)) (defScope (topS 39)) [] [] (He.ga K "_law_whole") fd := T.says.def_ 23 (d := dd_law_whole) rfl
noncomputable def fd_law_whole (T : Tx K mg) : FuncData := (x_law_whole T).choose
theorem F_law_whole (T : Tx K mg) : FunD K "_law_whole" "_law_whole" (defArgs (topS 39)) (defBody (topS 39)) (defScope (topS 39)) [] [] (He.ga K "_law_whole") (fd_law_whole T) := (x_law_whole T).choose_spec
theorem g_law_whole (T : Tx K mg) : mg "_law_whole" = some (.ref (He.ga K "_law_whole")) := T.glo _ (T.says.fact 23 (f := .glo "_law_whole") rfl)
theorem bi_law_whole (T : Tx K mg) : Binds K (fd_law_whole T) ["found"] [] := (F_law_whole T).bindsN fun _ _ _ _ _ _ us hl => match us, hl with | [_], _ => rfl
theorem x_law_divisor (T : Tx K mg) : ∃ fd, FunD K "_law_divisor" "_law_divisor" (defArgs (topS 40)) (defBody (topS 40)) (defScope (topS 40)) [] [] (He.ga K "_law_divisor") fd := T.says.def_ 24 (d := dd_law_divisor) rfl
noncomputable def fd_law_divisor (T : Tx K mg) : FuncData := (x_law_divisor T).choose
theorem F_law_divisor (T : Tx K mg) : FunD K "_law_divisor" "_law_divisor" (defArgs (topS 40)) (defBody (topS 40)) (defScope (topS 40)) [] [] (He.ga K "_law_divisor") (fd_law_divisor T) := (x_law_divisor T).choose_spec
theorem g_law_divisor (T : Tx K mg) : mg "_law_divisor" = some (.ref (He.ga K "_law_divisor")) := T.glo _ (T.says.fact 24 (f := .glo "_law_divisor") rfl)
theorem bi_law_divisor (T : Tx K mg) : Binds K (fd_law_divisor T) ["one", "other"] [] := (F_law_divisor T).bindsN fun _ _ _ _ _ _ us hl => match us, hl with | [_, _], _ => rfl
theorem x_law_lengths (T : Tx K mg) : ∃ fd, FunD K "_law_lengths" "_law_lengths" (defArgs (topS 41)) (defBody (topS 41)) (defScope (topS 41)) [] [] (He.ga K "_law_lengths") fd := T.says.def_ 25 (d := dd_law_lengths) rfl
noncomputable def fd_law_lengths (T : Tx K mg) : FuncData := (x_law_lengths T).choose
theorem F_law_lengths (T : Tx K mg) : FunD K "_law_lengths" "_law_lengths" (defArgs (topS 41)) (defBody (topS 41)) (defScope (topS 41)) [] [] (He.ga K "_law_lengths") (fd_law_lengths T) := (x_law_lengths T).choose_spec
theorem g_law_lengths (T : Tx K mg) : mg "_law_lengths" = some (.ref (He.ga K "_law_lengths")) := T.glo _ (T.says.fact 25 (f := .glo "_law_lengths") rfl)
theorem bi_law_lengths (T : Tx K mg) : Binds K (fd_law_lengths T) ["year"] [] := (F_law_lengths T).bindsN fun _ _ _ _ _ _ us hl => match us, hl with | [_], _ => rfl
theorem x_law_number (T : Tx K mg) : ∃ fd, FunD K "_law_number" "_law_number" (defArgs (topS 42)) (defBody (topS 42)) (defScope (topS 42)) [] [] (He.ga K "_law_number") fd := T.says.def_ 26 (d := dd_law_number) rfl
noncomputable def fd_law_number (T : Tx K mg) : FuncData := (x_law_number T).choose
theorem F_law_number (T : Tx K mg) : FunD K "_law_number" "_law_number" (defArgs (topS 42)) (defBody (topS 42)) (defScope (topS 42)) [] [] (He.ga K "_law_number") (fd_law_number T) := (x_law_number T).choose_spec
theorem g_law_number (T : Tx K mg) : mg "_law_number" = some (.ref (He.ga K "_law_number")) := T.glo _ (T.says.fact 26 (f := .glo "_law_number") rfl)
theorem bi_law_number (T : Tx K mg) : Binds K (fd_law_number T) ["d"] [] := (F_law_number T).bindsN fun _ _ _ _ _ _ us hl => match us, hl with | [_], _ => rfl
theorem x_law_word (T : Tx K mg) : ∃ fd, FunD K "_law_word" "_law_word" (defArgs (topS 43)) (defBody (topS 43)) (defScope (topS 43)) [] [] (He.ga K "_law_word") fd := T.says.def_ 27 (d := dd_law_word) rfl
noncomputable def fd_law_word (T : Tx K mg) : FuncData := (x_law_word T).choose
theorem F_law_word (T : Tx K mg) : FunD K "_law_word" "_law_word" (defArgs (topS 43)) (defBody (topS 43)) (defScope (topS 43)) [] [] (He.ga K "_law_word") (fd_law_word T) := (x_law_word T).choose_spec
theorem g_law_word (T : Tx K mg) : mg "_law_word" = some (.ref (He.ga K "_law_word")) := T.glo _ (T.says.fact 27 (f := .glo "_law_word") rfl)
theorem bi_law_word (T : Tx K mg) : Binds K (fd_law_word T) ["d"] [] := (F_law_word T).bindsN fun _ _ _ _ _ _ us hl => match us, hl with | [_], _ => rfl
theorem x_law_day (T : Tx K mg) : ∃ fd, FunD K "_law_day" "_law_day" (defArgs (topS 44)) (defBody (topS 44)) (defScope (topS 44)) [] [] (He.ga K "_law_day") fd := T.says.def_ 28 (d := dd_law_day) rfl
noncomputable def fd_law_day (T : Tx K mg) : FuncData := (x_law_day T).choose
theorem F_law_day (T : Tx K mg) : FunD K "_law_day" "_law_day" (defArgs (topS 44)) (defBody (topS 44)) (defScope (topS 44)) [] [] (He.ga K "_law_day") (fd_law_day T) := (x_law_day T).choose_spec
theorem g_law_day (T : Tx K mg) : mg "_law_day" = some (.ref (He.ga K "_law_day")) := T.glo _ (T.says.fact 28 (f := .glo "_law_day") rfl)
theorem bi_law_day (T : Tx K mg) : Binds K (fd_law_day T) ["d"] [] := (F_law_day T).bindsN fun _ _ _ _ _ _ us hl => match us, hl with | [_], _ => rfl
theorem x_law_good (T : Tx K mg) : ∃ fd, FunD K "_law_good" "_law_good" (defArgs (topS 45)) (defBody (topS 45)) (defScope (topS 45)) [] [] (He.ga K "_law_good") fd := T.says.def_ 29 (d := dd_law_good) rfl
noncomputable def fd_law_good (T : Tx K mg) : FuncData := (x_law_good T).choose
theorem F_law_good (T : Tx K mg) : FunD K "_law_good" "_law_good" (defArgs (topS 45)) (defBody (topS 45)) (defScope (topS 45)) [] [] (He.ga K "_law_good") (fd_law_good T) := (x_law_good T).choose_spec
theorem g_law_good (T : Tx K mg) : mg "_law_good" = some (.ref (He.ga K "_law_good")) := T.glo _ (T.says.fact 29 (f := .glo "_law_good") rfl)
theorem bi_law_good (T : Tx K mg) : Binds K (fd_law_good T) ["d"] [] := (F_law_good T).bindsN fun _ _ _ _ _ _ us hl => match us, hl with | [_], _ => rfl
theorem x_law_figures (T : Tx K mg) : ∃ fd, FunD K "_law_figures" "_law_figures" (defArgs (topS 46)) (defBody (topS 46)) (defScope (topS 46)) [] [] (He.ga K "_law_figures") fd := T.says.def_ 30 (d := dd_law_figures) rfl
noncomputable def fd_law_figures (T : Tx K mg) : FuncData := (x_law_figures T).choose
theorem F_law_figures (T : Tx K mg) : FunD K "_law_figures" "_law_figures" (defArgs (topS 46)) (defBody (topS 46)) (defScope (topS 46)) [] [] (He.ga K "_law_figures") (fd_law_figures T) := (x_law_figures T).choose_spec
theorem g_law_figures (T : Tx K mg) : mg "_law_figures" = some (.ref (He.ga K "_law_figures")) := T.glo _ (T.says.fact 30 (f := .glo "_law_figures") rfl)
theorem bi_law_figures (T : Tx K mg) : Binds K (fd_law_figures T) ["text"] [] := (F_law_figures T).bindsN fun _ _ _ _ _ _ us hl => match us, hl with | [_], _ => rfl
theorem x_law_number_by (T : Tx K mg) : ∃ fd, FunD K "_law_number_by" "_law_number_by" (defArgs (topS 47)) (defBody (topS 47)) (defScope (topS 47)) [] [] (He.ga K "_law_number_by") fd := T.says.def_ 31 (d := dd_law_number_by) rfl
noncomputable def fd_law_number_by (T : Tx K mg) : FuncData := (x_law_number_by T).choose
theorem F_law_number_by (T : Tx K mg) : FunD K "_law_number_by" "_law_number_by" (defArgs (topS 47)) (defBody (topS 47)) (defScope (topS 47)) [] [] (He.ga K "_law_number_by") (fd_law_number_by T) := (x_law_number_by T).choose_spec
theorem g_law_number_by (T : Tx K mg) : mg "_law_number_by" = some (.ref (He.ga K "_law_number_by")) := T.glo _ (T.says.fact 31 (f := .glo "_law_number_by") rfl)
theorem bi_law_number_by (T : Tx K mg) : Binds K (fd_law_number_by T) ["text"] [] := (F_law_number_by T).bindsN fun _ _ _ _ _ _ us hl => match us, hl with | [_], _ => rfl
theorem x_law_day_by (T : Tx K mg) : ∃ fd, FunD K "_law_day_by" "_law_day_by" (defArgs (topS 48)) (defBody (topS 48)) (defScope (topS 48)) [] [] (He.ga K "_law_day_by") fd := T.says.def_ 32 (d := dd_law_day_by) rfl
noncomputable def fd_law_day_by (T : Tx K mg) : FuncData := (x_law_day_by T).choose
theorem F_law_day_by (T : Tx K mg) : FunD K "_law_day_by" "_law_day_by" (defArgs (topS 48)) (defBody (topS 48)) (defScope (topS 48)) [] [] (He.ga K "_law_day_by") (fd_law_day_by T) := (x_law_day_by T).choose_spec
theorem g_law_day_by (T : Tx K mg) : mg "_law_day_by" = some (.ref (He.ga K "_law_day_by")) := T.glo _ (T.says.fact 32 (f := .glo "_law_day_by") rfl)
theorem bi_law_day_by (T : Tx K mg) : Binds K (fd_law_day_by T) ["text"] [] := (F_law_day_by T).bindsN fun _ _ _ _ _ _ us hl => match us, hl with | [_], _ => rfl
theorem x_law_cell_by (T : Tx K mg) : ∃ fd, FunD K "_law_cell_by" "_law_cell_by" (defArgs (topS 49)) (defBody (topS 49)) (defScope (topS 49)) [] [] (He.ga K "_law_cell_by") fd := T.says.def_ 33 (d := dd_law_cell_by) rfl
noncomputable def fd_law_cell_by (T : Tx K mg) : FuncData := (x_law_cell_by T).choose
theorem F_law_cell_by (T : Tx K mg) : FunD K "_law_cell_by" "_law_cell_by" (defArgs (topS 49)) (defBody (topS 49)) (defScope (topS 49)) [] [] (He.ga K "_law_cell_by") (fd_law_cell_by T) := (x_law_cell_by T).choose_spec
theorem g_law_cell_by (T : Tx K mg) : mg "_law_cell_by" = some (.ref (He.ga K "_law_cell_by")) := T.glo _ (T.says.fact 33 (f := .glo "_law_cell_by") rfl)
theorem bi_law_cell_by (T : Tx K mg) : Binds K (fd_law_cell_by T) ["kind", "text"] [] := (F_law_cell_by T).bindsN fun _ _ _ _ _ _ us hl => match us, hl with | [_, _], _ => rfl
theorem x_law_made (T : Tx K mg) : ∃ fd, FunD K "_law_made" "_law_made" (defArgs (topS 50)) (defBody (topS 50)) (defScope (topS 50)) [] [] (He.ga K "_law_made") fd := T.says.def_ 34 (d := dd_law_made) rfl
noncomputable def fd_law_made (T : Tx K mg) : FuncData := (x_law_made T).choose
theorem F_law_made (T : Tx K mg) : FunD K "_law_made" "_law_made" (defArgs (topS 50)) (defBody (topS 50)) (defScope (topS 50)) [] [] (He.ga K "_law_made") (fd_law_made T) := (x_law_made T).choose_spec
theorem g_law_made (T : Tx K mg) : mg "_law_made" = some (.ref (He.ga K "_law_made")) := T.glo _ (T.says.fact 34 (f := .glo "_law_made") rfl)
theorem bi_law_made (T : Tx K mg) : Binds K (fd_law_made T) ["text", "d"] [] := (F_law_made T).bindsN fun _ _ _ _ _ _ us hl => match us, hl with | [_, _], _ => rfl
theorem x_law_alike (T : Tx K mg) : ∃ fd, FunD K "_law_alike" "_law_alike" (defArgs (topS 51)) (defBody (topS 51)) (defScope (topS 51)) [] [] (He.ga K "_law_alike") fd := T.says.def_ 35 (d := dd_law_alike) rfl
noncomputable def fd_law_alike (T : Tx K mg) : FuncData := (x_law_alike T).choose
theorem F_law_alike (T : Tx K mg) : FunD K "_law_alike" "_law_alike" (defArgs (topS 51)) (defBody (topS 51)) (defScope (topS 51)) [] [] (He.ga K "_law_alike") (fd_law_alike T) := (x_law_alike T).choose_spec
theorem g_law_alike (T : Tx K mg) : mg "_law_alike" = some (.ref (He.ga K "_law_alike")) := T.glo _ (T.says.fact 35 (f := .glo "_law_alike") rfl)
theorem bi_law_alike (T : Tx K mg) : Binds K (fd_law_alike T) ["found", "due"] [] := (F_law_alike T).bindsN fun _ _ _ _ _ _ us hl => match us, hl with | [_, _], _ => rfl
theorem x_law_refused (T : Tx K mg) : ∃ fd, FunD K "_law_refused" "_law_refused" (defArgs (topS 52)) (defBody (topS 52)) (defScope (topS 52)) [] [] (He.ga K "_law_refused") fd := T.says.def_ 36 (d := dd_law_refused) rfl
noncomputable def fd_law_refused (T : Tx K mg) : FuncData := (x_law_refused T).choose
theorem F_law_refused (T : Tx K mg) : FunD K "_law_refused" "_law_refused" (defArgs (topS 52)) (defBody (topS 52)) (defScope (topS 52)) [] [] (He.ga K "_law_refused") (fd_law_refused T) := (x_law_refused T).choose_spec
theorem g_law_refused (T : Tx K mg) : mg "_law_refused" = some (.ref (He.ga K "_law_refused")) := T.glo _ (T.says.fact 36 (f := .glo "_law_refused") rfl)
theorem bi_law_refused (T : Tx K mg) : Binds K (fd_law_refused T) ["kind", "text"] [] := (F_law_refused T).bindsN fun _ _ _ _ _ _ us hl => match us, hl with | [_, _], _ => rfl
theorem x_law (T : Tx K mg) : ∃ fd, FunD K "law" "law" (defArgs (topS 53)) (defBody (topS 53)) (defScope (topS 53)) [] [] (He.ga K "law") fd := T.says.def_ 37 (d := dd_law) rfl
noncomputable def fd_law (T : Tx K mg) : FuncData := (x_law T).choose
theorem F_law (T : Tx K mg) : FunD K "law" "law" (defArgs (topS 53)) (defBody (topS 53)) (defScope (topS 53)) [] [] (He.ga K "law") (fd_law T) := (x_law T).choose_spec
theorem g_law (T : Tx K mg) : mg "law" = some (.ref (He.ga K "law")) := T.glo _ (T.says.fact 37 (f := .glo "law") rfl)
theorem bi_law (T : Tx K mg) : Binds K (fd_law T) ["script"] [] := (F_law T).bindsN fun _ _ _ _ _ _ us hl => match us, hl with | [_], _ => rfl
theorem Tx.n_isinstance (T : Tx K mg) : mg "isinstance" = none := T.free _ (T.says.fact 38 (f := .free "isinstance") rfl)
theorem Tx.n_bool (T : Tx K mg) : mg "bool" = none := T.free _ (T.says.fact 39 (f := .free "bool") rfl)
theorem Tx.n_int (T : Tx K mg) : mg "int" = none := T.free _ (T.says.fact 40 (f := .free "int") rfl)
theorem Tx.n_abs (T : Tx K mg) : mg "abs" = none := T.free _ (T.says.fact 41 (f := .free "abs") rfl)
theorem Tx.n_len (T : Tx K mg) : mg "len" = none := T.free _ (T.says.fact 42 (f := .free "len") rfl)
theorem Tx.n_tuple (T : Tx K mg) : mg "tuple" = none := T.free _ (T.says.fact 43 (f := .free "tuple") rfl)
theorem Tx.n_str (T : Tx K mg) : mg "str" = none := T.free _ (T.says.fact 44 (f := .free "str") rfl)
theorem Tx.n_range (T : Tx K mg) : mg "range" = none := T.free _ (T.says.fact 45 (f := .free "range") rfl)
theorem Tx.n_all (T : Tx K mg) : mg "all" = none := T.free _ (T.says.fact 46 (f := .free "all") rfl)
theorem Tx.n_sum (T : Tx K mg) : mg "sum" = none := T.free _ (T.says.fact 47 (f := .free "sum") rfl)
theorem Tx.n_ValueError (T : Tx K mg) : mg "ValueError" = none := T.free _ (T.says.fact 48 (f := .free "ValueError") rfl)
theorem Tx.c_MOST (T : Tx K mg) : ∃ t, mg "MOST" = some (.int 60 t) := T.int _ _ (T.says.fact 49 (f := .int "MOST" 60) rfl)
theorem Tx.c_FIGURES_figures (T : Tx K mg) : ∃ t, mg "FIGURES_figures" = some (.str "0123456789" t) := T.str _ _ (T.says.fact 50 (f := .str "FIGURES_figures" "0123456789") rfl)
theorem Tx.c_LAST (T : Tx K mg) : ∃ t, mg "LAST" = some (.int 3652058 t) := T.int _ _ (T.says.fact 51 (f := .int "LAST" 3652058) rfl)
theorem Tx.c_FIGURES_days (T : Tx K mg) : ∃ t, mg "FIGURES_days" = some (.str "0123456789" t) := T.str _ _ (T.says.fact 52 (f := .str "FIGURES_days" "0123456789") rfl)
theorem Tx.c_LETTERS (T : Tx K mg) : ∃ t, mg "LETTERS" = some (.str "abcdefghijklmnopqrstuvwxyz" t) := T.str _ _ (T.says.fact 53 (f := .str "LETTERS" "abcdefghijklmnopqrstuvwxyz") rfl)
theorem g_NoNumber (T : Tx K mg) : mg "NoNumber" = some (.ref (He.ga K "NoNumber")) := T.glo _ (T.says.fact 54 (f := .glo "NoNumber") rfl)
theorem g_NoDay (T : Tx K mg) : mg "NoDay" = some (.ref (He.ga K "NoDay")) := T.glo _ (T.says.fact 56 (f := .glo "NoDay") rfl)
theorem g_NoTable (T : Tx K mg) : mg "NoTable" = some (.ref (He.ga K "NoTable")) := T.glo _ (T.says.fact 58 (f := .glo "NoTable") rfl)
theorem g_MarkError (T : Tx K mg) : mg "MarkError" = some (.ref (He.ga K "MarkError")) := T.glo _ (T.says.fact 59 (f := .glo "MarkError") rfl)
theorem x_ini_NoTable (T : Tx K mg) : ∃ fd, FunD K "__init__" "NoTable.__init__" (defArgs (methS 4 0)) (defBody (methS 4 0)) (defScope (methS 4 0)) [] [] (He.fAd K ("NoTable", some "__init__")) fd := T.says.def_ 38 (d := dd_ini_NoTable) rfl
noncomputable def fd_ini_NoTable (T : Tx K mg) : FuncData := (x_ini_NoTable T).choose
theorem F_ini_NoTable (T : Tx K mg) : FunD K "__init__" "NoTable.__init__" (defArgs (methS 4 0)) (defBody (methS 4 0)) (defScope (methS 4 0)) [] [] (He.fAd K ("NoTable", some "__init__")) (fd_ini_NoTable T) := (x_ini_NoTable T).choose_spec
theorem bi_ini_NoTable (T : Tx K mg) : Binds K (fd_ini_NoTable T) ["self", "row"] [] := (F_ini_NoTable T).bindsN fun _ _ _ _ _ _ us hl => match us, hl with | [_, _], _ => rfl
theorem ini_NoTable (T : Tx K mg) : IniC K "NoTable" "row" := iniB_ok (allB_at T.more 0)
theorem sc_ini_NoTable : FnScope ["self", "row"] ["self", "row"] (defScope (methS 4 0)) := ⟨rfl, rfl, rfl, by decide +kernel, rfl, by decide +kernel, by decide +kernel⟩
theorem ok_ini_NoTable {P : Program} {wd : World} {base : Heap} (T : Tx K mg) : FnOk P wd K mg base CX0 1 (He.fAd K ("NoTable", some "__init__")) (fd_ini_NoTable T) ["self", "row"] (spI (He.ga K "NoTable") "row") := init_ok (F_ini_NoTable T) sc_ini_NoTable (ini_NoTable T).o (ini_NoTable T).n (fun X e => by rw [e]; exact ⟨.inl rfl, .inl rfl⟩) (by decide) (by decide)
theorem okH_ini_NoTable {P : Program} {wd : World} {base : Heap} (T : Tx K mg) : L2H.FnH P wd K mg base CX0 1 (He.fAd K ("NoTable", some "__init__")) (fd_ini_NoTable T) ["self", "row"] (spI (He.ga K "NoTable") "row") := init_okH (F_ini_NoTable T) sc_ini_NoTable (ini_NoTable T).o (ini_NoTable T).n (fun X e => by rw [e]; exact ⟨.inl rfl, .inl rfl⟩) (by decide) (by decide)
def is_ValueError : String → Option Bool := fun s => if s = "NoDay" then some true else if s = "NoNumber" then some true else if s = "NoTable" then some true else none
theorem boot_exc_ValueError : bootBuiltins "ValueError" = some (.type "ValueError") := by decide +kernel
theorem is_ValueError_ok (T : Tx K mg) {s : String} {cls : Value} (h2 : caK [] K s = some cls) (h : is_ValueError s ≠ none) : cls = .ref (He.ga K (Str.ofString s)) ∧ ExcC K (He.ga K (Str.ofString s)) := by
  unfold is_ValueError at h
  cases h2
  split at h
  · rename_i q; subst q; exact ⟨rfl, exiB_ok (allB_at T.more 1)⟩
  split at h
  · rename_i q; subst q; exact ⟨rfl, exiB_ok (allB_at T.more 2)⟩
  split at h
  · rename_i q; subst q; exact ⟨rfl, exiB_ok (allB_at T.more 3)⟩
  exact absurd rfl h
theorem is_ValueError_kit (T : Tx K mg) {s : String} {cls : Value} (h2 : caK [] K s = some cls) (b : Bool) (h : is_ValueError s = some b) : PySem.W.kitOne K cls (.type "ValueError") = some b := by
  unfold is_ValueError at h
  cases h2
  split at h
  · rename_i q; subst q; cases h; exact kitB_ty (allB_at T.more 4)
  split at h
  · rename_i q; subst q; cases h; exact kitB_ty (allB_at T.more 5)
  split at h
  · rename_i q; subst q; cases h; exact kitB_ty (allB_at T.more 6)
  cases h
def is_NoDay : String → Option Bool := fun s => if s = "NoDay" then some true else if s = "NoNumber" then some false else if s = "NoTable" then some false else none
theorem is_NoDay_ok (T : Tx K mg) {s : String} {cls : Value} (h2 : caK [] K s = some cls) (h : is_NoDay s ≠ none) : cls = .ref (He.ga K (Str.ofString s)) ∧ ExcC K (He.ga K (Str.ofString s)) := by
  unfold is_NoDay at h
  cases h2
  split at h
  · rename_i q; subst q; exact ⟨rfl, exiB_ok (allB_at T.more 1)⟩
  split at h
  · rename_i q; subst q; exact ⟨rfl, exiB_ok (allB_at T.more 2)⟩
  split at h
  · rename_i q; subst q; exact ⟨rfl, exiB_ok (allB_at T.more 3)⟩
  exact absurd rfl h
theorem is_NoDay_kit (T : Tx K mg) {s : String} {cls : Value} (h2 : caK [] K s = some cls) (b : Bool) (h : is_NoDay s = some b) : PySem.W.kitOne K cls (.ref (He.ga K "NoDay")) = some b := by
  unfold is_NoDay at h
  cases h2
  split at h
  · rename_i q; subst q; cases h; exact kitB_own (allB_at T.more 7)
  split at h
  · rename_i q; subst q; cases h; exact kitB_own (allB_at T.more 8)
  split at h
  · rename_i q; subst q; cases h; exact kitB_own (allB_at T.more 9)
  cases h
def is_NoNumber : String → Option Bool := fun s => if s = "NoDay" then some false else if s = "NoNumber" then some true else if s = "NoTable" then some false else none
theorem is_NoNumber_ok (T : Tx K mg) {s : String} {cls : Value} (h2 : caK [] K s = some cls) (h : is_NoNumber s ≠ none) : cls = .ref (He.ga K (Str.ofString s)) ∧ ExcC K (He.ga K (Str.ofString s)) := by
  unfold is_NoNumber at h
  cases h2
  split at h
  · rename_i q; subst q; exact ⟨rfl, exiB_ok (allB_at T.more 1)⟩
  split at h
  · rename_i q; subst q; exact ⟨rfl, exiB_ok (allB_at T.more 2)⟩
  split at h
  · rename_i q; subst q; exact ⟨rfl, exiB_ok (allB_at T.more 3)⟩
  exact absurd rfl h
theorem is_NoNumber_kit (T : Tx K mg) {s : String} {cls : Value} (h2 : caK [] K s = some cls) (b : Bool) (h : is_NoNumber s = some b) : PySem.W.kitOne K cls (.ref (He.ga K "NoNumber")) = some b := by
  unfold is_NoNumber at h
  cases h2
  split at h
  · rename_i q; subst q; cases h; exact kitB_own (allB_at T.more 10)
  split at h
  · rename_i q; subst q; cases h; exact kitB_own (allB_at T.more 11)
  split at h
  · rename_i q; subst q; cases h; exact kitB_own (allB_at T.more 12)
  cases h
def is_MarkError : String → Option Bool := fun s => if s = "NoDay" then some true else if s = "NoNumber" then some true else if s = "NoTable" then some true else none
theorem is_MarkError_ok (T : Tx K mg) {s : String} {cls : Value} (h2 : caK [] K s = some cls) (h : is_MarkError s ≠ none) : cls = .ref (He.ga K (Str.ofString s)) ∧ ExcC K (He.ga K (Str.ofString s)) := by
  unfold is_MarkError at h
  cases h2
  split at h
  · rename_i q; subst q; exact ⟨rfl, exiB_ok (allB_at T.more 1)⟩
  split at h
  · rename_i q; subst q; exact ⟨rfl, exiB_ok (allB_at T.more 2)⟩
  split at h
  · rename_i q; subst q; exact ⟨rfl, exiB_ok (allB_at T.more 3)⟩
  exact absurd rfl h
theorem is_MarkError_kit (T : Tx K mg) {s : String} {cls : Value} (h2 : caK [] K s = some cls) (b : Bool) (h : is_MarkError s = some b) : PySem.W.kitOne K cls (.ref (He.ga K "MarkError")) = some b := by
  unfold is_MarkError at h
  cases h2
  split at h
  · rename_i q; subst q; cases h; exact kitB_own (allB_at T.more 13)
  split at h
  · rename_i q; subst q; cases h; exact kitB_own (allB_at T.more 14)
  split at h
  · rename_i q; subst q; cases h; exact kitB_own (allB_at T.more 15)
  cases h
theorem e_NoNumber (T : Tx K mg) : PySem.W.excIn K (He.ga K "NoNumber") He.veBase "ValueError.__new__" = true ∧ PySem.W.keepIn K (.ref (He.ga K "NoNumber")) = true ∧ PySem.W.subIn K (.ref (He.ga K "NoNumber")) (.type "BaseException") = some true ∧ PySem.W.typeIn K (.ref (He.ga K "NoNumber")) = some (.type "type") := He.exc_ok (T.says.fact 55 (f := .exc "NoNumber") rfl)
theorem e_NoDay (T : Tx K mg) : PySem.W.excIn K (He.ga K "NoDay") He.veBase "ValueError.__new__" = true ∧ PySem.W.keepIn K (.ref (He.ga K "NoDay")) = true ∧ PySem.W.subIn K (.ref (He.ga K "NoDay")) (.type "BaseException") = some true ∧ PySem.W.typeIn K (.ref (He.ga K "NoDay")) = some (.type "type") := He.exc_ok (T.says.fact 57 (f := .exc "NoDay") rfl)
def cat_NoNumber : String → Option Bool := fun s => if s = "MarkError" then some false else if s = "NoNumber" then some true else if s = "NoDay" then some false else if s = "NoTable" then some false else none
theorem cat_NoNumber_ok (T : Tx K mg) (e : String) (b : Bool) (cls : Value) (h : cat_NoNumber e = some b) (h2 : caK [] K e = some cls) : PySem.W.exmOne K cls (.ref (He.ga K "NoNumber")) = some b := by
  unfold cat_NoNumber at h
  split at h
  · rename_i q; subst q; cases h; cases h2; exact He.exm_ok (T.says.fact 60 (f := .exm "MarkError" "NoNumber" false) rfl)
  split at h
  · rename_i q; subst q; cases h; cases h2; exact He.exm_ok (T.says.fact 61 (f := .exm "NoNumber" "NoNumber" true) rfl)
  split at h
  · rename_i q; subst q; cases h; cases h2; exact He.exm_ok (T.says.fact 62 (f := .exm "NoDay" "NoNumber" false) rfl)
  split at h
  · rename_i q; subst q; cases h; cases h2; exact He.exm_ok (T.says.fact 63 (f := .exm "NoTable" "NoNumber" false) rfl)
  cases h
def cat_NoDay : String → Option Bool := fun s => if s = "MarkError" then some false else if s = "NoNumber" then some false else if s = "NoDay" then some true else if s = "NoTable" then some false else none
theorem cat_NoDay_ok (T : Tx K mg) (e : String) (b : Bool) (cls : Value) (h : cat_NoDay e = some b) (h2 : caK [] K e = some cls) : PySem.W.exmOne K cls (.ref (He.ga K "NoDay")) = some b := by
  unfold cat_NoDay at h
  split at h
  · rename_i q; subst q; cases h; cases h2; exact He.exm_ok (T.says.fact 64 (f := .exm "MarkError" "NoDay" false) rfl)
  split at h
  · rename_i q; subst q; cases h; cases h2; exact He.exm_ok (T.says.fact 65 (f := .exm "NoNumber" "NoDay" false) rfl)
  split at h
  · rename_i q; subst q; cases h; cases h2; exact He.exm_ok (T.says.fact 66 (f := .exm "NoDay" "NoDay" true) rfl)
  split at h
  · rename_i q; subst q; cases h; cases h2; exact He.exm_ok (T.says.fact 67 (f := .exm "NoTable" "NoDay" false) rfl)
  cases h
def cat_NoTable : String → Option Bool := fun s => if s = "MarkError" then some false else if s = "NoNumber" then some false else if s = "NoDay" then some false else if s = "NoTable" then some true else none
theorem cat_NoTable_ok (T : Tx K mg) (e : String) (b : Bool) (cls : Value) (h : cat_NoTable e = some b) (h2 : caK [] K e = some cls) : PySem.W.exmOne K cls (.ref (He.ga K "NoTable")) = some b := by
  unfold cat_NoTable at h
  split at h
  · rename_i q; subst q; cases h; cases h2; exact He.exm_ok (T.says.fact 68 (f := .exm "MarkError" "NoTable" false) rfl)
  split at h
  · rename_i q; subst q; cases h; cases h2; exact He.exm_ok (T.says.fact 69 (f := .exm "NoNumber" "NoTable" false) rfl)
  split at h
  · rename_i q; subst q; cases h; cases h2; exact He.exm_ok (T.says.fact 70 (f := .exm "NoDay" "NoTable" false) rfl)
  split at h
  · rename_i q; subst q; cases h; cases h2; exact He.exm_ok (T.says.fact 71 (f := .exm "NoTable" "NoTable" true) rfl)
  cases h
end
/-! is_whole -/
abbrev s_is_whole : Stmt := topS 6
theorem sc_is_whole : FnScope ["thing"] ["thing"] (defScope s_is_whole) := ⟨rfl, rfl, rfl, by decide +kernel, rfl, by decide +kernel, by decide +kernel⟩
noncomputable def b_is_whole : En → R Fl :=
  (dRet (dAndV (dIsi "int" (dVar 0)) (dB (dNot (dIsi "bool" (dVar 0))))))
noncomputable def m_is_whole : En → R L := dDef 1 b_is_whole
section
variable {P : Program} {wd : World} {K : PySem.W.Frag} {mg : Str → Option Value} {base : Heap}
theorem ok_is_whole (T : Tx K mg) : FnOk P wd K mg base (L2N.CX P wd) 1 (He.ga K "is_whole") (fd_is_whole T) ["thing"] (spD K (caK [] K) 1 m_is_whole) :=
  fn_denN (F_is_whole T) sc_is_whole fun cdv A outer s H E g =>
  (vss_one (vs_ret (ve_and (ve_isi (by rfl) T.n_isinstance (ve_var 0) (by rfl) T.n_int boot_ty_int) (ve_and1 (ve_not (ve_isi (by rfl) T.n_isinstance (ve_var 0) (by rfl) T.n_bool boot_ty_bool))))))
end
/-! divisor -/
abbrev s_divisor : Stmt := topS 7
theorem sc_divisor : FnScope ["one", "other"] ["one", "other"] (defScope s_divisor) := ⟨rfl, rfl, rfl, by decide +kernel, rfl, by decide +kernel, by decide +kernel⟩
noncomputable def b_divisor_l1 : En → R Fl :=
  (dPar 0 1 (aIm (dVar 1) (aIm (dOp gMod (dVar 0) (dVar 1)) aNil)))
noncomputable def b_divisor : En → R Fl :=
  (dSeq (dWhile (dCmp gNe (dVar 1) (dC (.int 0))) b_divisor_l1)
  (dRet (dCall gAbs (aIm (dVar 0) aNil))))
noncomputable def m_divisor : En → R L := dDef 2 b_divisor
section
variable {P : Program} {wd : World} {K : PySem.W.Frag} {mg : Str → Option Value} {base : Heap}
theorem ok_divisor (T : Tx K mg) : FnOk P wd K mg base (L2N.CX P wd) 1 (He.ga K "divisor") (fd_divisor T) ["one", "other"] (spD K (caK [] K) 2 m_divisor) :=
  fn_denN (F_divisor T) sc_divisor fun cdv A outer s H E g =>
  (vss_cons (vs_while g.po (vt_cmp (op_neD g.hr.units) ob_ne (ve_var 1) ve_int (nomark _))
   (vss_one (vs_par 0 1 g.calm sc_divisor.nd (va_im (ve_var 1) (va_im (ve_mod (ve_var 0) (ve_var 1)) va_nil)))))
  (vss_one (vs_ret (ve_cB call_abs cs_abs (by rfl) T.n_abs boot_B_abs (va_im (ve_var 0) va_nil)))))
end
/-! is_number -/
abbrev s_is_number : Stmt := topS 8
theorem sc_is_number : FnScope ["thing", "top", "bottom"] ["thing"] (defScope s_is_number) := ⟨rfl, rfl, rfl, by decide +kernel, rfl, by decide +kernel, by decide +kernel⟩
noncomputable def b_is_number : En → R Fl :=
  (dSeq (dIf (dOr (dNot (dIsi "tuple" (dVar 0))) (dCmp gNe (dLenN 0) (dC (.int 2))))
   (dRet (dC (.bool false)))
   dNx)
  (dSeq (dAsg (gTupD 2 (gsCons (putIm 1) (gsCons (putIm 2) gsNil))) (dVar 0))
  (dSeq (dIf (dOr (dNot (dTru (dFn 1 m_is_whole (aIm (dVar 1) aNil)))) (dNot (dTru (dFn 1 m_is_whole (aIm (dVar 2) aNil)))))
   (dRet (dC (.bool false)))
   dNx)
  (dRet (dAndV (dCmp gGt (dVar 2) (dC (.int 0))) (dB (dCmp gEq (dFn 2 m_divisor (aIm (dVar 1) (aIm (dVar 2) aNil))) (dC (.int 1)))))))))
noncomputable def m_is_number : En → R L := dDef 3 b_is_number
section
variable {P : Program} {wd : World} {K : PySem.W.Frag} {mg : Str → Option Value} {base : Heap}
theorem ok_is_number (T : Tx K mg) : FnOk P wd K mg base (L2.CX P wd) 2 (He.ga K "is_number") (fd_is_number T) ["thing"] (spD K (caK [] K) 1 m_is_number) :=
  fn_denD (F_is_number T) sc_is_number fun cdv A outer s H E g =>
  (vss_cons (vs_if (vt_w (vw_or (vt_not (vt_b (ve_isi (by rfl) T.n_isinstance (ve_var 0) (by rfl) T.n_tuple boot_ty_tuple))) (vw_or1 (vt_cmp (op_neD g.hr.units) ob_ne (ve_lenN 0 (by rfl) T.n_len) ve_int (nomark _)))))
   (vss_one (vs_ret ve_bl))
   vss_nil)
  (vss_cons (vs_asg (ve_var 0) (vg_tup g.calm (vgs_cons (vg_name 1 sc_is_number.nd) (vgs_cons (vg_name 2 sc_is_number.nd) vgs_nil))) (nox_tup (nox_cons nox_put (nox_cons nox_put nox_nil))))
  (vss_cons (vs_if (vt_w (vw_or (vt_not (vt_tru (ve_callN (ok_is_whole T) (g.hr.mono (by decide)) g.tn rfl (by rfl) (g_is_whole T) (F_is_whole T).kp (bi_is_whole T) (va_im (ve_var 1) va_nil)))) (vw_or1 (vt_not (vt_tru (ve_callN (ok_is_whole T) (g.hr.mono (by decide)) g.tn rfl (by rfl) (g_is_whole T) (F_is_whole T).kp (bi_is_whole T) (va_im (ve_var 2) va_nil)))))))
   (vss_one (vs_ret ve_bl))
   vss_nil)
  (vss_one (vs_ret (ve_and (ve_cmp op_gtA ob_gt (ve_var 2) ve_int (nomark _)) (ve_and1 (ve_cmp (op_eqD g.hr.units) ob_eq (ve_callN (ok_divisor T) (g.hr.mono (by decide)) g.tn rfl (by rfl) (g_divisor T) (F_divisor T).kp (bi_divisor T) (va_im (ve_var 1) (va_im (ve_var 2) va_nil))) ve_int (nomark _)))))))))
end
/-! show_number -/
abbrev s_show_number : Stmt := topS 12
theorem sc_show_number : FnScope ["one"] ["one"] (defScope s_show_number) := ⟨rfl, rfl, rfl, by decide +kernel, rfl, by decide +kernel, by decide +kernel⟩
noncomputable def b_show_number : En → R Fl :=
  (dSeq (dIf (dCmp gEq (dIxN 0 (dC (.int 1))) (dC (.int 1)))
   (dRet (dCall gStr (aIm (dIxN 0 (dC (.int 0))) aNil)))
   dNx)
  (dRet (dOp gAdd (dOp gAdd (dCall gStr (aIm (dIxN 0 (dC (.int 0))) aNil)) (dC (.str "/"))) (dCall gStr (aIm (dIxN 0 (dC (.int 1))) aNil)))))
noncomputable def m_show_number : En → R L := dDef 1 b_show_number
section
variable {P : Program} {wd : World} {K : PySem.W.Frag} {mg : Str → Option Value} {base : Heap}
theorem ok_show_number (T : Tx K mg) : FnOk P wd K mg base (L2.CX P wd) 1 (He.ga K "show_number") (fd_show_number T) ["one"] (spD K (caK [] K) 1 m_show_number) :=
  fn_denD (F_show_number T) sc_show_number fun cdv A outer s H E g =>
  (vss_cons (vs_if (vt_cmp (op_eqD g.hr.units) ob_eq (ve_ixN 0 ve_int) ve_int (nomark _))
   (vss_one (vs_ret (ve_cT call_str_int cs_str (by rfl) T.n_str boot_ty_str (va_im (ve_ixN 0 ve_int) va_nil))))
   vss_nil)
  (vss_one (vs_ret (ve_add (ve_add (ve_cT call_str_int cs_str (by rfl) T.n_str boot_ty_str (va_im (ve_ixN 0 ve_int) va_nil)) ve_str) (ve_cT call_str_int cs_str (by rfl) T.n_str boot_ty_str (va_im (ve_ixN 0 ve_int) va_nil))))))
end
/-! count_of -/
abbrev s_count_of : Stmt := topS 13
theorem sc_count_of : FnScope ["text", "sign"] ["text"] (defScope s_count_of) := ⟨rfl, rfl, rfl, by decide +kernel, rfl, by decide +kernel, by decide +kernel⟩
noncomputable def b_count_of_l1 : En → R Fl :=
  (dIf (dCmp gNotIn (dVar 1) (dC (.str "0123456789")))
   (dRaise "NoNumber")
   dNx)
noncomputable def b_count_of : En → R Fl :=
  (dSeq (dIf (dOr (dCmp gEq (dVar 0) (dC (.str ""))) (dCmp gGt (dLenN 0) (dC (.int 60))))
   (dRaise "NoNumber")
   dNx)
  (dSeq (dFor (iD (dVar 0)) (putIm 1) b_count_of_l1)
  (dSeq (dIf (dAnd (dCmp gEq (dIxN 0 (dC (.int 0))) (dC (.str "0"))) (dCmp gNe (dVar 0) (dC (.str "0"))))
   (dRaise "NoNumber")
   dNx)
  (dRet (dCall gInt (aIm (dVar 0) aNil))))))
noncomputable def m_count_of : En → R L := dDef 2 b_count_of
section
variable {P : Program} {wd : World} {K : PySem.W.Frag} {mg : Str → Option Value} {base : Heap}
theorem ok_count_of (T : Tx K mg) : FnOk P wd K mg base (L2N.CX P wd) 1 (He.ga K "count_of") (fd_count_of T) ["text"] (spD K (caK [] K) 1 m_count_of) :=
  fn_denN (F_count_of T) sc_count_of fun cdv A outer s H E g =>
  (vss_cons (vs_if (vt_w (vw_or (vt_cmp (op_eqD g.hr.units) ob_eq (ve_var 0) ve_str (nomark _)) (vw_or1 (vt_cmp op_gtA ob_gt (ve_lenN 0 (by rfl) T.n_len) (ve_glI (by rfl) T.c_MOST) (nomark _)))))
   (vss_one (vs_raiseN (nm := "NoNumber") g.calm g.tn rfl PySem.F.excBase_ValueError (e_NoNumber T).1 (g_NoNumber T) (e_NoNumber T).2.1 (raises_own (e_NoNumber T).2.2.1 (e_NoNumber T).2.2.2) (by rfl)))
   vss_nil)
  (vss_cons (vs_for g.po g.calm (vi_val (ve_var 0)) (vg_name 1 sc_count_of.nd) nox_put
   (vss_one (vs_if (vt_cmp (op_notInA g.u65) ob_notIn (ve_var 1) (ve_glS (by rfl) T.c_FIGURES_figures) (by rfl))
   (vss_one (vs_raiseN (nm := "NoNumber") g.calm g.tn rfl PySem.F.excBase_ValueError (e_NoNumber T).1 (g_NoNumber T) (e_NoNumber T).2.1 (raises_own (e_NoNumber T).2.2.1 (e_NoNumber T).2.2.2) (by rfl)))
   vss_nil)))
  (vss_cons (vs_if (vt_w (vw_and (vt_cmp (op_eqD g.hr.units) ob_eq (ve_ixN 0 ve_int) ve_str (nomark _)) (vw_and1 (vt_cmp (op_neD g.hr.units) ob_ne (ve_var 0) ve_str (nomark _)))))
   (vss_one (vs_raiseN (nm := "NoNumber") g.calm g.tn rfl PySem.F.excBase_ValueError (e_NoNumber T).1 (g_NoNumber T) (e_NoNumber T).2.1 (raises_own (e_NoNumber T).2.2.1 (e_NoNumber T).2.2.2) (by rfl)))
   vss_nil)
  (vss_one (vs_ret (ve_cT call_intA cs_int (by rfl) T.n_int boot_ty_int (va_im (ve_var 0) va_nil)))))))
end
/-! top_of -/
abbrev s_top_of : Stmt := topS 14
theorem sc_top_of : FnScope ["text", "size"] ["text"] (defScope s_top_of) := ⟨rfl, rfl, rfl, by decide +kernel, rfl, by decide +kernel, by decide +kernel⟩
noncomputable def b_top_of : En → R Fl :=
  (dSeq (dIf (dCmp gNe (dSlN 0 oN (oI (dC (.int 1)))) (dC (.str "-")))
   (dRet (dFn 1 m_count_of (aIm (dVar 0) aNil)))
   dNx)
  (dSeq (dAsg (putIm 1) (dFn 1 m_count_of (aIm (dSlN 0 (oI (dC (.int 1))) oN) aNil)))
  (dSeq (dIf (dCmp gEq (dVar 1) (dC (.int 0)))
   (dRaise "NoNumber")
   dNx)
  (dRet (dOp gSub (dC (.int 0)) (dVar 1))))))
noncomputable def m_top_of : En → R L := dDef 2 b_top_of
section
variable {P : Program} {wd : World} {K : PySem.W.Frag} {mg : Str → Option Value} {base : Heap}
theorem ok_top_of (T : Tx K mg) : FnOk P wd K mg base (L2N.CX P wd) 2 (He.ga K "top_of") (fd_top_of T) ["text"] (spD K (caK [] K) 1 m_top_of) :=
  fn_denN (F_top_of T) sc_top_of fun cdv A outer s H E g =>
  (vss_cons (vs_if (vt_cmp (op_neD g.hr.units) ob_ne (ve_slN 0 vo_none (vo_some ve_int)) ve_str (nomark _))
   (vss_one (vs_ret (ve_callN (ok_count_of T) (g.hr.mono (by decide)) g.tn rfl (by rfl) (g_count_of T) (F_count_of T).kp (bi_count_of T) (va_im (ve_var 0) va_nil))))
   vss_nil)
  (vss_cons (vs_set 1 sc_top_of.nd (ve_callN (ok_count_of T) (g.hr.mono (by decide)) g.tn rfl (by rfl) (g_count_of T) (F_count_of T).kp (bi_count_of T) (va_im (ve_slN 0 (vo_some ve_int) vo_none) va_nil)))
  (vss_cons (vs_if (vt_cmp (op_eqD g.hr.units) ob_eq (ve_var 1) ve_int (nomark _))
   (vss_one (vs_raiseN (nm := "NoNumber") g.calm g.tn rfl PySem.F.excBase_ValueError (e_NoNumber T).1 (g_NoNumber T) (e_NoNumber T).2.1 (raises_own (e_NoNumber T).2.2.1 (e_NoNumber T).2.2.2) (by rfl)))
   vss_nil)
  (vss_one (vs_ret (ve_sub ve_int (ve_var 1)))))))
end
/-! read_number -/
abbrev s_read_number : Stmt := topS 15
theorem sc_read_number : FnScope ["text", "above", "stroke", "below", "top", "bottom"] ["text"] (defScope s_read_number) := ⟨rfl, rfl, rfl, by decide +kernel, rfl, by decide +kernel, by decide +kernel⟩
noncomputable def b_read_number : En → R Fl :=
  (dSeq (dIf (dNot (dIsi "str" (dVar 0)))
   (dRaise "NoNumber")
   dNx)
  (dSeq (dAsg (gTupD 3 (gsCons (putIm 1) (gsCons (putIm 2) (gsCons (putIm 3) gsNil)))) (dM1 gPart (dVar 0) (dC (.str "/"))))
  (dSeq (dAsg (putIm 4) (dFn 1 m_top_of (aIm (dVar 1) aNil)))
  (dSeq (dIf (dCmp gEq (dVar 2) (dC (.str "")))
   (dRet (dTup (aIm (dVar 4) (aIm (dC (.int 1)) aNil))))
   dNx)
  (dSeq (dAsg (putIm 5) (dFn 1 m_count_of (aIm (dVar 3) aNil)))
  (dSeq (dIf (dOr (dCmp gLt (dVar 5) (dC (.int 2))) (dCmp gNe (dFn 2 m_divisor (aIm (dVar 4) (aIm (dVar 5) aNil))) (dC (.int 1))))
   (dRaise "NoNumber")
   dNx)
  (dRet (dTup (aIm (dVar 4) (aIm (dVar 5) aNil))))))))))
noncomputable def m_read_number : En → R L := dDef 6 b_read_number
section
variable {P : Program} {wd : World} {K : PySem.W.Frag} {mg : Str → Option Value} {base : Heap}
theorem ok_read_number (T : Tx K mg) : FnOk P wd K mg base (L2N.CX P wd) 3 (He.ga K "read_number") (fd_read_number T) ["text"] (spD K (caK [] K) 1 m_read_number) :=
  fn_denN (F_read_number T) sc_read_number fun cdv A outer s H E g =>
  (vss_cons (vs_if (vt_not (vt_b (ve_isi (by rfl) T.n_isinstance (ve_var 0) (by rfl) T.n_str boot_ty_str)))
   (vss_one (vs_raiseN (nm := "NoNumber") g.calm g.tn rfl PySem.F.excBase_ValueError (e_NoNumber T).1 (g_NoNumber T) (e_NoNumber T).2.1 (raises_own (e_NoNumber T).2.2.1 (e_NoNumber T).2.2.2) (by rfl)))
   vss_nil)
  (vss_cons (vs_asg (ve_m1 PySem.F.slot_str_partition PySem.F.type_str_partition mt_partition ms_part (ve_var 0) ve_str) (vg_tup g.calm (vgs_cons (vg_name 1 sc_read_number.nd) (vgs_cons (vg_name 2 sc_read_number.nd) (vgs_cons (vg_name 3 sc_read_number.nd) vgs_nil)))) (nox_tup (nox_cons nox_put (nox_cons nox_put (nox_cons nox_put nox_nil)))))
  (vss_cons (vs_set 4 sc_read_number.nd (ve_callN (ok_top_of T) (g.hr.mono (by decide)) g.tn rfl (by rfl) (g_top_of T) (F_top_of T).kp (bi_top_of T) (va_im (ve_var 1) va_nil)))
  (vss_cons (vs_if (vt_cmp (op_eqD g.hr.units) ob_eq (ve_var 2) ve_str (nomark _))
   (vss_one (vs_ret (ve_tup (va_im (ve_var 4) (va_im ve_int va_nil)))))
   vss_nil)
  (vss_cons (vs_set 5 sc_read_number.nd (ve_callN (ok_count_of T) (g.hr.mono (by decide)) g.tn rfl (by rfl) (g_count_of T) (F_count_of T).kp (bi_count_of T) (va_im (ve_var 3) va_nil)))
  (vss_cons (vs_if (vt_w (vw_or (vt_cmp op_ltA ob_lt (ve_var 5) ve_int (nomark _)) (vw_or1 (vt_cmp (op_neD g.hr.units) ob_ne (ve_callN (ok_divisor T) (g.hr.mono (by decide)) g.tn rfl (by rfl) (g_divisor T) (F_divisor T).kp (bi_divisor T) (va_im (ve_var 4) (va_im (ve_var 5) va_nil))) ve_int (nomark _)))))
   (vss_one (vs_raiseN (nm := "NoNumber") g.calm g.tn rfl PySem.F.excBase_ValueError (e_NoNumber T).1 (g_NoNumber T) (e_NoNumber T).2.1 (raises_own (e_NoNumber T).2.2.1 (e_NoNumber T).2.2.2) (by rfl)))
   vss_nil)
  (vss_one (vs_ret (ve_tup (va_im (ve_var 4) (va_im (ve_var 5) va_nil)))))))))))
end
/-! is_told -/
abbrev s_is_told : Stmt := topS 16
theorem sc_is_told : FnScope ["thing"] ["thing"] (defScope s_is_told) := ⟨rfl, rfl, rfl, by decide +kernel, rfl, by decide +kernel, by decide +kernel⟩
noncomputable def b_is_told : En → R Fl :=
  (dRet (dAndV (dUB (dFn 1 m_is_number (aIm (dVar 0) aNil))) (dAndV (dCmp gLt (dCall gAbs (aIm (dIxN 0 (dC (.int 0))) aNil)) (dOp gPow (dC (.int 10)) (dC (.int 18)))) (dB (dCmp gLe (dIxN 0 (dC (.int 1))) (dC (.int 60)))))))
noncomputable def m_is_told : En → R L := dDef 1 b_is_told
section
variable {P : Program} {wd : World} {K : PySem.W.Frag} {mg : Str → Option Value} {base : Heap}
theorem ok_is_told (T : Tx K mg) : FnOk P wd K mg base (L2.CX P wd) 3 (He.ga K "is_told") (fd_is_told T) ["thing"] (spD K (caK [] K) 1 m_is_told) :=
  fn_denD (F_is_told T) sc_is_told fun cdv A outer s H E g =>
  (vss_one (vs_ret (ve_and (ve_ub (ve_call (ok_is_number T) (g.hr.mono (by decide)) g.tk rfl (by rfl) (g_is_number T) (F_is_number T).kp (bi_is_number T) (va_im (ve_var 0) va_nil))) (ve_and (ve_cmp op_ltA ob_lt (ve_cB call_abs cs_abs (by rfl) T.n_abs boot_B_abs (va_im (ve_ixN 0 ve_int) va_nil)) (ve_pow ve_int ve_int) (nomark _)) (ve_and1 (ve_cmp op_leA ob_le (ve_ixN 0 ve_int) ve_int (nomark _)))))))
end
/-! is_leap -/
abbrev s_is_leap : Stmt := topS 20
theorem sc_is_leap : FnScope ["year"] ["year"] (defScope s_is_leap) := ⟨rfl, rfl, rfl, by decide +kernel, rfl, by decide +kernel, by decide +kernel⟩
noncomputable def b_is_leap : En → R Fl :=
  (dSeq (dIf (dCmp gEq (dOp gMod (dVar 0) (dC (.int 400))) (dC (.int 0)))
   (dRet (dC (.bool true)))
   dNx)
  (dRet (dAndV (dCmp gEq (dOp gMod (dVar 0) (dC (.int 4))) (dC (.int 0))) (dB (dCmp gNe (dOp gMod (dVar 0) (dC (.int 100))) (dC (.int 0)))))))
noncomputable def m_is_leap : En → R L := dDef 1 b_is_leap
section
variable {P : Program} {wd : World} {K : PySem.W.Frag} {mg : Str → Option Value} {base : Heap}
theorem ok_is_leap (T : Tx K mg) : FnOk P wd K mg base (L2N.CX P wd) 1 (He.ga K "is_leap") (fd_is_leap T) ["year"] (spD K (caK [] K) 1 m_is_leap) :=
  fn_denN (F_is_leap T) sc_is_leap fun cdv A outer s H E g =>
  (vss_cons (vs_if (vt_cmp (op_eqD g.hr.units) ob_eq (ve_mod (ve_var 0) ve_int) ve_int (nomark _))
   (vss_one (vs_ret ve_bl))
   vss_nil)
  (vss_one (vs_ret (ve_and (ve_cmp (op_eqD g.hr.units) ob_eq (ve_mod (ve_var 0) ve_int) ve_int (nomark _)) (ve_and1 (ve_cmp (op_neD g.hr.units) ob_ne (ve_mod (ve_var 0) ve_int) ve_int (nomark _)))))))
end
/-! length_of -/
abbrev s_length_of : Stmt := topS 21
theorem sc_length_of : FnScope ["year", "month"] ["year", "month"] (defScope s_length_of) := ⟨rfl, rfl, rfl, by decide +kernel, rfl, by decide +kernel, by decide +kernel⟩
noncomputable def b_length_of : En → R Fl :=
  (dSeq (dIf (dCmp gEq (dVar 1) (dC (.int 2)))
   (dRet (dOp gAdd (dC (.int 28)) (dCall gInt (aIm (dFn 1 m_is_leap (aIm (dVar 0) aNil)) aNil))))
   dNx)
  (dSeq (dIf (dOr (dCmp gEq (dVar 1) (dC (.int 4))) (dOr (dCmp gEq (dVar 1) (dC (.int 6))) (dOr (dCmp gEq (dVar 1) (dC (.int 9))) (dCmp gEq (dVar 1) (dC (.int 11))))))
   (dRet (dC (.int 30)))
   dNx)
  (dRet (dC (.int 31)))))
noncomputable def m_length_of : En → R L := dDef 2 b_length_of
section
variable {P : Program} {wd : World} {K : PySem.W.Frag} {mg : Str → Option Value} {base : Heap}
theorem ok_length_of (T : Tx K mg) : FnOk P wd K mg base (L2N.CX P wd) 2 (He.ga K "length_of") (fd_length_of T) ["year", "month"] (spD K (caK [] K) 2 m_length_of) :=
  fn_denN (F_length_of T) sc_length_of fun cdv A outer s H E g =>
  (vss_cons (vs_if (vt_cmp (op_eqD g.hr.units) ob_eq (ve_var 1) ve_int (nomark _))
   (vss_one (vs_ret (ve_add ve_int (ve_cT call_intA cs_int (by rfl) T.n_int boot_ty_int (va_im (ve_callN (ok_is_leap T) (g.hr.mono (by decide)) g.tn rfl (by rfl) (g_is_leap T) (F_is_leap T).kp (bi_is_leap T) (va_im (ve_var 0) va_nil)) va_nil)))))
   vss_nil)
  (vss_cons (vs_if (vt_w (vw_or (vt_cmp (op_eqD g.hr.units) ob_eq (ve_var 1) ve_int (nomark _)) (vw_or (vt_cmp (op_eqD g.hr.units) ob_eq (ve_var 1) ve_int (nomark _)) (vw_or (vt_cmp (op_eqD g.hr.units) ob_eq (ve_var 1) ve_int (nomark _)) (vw_or1 (vt_cmp (op_eqD g.hr.units) ob_eq (ve_var 1) ve_int (nomark _)))))))
   (vss_one (vs_ret ve_int))
   vss_nil)
  (vss_one (vs_ret ve_int))))
end
/-! ahead_of -/
abbrev s_ahead_of : Stmt := topS 22
theorem sc_ahead_of : FnScope ["year", "gone"] ["year"] (defScope s_ahead_of) := ⟨rfl, rfl, rfl, by decide +kernel, rfl, by decide +kernel, by decide +kernel⟩
noncomputable def b_ahead_of : En → R Fl :=
  (dSeq (dAsg (putIm 1) (dOp gSub (dVar 0) (dC (.int 1))))
  (dRet (dOp gAdd (dOp gSub (dOp gAdd (dOp gMul (dC (.int 365)) (dVar 1)) (dOp gFdiv (dVar 1) (dC (.int 4)))) (dOp gFdiv (dVar 1) (dC (.int 100)))) (dOp gFdiv (dVar 1) (dC (.int 400))))))
noncomputable def m_ahead_of : En → R L := dDef 2 b_ahead_of
section
variable {P : Program} {wd : World} {K : PySem.W.Frag} {mg : Str → Option Value} {base : Heap}
theorem ok_ahead_of (T : Tx K mg) : FnOk P wd K mg base (L2N.CX P wd) 1 (He.ga K "ahead_of") (fd_ahead_of T) ["year"] (spD K (caK [] K) 1 m_ahead_of) :=
  fn_denN (F_ahead_of T) sc_ahead_of fun cdv A outer s H E g =>
  (vss_cons (vs_set 1 sc_ahead_of.nd (ve_sub (ve_var 0) ve_int))
  (vss_one (vs_ret (ve_add (ve_sub (ve_add (ve_mul ve_int (ve_var 1)) (ve_fdiv (ve_var 1) ve_int)) (ve_fdiv (ve_var 1) ve_int)) (ve_fdiv (ve_var 1) ve_int)))))
end
/-! is_day -/
abbrev s_is_day : Stmt := topS 23
theorem sc_is_day : FnScope ["thing"] ["thing"] (defScope s_is_day) := ⟨rfl, rfl, rfl, by decide +kernel, rfl, by decide +kernel, by decide +kernel⟩
noncomputable def b_is_day : En → R Fl :=
  (dRet (dAndV (dUB (dFn 1 m_is_whole (aIm (dVar 0) aNil))) (dAndV (dCmp gLe (dC (.int 0)) (dVar 0)) (dB (dCmp gLe (dVar 0) (dC (.int 3652058)))))))
noncomputable def m_is_day : En → R L := dDef 1 b_is_day
section
variable {P : Program} {wd : World} {K : PySem.W.Frag} {mg : Str → Option Value} {base : Heap}
theorem ok_is_day (T : Tx K mg) : FnOk P wd K mg base (L2.CX P wd) 2 (He.ga K "is_day") (fd_is_day T) ["thing"] (spD K (caK [] K) 1 m_is_day) :=
  fn_denD (F_is_day T) sc_is_day fun cdv A outer s H E g =>
  (vss_one (vs_ret (ve_and (ve_ub (ve_callN (ok_is_whole T) (g.hr.mono (by decide)) g.tn rfl (by rfl) (g_is_whole T) (F_is_whole T).kp (bi_is_whole T) (va_im (ve_var 0) va_nil))) (ve_and (ve_cmp op_leA ob_le ve_int (ve_var 0) (nomark _)) (ve_and1 (ve_cmp op_leA ob_le (ve_var 0) (ve_glI (by rfl) T.c_LAST) (nomark _)))))))
end
/-! is_told_day -/
abbrev s_is_told_day : Stmt := topS 24
theorem sc_is_told_day : FnScope ["thing"] ["thing"] (defScope s_is_told_day) := ⟨rfl, rfl, rfl, by decide +kernel, rfl, by decide +kernel, by decide +kernel⟩
noncomputable def b_is_told_day : En → R Fl :=
  (dRet (dAndV (dUB (dFn 1 m_is_day (aIm (dVar 0) aNil))) (dAndV (dCmp gLe (dFn 1 m_ahead_of (aIm (dC (.int 1000)) aNil)) (dVar 0)) (dB (dCmp gLt (dVar 0) (dFn 1 m_ahead_of (aIm (dC (.int 9000)) aNil)))))))
noncomputable def m_is_told_day : En → R L := dDef 1 b_is_told_day
section
variable {P : Program} {wd : World} {K : PySem.W.Frag} {mg : Str → Option Value} {base : Heap}
theorem ok_is_told_day (T : Tx K mg) : FnOk P wd K mg base (L2.CX P wd) 3 (He.ga K "is_told_day") (fd_is_told_day T) ["thing"] (spD K (caK [] K) 1 m_is_told_day) :=
  fn_denD (F_is_told_day T) sc_is_told_day fun cdv A outer s H E g =>
  (vss_one (vs_ret (ve_and (ve_ub (ve_call (ok_is_day T) (g.hr.mono (by decide)) g.tk rfl (by rfl) (g_is_day T) (F_is_day T).kp (bi_is_day T) (va_im (ve_var 0) va_nil))) (ve_and (ve_cmp op_leA ob_le (ve_callN (ok_ahead_of T) (g.hr.mono (by decide)) g.tn rfl (by rfl) (g_ahead_of T) (F_ahead_of T).kp (bi_ahead_of T) (va_im ve_int va_nil)) (ve_var 0) (nomark _)) (ve_and1 (ve_cmp op_ltA ob_lt (ve_var 0) (ve_callN (ok_ahead_of T) (g.hr.mono (by decide)) g.tn rfl (by rfl) (g_ahead_of T) (F_ahead_of T).kp (bi_ahead_of T) (va_im ve_int va_nil)) (nomark _)))))))
end
/-! day_of -/
abbrev s_day_of : Stmt := topS 25
theorem sc_day_of : FnScope ["year", "month", "day", "found", "k"] ["year", "month", "day"] (defScope s_day_of) := ⟨rfl, rfl, rfl, by decide +kernel, rfl, by decide +kernel, by decide +kernel⟩
noncomputable def b_day_of_l1 : En → R Fl :=
  (dAsg (putIm 3) (dOp gAdd (dVar 3) (dFn 2 m_length_of (aIm (dVar 0) (aIm (dVar 4) aNil)))))
noncomputable def b_day_of : En → R Fl :=
  (dSeq (dIf (dOr (dNot (dTru (dFn 1 m_is_whole (aIm (dVar 0) aNil)))) (dOr (dNot (dTru (dFn 1 m_is_whole (aIm (dVar 1) aNil)))) (dNot (dTru (dFn 1 m_is_whole (aIm (dVar 2) aNil))))))
   (dRaise "NoDay")
   dNx)
  (dSeq (dIf (dOr (dCmp gLt (dVar 0) (dC (.int 1))) (dOr (dCmp gGt (dVar 0) (dC (.int 9999))) (dOr (dCmp gLt (dVar 1) (dC (.int 1))) (dCmp gGt (dVar 1) (dC (.int 12))))))
   (dRaise "NoDay")
   dNx)
  (dSeq (dIf (dOr (dCmp gLt (dVar 2) (dC (.int 1))) (dCmp gGt (dVar 2) (dFn 2 m_length_of (aIm (dVar 0) (aIm (dVar 1) aNil)))))
   (dRaise "NoDay")
   dNx)
  (dSeq (dAsg (putIm 3) (dOp gSub (dOp gAdd (dFn 1 m_ahead_of (aIm (dVar 0) aNil)) (dVar 2)) (dC (.int 1))))
  (dSeq (dFor (iRg2 (aIm (dC (.int 1)) (aIm (dVar 1) aNil))) (putIm 4) b_day_of_l1)
  (dRet (dVar 3)))))))
noncomputable def m_day_of : En → R L := dDef 5 b_day_of
section
variable {P : Program} {wd : World} {K : PySem.W.Frag} {mg : Str → Option Value} {base : Heap}
theorem ok_day_of (T : Tx K mg) : FnOk P wd K mg base (L2N.CX P wd) 3 (He.ga K "day_of") (fd_day_of T) ["year", "month", "day"] (spD K (caK [] K) 3 m_day_of) :=
  fn_denN (F_day_of T) sc_day_of fun cdv A outer s H E g =>
  (vss_cons (vs_if (vt_w (vw_or (vt_not (vt_tru (ve_callN (ok_is_whole T) (g.hr.mono (by decide)) g.tn rfl (by rfl) (g_is_whole T) (F_is_whole T).kp (bi_is_whole T) (va_im (ve_var 0) va_nil)))) (vw_or (vt_not (vt_tru (ve_callN (ok_is_whole T) (g.hr.mono (by decide)) g.tn rfl (by rfl) (g_is_whole T) (F_is_whole T).kp (bi_is_whole T) (va_im (ve_var 1) va_nil)))) (vw_or1 (vt_not (vt_tru (ve_callN (ok_is_whole T) (g.hr.mono (by decide)) g.tn rfl (by rfl) (g_is_whole T) (F_is_whole T).kp (bi_is_whole T) (va_im (ve_var 2) va_nil))))))))
   (vss_one (vs_raiseN (nm := "NoDay") g.calm g.tn rfl PySem.F.excBase_ValueError (e_NoDay T).1 (g_NoDay T) (e_NoDay T).2.1 (raises_own (e_NoDay T).2.2.1 (e_NoDay T).2.2.2) (by rfl)))
   vss_nil)
  (vss_cons (vs_if (vt_w (vw_or (vt_cmp op_ltA ob_lt (ve_var 0) ve_int (nomark _)) (vw_or (vt_cmp op_gtA ob_gt (ve_var 0) ve_int (nomark _)) (vw_or (vt_cmp op_ltA ob_lt (ve_var 1) ve_int (nomark _)) (vw_or1 (vt_cmp op_gtA ob_gt (ve_var 1) ve_int (nomark _)))))))
   (vss_one (vs_raiseN (nm := "NoDay") g.calm g.tn rfl PySem.F.excBase_ValueError (e_NoDay T).1 (g_NoDay T) (e_NoDay T).2.1 (raises_own (e_NoDay T).2.2.1 (e_NoDay T).2.2.2) (by rfl)))
   vss_nil)
  (vss_cons (vs_if (vt_w (vw_or (vt_cmp op_ltA ob_lt (ve_var 2) ve_int (nomark _)) (vw_or1 (vt_cmp op_gtA ob_gt (ve_var 2) (ve_callN (ok_length_of T) (g.hr.mono (by decide)) g.tn rfl (by rfl) (g_length_of T) (F_length_of T).kp (bi_length_of T) (va_im (ve_var 0) (va_im (ve_var 1) va_nil))) (nomark _)))))
   (vss_one (vs_raiseN (nm := "NoDay") g.calm g.tn rfl PySem.F.excBase_ValueError (e_NoDay T).1 (g_NoDay T) (e_NoDay T).2.1 (raises_own (e_NoDay T).2.2.1 (e_NoDay T).2.2.2) (by rfl)))
   vss_nil)
  (vss_cons (vs_set 3 sc_day_of.nd (ve_sub (ve_add (ve_callN (ok_ahead_of T) (g.hr.mono (by decide)) g.tn rfl (by rfl) (g_ahead_of T) (F_ahead_of T).kp (bi_ahead_of T) (va_im (ve_var 0) va_nil)) (ve_var 2)) ve_int))
  (vss_cons (vs_for g.po g.calm (vi_range2 (by rfl) T.n_range (va_im ve_int (va_im (ve_var 1) va_nil))) (vg_name 4 sc_day_of.nd) nox_put
   (vss_one (vs_set 3 sc_day_of.nd (ve_add (ve_var 3) (ve_callN (ok_length_of T) (g.hr.mono (by decide)) g.tn rfl (by rfl) (g_length_of T) (F_length_of T).kp (bi_length_of T) (va_im (ve_var 0) (va_im (ve_var 4) va_nil)))))))
  (vss_one (vs_ret (ve_var 3))))))))
end
/-! parts_of -/
abbrev s_parts_of : Stmt := topS 26
theorem sc_parts_of : FnScope ["day", "year", "left", "month"] ["day"] (defScope s_parts_of) := ⟨rfl, rfl, rfl, by decide +kernel, rfl, by decide +kernel, by decide +kernel⟩
noncomputable def b_parts_of_l1 : En → R Fl :=
  (dAsg (putIm 1) (dOp gAdd (dVar 1) (dC (.int 1))))
noncomputable def b_parts_of_l2 : En → R Fl :=
  (dSeq (dAsg (putIm 2) (dOp gSub (dVar 2) (dFn 2 m_length_of (aIm (dVar 1) (aIm (dVar 3) aNil)))))
  (dAsg (putIm 3) (dOp gAdd (dVar 3) (dC (.int 1)))))
noncomputable def b_parts_of : En → R Fl :=
  (dSeq (dAsg (putIm 1) (dOp gAdd (dOp gFdiv (dVar 0) (dC (.int 366))) (dC (.int 1))))
  (dSeq (dWhile (dCmp gLe (dFn 1 m_ahead_of (aIm (dOp gAdd (dVar 1) (dC (.int 1))) aNil)) (dVar 0)) b_parts_of_l1)
  (dSeq (dAsg (putIm 2) (dOp gSub (dVar 0) (dFn 1 m_ahead_of (aIm (dVar 1) aNil))))
  (dSeq (dAsg (putIm 3) (dC (.int 1)))
  (dSeq (dWhile (dCmp gGe (dVar 2) (dFn 2 m_length_of (aIm (dVar 1) (aIm (dVar 3) aNil)))) b_parts_of_l2)
  (dRet (dTup (aIm (dVar 1) (aIm (dVar 3) (aIm (dOp gAdd (dVar 2) (dC (.int 1))) aNil))))))))))
noncomputable def m_parts_of : En → R L := dDef 4 b_parts_of
section
variable {P : Program} {wd : World} {K : PySem.W.Frag} {mg : Str → Option Value} {base : Heap}
theorem ok_parts_of (T : Tx K mg) : FnOk P wd K mg base (L2.CX P wd) 3 (He.ga K "parts_of") (fd_parts_of T) ["day"] (spD K (caK [] K) 1 m_parts_of) :=
  fn_denD (F_parts_of T) sc_parts_of fun cdv A outer s H E g =>
  (vss_cons (vs_set 1 sc_parts_of.nd (ve_add (ve_fdiv (ve_var 0) ve_int) ve_int))
  (vss_cons (vs_while g.po (vt_cmp op_leA ob_le (ve_callN (ok_ahead_of T) (g.hr.mono (by decide)) g.tn rfl (by rfl) (g_ahead_of T) (F_ahead_of T).kp (bi_ahead_of T) (va_im (ve_add (ve_var 1) ve_int) va_nil)) (ve_var 0) (nomark _))
   (vss_one (vs_set 1 sc_parts_of.nd (ve_add (ve_var 1) ve_int))))
  (vss_cons (vs_set 2 sc_parts_of.nd (ve_sub (ve_var 0) (ve_callN (ok_ahead_of T) (g.hr.mono (by decide)) g.tn rfl (by rfl) (g_ahead_of T) (F_ahead_of T).kp (bi_ahead_of T) (va_im (ve_var 1) va_nil))))
  (vss_cons (vs_set 3 sc_parts_of.nd ve_int)
  (vss_cons (vs_while g.po (vt_cmp op_geA ob_ge (ve_var 2) (ve_callN (ok_length_of T) (g.hr.mono (by decide)) g.tn rfl (by rfl) (g_length_of T) (F_length_of T).kp (bi_length_of T) (va_im (ve_var 1) (va_im (ve_var 3) va_nil))) (nomark _))
   (vss_cons (vs_set 2 sc_parts_of.nd (ve_sub (ve_var 2) (ve_callN (ok_length_of T) (g.hr.mono (by decide)) g.tn rfl (by rfl) (g_length_of T) (F_length_of T).kp (bi_length_of T) (va_im (ve_var 1) (va_im (ve_var 3) va_nil)))))
  (vss_one (vs_set 3 sc_parts_of.nd (ve_add (ve_var 3) ve_int)))))
  (vss_one (vs_ret (ve_tup (va_im (ve_var 1) (va_im (ve_var 3) (va_im (ve_add (ve_var 2) ve_int) va_nil)))))))))))
end
/-! show_day -/
abbrev s_show_day : Stmt := topS 27
theorem sc_show_day : FnScope ["day", "year", "month", "left"] ["day"] (defScope s_show_day) := ⟨rfl, rfl, rfl, by decide +kernel, rfl, by decide +kernel, by decide +kernel⟩
noncomputable def b_show_day : En → R Fl :=
  (dSeq (dAsg (gTupD 3 (gsCons (putIm 1) (gsCons (putIm 2) (gsCons (putIm 3) gsNil)))) (dFn 1 m_parts_of (aIm (dVar 0) aNil)))
  (dRet (dOp gAdd (dOp gAdd (dOp gAdd (dOp gAdd (dM1 gZfill (dCall gStr (aIm (dVar 1) aNil)) (dC (.int 4))) (dC (.str "-"))) (dM1 gZfill (dCall gStr (aIm (dVar 2) aNil)) (dC (.int 2)))) (dC (.str "-"))) (dM1 gZfill (dCall gStr (aIm (dVar 3) aNil)) (dC (.int 2))))))
noncomputable def m_show_day : En → R L := dDef 4 b_show_day
section
variable {P : Program} {wd : World} {K : PySem.W.Frag} {mg : Str → Option Value} {base : Heap}
theorem ok_show_day (T : Tx K mg) : FnOk P wd K mg base (L2.CX P wd) 4 (He.ga K "show_day") (fd_show_day T) ["day"] (spD K (caK [] K) 1 m_show_day) :=
  fn_denD (F_show_day T) sc_show_day fun cdv A outer s H E g =>
  (vss_cons (vs_asg (ve_call (ok_parts_of T) (g.hr.mono (by decide)) g.tk rfl (by rfl) (g_parts_of T) (F_parts_of T).kp (bi_parts_of T) (va_im (ve_var 0) va_nil)) (vg_tup g.calm (vgs_cons (vg_name 1 sc_show_day.nd) (vgs_cons (vg_name 2 sc_show_day.nd) (vgs_cons (vg_name 3 sc_show_day.nd) vgs_nil)))) (nox_tup (nox_cons nox_put (nox_cons nox_put (nox_cons nox_put nox_nil)))))
  (vss_one (vs_ret (ve_add (ve_add (ve_add (ve_add (ve_m1 PySem.F.slot_str_zfill PySem.F.type_str_zfill mt_zfill ms_zfill (ve_cT call_str_int cs_str (by rfl) T.n_str boot_ty_str (va_im (ve_var 1) va_nil)) ve_int) ve_str) (ve_m1 PySem.F.slot_str_zfill PySem.F.type_str_zfill mt_zfill ms_zfill (ve_cT call_str_int cs_str (by rfl) T.n_str boot_ty_str (va_im (ve_var 2) va_nil)) ve_int)) ve_str) (ve_m1 PySem.F.slot_str_zfill PySem.F.type_str_zfill mt_zfill ms_zfill (ve_cT call_str_int cs_str (by rfl) T.n_str boot_ty_str (va_im (ve_var 3) va_nil)) ve_int)))))
end
/-! read_day -/
abbrev s_read_day : Stmt := topS 28
theorem sc_read_day : FnScope ["text", "sign"] ["text"] (defScope s_read_day) := ⟨rfl, rfl, rfl, by decide +kernel, rfl, by decide +kernel, by decide +kernel⟩
noncomputable def b_read_day_l1 : En → R Fl :=
  (dIf (dCmp gNotIn (dVar 1) (dC (.str "0123456789")))
   (dRaise "NoDay")
   dNx)
noncomputable def b_read_day : En → R Fl :=
  (dSeq (dIf (dOr (dNot (dIsi "str" (dVar 0))) (dOr (dCmp gNe (dLenN 0) (dC (.int 10))) (dOr (dCmp gNe (dIxN 0 (dC (.int 4))) (dC (.str "-"))) (dCmp gNe (dIxN 0 (dC (.int 7))) (dC (.str "-"))))))
   (dRaise "NoDay")
   dNx)
  (dSeq (dFor (iD (dOp gAdd (dOp gAdd (dSlN 0 oN (oI (dC (.int 4)))) (dSlN 0 (oI (dC (.int 5))) (oI (dC (.int 7))))) (dSlN 0 (oI (dC (.int 8))) oN))) (putIm 1) b_read_day_l1)
  (dRet (dFn 3 m_day_of (aIm (dCall gInt (aIm (dSlN 0 oN (oI (dC (.int 4)))) aNil)) (aIm (dCall gInt (aIm (dSlN 0 (oI (dC (.int 5))) (oI (dC (.int 7)))) aNil)) (aIm (dCall gInt (aIm (dSlN 0 (oI (dC (.int 8))) oN) aNil)) aNil)))))))
noncomputable def m_read_day : En → R L := dDef 2 b_read_day
section
variable {P : Program} {wd : World} {K : PySem.W.Frag} {mg : Str → Option Value} {base : Heap}
theorem ok_read_day (T : Tx K mg) : FnOk P wd K mg base (L2N.CX P wd) 4 (He.ga K "read_day") (fd_read_day T) ["text"] (spD K (caK [] K) 1 m_read_day) :=
  fn_denN (F_read_day T) sc_read_day fun cdv A outer s H E g =>
  (vss_cons (vs_if (vt_w (vw_or (vt_not (vt_b (ve_isi (by rfl) T.n_isinstance (ve_var 0) (by rfl) T.n_str boot_ty_str))) (vw_or (vt_cmp (op_neD g.hr.units) ob_ne (ve_lenN 0 (by rfl) T.n_len) ve_int (nomark _)) (vw_or (vt_cmp (op_neD g.hr.units) ob_ne (ve_ixN 0 ve_int) ve_str (nomark _)) (vw_or1 (vt_cmp (op_neD g.hr.units) ob_ne (ve_ixN 0 ve_int) ve_str (nomark _)))))))
   (vss_one (vs_raiseN (nm := "NoDay") g.calm g.tn rfl PySem.F.excBase_ValueError (e_NoDay T).1 (g_NoDay T) (e_NoDay T).2.1 (raises_own (e_NoDay T).2.2.1 (e_NoDay T).2.2.2) (by rfl)))
   vss_nil)
  (vss_cons (vs_for g.po g.calm (vi_val (ve_add (ve_add (ve_slN 0 vo_none (vo_some ve_int)) (ve_slN 0 (vo_some ve_int) (vo_some ve_int))) (ve_slN 0 (vo_some ve_int) vo_none))) (vg_name 1 sc_read_day.nd) nox_put
   (vss_one (vs_if (vt_cmp (op_notInA g.u65) ob_notIn (ve_var 1) (ve_glS (by rfl) T.c_FIGURES_days) (by rfl))
   (vss_one (vs_raiseN (nm := "NoDay") g.calm g.tn rfl PySem.F.excBase_ValueError (e_NoDay T).1 (g_NoDay T) (e_NoDay T).2.1 (raises_own (e_NoDay T).2.2.1 (e_NoDay T).2.2.2) (by rfl)))
   vss_nil)))
  (vss_one (vs_ret (ve_callN (ok_day_of T) (g.hr.mono (by decide)) g.tn rfl (by rfl) (g_day_of T) (F_day_of T).kp (bi_day_of T) (va_im (ve_cT call_intA cs_int (by rfl) T.n_int boot_ty_int (va_im (ve_slN 0 vo_none (vo_some ve_int)) va_nil)) (va_im (ve_cT call_intA cs_int (by rfl) T.n_int boot_ty_int (va_im (ve_slN 0 (vo_some ve_int) (vo_some ve_int)) va_nil)) (va_im (ve_cT call_intA cs_int (by rfl) T.n_int boot_ty_int (va_im (ve_slN 0 (vo_some ve_int) vo_none) va_nil)) va_nil))))))))
end
/-! is_word -/
abbrev s_is_word : Stmt := topS 31
theorem sc_is_word : FnScope ["thing", "sign"] ["thing"] (defScope s_is_word) := ⟨rfl, rfl, rfl, by decide +kernel, rfl, by decide +kernel, by decide +kernel⟩
noncomputable def b_is_word_l1 : D → En → R (Option D) :=
  (lcT (putIm 1) tT
   (dB (dCmp gIn (dVar 1) (dC (.str "abcdefghijklmnopqrstuvwxyz")))))
noncomputable def b_is_word : En → R Fl :=
  (dSeq (dIf (dOr (dNot (dIsi "str" (dVar 0))) (dNot (dChain gLe gLe (dC (.int 1)) (dLenN 0) (dC (.int 8)))))
   (dRet (dC (.bool false)))
   dNx)
  (dRet (dCall gAll (aIm (dFz (nLc (iD (dVar 0)) b_is_word_l1 [1])) aNil))))
noncomputable def m_is_word : En → R L := dDef 2 b_is_word
section
variable {P : Program} {wd : World} {K : PySem.W.Frag} {mg : Str → Option Value} {base : Heap}
theorem ok_is_word (T : Tx K mg) : FnOk P wd K mg base (L2.CX P wd) 1 (He.ga K "is_word") (fd_is_word T) ["thing"] (spD K (caK [] K) 1 m_is_word) :=
  fn_denD (F_is_word T) sc_is_word fun cdv A outer s H E g =>
  (vss_cons (vs_if (vt_w (vw_or (vt_not (vt_b (ve_isi (by rfl) T.n_isinstance (ve_var 0) (by rfl) T.n_str boot_ty_str))) (vw_or1 (vt_not (vt_chain op_leA ob_le op_leA ob_le ve_int (ve_lenN 0 (by rfl) T.n_len) ve_int)))))
   (vss_one (vs_ret ve_bl))
   vss_nil)
  (vss_one (vs_ret (ve_cB (cr_all g.calm) cs_all (by rfl) T.n_all boot_B_all (va_im (ve_fz (vn_lcG [("sign", 1)] g sc_is_word.nd (vi_val (ve_var 0)) (by kernel_rfl)
   (fun s H C cl fp g => (vgc_name 1 (by decide) sc_is_word.nd)) (fun s H C cl fp g => vts_nil)
   (fun s H C cl fp g => (ve_cmp (op_inA g.u65) ob_in (ve_var 1) (ve_glS (by rfl) T.c_LETTERS) (by rfl))))) va_nil)))))
end
/-! is_cell -/
abbrev s_is_cell : Stmt := topS 32
theorem sc_is_cell : FnScope ["kind", "thing"] ["kind", "thing"] (defScope s_is_cell) := ⟨rfl, rfl, rfl, by decide +kernel, rfl, by decide +kernel, by decide +kernel⟩
noncomputable def b_is_cell : En → R Fl :=
  (dSeq (dIf (dCmp gIs (dVar 1) (dC .none))
   (dRet (dC (.bool true)))
   dNx)
  (dSeq (dIf (dCmp gEq (dVar 0) (dC (.str "number")))
   (dRet (dFn 1 m_is_told (aIm (dVar 1) aNil)))
   dNx)
  (dSeq (dIf (dCmp gEq (dVar 0) (dC (.str "word")))
   (dRet (dFn 1 m_is_word (aIm (dVar 1) aNil)))
   dNx)
  (dRet (dFn 1 m_is_told_day (aIm (dVar 1) aNil))))))
noncomputable def m_is_cell : En → R L := dDef 2 b_is_cell
section
variable {P : Program} {wd : World} {K : PySem.W.Frag} {mg : Str → Option Value} {base : Heap}
theorem ok_is_cell (T : Tx K mg) : FnOk P wd K mg base (L2.CX P wd) 4 (He.ga K "is_cell") (fd_is_cell T) ["kind", "thing"] (spD K (caK [] K) 2 m_is_cell) :=
  fn_denD (F_is_cell T) sc_is_cell fun cdv A outer s H E g =>
  (vss_cons (vs_if (vt_cmp op_isP ob_is (ve_var 1) ve_non (nomark _))
   (vss_one (vs_ret ve_bl))
   vss_nil)
  (vss_cons (vs_if (vt_cmp (op_eqD g.hr.units) ob_eq (ve_var 0) ve_str (nomark _))
   (vss_one (vs_ret (ve_call (ok_is_told T) (g.hr.mono (by decide)) g.tk rfl (by rfl) (g_is_told T) (F_is_told T).kp (bi_is_told T) (va_im (ve_var 1) va_nil))))
   vss_nil)
  (vss_cons (vs_if (vt_cmp (op_eqD g.hr.units) ob_eq (ve_var 0) ve_str (nomark _))
   (vss_one (vs_ret (ve_call (ok_is_word T) (g.hr.mono (by decide)) g.tk rfl (by rfl) (g_is_word T) (F_is_word T).kp (bi_is_word T) (va_im (ve_var 1) va_nil))))
   vss_nil)
  (vss_one (vs_ret (ve_call (ok_is_told_day T) (g.hr.mono (by decide)) g.tk rfl (by rfl) (g_is_told_day T) (F_is_told_day T).kp (bi_is_told_day T) (va_im (ve_var 1) va_nil)))))))
end
/-! show_cell -/
abbrev s_show_cell : Stmt := topS 34
theorem sc_show_cell : FnScope ["kind", "cell"] ["kind", "cell"] (defScope s_show_cell) := ⟨rfl, rfl, rfl, by decide +kernel, rfl, by decide +kernel, by decide +kernel⟩
noncomputable def b_show_cell : En → R Fl :=
  (dSeq (dIf (dCmp gIs (dVar 1) (dC .none))
   (dRet (dC (.str "-")))
   dNx)
  (dSeq (dIf (dCmp gEq (dVar 0) (dC (.str "number")))
   (dRet (dFn 1 m_show_number (aIm (dVar 1) aNil)))
   dNx)
  (dSeq (dIf (dCmp gEq (dVar 0) (dC (.str "day")))
   (dRet (dFn 1 m_show_day (aIm (dVar 1) aNil)))
   dNx)
  (dRet (dVar 1)))))
noncomputable def m_show_cell : En → R L := dDef 2 b_show_cell
section
variable {P : Program} {wd : World} {K : PySem.W.Frag} {mg : Str → Option Value} {base : Heap}
theorem ok_show_cell (T : Tx K mg) : FnOk P wd K mg base (L2.CX P wd) 5 (He.ga K "show_cell") (fd_show_cell T) ["kind", "cell"] (spD K (caK [] K) 2 m_show_cell) :=
  fn_denD (F_show_cell T) sc_show_cell fun cdv A outer s H E g =>
  (vss_cons (vs_if (vt_cmp op_isP ob_is (ve_var 1) ve_non (nomark _))
   (vss_one (vs_ret ve_str))
   vss_nil)
  (vss_cons (vs_if (vt_cmp (op_eqD g.hr.units) ob_eq (ve_var 0) ve_str (nomark _))
   (vss_one (vs_ret (ve_call (ok_show_number T) (g.hr.mono (by decide)) g.tk rfl (by rfl) (g_show_number T) (F_show_number T).kp (bi_show_number T) (va_im (ve_var 1) va_nil))))
   vss_nil)
  (vss_cons (vs_if (vt_cmp (op_eqD g.hr.units) ob_eq (ve_var 0) ve_str (nomark _))
   (vss_one (vs_ret (ve_call (ok_show_day T) (g.hr.mono (by decide)) g.tk rfl (by rfl) (g_show_day T) (F_show_day T).kp (bi_show_day T) (va_im (ve_var 1) va_nil))))
   vss_nil)
  (vss_one (vs_ret (ve_var 1))))))
end
/-! cell_by -/
abbrev s_cell_by : Stmt := topS 35
theorem sc_cell_by : FnScope ["kind", "text"] ["kind", "text"] (defScope s_cell_by) := ⟨rfl, rfl, rfl, by decide +kernel, rfl, by decide +kernel, by decide +kernel⟩
noncomputable def b_cell_by : En → R Fl :=
  (dSeq (dIf (dCmp gEq (dVar 0) (dC (.str "number")))
   (dRet (dFn 1 m_read_number (aIm (dVar 1) aNil)))
   dNx)
  (dSeq (dIf (dCmp gEq (dVar 0) (dC (.str "day")))
   (dRet (dFn 1 m_read_day (aIm (dVar 1) aNil)))
   dNx)
  (dRet (dVar 1))))
noncomputable def m_cell_by : En → R L := dDef 2 b_cell_by
section
variable {P : Program} {wd : World} {K : PySem.W.Frag} {mg : Str → Option Value} {base : Heap}
theorem ok_cell_by (T : Tx K mg) : FnOk P wd K mg base (L2N.CX P wd) 5 (He.ga K "cell_by") (fd_cell_by T) ["kind", "text"] (spD K (caK [] K) 2 m_cell_by) :=
  fn_denN (F_cell_by T) sc_cell_by fun cdv A outer s H E g =>
  (vss_cons (vs_if (vt_cmp (op_eqD g.hr.units) ob_eq (ve_var 0) ve_str (nomark _))
   (vss_one (vs_ret (ve_callN (ok_read_number T) (g.hr.mono (by decide)) g.tn rfl (by rfl) (g_read_number T) (F_read_number T).kp (bi_read_number T) (va_im (ve_var 1) va_nil))))
   vss_nil)
  (vss_cons (vs_if (vt_cmp (op_eqD g.hr.units) ob_eq (ve_var 0) ve_str (nomark _))
   (vss_one (vs_ret (ve_callN (ok_read_day T) (g.hr.mono (by decide)) g.tn rfl (by rfl) (g_read_day T) (F_read_day T).kp (bi_read_day T) (va_im (ve_var 1) va_nil))))
   vss_nil)
  (vss_one (vs_ret (ve_var 1)))))
end
/-! read_cell -/
abbrev s_read_cell : Stmt := topS 36
theorem sc_read_cell : FnScope ["kind", "text", "cell"] ["kind", "text"] (defScope s_read_cell) := ⟨rfl, rfl, rfl, by decide +kernel, rfl, by decide +kernel, by decide +kernel⟩
noncomputable def b_read_cell : En → R Fl :=
  (dSeq (dIf (dNot (dIsi "str" (dVar 1)))
   (dRaiseF "NoTable" "row" (dC .none))
   dNx)
  (dSeq (dIf (dCmp gEq (dVar 1) (dC (.str "-")))
   (dRet (dC .none))
   dNx)
  (dSeq (dTryR (dAsg (putIm 2) (dFn 2 m_cell_by (aIm (dVar 0) (aIm (dVar 1) aNil)))) (catOr cat_NoNumber cat_NoDay)
   (dRaiseF "NoTable" "row" (dC .none)))
  (dSeq (dIf (dNot (dTru (dFn 2 m_is_cell (aIm (dVar 0) (aIm (dVar 2) aNil)))))
   (dRaiseF "NoTable" "row" (dC .none))
   dNx)
  (dRet (dVar 2))))))
noncomputable def m_read_cell : En → R L := dDef 3 b_read_cell
section
variable {P : Program} {wd : World} {K : PySem.W.Frag} {mg : Str → Option Value} {base : Heap}
theorem ok_read_cell (T : Tx K mg) : FnOk P wd K mg base (L2.CX P wd) 6 (He.ga K "read_cell") (fd_read_cell T) ["kind", "text"] (spD K (caK [] K) 2 m_read_cell) :=
  fn_denD (F_read_cell T) sc_read_cell fun cdv A outer s H E g =>
  (vss_cons (vs_if (vt_not (vt_b (ve_isi (by rfl) T.n_isinstance (ve_var 1) (by rfl) T.n_str boot_ty_str)))
   (vss_one (vs_raiseF (nm := "NoTable") (f := "row") g.calm g.tk rfl (ini_NoTable T).o (ini_NoTable T).i (ini_NoTable T).t (ok_ini_NoTable T) (g.hr.mono (by decide)) (bi_ini_NoTable T) pass0 (by rfl) (g_NoTable T) ve_non))
   vss_nil)
  (vss_cons (vs_if (vt_cmp (op_eqD g.hr.units) ob_eq (ve_var 1) ve_str (nomark _))
   (vss_one (vs_ret ve_non))
   vss_nil)
  (vss_cons (vs_tryTup rfl rfl ⟨by rfl, by decide, .inl (g_NoNumber T)⟩ ⟨by rfl, by decide, .inl (g_NoDay T)⟩ (fun hd => L2H.passesAt_of rfl hd) g.tk g.calm g.hr (catOr_ok (cat_NoNumber_ok T) (cat_NoDay_ok T))
   (fun W pn xe g => (vss_one (vs_set 2 sc_read_cell.nd (ve_callN (ok_cell_by T) (g.hr.mono (by decide)) g.tn rfl (by rfl) (g_cell_by T) (F_cell_by T).kp (bi_cell_by T) (va_im (ve_var 0) (va_im (ve_var 1) va_nil))))))
   (fun a oe pn tk hot => (vss_one (vs_raiseFH (nm := "NoTable") (f := "row") hot tk rfl (ini_NoTable T).o (ini_NoTable T).i (ini_NoTable T).t (okH_ini_NoTable T) (L2H.roomH_mark (g.hr.mono (by decide)) _) (bi_ini_NoTable T) pass0 (by rfl) (g_NoTable T) ve_non))))
  (vss_cons (vs_if (vt_not (vt_tru (ve_call (ok_is_cell T) (g.hr.mono (by decide)) g.tk rfl (by rfl) (g_is_cell T) (F_is_cell T).kp (bi_is_cell T) (va_im (ve_var 0) (va_im (ve_var 2) va_nil)))))
   (vss_one (vs_raiseF (nm := "NoTable") (f := "row") g.calm g.tk rfl (ini_NoTable T).o (ini_NoTable T).i (ini_NoTable T).t (ok_ini_NoTable T) (g.hr.mono (by decide)) (bi_ini_NoTable T) pass0 (by rfl) (g_NoTable T) ve_non))
   vss_nil)
  (vss_one (vs_ret (ve_var 2)))))))
end
/-! _law_draws -/
abbrev s_law_draws : Stmt := topS 38
theorem sc_law_draws : FnScope ["cell", "tops", "found", "left", "mixed", "k"] ["cell", "tops"] (defScope s_law_draws) := ⟨rfl, rfl, rfl, by decide +kernel, rfl, by decide +kernel, by decide +kernel⟩
noncomputable def b_law_draws_l1 : En → R Fl :=
  (dIf (dCmp gGe (dCall gAbs (aIm (dVar 0) aNil)) (dOp gPow (dC (.int 10)) (dC (.int 18))))
   (dSeq (dApp 2 (dOp gMod (dVar 3) (dIxN 1 (dVar 5))))
   (dAsg (putIm 3) (dOp gFdiv (dVar 3) (dIxN 1 (dVar 5)))))
   (dSeq (dAsg (putIm 4) (dOp gMod (dOp gAdd (dOp gAdd (dOp gAdd (dOp gMul (dVar 4) (dVar 4)) (dOp gMul (dC (.int 69621)) (dVar 4))) (dOp gMul (dC (.int 7919)) (dVar 5))) (dC (.int 11))) (dC (.int 2147483647))))
   (dApp 2 (dOp gMod (dOp gMod (dOp gMul (dVar 4) (dC (.int 16807))) (dC (.int 2147483629))) (dIxN 1 (dVar 5))))))
noncomputable def b_law_draws : En → R Fl :=
  (dSeq (dAsgL 2 (nLst aNil))
  (dSeq (dAsg (putIm 3) (dCall gAbs (aIm (dVar 0) aNil)))
  (dSeq (dAsg (putIm 4) (dOp gMod (dOp gMul (dVar 0) (dC (.int 48271))) (dC (.int 2147483647))))
  (dSeq (dFor (iRg1 (aIm (dLenN 1) aNil)) (putIm 5) b_law_draws_l1)
  (dRetV 2)))))
noncomputable def m_law_draws : En → R L := dDef 6 b_law_draws
section
variable {P : Program} {wd : World} {K : PySem.W.Frag} {mg : Str → Option Value} {base : Heap}
theorem ok_law_draws (T : Tx K mg) : FnOk P wd K mg base (L2.CX P wd) 1 (He.ga K "_law_draws") (fd_law_draws T) ["cell", "tops"] (spD K (caK [] K) 2 m_law_draws) :=
  fn_denD (F_law_draws T) sc_law_draws fun cdv A outer s H E g =>
  (vss_cons (vs_setL 2 sc_law_draws.nd (vn_lst va_nil))
  (vss_cons (vs_set 3 sc_law_draws.nd (ve_cB call_abs cs_abs (by rfl) T.n_abs boot_B_abs (va_im (ve_var 0) va_nil)))
  (vss_cons (vs_set 4 sc_law_draws.nd (ve_mod (ve_mul (ve_var 0) ve_int) ve_int))
  (vss_cons (vs_for g.po g.calm (vi_range1 (by rfl) T.n_range (va_im (ve_lenN 1 (by rfl) T.n_len) va_nil)) (vg_name 5 sc_law_draws.nd) nox_put
   (vss_one (vs_if (vt_cmp op_geA ob_ge (ve_cB call_abs cs_abs (by rfl) T.n_abs boot_B_abs (va_im (ve_var 0) va_nil)) (ve_pow ve_int ve_int) (nomark _))
   (vss_cons (vs_append 2 (ve_mod (ve_var 3) (ve_ixN 1 (ve_var 5))))
   (vss_one (vs_set 3 sc_law_draws.nd (ve_fdiv (ve_var 3) (ve_ixN 1 (ve_var 5))))))
   (vss_cons (vs_set 4 sc_law_draws.nd (ve_mod (ve_add (ve_add (ve_add (ve_mul (ve_var 4) (ve_var 4)) (ve_mul ve_int (ve_var 4))) (ve_mul ve_int (ve_var 5))) ve_int) ve_int))
   (vss_one (vs_append 2 (ve_mod (ve_mod (ve_mul (ve_var 4) ve_int) ve_int) (ve_ixN 1 (ve_var 5)))))))))
  (vss_one (vs_retV 2))))))
end
/-! _law_whole -/
abbrev s_law_whole : Stmt := topS 39
theorem sc_law_whole : FnScope ["found"] ["found"] (defScope s_law_whole) := ⟨rfl, rfl, rfl, by decide +kernel, rfl, by decide +kernel, by decide +kernel⟩
noncomputable def b_law_whole : En → R Fl :=
  (dRet (dAndV (dIsi "int" (dVar 0)) (dB (dNot (dIsi "bool" (dVar 0))))))
noncomputable def m_law_whole : En → R L := dDef 1 b_law_whole
section
variable {P : Program} {wd : World} {K : PySem.W.Frag} {mg : Str → Option Value} {base : Heap}
theorem ok_law_whole (T : Tx K mg) : FnOk P wd K mg base (L2.CX P wd) 1 (He.ga K "_law_whole") (fd_law_whole T) ["found"] (spD K (caK [] K) 1 m_law_whole) :=
  fn_denD (F_law_whole T) sc_law_whole fun cdv A outer s H E g =>
  (vss_one (vs_ret (ve_and (ve_isi (by rfl) T.n_isinstance (ve_var 0) (by rfl) T.n_int boot_ty_int) (ve_and1 (ve_not (ve_isi (by rfl) T.n_isinstance (ve_var 0) (by rfl) T.n_bool boot_ty_bool))))))
end
/-! _law_divisor -/
abbrev s_law_divisor : Stmt := topS 40
theorem sc_law_divisor : FnScope ["one", "other"] ["one", "other"] (defScope s_law_divisor) := ⟨rfl, rfl, rfl, by decide +kernel, rfl, by decide +kernel, by decide +kernel⟩
noncomputable def b_law_divisor_l1 : En → R Fl :=
  (dPar 0 1 (aIm (dVar 1) (aIm (dOp gMod (dVar 0) (dVar 1)) aNil)))
noncomputable def b_law_divisor : En → R Fl :=
  (dSeq (dWhile (dCmp gNe (dVar 1) (dC (.int 0))) b_law_divisor_l1)
  (dRet (dCall gAbs (aIm (dVar 0) aNil))))
noncomputable def m_law_divisor : En → R L := dDef 2 b_law_divisor
section
variable {P : Program} {wd : World} {K : PySem.W.Frag} {mg : Str → Option Value} {base : Heap}
theorem ok_law_divisor (T : Tx K mg) : FnOk P wd K mg base (L2.CX P wd) 1 (He.ga K "_law_divisor") (fd_law_divisor T) ["one", "other"] (spD K (caK [] K) 2 m_law_divisor) :=
  fn_denD (F_law_divisor T) sc_law_divisor fun cdv A outer s H E g =>
  (vss_cons (vs_while g.po (vt_cmp (op_neD g.hr.units) ob_ne (ve_var 1) ve_int (nomark _))
   (vss_one (vs_par 0 1 g.calm sc_law_divisor.nd (va_im (ve_var 1) (va_im (ve_mod (ve_var 0) (ve_var 1)) va_nil)))))
  (vss_one (vs_ret (ve_cB call_abs cs_abs (by rfl) T.n_abs boot_B_abs (va_im (ve_var 0) va_nil)))))
end
/-! _law_lengths -/
abbrev s_law_lengths : Stmt := topS 41
theorem sc_law_lengths : FnScope ["year", "leap"] ["year"] (defScope s_law_lengths) := ⟨rfl, rfl, rfl, by decide +kernel, rfl, by decide +kernel, by decide +kernel⟩
noncomputable def b_law_lengths : En → R Fl :=
  (dSeq (dAsg (putIm 1) (dAndV (dCmp gEq (dOp gMod (dVar 0) (dC (.int 4))) (dC (.int 0))) (dOrV (dCmp gNe (dOp gMod (dVar 0) (dC (.int 100))) (dC (.int 0))) (dB (dCmp gEq (dOp gMod (dVar 0) (dC (.int 400))) (dC (.int 0)))))))
  (dRetL (nLst (aIm (dC (.int 31)) (aIm (dOp gAdd (dC (.int 28)) (dCall gInt (aIm (dVar 1) aNil))) (aIm (dC (.int 31)) (aIm (dC (.int 30)) (aIm (dC (.int 31)) (aIm (dC (.int 30)) (aIm (dC (.int 31)) (aIm (dC (.int 31)) (aIm (dC (.int 30)) (aIm (dC (.int 31)) (aIm (dC (.int 30)) (aIm (dC (.int 31)) aNil)))))))))))))))
noncomputable def m_law_lengths : En → R L := dDef 2 b_law_lengths
section
variable {P : Program} {wd : World} {K : PySem.W.Frag} {mg : Str → Option Value} {base : Heap}
theorem ok_law_lengths (T : Tx K mg) : FnOk P wd K mg base (L2.CX P wd) 1 (He.ga K "_law_lengths") (fd_law_lengths T) ["year"] (spD K (caK [] K) 1 m_law_lengths) :=
  fn_denD (F_law_lengths T) sc_law_lengths fun cdv A outer s H E g =>
  (vss_cons (vs_set 1 sc_law_lengths.nd (ve_and (ve_cmp (op_eqD g.hr.units) ob_eq (ve_mod (ve_var 0) ve_int) ve_int (nomark _)) (ve_and1 (ve_or (ve_cmp (op_neD g.hr.units) ob_ne (ve_mod (ve_var 0) ve_int) ve_int (nomark _)) (ve_or1 (ve_cmp (op_eqD g.hr.units) ob_eq (ve_mod (ve_var 0) ve_int) ve_int (nomark _)))))))
  (vss_one (vs_retL (vn_lst (va_im ve_int (va_im (ve_add ve_int (ve_cT call_intA cs_int (by rfl) T.n_int boot_ty_int (va_im (ve_var 1) va_nil))) (va_im ve_int (va_im ve_int (va_im ve_int (va_im ve_int (va_im ve_int (va_im ve_int (va_im ve_int (va_im ve_int (va_im ve_int (va_im ve_int va_nil))))))))))))))))
end
/-! _law_number -/
abbrev s_law_number : Stmt := topS 42
theorem sc_law_number : FnScope ["d", "top", "bottom", "share"] ["d"] (defScope s_law_number) := ⟨rfl, rfl, rfl, by decide +kernel, rfl, by decide +kernel, by decide +kernel⟩
noncomputable def b_law_number : En → R Fl :=
  (dSeq (dAsg (putIm 1) (dOp gIx (dLst (aIm (dOp gMod (dIxN 0 (dC (.int 2))) (dC (.int 10))) (aIm (dOp gMod (dIxN 0 (dC (.int 2))) (dC (.int 1000))) (aIm (dIxN 0 (dC (.int 2))) (aIm (dOp gAdd (dOp gMul (dIxN 0 (dC (.int 2))) (dOp gPow (dC (.int 10)) (dC (.int 9)))) (dIxN 0 (dC (.int 3)))) aNil))))) (dIxN 0 (dC (.int 1)))))
  (dSeq (dAsg (putIm 2) (dOp gIx (dLst (aIm (dOp gAdd (dIxN 0 (dC (.int 4))) (dC (.int 1))) (aIm (dC (.int 1)) aNil))) (dCall gInt (aIm (dB (dCmp gGe (dIxN 0 (dC (.int 4))) (dC (.int 60)))) aNil))))
  (dSeq (dAsg (putIm 3) (dFn 2 m_law_divisor (aIm (dVar 1) (aIm (dVar 2) aNil))))
  (dRet (dTup (aIm (dOp gFdiv (dOp gMul (dOp gSub (dC (.int 1)) (dOp gMul (dC (.int 2)) (dIxN 0 (dC (.int 0))))) (dVar 1)) (dVar 3)) (aIm (dOp gFdiv (dVar 2) (dVar 3)) aNil)))))))
noncomputable def m_law_number : En → R L := dDef 4 b_law_number
section
variable {P : Program} {wd : World} {K : PySem.W.Frag} {mg : Str → Option Value} {base : Heap}
theorem ok_law_number (T : Tx K mg) : FnOk P wd K mg base (L2.CX P wd) 2 (He.ga K "_law_number") (fd_law_number T) ["d"] (spD K (caK [] K) 1 m_law_number) :=
  fn_denD (F_law_number T) sc_law_number fun cdv A outer s H E g =>
  (vss_cons (vs_set 1 sc_law_number.nd (ve_ix (ve_lst (va_im (ve_mod (ve_ixN 0 ve_int) ve_int) (va_im (ve_mod (ve_ixN 0 ve_int) ve_int) (va_im (ve_ixN 0 ve_int) (va_im (ve_add (ve_mul (ve_ixN 0 ve_int) (ve_pow ve_int ve_int)) (ve_ixN 0 ve_int)) va_nil))))) (ve_ixN 0 ve_int)))
  (vss_cons (vs_set 2 sc_law_number.nd (ve_ix (ve_lst (va_im (ve_add (ve_ixN 0 ve_int) ve_int) (va_im ve_int va_nil))) (ve_cT call_intA cs_int (by rfl) T.n_int boot_ty_int (va_im (ve_cmp op_geA ob_ge (ve_ixN 0 ve_int) ve_int (nomark _)) va_nil))))
  (vss_cons (vs_set 3 sc_law_number.nd (ve_call (ok_law_divisor T) (g.hr.mono (by decide)) g.tk rfl (by rfl) (g_law_divisor T) (F_law_divisor T).kp (bi_law_divisor T) (va_im (ve_var 1) (va_im (ve_var 2) va_nil))))
  (vss_one (vs_ret (ve_tup (va_im (ve_fdiv (ve_mul (ve_sub ve_int (ve_mul ve_int (ve_ixN 0 ve_int))) (ve_var 1)) (ve_var 3)) (va_im (ve_fdiv (ve_var 2) (ve_var 3)) va_nil))))))))
end
/-! _law_word -/
abbrev s_law_word : Stmt := topS 43
theorem sc_law_word : FnScope ["d", "some", "k"] ["d"] (defScope s_law_word) := ⟨rfl, rfl, rfl, by decide +kernel, rfl, by decide +kernel, by decide +kernel⟩
noncomputable def b_law_word_l1 : D → En → R (Option D) :=
  (lcT (putIm 2) tT
   (dIxN 1 (dOp gMod (dIxN 0 (dOp gAdd (dC (.int 2)) (dVar 2))) (dOp gIx (dLst (aIm (dC (.int 26)) (aIm (dC (.int 2)) aNil))) (dIxN 0 (dC (.int 1)))))))
noncomputable def b_law_word : En → R Fl :=
  (dSeq (dAsg (putIm 1) (dC (.str "abcdefghijklmnopqrstuvwxyz")))
  (dRet (dM1 gJoin (dC (.str "")) (dFz (nLc (iRg1 (aIm (dOp gAdd (dC (.int 1)) (dIxN 0 (dC (.int 0)))) aNil)) b_law_word_l1 [2])))))
noncomputable def m_law_word : En → R L := dDef 3 b_law_word
section
variable {P : Program} {wd : World} {K : PySem.W.Frag} {mg : Str → Option Value} {base : Heap}
theorem ok_law_word (T : Tx K mg) : FnOk P wd K mg base (L2.CX P wd) 1 (He.ga K "_law_word") (fd_law_word T) ["d"] (spD K (caK [] K) 1 m_law_word) :=
  fn_denD (F_law_word T) sc_law_word fun cdv A outer s H E g =>
  (vss_cons (vs_set 1 sc_law_word.nd ve_str)
  (vss_one (vs_ret (ve_m1 PySem.F.slot_str_join PySem.F.type_str_join mt_join ms_join ve_str (ve_fz (vn_lcG [("k", 2)] g sc_law_word.nd (vi_range1 (by rfl) T.n_range (va_im (ve_add ve_int (ve_ixN 0 ve_int)) va_nil)) (by kernel_rfl)
   (fun s H C cl fp g => (vgc_name 2 (by decide) sc_law_word.nd)) (fun s H C cl fp g => vts_nil)
   (fun s H C cl fp g => (ve_ixN 1 (ve_mod (ve_ixN 0 (ve_add ve_int (ve_var 2))) (ve_ix (ve_lst (va_im ve_int (va_im ve_int va_nil))) (ve_ixN 0 ve_int)))))))))))
end
/-! _law_day -/
abbrev s_law_day : Stmt := topS 44
theorem sc_law_day : FnScope ["d", "year", "lengths", "ahead", "at", "text"] ["d"] (defScope s_law_day) := ⟨rfl, rfl, rfl, by decide +kernel, rfl, by decide +kernel, by decide +kernel⟩
noncomputable def b_law_day : En → R Fl :=
  (dSeq (dAsg (putIm 1) (dOp gAdd (dC (.int 1000)) (dIxN 0 (dC (.int 0)))))
  (dSeq (dAsg (putIm 2) (dFn 1 m_law_lengths (aIm (dVar 1) aNil)))
  (dSeq (dAsg (putIm 3) (dOp gAdd (dOp gSub (dOp gAdd (dOp gMul (dC (.int 365)) (dOp gSub (dVar 1) (dC (.int 1)))) (dOp gFdiv (dOp gSub (dVar 1) (dC (.int 1))) (dC (.int 4)))) (dOp gFdiv (dOp gSub (dVar 1) (dC (.int 1))) (dC (.int 100)))) (dOp gFdiv (dOp gSub (dVar 1) (dC (.int 1))) (dC (.int 400)))))
  (dSeq (dAsg (putIm 4) (dOp gMod (dIxN 0 (dC (.int 2))) (dIxN 2 (dIxN 0 (dC (.int 1))))))
  (dSeq (dAsg (putIm 5) (dOp gAdd (dOp gAdd (dOp gAdd (dOp gAdd (dCall gStr (aIm (dVar 1) aNil)) (dC (.str "-"))) (dM1 gZfill (dCall gStr (aIm (dOp gAdd (dIxN 0 (dC (.int 1))) (dC (.int 1))) aNil)) (dC (.int 2)))) (dC (.str "-"))) (dM1 gZfill (dCall gStr (aIm (dOp gAdd (dVar 4) (dC (.int 1))) aNil)) (dC (.int 2)))))
  (dRet (dTup (aIm (dOp gAdd (dOp gAdd (dVar 3) (dCall gSum (aIm (dSlN 2 oN (oI (dIxN 0 (dC (.int 1))))) aNil))) (dVar 4)) (aIm (dVar 5) aNil)))))))))
noncomputable def m_law_day : En → R L := dDef 6 b_law_day
section
variable {P : Program} {wd : World} {K : PySem.W.Frag} {mg : Str → Option Value} {base : Heap}
theorem ok_law_day (T : Tx K mg) : FnOk P wd K mg base (L2.CX P wd) 2 (He.ga K "_law_day") (fd_law_day T) ["d"] (spD K (caK [] K) 1 m_law_day) :=
  fn_denD (F_law_day T) sc_law_day fun cdv A outer s H E g =>
  (vss_cons (vs_set 1 sc_law_day.nd (ve_add ve_int (ve_ixN 0 ve_int)))
  (vss_cons (vs_set 2 sc_law_day.nd (ve_call (ok_law_lengths T) (g.hr.mono (by decide)) g.tk rfl (by rfl) (g_law_lengths T) (F_law_lengths T).kp (bi_law_lengths T) (va_im (ve_var 1) va_nil)))
  (vss_cons (vs_set 3 sc_law_day.nd (ve_add (ve_sub (ve_add (ve_mul ve_int (ve_sub (ve_var 1) ve_int)) (ve_fdiv (ve_sub (ve_var 1) ve_int) ve_int)) (ve_fdiv (ve_sub (ve_var 1) ve_int) ve_int)) (ve_fdiv (ve_sub (ve_var 1) ve_int) ve_int)))
  (vss_cons (vs_set 4 sc_law_day.nd (ve_mod (ve_ixN 0 ve_int) (ve_ixN 2 (ve_ixN 0 ve_int))))
  (vss_cons (vs_set 5 sc_law_day.nd (ve_add (ve_add (ve_add (ve_add (ve_cT call_str_int cs_str (by rfl) T.n_str boot_ty_str (va_im (ve_var 1) va_nil)) ve_str) (ve_m1 PySem.F.slot_str_zfill PySem.F.type_str_zfill mt_zfill ms_zfill (ve_cT call_str_int cs_str (by rfl) T.n_str boot_ty_str (va_im (ve_add (ve_ixN 0 ve_int) ve_int) va_nil)) ve_int)) ve_str) (ve_m1 PySem.F.slot_str_zfill PySem.F.type_str_zfill mt_zfill ms_zfill (ve_cT call_str_int cs_str (by rfl) T.n_str boot_ty_str (va_im (ve_add (ve_var 4) ve_int) va_nil)) ve_int)))
  (vss_one (vs_ret (ve_tup (va_im (ve_add (ve_add (ve_var 3) (ve_cB (cr_sum g.calm) cs_sum (by rfl) T.n_sum boot_B_sum (va_im (ve_slN 2 vo_none (vo_some (ve_ixN 0 ve_int))) va_nil))) (ve_var 4)) (va_im (ve_var 5) va_nil))))))))))
end
/-! _law_good -/
abbrev s_law_good : Stmt := topS 45
theorem sc_law_good : FnScope ["d", "top", "bottom"] ["d"] (defScope s_law_good) := ⟨rfl, rfl, rfl, by decide +kernel, rfl, by decide +kernel, by decide +kernel⟩
noncomputable def b_law_good : En → R Fl :=
  (dSeq (dIf (dCmp gEq (dIxN 0 (dC (.int 1))) (dC (.int 0)))
   (dRet (dTup (aIm (dC .none) (aIm (dC (.str "-")) aNil))))
   dNx)
  (dSeq (dIf (dCmp gEq (dIxN 0 (dC (.int 0))) (dC (.int 0)))
   (dSeq (dAsg (gTupD 2 (gsCons (putIm 1) (gsCons (putIm 2) gsNil))) (dFn 1 m_law_number (aIm (dSlN 0 (oI (dC (.int 15))) (oI (dC (.int 20)))) aNil)))
   (dRet (dTup (aIm (dTup (aIm (dVar 1) (aIm (dVar 2) aNil))) (aIm (dOp gAdd (dCall gStr (aIm (dVar 1) aNil)) (dOp gIx (dLst (aIm (dC (.str "")) (aIm (dOp gAdd (dC (.str "/")) (dCall gStr (aIm (dVar 2) aNil))) aNil))) (dCall gInt (aIm (dB (dCmp gGt (dVar 2) (dC (.int 1)))) aNil)))) aNil)))))
   dNx)
  (dSeq (dIf (dCmp gEq (dIxN 0 (dC (.int 0))) (dC (.int 1)))
   (dRet (dTup (aIm (dFn 1 m_law_word (aIm (dSlN 0 (oI (dC (.int 5))) (oI (dC (.int 15)))) aNil)) (aIm (dFn 1 m_law_word (aIm (dSlN 0 (oI (dC (.int 5))) (oI (dC (.int 15)))) aNil)) aNil))))
   dNx)
  (dRet (dFn 1 m_law_day (aIm (dSlN 0 (oI (dC (.int 20))) (oI (dC (.int 23)))) aNil))))))
noncomputable def m_law_good : En → R L := dDef 3 b_law_good
section
variable {P : Program} {wd : World} {K : PySem.W.Frag} {mg : Str → Option Value} {base : Heap}
theorem ok_law_good (T : Tx K mg) : FnOk P wd K mg base (L2.CX P wd) 3 (He.ga K "_law_good") (fd_law_good T) ["d"] (spD K (caK [] K) 1 m_law_good) :=
  fn_denD (F_law_good T) sc_law_good fun cdv A outer s H E g =>
  (vss_cons (vs_if (vt_cmp (op_eqD g.hr.units) ob_eq (ve_ixN 0 ve_int) ve_int (nomark _))
   (vss_one (vs_ret (ve_tup (va_im ve_non (va_im ve_str va_nil)))))
   vss_nil)
  (vss_cons (vs_if (vt_cmp (op_eqD g.hr.units) ob_eq (ve_ixN 0 ve_int) ve_int (nomark _))
   (vss_cons (vs_asg (ve_call (ok_law_number T) (g.hr.mono (by decide)) g.tk rfl (by rfl) (g_law_number T) (F_law_number T).kp (bi_law_number T) (va_im (ve_slN 0 (vo_some ve_int) (vo_some ve_int)) va_nil)) (vg_tup g.calm (vgs_cons (vg_name 1 sc_law_good.nd) (vgs_cons (vg_name 2 sc_law_good.nd) vgs_nil))) (nox_tup (nox_cons nox_put (nox_cons nox_put nox_nil))))
   (vss_one (vs_ret (ve_tup (va_im (ve_tup (va_im (ve_var 1) (va_im (ve_var 2) va_nil))) (va_im (ve_add (ve_cT call_str_int cs_str (by rfl) T.n_str boot_ty_str (va_im (ve_var 1) va_nil)) (ve_ix (ve_lst (va_im ve_str (va_im (ve_add ve_str (ve_cT call_str_int cs_str (by rfl) T.n_str boot_ty_str (va_im (ve_var 2) va_nil))) va_nil))) (ve_cT call_intA cs_int (by rfl) T.n_int boot_ty_int (va_im (ve_cmp op_gtA ob_gt (ve_var 2) ve_int (nomark _)) va_nil)))) va_nil))))))
   vss_nil)
  (vss_cons (vs_if (vt_cmp (op_eqD g.hr.units) ob_eq (ve_ixN 0 ve_int) ve_int (nomark _))
   (vss_one (vs_ret (ve_tup (va_im (ve_call (ok_law_word T) (g.hr.mono (by decide)) g.tk rfl (by rfl) (g_law_word T) (F_law_word T).kp (bi_law_word T) (va_im (ve_slN 0 (vo_some ve_int) (vo_some ve_int)) va_nil)) (va_im (ve_call (ok_law_word T) (g.hr.mono (by decide)) g.tk rfl (by rfl) (g_law_word T) (F_law_word T).kp (bi_law_word T) (va_im (ve_slN 0 (vo_some ve_int) (vo_some ve_int)) va_nil)) va_nil)))))
   vss_nil)
  (vss_one (vs_ret (ve_call (ok_law_day T) (g.hr.mono (by decide)) g.tk rfl (by rfl) (g_law_day T) (F_law_day T).kp (bi_law_day T) (va_im (ve_slN 0 (vo_some ve_int) (vo_some ve_int)) va_nil)))))))
end
/-! _law_figures -/
abbrev s_law_figures : Stmt := topS 46
theorem sc_law_figures : FnScope ["text", "sign"] ["text"] (defScope s_law_figures) := ⟨rfl, rfl, rfl, by decide +kernel, rfl, by decide +kernel, by decide +kernel⟩
noncomputable def b_law_figures_l1 : En → R Fl :=
  (dIf (dCmp gNotIn (dVar 1) (dC (.str "0123456789")))
   (dRet (d1 gNeg (dC (.int 1))))
   dNx)
noncomputable def b_law_figures : En → R Fl :=
  (dSeq (dIf (dOr (dCmp gEq (dVar 0) (dC (.str ""))) (dOr (dCmp gGt (dLenN 0) (dC (.int 60))) (dAnd (dCmp gGt (dLenN 0) (dC (.int 1))) (dCmp gEq (dIxN 0 (dC (.int 0))) (dC (.str "0"))))))
   (dRet (d1 gNeg (dC (.int 1))))
   dNx)
  (dSeq (dFor (iD (dVar 0)) (putIm 1) b_law_figures_l1)
  (dRet (dCall gInt (aIm (dVar 0) aNil)))))
noncomputable def m_law_figures : En → R L := dDef 2 b_law_figures
section
variable {P : Program} {wd : World} {K : PySem.W.Frag} {mg : Str → Option Value} {base : Heap}
theorem ok_law_figures (T : Tx K mg) : FnOk P wd K mg base (L2.CX P wd) 1 (He.ga K "_law_figures") (fd_law_figures T) ["text"] (spD K (caK [] K) 1 m_law_figures) :=
  fn_denD (F_law_figures T) sc_law_figures fun cdv A outer s H E g =>
  (vss_cons (vs_if (vt_w (vw_or (vt_cmp (op_eqD g.hr.units) ob_eq (ve_var 0) ve_str (nomark _)) (vw_or (vt_cmp op_gtA ob_gt (ve_lenN 0 (by rfl) T.n_len) ve_int (nomark _)) (vw_or1 (vt_w (vw_and (vt_cmp op_gtA ob_gt (ve_lenN 0 (by rfl) T.n_len) ve_int (nomark _)) (vw_and1 (vt_cmp (op_eqD g.hr.units) ob_eq (ve_ixN 0 ve_int) ve_str (nomark _)))))))))
   (vss_one (vs_ret (ve_neg ve_int)))
   vss_nil)
  (vss_cons (vs_for g.po g.calm (vi_val (ve_var 0)) (vg_name 1 sc_law_figures.nd) nox_put
   (vss_one (vs_if (vt_cmp (op_notInA g.u65) ob_notIn (ve_var 1) ve_str (by rfl))
   (vss_one (vs_ret (ve_neg ve_int)))
   vss_nil)))
  (vss_one (vs_ret (ve_cT call_intA cs_int (by rfl) T.n_int boot_ty_int (va_im (ve_var 0) va_nil))))))
end
/-! _law_number_by -/
abbrev s_law_number_by : Stmt := topS 47
theorem sc_law_number_by : FnScope ["text", "head", "line", "tail", "less", "top", "bottom"] ["text"] (defScope s_law_number_by) := ⟨rfl, rfl, rfl, by decide +kernel, rfl, by decide +kernel, by decide +kernel⟩
noncomputable def b_law_number_by : En → R Fl :=
  (dSeq (dAsg (gTupD 3 (gsCons (putIm 1) (gsCons (putIm 2) (gsCons (putIm 3) gsNil)))) (dM1 gPart (dVar 0) (dC (.str "/"))))
  (dSeq (dAsg (putIm 4) (dB (dCmp gEq (dSlN 1 oN (oI (dC (.int 1)))) (dC (.str "-")))))
  (dSeq (dAsg (putIm 5) (dFn 1 m_law_figures (aIm (dSlN 1 (oI (dCall gInt (aIm (dVar 4) aNil))) oN) aNil)))
  (dSeq (dAsg (putIm 6) (dC (.int 1)))
  (dSeq (dIf (dCmp gNe (dVar 2) (dC (.str "")))
   (dAsg (putIm 6) (dFn 1 m_law_figures (aIm (dVar 3) aNil)))
   dNx)
  (dSeq (dIf (dOr (dCmp gLt (dVar 5) (dC (.int 0))) (dOr (dAnd (dTru (dVar 4)) (dCmp gEq (dVar 5) (dC (.int 0)))) (dOr (dCmp gLt (dVar 6) (dC (.int 1))) (dAnd (dCmp gNe (dVar 2) (dC (.str ""))) (dCmp gLt (dVar 6) (dC (.int 2)))))))
   (dRet (dC .none))
   dNx)
  (dSeq (dIf (dOr (dCmp gGe (dVar 5) (dOp gPow (dC (.int 10)) (dC (.int 18)))) (dOr (dCmp gGt (dVar 6) (dC (.int 60))) (dCmp gNe (dFn 2 m_law_divisor (aIm (dVar 5) (aIm (dVar 6) aNil))) (dC (.int 1)))))
   (dRet (dC .none))
   dNx)
  (dRet (dTup (aIm (dOp gMul (dOp gSub (dC (.int 1)) (dOp gMul (dC (.int 2)) (dCall gInt (aIm (dVar 4) aNil)))) (dVar 5)) (aIm (dVar 6) aNil)))))))))))
noncomputable def m_law_number_by : En → R L := dDef 7 b_law_number_by
section
variable {P : Program} {wd : World} {K : PySem.W.Frag} {mg : Str → Option Value} {base : Heap}
theorem ok_law_number_by (T : Tx K mg) : FnOk P wd K mg base (L2.CX P wd) 2 (He.ga K "_law_number_by") (fd_law_number_by T) ["text"] (spD K (caK [] K) 1 m_law_number_by) :=
  fn_denD (F_law_number_by T) sc_law_number_by fun cdv A outer s H E g =>
  (vss_cons (vs_asg (ve_m1 PySem.F.slot_str_partition PySem.F.type_str_partition mt_partition ms_part (ve_var 0) ve_str) (vg_tup g.calm (vgs_cons (vg_name 1 sc_law_number_by.nd) (vgs_cons (vg_name 2 sc_law_number_by.nd) (vgs_cons (vg_name 3 sc_law_number_by.nd) vgs_nil)))) (nox_tup (nox_cons nox_put (nox_cons nox_put (nox_cons nox_put nox_nil)))))
  (vss_cons (vs_set 4 sc_law_number_by.nd (ve_cmp (op_eqD g.hr.units) ob_eq (ve_slN 1 vo_none (vo_some ve_int)) ve_str (nomark _)))
  (vss_cons (vs_set 5 sc_law_number_by.nd (ve_call (ok_law_figures T) (g.hr.mono (by decide)) g.tk rfl (by rfl) (g_law_figures T) (F_law_figures T).kp (bi_law_figures T) (va_im (ve_slN 1 (vo_some (ve_cT call_intA cs_int (by rfl) T.n_int boot_ty_int (va_im (ve_var 4) va_nil))) vo_none) va_nil)))
  (vss_cons (vs_set 6 sc_law_number_by.nd ve_int)
  (vss_cons (vs_if (vt_cmp (op_neD g.hr.units) ob_ne (ve_var 2) ve_str (nomark _))
   (vss_one (vs_set 6 sc_law_number_by.nd (ve_call (ok_law_figures T) (g.hr.mono (by decide)) g.tk rfl (by rfl) (g_law_figures T) (F_law_figures T).kp (bi_law_figures T) (va_im (ve_var 3) va_nil))))
   vss_nil)
  (vss_cons (vs_if (vt_w (vw_or (vt_cmp op_ltA ob_lt (ve_var 5) ve_int (nomark _)) (vw_or (vt_w (vw_and (vt_tru (ve_var 4)) (vw_and1 (vt_cmp (op_eqD g.hr.units) ob_eq (ve_var 5) ve_int (nomark _))))) (vw_or (vt_cmp op_ltA ob_lt (ve_var 6) ve_int (nomark _)) (vw_or1 (vt_w (vw_and (vt_cmp (op_neD g.hr.units) ob_ne (ve_var 2) ve_str (nomark _)) (vw_and1 (vt_cmp op_ltA ob_lt (ve_var 6) ve_int (nomark _))))))))))
   (vss_one (vs_ret ve_non))
   vss_nil)
  (vss_cons (vs_if (vt_w (vw_or (vt_cmp op_geA ob_ge (ve_var 5) (ve_pow ve_int ve_int) (nomark _)) (vw_or (vt_cmp op_gtA ob_gt (ve_var 6) ve_int (nomark _)) (vw_or1 (vt_cmp (op_neD g.hr.units) ob_ne (ve_call (ok_law_divisor T) (g.hr.mono (by decide)) g.tk rfl (by rfl) (g_law_divisor T) (F_law_divisor T).kp (bi_law_divisor T) (va_im (ve_var 5) (va_im (ve_var 6) va_nil))) ve_int (nomark _))))))
   (vss_one (vs_ret ve_non))
   vss_nil)
  (vss_one (vs_ret (ve_tup (va_im (ve_mul (ve_sub ve_int (ve_mul ve_int (ve_cT call_intA cs_int (by rfl) T.n_int boot_ty_int (va_im (ve_var 4) va_nil)))) (ve_var 5)) (va_im (ve_var 6) va_nil))))))))))))
end
/-! _law_day_by -/
abbrev s_law_day_by : Stmt := topS 48
theorem sc_law_day_by : FnScope ["text", "year", "month", "day"] ["text"] (defScope s_law_day_by) := ⟨rfl, rfl, rfl, by decide +kernel, rfl, by decide +kernel, by decide +kernel⟩
noncomputable def b_law_day_by : En → R Fl :=
  (dSeq (dIf (dOr (dCmp gNe (dLenN 0) (dC (.int 10))) (dOr (dCmp gNe (dIxN 0 (dC (.int 4))) (dC (.str "-"))) (dOr (dCmp gNe (dIxN 0 (dC (.int 7))) (dC (.str "-"))) (dCmp gNotIn (dIxN 0 (dC (.int 0))) (dC (.str "12345678"))))))
   (dRet (dC .none))
   dNx)
  (dSeq (dAsg (putIm 1) (dFn 1 m_law_figures (aIm (dSlN 0 oN (oI (dC (.int 4)))) aNil)))
  (dSeq (dAsg (putIm 2) (dOp gSub (dFn 1 m_law_figures (aIm (dOp gAdd (dC (.str "1")) (dSlN 0 (oI (dC (.int 5))) (oI (dC (.int 7))))) aNil)) (dC (.int 100))))
  (dSeq (dAsg (putIm 3) (dOp gSub (dFn 1 m_law_figures (aIm (dOp gAdd (dC (.str "1")) (dSlN 0 (oI (dC (.int 8))) oN)) aNil)) (dC (.int 100))))
  (dSeq (dIf (dOr (dCmp gLt (dVar 1) (dC (.int 1000))) (dOr (dCmp gLt (dVar 2) (dC (.int 1))) (dOr (dCmp gGt (dVar 2) (dC (.int 12))) (dOr (dCmp gLt (dVar 3) (dC (.int 1))) (dCmp gGt (dVar 3) (dOp gIx (dFn 1 m_law_lengths (aIm (dVar 1) aNil)) (dOp gSub (dVar 2) (dC (.int 1)))))))))
   (dRet (dC .none))
   dNx)
  (dRet (dOp gIx (dFn 1 m_law_day (aIm (dLst (aIm (dOp gSub (dVar 1) (dC (.int 1000))) (aIm (dOp gSub (dVar 2) (dC (.int 1))) (aIm (dOp gSub (dVar 3) (dC (.int 1))) aNil)))) aNil)) (dC (.int 0)))))))))
noncomputable def m_law_day_by : En → R L := dDef 4 b_law_day_by
section
variable {P : Program} {wd : World} {K : PySem.W.Frag} {mg : Str → Option Value} {base : Heap}
theorem ok_law_day_by (T : Tx K mg) : FnOk P wd K mg base (L2.CX P wd) 3 (He.ga K "_law_day_by") (fd_law_day_by T) ["text"] (spD K (caK [] K) 1 m_law_day_by) :=
  fn_denD (F_law_day_by T) sc_law_day_by fun cdv A outer s H E g =>
  (vss_cons (vs_if (vt_w (vw_or (vt_cmp (op_neD g.hr.units) ob_ne (ve_lenN 0 (by rfl) T.n_len) ve_int (nomark _)) (vw_or (vt_cmp (op_neD g.hr.units) ob_ne (ve_ixN 0 ve_int) ve_str (nomark _)) (vw_or (vt_cmp (op_neD g.hr.units) ob_ne (ve_ixN 0 ve_int) ve_str (nomark _)) (vw_or1 (vt_cmp (op_notInA g.u65) ob_notIn (ve_ixN 0 ve_int) ve_str (by rfl)))))))
   (vss_one (vs_ret ve_non))
   vss_nil)
  (vss_cons (vs_set 1 sc_law_day_by.nd (ve_call (ok_law_figures T) (g.hr.mono (by decide)) g.tk rfl (by rfl) (g_law_figures T) (F_law_figures T).kp (bi_law_figures T) (va_im (ve_slN 0 vo_none (vo_some ve_int)) va_nil)))
  (vss_cons (vs_set 2 sc_law_day_by.nd (ve_sub (ve_call (ok_law_figures T) (g.hr.mono (by decide)) g.tk rfl (by rfl) (g_law_figures T) (F_law_figures T).kp (bi_law_figures T) (va_im (ve_add ve_str (ve_slN 0 (vo_some ve_int) (vo_some ve_int))) va_nil)) ve_int))
  (vss_cons (vs_set 3 sc_law_day_by.nd (ve_sub (ve_call (ok_law_figures T) (g.hr.mono (by decide)) g.tk rfl (by rfl) (g_law_figures T) (F_law_figures T).kp (bi_law_figures T) (va_im (ve_add ve_str (ve_slN 0 (vo_some ve_int) vo_none)) va_nil)) ve_int))
  (vss_cons (vs_if (vt_w (vw_or (vt_cmp op_ltA ob_lt (ve_var 1) ve_int (nomark _)) (vw_or (vt_cmp op_ltA ob_lt (ve_var 2) ve_int (nomark _)) (vw_or (vt_cmp op_gtA ob_gt (ve_var 2) ve_int (nomark _)) (vw_or (vt_cmp op_ltA ob_lt (ve_var 3) ve_int (nomark _)) (vw_or1 (vt_cmp op_gtA ob_gt (ve_var 3) (ve_ix (ve_call (ok_law_lengths T) (g.hr.mono (by decide)) g.tk rfl (by rfl) (g_law_lengths T) (F_law_lengths T).kp (bi_law_lengths T) (va_im (ve_var 1) va_nil)) (ve_sub (ve_var 2) ve_int)) (nomark _))))))))
   (vss_one (vs_ret ve_non))
   vss_nil)
  (vss_one (vs_ret (ve_ix (ve_call (ok_law_day T) (g.hr.mono (by decide)) g.tk rfl (by rfl) (g_law_day T) (F_law_day T).kp (bi_law_day T) (va_im (ve_lst (va_im (ve_sub (ve_var 1) ve_int) (va_im (ve_sub (ve_var 2) ve_int) (va_im (ve_sub (ve_var 3) ve_int) va_nil)))) va_nil)) ve_int))))))))
end
/-! _law_cell_by -/
abbrev s_law_cell_by : Stmt := topS 49
theorem sc_law_cell_by : FnScope ["kind", "text", "plain", "sign"] ["kind", "text"] (defScope s_law_cell_by) := ⟨rfl, rfl, rfl, by decide +kernel, rfl, by decide +kernel, by decide +kernel⟩
noncomputable def b_law_cell_by_l1 : D → En → R (Option D) :=
  (lcT (putIm 3) tT
   (dB (dCmp gIn (dVar 3) (dC (.str "abcdefghijklmnopqrstuvwxyz")))))
noncomputable def b_law_cell_by : En → R Fl :=
  (dSeq (dIf (dCmp gEq (dVar 0) (dC (.int 0)))
   (dRet (dFn 1 m_law_number_by (aIm (dVar 1) aNil)))
   dNx)
  (dSeq (dIf (dCmp gEq (dVar 0) (dC (.int 2)))
   (dRet (dFn 1 m_law_day_by (aIm (dVar 1) aNil)))
   dNx)
  (dSeq (dAsg (putIm 2) (dCall gAll (aIm (dFz (nLc (iD (dVar 1)) b_law_cell_by_l1 [3])) aNil)))
  (dSeq (dIf (dAnd (dTru (dVar 2)) (dChain gLe gLe (dC (.int 1)) (dLenN 1) (dC (.int 8))))
   (dRet (dVar 1))
   dNx)
  (dRet (dC .none))))))
noncomputable def m_law_cell_by : En → R L := dDef 4 b_law_cell_by
section
variable {P : Program} {wd : World} {K : PySem.W.Frag} {mg : Str → Option Value} {base : Heap}
theorem ok_law_cell_by (T : Tx K mg) : FnOk P wd K mg base (L2.CX P wd) 4 (He.ga K "_law_cell_by") (fd_law_cell_by T) ["kind", "text"] (spD K (caK [] K) 2 m_law_cell_by) :=
  fn_denD (F_law_cell_by T) sc_law_cell_by fun cdv A outer s H E g =>
  (vss_cons (vs_if (vt_cmp (op_eqD g.hr.units) ob_eq (ve_var 0) ve_int (nomark _))
   (vss_one (vs_ret (ve_call (ok_law_number_by T) (g.hr.mono (by decide)) g.tk rfl (by rfl) (g_law_number_by T) (F_law_number_by T).kp (bi_law_number_by T) (va_im (ve_var 1) va_nil))))
   vss_nil)
  (vss_cons (vs_if (vt_cmp (op_eqD g.hr.units) ob_eq (ve_var 0) ve_int (nomark _))
   (vss_one (vs_ret (ve_call (ok_law_day_by T) (g.hr.mono (by decide)) g.tk rfl (by rfl) (g_law_day_by T) (F_law_day_by T).kp (bi_law_day_by T) (va_im (ve_var 1) va_nil))))
   vss_nil)
  (vss_cons (vs_set 2 sc_law_cell_by.nd (ve_cB (cr_all g.calm) cs_all (by rfl) T.n_all boot_B_all (va_im (ve_fz (vn_lcG [("sign", 3)] g sc_law_cell_by.nd (vi_val (ve_var 1)) (by kernel_rfl)
   (fun s H C cl fp g => (vgc_name 3 (by decide) sc_law_cell_by.nd)) (fun s H C cl fp g => vts_nil)
   (fun s H C cl fp g => (ve_cmp (op_inA g.u65) ob_in (ve_var 3) ve_str (by rfl))))) va_nil)))
  (vss_cons (vs_if (vt_w (vw_and (vt_tru (ve_var 2)) (vw_and1 (vt_chain op_leA ob_le op_leA ob_le ve_int (ve_lenN 1 (by rfl) T.n_len) ve_int))))
   (vss_one (vs_ret (ve_var 1)))
   vss_nil)
  (vss_one (vs_ret ve_non))))))
end
/-! _law_made -/
abbrev s_law_made : Stmt := topS 50
theorem sc_law_made : FnScope ["text", "d", "some", "sign", "at", "odd", "choices"] ["text", "d"] (defScope s_law_made) := ⟨rfl, rfl, rfl, by decide +kernel, rfl, by decide +kernel, by decide +kernel⟩
noncomputable def b_law_made : En → R Fl :=
  (dSeq (dAsg (putIm 2) (dC (.str " !\"#$&'()*+,-./0123456789:;<=>?\u0040ABCDEFGHIJKLMNOPQRSTUVWXYZ[\\]^_`abcdefghijklmnopqrstuvwxyz{|}~\n")))
  (dSeq (dAsg (putIm 3) (dIxN 2 (dOp gMod (dIxN 1 (dC (.int 3))) (dLenN 2))))
  (dSeq (dAsg (putIm 4) (dOp gMod (dIxN 1 (dC (.int 4))) (dOp gAdd (dLenN 0) (dC (.int 1)))))
  (dSeq (dAsg (putIm 5) (dLst (aIm (dC (.str "")) (aIm (dC (.str "--")) (aIm (dC (.str "+5")) (aIm (dC (.str "05")) (aIm (dC (.str "-0")) (aIm (dC (.str "0")) (aIm (dC (.str "5/1")) (aIm (dC (.str "2/4")) (aIm (dC (.str "7/61")) (aIm (dC (.str "1000000000000000000")) (aIm (dC (.str "-999999999999999999/59")) aNil)))))))))))))
  (dSeq (dAsg (putIm 5) (dOp gAdd (dVar 5) (dLst (aIm (dC (.str "0999-12-31")) (aIm (dC (.str "1000-01-01")) (aIm (dC (.str "8999-12-31")) (aIm (dC (.str "9000-01-01")) (aIm (dC (.str "1900-02-29")) (aIm (dC (.str "2000-02-29")) (aIm (dC (.str "2001-00-10")) aNil))))))))))
  (dSeq (dAsg (putIm 5) (dOp gAdd (dVar 5) (dLst (aIm (dC (.str "2001-13-01")) (aIm (dC (.str "2001-04-31")) (aIm (dC (.str "2001-4-3")) (aIm (dC (.str "abcdefghi")) (aIm (dC (.str "aB")) (aIm (dC (.str "a b")) (aIm (dC (.str "None")) (aIm (dC (.str "1/0")) (aIm (dC (.str "/2")) (aIm (dC (.str "5/")) (aIm (dC (.str "5/-2")) aNil))))))))))))))
  (dSeq (dAsg (putIm 5) (dOp gAdd (dVar 5) (dLst (aIm (dC (.str "none")) (aIm (dC (.str "1//2")) (aIm (dC (.str "- 5")) (aIm (dC (.str "0/5")) (aIm (dC (.str "2004-02-29")) (aIm (dC (.str "2100-02-28")) (aIm (dC (.str "2001-01-00")) (aIm (dC (.str "1e5")) (aIm (dC (.str "1_000")) (aIm (dC (.str "1.5")) (aIm (dC (.str "3/05")) aNil))))))))))))))
  (dSeq (dAsgL 6 (nLst (aIm (dOp gAdd (dOp gAdd (dSlN 0 oN (oI (dVar 4))) (dVar 3)) (dSlN 0 (oI (dVar 4)) oN)) (aIm (dOp gAdd (dOp gAdd (dSlN 0 oN (oI (dVar 4))) (dVar 3)) (dSlN 0 (oI (dOp gAdd (dVar 4) (dC (.int 1)))) oN)) (aIm (dOp gAdd (dSlN 0 oN (oI (dVar 4))) (dSlN 0 (oI (dOp gAdd (dVar 4) (dC (.int 1)))) oN)) (aIm (dOp gAdd (dVar 0) (dC (.str "\n"))) aNil))))))
  (dSeq (dAsgL 6 (nCat (dVar 6) (dLst (aIm (dOp gAdd (dC (.str " ")) (dVar 0)) (aIm (dOp gAdd (dVar 0) (dC (.str " "))) (aIm (dIxN 5 (dOp gMod (dIxN 1 (dC (.int 3))) (dC (.int 40)))) (aIm (dOp gAdd (dVar 0) (dVar 0)) (aIm (dOp gAdd (dOp gAdd (dSlN 0 oN (oI (dVar 4))) (dCall gStr (aIm (dOp gMod (dIxN 1 (dC (.int 3))) (dC (.int 10))) aNil))) (dSlN 0 (oI (dVar 4)) oN)) aNil))))))))
  (dSeq (dApp 6 (dOp gAdd (dC (.str "-")) (dVar 0)))
  (dRet (dIxN 6 (dIxN 1 (dC (.int 2)))))))))))))))
noncomputable def m_law_made : En → R L := dDef 7 b_law_made
section
variable {P : Program} {wd : World} {K : PySem.W.Frag} {mg : Str → Option Value} {base : Heap}
theorem ok_law_made (T : Tx K mg) : FnOk P wd K mg base (L2.CX P wd) 1 (He.ga K "_law_made") (fd_law_made T) ["text", "d"] (spD K (caK [] K) 2 m_law_made) :=
  fn_denD (F_law_made T) sc_law_made fun cdv A outer s H E g =>
  (vss_cons (vs_set 2 sc_law_made.nd ve_str)
  (vss_cons (vs_set 3 sc_law_made.nd (ve_ixN 2 (ve_mod (ve_ixN 1 ve_int) (ve_lenN 2 (by rfl) T.n_len))))
  (vss_cons (vs_set 4 sc_law_made.nd (ve_mod (ve_ixN 1 ve_int) (ve_add (ve_lenN 0 (by rfl) T.n_len) ve_int)))
  (vss_cons (vs_set 5 sc_law_made.nd (ve_lst (va_im ve_str (va_im ve_str (va_im ve_str (va_im ve_str (va_im ve_str (va_im ve_str (va_im ve_str (va_im ve_str (va_im ve_str (va_im ve_str (va_im ve_str va_nil)))))))))))))
  (vss_cons (vs_set 5 sc_law_made.nd (ve_add (ve_var 5) (ve_lst (va_im ve_str (va_im ve_str (va_im ve_str (va_im ve_str (va_im ve_str (va_im ve_str (va_im ve_str va_nil))))))))))
  (vss_cons (vs_set 5 sc_law_made.nd (ve_add (ve_var 5) (ve_lst (va_im ve_str (va_im ve_str (va_im ve_str (va_im ve_str (va_im ve_str (va_im ve_str (va_im ve_str (va_im ve_str (va_im ve_str (va_im ve_str (va_im ve_str va_nil))))))))))))))
  (vss_cons (vs_set 5 sc_law_made.nd (ve_add (ve_var 5) (ve_lst (va_im ve_str (va_im ve_str (va_im ve_str (va_im ve_str (va_im ve_str (va_im ve_str (va_im ve_str (va_im ve_str (va_im ve_str (va_im ve_str (va_im ve_str va_nil))))))))))))))
  (vss_cons (vs_setL 6 sc_law_made.nd (vn_lst (va_im (ve_add (ve_add (ve_slN 0 vo_none (vo_some (ve_var 4))) (ve_var 3)) (ve_slN 0 (vo_some (ve_var 4)) vo_none)) (va_im (ve_add (ve_add (ve_slN 0 vo_none (vo_some (ve_var 4))) (ve_var 3)) (ve_slN 0 (vo_some (ve_add (ve_var 4) ve_int)) vo_none)) (va_im (ve_add (ve_slN 0 vo_none (vo_some (ve_var 4))) (ve_slN 0 (vo_some (ve_add (ve_var 4) ve_int)) vo_none)) (va_im (ve_add (ve_var 0) ve_str) va_nil))))))
  (vss_cons (vs_setL 6 sc_law_made.nd (vn_cat (ve_var 6) (ve_lst (va_im (ve_add ve_str (ve_var 0)) (va_im (ve_add (ve_var 0) ve_str) (va_im (ve_ixN 5 (ve_mod (ve_ixN 1 ve_int) ve_int)) (va_im (ve_add (ve_var 0) (ve_var 0)) (va_im (ve_add (ve_add (ve_slN 0 vo_none (vo_some (ve_var 4))) (ve_cT call_str_int cs_str (by rfl) T.n_str boot_ty_str (va_im (ve_mod (ve_ixN 1 ve_int) ve_int) va_nil))) (ve_slN 0 (vo_some (ve_var 4)) vo_none)) va_nil))))))))
  (vss_cons (vs_append 6 (ve_add ve_str (ve_var 0)))
  (vss_one (vs_ret (ve_ixN 6 (ve_ixN 1 ve_int))))))))))))))
end
/-! _law_alike -/
abbrev s_law_alike : Stmt := topS 51
theorem sc_law_alike : FnScope ["found", "due"] ["found", "due"] (defScope s_law_alike) := ⟨rfl, rfl, rfl, by decide +kernel, rfl, by decide +kernel, by decide +kernel⟩
noncomputable def b_law_alike : En → R Fl :=
  (dSeq (dIf (dOr (dCmp gIs (dVar 1) (dC .none)) (dIsi "str" (dVar 1)))
   (dRet (dAndV (dCmp gEq (dVar 0) (dVar 1)) (dB (dCmp gEq (dB (dIsi "str" (dVar 0))) (dB (dIsi "str" (dVar 1)))))))
   dNx)
  (dSeq (dIf (dNot (dIsi "tuple" (dVar 1)))
   (dRet (dAndV (dUB (dFn 1 m_law_whole (aIm (dVar 0) aNil))) (dB (dCmp gEq (dVar 0) (dVar 1)))))
   dNx)
  (dSeq (dIf (dOr (dNot (dIsi "tuple" (dVar 0))) (dCmp gNe (dLenN 0) (dC (.int 2))))
   (dRet (dC (.bool false)))
   dNx)
  (dRet (dAndV (dUB (dFn 1 m_law_whole (aIm (dIxN 0 (dC (.int 0))) aNil))) (dAndV (dUB (dFn 1 m_law_whole (aIm (dIxN 0 (dC (.int 1))) aNil))) (dB (dCmp gEq (dVar 0) (dVar 1)))))))))
noncomputable def m_law_alike : En → R L := dDef 2 b_law_alike
section
variable {P : Program} {wd : World} {K : PySem.W.Frag} {mg : Str → Option Value} {base : Heap}
theorem ok_law_alike (T : Tx K mg) : FnOk P wd K mg base (L2.CX P wd) 2 (He.ga K "_law_alike") (fd_law_alike T) ["found", "due"] (spD K (caK [] K) 2 m_law_alike) :=
  fn_denD (F_law_alike T) sc_law_alike fun cdv A outer s H E g =>
  (vss_cons (vs_if (vt_w (vw_or (vt_cmp op_isP ob_is (ve_var 1) ve_non (nomark _)) (vw_or1 (vt_b (ve_isi (by rfl) T.n_isinstance (ve_var 1) (by rfl) T.n_str boot_ty_str)))))
   (vss_one (vs_ret (ve_and (ve_cmp (op_eqD g.hr.units) ob_eq (ve_var 0) (ve_var 1) (nomark _)) (ve_and1 (ve_cmp (op_eqD g.hr.units) ob_eq (ve_isi (by rfl) T.n_isinstance (ve_var 0) (by rfl) T.n_str boot_ty_str) (ve_isi (by rfl) T.n_isinstance (ve_var 1) (by rfl) T.n_str boot_ty_str) (nomark _))))))
   vss_nil)
  (vss_cons (vs_if (vt_not (vt_b (ve_isi (by rfl) T.n_isinstance (ve_var 1) (by rfl) T.n_tuple boot_ty_tuple)))
   (vss_one (vs_ret (ve_and (ve_ub (ve_call (ok_law_whole T) (g.hr.mono (by decide)) g.tk rfl (by rfl) (g_law_whole T) (F_law_whole T).kp (bi_law_whole T) (va_im (ve_var 0) va_nil))) (ve_and1 (ve_cmp (op_eqD g.hr.units) ob_eq (ve_var 0) (ve_var 1) (nomark _))))))
   vss_nil)
  (vss_cons (vs_if (vt_w (vw_or (vt_not (vt_b (ve_isi (by rfl) T.n_isinstance (ve_var 0) (by rfl) T.n_tuple boot_ty_tuple))) (vw_or1 (vt_cmp (op_neD g.hr.units) ob_ne (ve_lenN 0 (by rfl) T.n_len) ve_int (nomark _)))))
   (vss_one (vs_ret ve_bl))
   vss_nil)
  (vss_one (vs_ret (ve_and (ve_ub (ve_call (ok_law_whole T) (g.hr.mono (by decide)) g.tk rfl (by rfl) (g_law_whole T) (F_law_whole T).kp (bi_law_whole T) (va_im (ve_ixN 0 ve_int) va_nil))) (ve_and (ve_ub (ve_call (ok_law_whole T) (g.hr.mono (by decide)) g.tk rfl (by rfl) (g_law_whole T) (F_law_whole T).kp (bi_law_whole T) (va_im (ve_ixN 0 ve_int) va_nil))) (ve_and1 (ve_cmp (op_eqD g.hr.units) ob_eq (ve_var 0) (ve_var 1) (nomark _))))))))))
end
/-! _law_refused -/
abbrev s_law_refused : Stmt := topS 52
theorem sc_law_refused : FnScope ["kind", "text", "e"] ["kind", "text"] (defScope s_law_refused) := ⟨rfl, rfl, rfl, by decide +kernel, rfl, by decide +kernel, by decide +kernel⟩
noncomputable def b_law_refused : En → R Fl :=
  (dSeq (dTryAs 2 (dDrop (dFn 2 m_read_cell (aIm (dVar 0) (aIm (dVar 1) aNil)))) cat_NoTable
   (fun a dx c => (dSeq (dIf (dOr (dIsE a dx c 2 is_NoNumber) (dOr (dIsE a dx c 2 is_NoDay) (dNot (dIsE a dx c 2 is_ValueError))))
    (dRet (dC (.bool false)))
    dNx)
   (dRet (dAndV (dIsE a dx c 2 is_MarkError) (dB (dCmp gIs (dXF a dx c 2 "NoTable" "row") (dC .none))))))))
  (dRet (dC (.bool false))))
noncomputable def m_law_refused : En → R L := dDef 3 b_law_refused
section
variable {P : Program} {wd : World} {K : PySem.W.Frag} {mg : Str → Option Value} {base : Heap}
theorem ok_law_refused (T : Tx K mg) : FnOk P wd K mg base (L2.CX P wd) 7 (He.ga K "_law_refused") (fd_law_refused T) ["kind", "text"] (spD K (caK [] K) 2 m_law_refused) :=
  fn_denD (F_law_refused T) sc_law_refused fun cdv A outer s H E g =>
  (vss_cons (vs_tryAs 2 rfl rfl sc_law_refused.nd rfl rfl ⟨by rfl, by decide, .inl (g_NoTable T)⟩ g.tk g.calm g.hr (cat_NoTable_ok T)
   (fun W pn xe g => (vss_one (vs_expr (ve_call (ok_read_cell T) (g.hr.mono (by decide)) g.tk rfl (by rfl) (g_read_cell T) (F_read_cell T).kp (bi_read_cell T) (va_im (ve_var 0) (va_im (ve_var 1) va_nil))))))
   (fun a oe cls d pn e hz hf hc hn => (vss_cons (vs_if (vt_w (vw_or (vt_b (ve_isE 2 hz hf hc hn (is_NoNumber_ok T hc) (is_NoNumber_kit T hc) (by rfl) T.n_isinstance (pe_glob (v := .ref (He.ga _ "NoNumber")) (by rfl) (g_NoNumber T) rfl) (fun _ h => h))) (vw_or (vt_b (ve_isE 2 hz hf hc hn (is_NoDay_ok T hc) (is_NoDay_kit T hc) (by rfl) T.n_isinstance (pe_glob (v := .ref (He.ga _ "NoDay")) (by rfl) (g_NoDay T) rfl) (fun _ h => h))) (vw_or1 (vt_not (vt_b (ve_isE 2 hz hf hc hn (is_ValueError_ok T hc) (is_ValueError_kit T hc) (by rfl) T.n_isinstance (pe_bltn (v := .ty "ValueError") (by rfl) T.n_ValueError boot_exc_ValueError rfl) (fun _ h => h))))))))
    (vss_one (vs_ret ve_bl))
    vss_nil)
   (vss_one (vs_ret (ve_and (ve_isE 2 hz hf hc hn (is_MarkError_ok T hc) (is_MarkError_kit T hc) (by rfl) T.n_isinstance (pe_glob (v := .ref (He.ga _ "MarkError")) (by rfl) (g_MarkError T) rfl) (fun _ h => h)) (ve_and1 (ve_cmp op_isP ob_is (ve_xf 2 (nm := "NoTable") hz hf hc rfl (ini_NoTable T).x (ini_NoTable T).n) ve_non (nomark _)))))))))
  (vss_one (vs_ret ve_bl)))
end
/-! law -/
abbrev s_law : Stmt := topS 53
theorem sc_law : FnScope ["script", "cell", "tops", "d", "kind", "good", "text", "shown", "other", "word", "made", "due", "odd"] ["script"] (defScope s_law) := ⟨rfl, rfl, rfl, by decide +kernel, rfl, by decide +kernel, by decide +kernel⟩
noncomputable def b_law_l1 : En → R Fl :=
  (dSeq (dAsg (putIm 2) (dOp gAdd (dLst (aIm (dC (.int 3)) (aIm (dC (.int 9)) (aIm (dC (.int 10)) (aIm (dOp gMul (dOp gMul (dC (.int 95)) (dC (.int 3))) (dC (.int 40))) (aIm (dC (.int 1000)) (aIm (dC (.int 8)) (aIm (dC (.int 2)) aNil)))))))) (dMulL (nLst (aIm (dC (.int 26)) aNil)) (qC (.int 8)))))
  (dSeq (dAsg (putIm 3) (dFn 2 m_law_draws (aIm (dVar 1) (aIm (dOp gAdd (dVar 2) (dLst (aIm (dC (.int 2)) (aIm (dC (.int 4)) (aIm (dOp gPow (dC (.int 10)) (dC (.int 9))) (aIm (dOp gPow (dC (.int 10)) (dC (.int 9))) (aIm (dC (.int 90)) (aIm (dC (.int 8000)) (aIm (dC (.int 12)) (aIm (dC (.int 31)) aNil)))))))))) aNil))))
  (dSeq (dAsg (putIm 4) (dOp gIx (dLst (aIm (dC (.str "number")) (aIm (dC (.str "word")) (aIm (dC (.str "day")) aNil)))) (dIxN 3 (dC (.int 0)))))
  (dSeq (dAsg (gTupD 2 (gsCons (putIm 5) (gsCons (putIm 6) gsNil))) (dFn 1 m_law_good (aIm (dVar 3) aNil)))
  (dSeq (dAsg (putIm 7) (dFn 2 m_show_cell (aIm (dVar 4) (aIm (dVar 5) aNil))))
  (dSeq (dIf (dOr (dNot (dIsi "str" (dVar 7))) (dOr (dCmp gNe (dVar 7) (dVar 6)) (dNot (dTru (dFn 2 m_law_alike (aIm (dFn 2 m_read_cell (aIm (dVar 4) (aIm (dVar 6) aNil))) (aIm (dVar 5) aNil)))))))
   (dRet (dC (.bool false)))
   dNx)
  (dSeq (dAsg (putIm 8) (dOp gMod (dOp gAdd (dIxN 3 (dC (.int 0))) (dOp gMul (dCall gInt (aIm (dB (dCmp gEq (dOp gMod (dIxN 3 (dC (.int 4))) (dC (.int 7))) (dC (.int 3)))) aNil)) (dOp gAdd (dC (.int 1)) (dOp gMod (dIxN 3 (dC (.int 3))) (dC (.int 2)))))) (dC (.int 3))))
  (dSeq (dAsg (putIm 9) (dOp gIx (dLst (aIm (dC (.str "number")) (aIm (dC (.str "word")) (aIm (dC (.str "day")) aNil)))) (dVar 8)))
  (dSeq (dAsg (putIm 10) (dFn 2 m_law_made (aIm (dVar 6) (aIm (dVar 3) aNil))))
  (dSeq (dAsg (putIm 11) (dFn 2 m_law_cell_by (aIm (dVar 8) (aIm (dVar 10) aNil))))
  (dSeq (dIf (dOr (dCmp gEq (dVar 10) (dC (.str "-"))) (dCmp gIsNot (dVar 11) (dC .none)))
   (dIf (dNot (dTru (dFn 2 m_law_alike (aIm (dFn 2 m_read_cell (aIm (dVar 9) (aIm (dVar 10) aNil))) (aIm (dVar 11) aNil)))))
    (dRet (dC (.bool false)))
    dNx)
   (dIf (dNot (dTru (dFn 2 m_law_refused (aIm (dVar 9) (aIm (dVar 10) aNil)))))
    (dRet (dC (.bool false)))
    dNx))
  (dSeq (dAsg (putIm 12) (dOp gIx (dLst (aIm (dC .none) (aIm (dC (.int 5)) (aIm (dC (.bool true)) (aIm (dLst (aIm (dVar 6) aNil)) (aIm (dTup (aIm (dVar 6) aNil)) (aIm (dB (dCmp gEq (dVar 5) (dVar 6))) aNil))))))) (dOp gMod (dIxN 3 (dC (.int 3))) (dC (.int 6)))))
  (dIf (dOr (dNot (dTru (dFn 2 m_law_refused (aIm (dVar 4) (aIm (dVar 12) aNil))))) (dNot (dTru (dFn 2 m_law_alike (aIm (dFn 2 m_read_cell (aIm (dVar 4) (aIm (dVar 6) aNil))) (aIm (dVar 5) aNil))))))
   (dRet (dC (.bool false)))
   dNx)))))))))))))
noncomputable def b_law : En → R Fl :=
  (dSeq (dFor (iD (dSl (dOp gAdd (dVar 0) (dLst (aIm (dC (.int 0)) aNil))) oN (oI (dC (.int 64))))) (putIm 1) b_law_l1)
  (dRet (dC (.bool true))))
noncomputable def m_law : En → R L := dDef 13 b_law
section
variable {P : Program} {wd : World} {K : PySem.W.Frag} {mg : Str → Option Value} {base : Heap}
theorem ok_law (T : Tx K mg) : FnOk P wd K mg base (L2.CX P wd) 8 (He.ga K "law") (fd_law T) ["script"] (spD K (caK [] K) 1 m_law) :=
  fn_denD (F_law T) sc_law fun cdv A outer s H E g =>
  (vss_cons (vs_for g.po g.calm (vi_val (ve_sl (ve_add (ve_var 0) (ve_lst (va_im ve_int va_nil))) vo_none (vo_some ve_int))) (vg_name 1 sc_law.nd) nox_put
   (vss_cons (vs_set 2 sc_law.nd (ve_add (ve_lst (va_im ve_int (va_im ve_int (va_im ve_int (va_im (ve_mul (ve_mul ve_int ve_int) ve_int) (va_im ve_int (va_im ve_int (va_im ve_int va_nil)))))))) (ve_mulL (vn_lst (va_im ve_int va_nil)) vq_int)))
  (vss_cons (vs_set 3 sc_law.nd (ve_call (ok_law_draws T) (g.hr.mono (by decide)) g.tk rfl (by rfl) (g_law_draws T) (F_law_draws T).kp (bi_law_draws T) (va_im (ve_var 1) (va_im (ve_add (ve_var 2) (ve_lst (va_im ve_int (va_im ve_int (va_im (ve_pow ve_int ve_int) (va_im (ve_pow ve_int ve_int) (va_im ve_int (va_im ve_int (va_im ve_int (va_im ve_int va_nil)))))))))) va_nil))))
  (vss_cons (vs_set 4 sc_law.nd (ve_ix (ve_lst (va_im ve_str (va_im ve_str (va_im ve_str va_nil)))) (ve_ixN 3 ve_int)))
  (vss_cons (vs_asg (ve_call (ok_law_good T) (g.hr.mono (by decide)) g.tk rfl (by rfl) (g_law_good T) (F_law_good T).kp (bi_law_good T) (va_im (ve_var 3) va_nil)) (vg_tup g.calm (vgs_cons (vg_name 5 sc_law.nd) (vgs_cons (vg_name 6 sc_law.nd) vgs_nil))) (nox_tup (nox_cons nox_put (nox_cons nox_put nox_nil))))
  (vss_cons (vs_set 7 sc_law.nd (ve_call (ok_show_cell T) (g.hr.mono (by decide)) g.tk rfl (by rfl) (g_show_cell T) (F_show_cell T).kp (bi_show_cell T) (va_im (ve_var 4) (va_im (ve_var 5) va_nil))))
  (vss_cons (vs_if (vt_w (vw_or (vt_not (vt_b (ve_isi (by rfl) T.n_isinstance (ve_var 7) (by rfl) T.n_str boot_ty_str))) (vw_or (vt_cmp (op_neD g.hr.units) ob_ne (ve_var 7) (ve_var 6) (nomark _)) (vw_or1 (vt_not (vt_tru (ve_call (ok_law_alike T) (g.hr.mono (by decide)) g.tk rfl (by rfl) (g_law_alike T) (F_law_alike T).kp (bi_law_alike T) (va_im (ve_call (ok_read_cell T) (g.hr.mono (by decide)) g.tk rfl (by rfl) (g_read_cell T) (F_read_cell T).kp (bi_read_cell T) (va_im (ve_var 4) (va_im (ve_var 6) va_nil))) (va_im (ve_var 5) va_nil)))))))))
   (vss_one (vs_ret ve_bl))
   vss_nil)
  (vss_cons (vs_set 8 sc_law.nd (ve_mod (ve_add (ve_ixN 3 ve_int) (ve_mul (ve_cT call_intA cs_int (by rfl) T.n_int boot_ty_int (va_im (ve_cmp (op_eqD g.hr.units) ob_eq (ve_mod (ve_ixN 3 ve_int) ve_int) ve_int (nomark _)) va_nil)) (ve_add ve_int (ve_mod (ve_ixN 3 ve_int) ve_int)))) ve_int))
  (vss_cons (vs_set 9 sc_law.nd (ve_ix (ve_lst (va_im ve_str (va_im ve_str (va_im ve_str va_nil)))) (ve_var 8)))
  (vss_cons (vs_set 10 sc_law.nd (ve_call (ok_law_made T) (g.hr.mono (by decide)) g.tk rfl (by rfl) (g_law_made T) (F_law_made T).kp (bi_law_made T) (va_im (ve_var 6) (va_im (ve_var 3) va_nil))))
  (vss_cons (vs_set 11 sc_law.nd (ve_call (ok_law_cell_by T) (g.hr.mono (by decide)) g.tk rfl (by rfl) (g_law_cell_by T) (F_law_cell_by T).kp (bi_law_cell_by T) (va_im (ve_var 8) (va_im (ve_var 10) va_nil))))
  (vss_cons (vs_if (vt_w (vw_or (vt_cmp (op_eqD g.hr.units) ob_eq (ve_var 10) ve_str (nomark _)) (vw_or1 (vt_cmp op_isNotP ob_isNot (ve_var 11) ve_non (nomark _)))))
   (vss_one (vs_if (vt_not (vt_tru (ve_call (ok_law_alike T) (g.hr.mono (by decide)) g.tk rfl (by rfl) (g_law_alike T) (F_law_alike T).kp (bi_law_alike T) (va_im (ve_call (ok_read_cell T) (g.hr.mono (by decide)) g.tk rfl (by rfl) (g_read_cell T) (F_read_cell T).kp (bi_read_cell T) (va_im (ve_var 9) (va_im (ve_var 10) va_nil))) (va_im (ve_var 11) va_nil)))))
    (vss_one (vs_ret ve_bl))
    vss_nil))
   (vss_one (vs_if (vt_not (vt_tru (ve_call (ok_law_refused T) (g.hr.mono (by decide)) g.tk rfl (by rfl) (g_law_refused T) (F_law_refused T).kp (bi_law_refused T) (va_im (ve_var 9) (va_im (ve_var 10) va_nil)))))
    (vss_one (vs_ret ve_bl))
    vss_nil)))
  (vss_cons (vs_set 12 sc_law.nd (ve_ix (ve_lst (va_im ve_non (va_im ve_int (va_im ve_bl (va_im (ve_lst (va_im (ve_var 6) va_nil)) (va_im (ve_tup (va_im (ve_var 6) va_nil)) (va_im (ve_cmp (op_eqD g.hr.units) ob_eq (ve_var 5) (ve_var 6) (nomark _)) va_nil))))))) (ve_mod (ve_ixN 3 ve_int) ve_int)))
  (vss_one (vs_if (vt_w (vw_or (vt_not (vt_tru (ve_call (ok_law_refused T) (g.hr.mono (by decide)) g.tk rfl (by rfl) (g_law_refused T) (F_law_refused T).kp (bi_law_refused T) (va_im (ve_var 4) (va_im (ve_var 12) va_nil))))) (vw_or1 (vt_not (vt_tru (ve_call (ok_law_alike T) (g.hr.mono (by decide)) g.tk rfl (by rfl) (g_law_alike T) (F_law_alike T).kp (bi_law_alike T) (va_im (ve_call (ok_read_cell T) (g.hr.mono (by decide)) g.tk rfl (by rfl) (g_read_cell T) (F_read_cell T).kp (bi_read_cell T) (va_im (ve_var 4) (va_im (ve_var 6) va_nil))) (va_im (ve_var 5) va_nil))))))))
   (vss_one (vs_ret ve_bl))
   vss_nil)))))))))))))))
  (vss_one (vs_ret ve_bl)))
end
end Lw
namespace Dn
open PySem PySem.Spec PyProof.Rows L2
/-! ### texts by their signs -/
abbrev cS (a : List Nat) : Option L := some (.im (.str (SX.S a)))
theorem sLine {n : Nat} (h : n ≤ 1000000) : n ≤ sizeLine := by have := PySem.sizeLine_eq; omega
/-- signs below 128 -/
def okS (a : List Nat) : Prop := ∀ c ∈ a, c < 128
theorem okS.app {a b : List Nat} (h : okS a) (h2 : okS b) : okS (a ++ b) := fun c hc => (List.mem_append.mp hc).elim (h c) (h2 c)
theorem okS.take {a : List Nat} (h : okS a) (k : Nat) : okS (a.take k) := fun c hc => h c (List.mem_of_mem_take hc)
theorem okS.drop {a : List Nat} (h : okS a) (k : Nat) : okS (a.drop k) := fun c hc => h c (List.mem_of_mem_drop hc)
theorem okS.num (n : Nat) : okS (TL.numL n) := fun c hc => by have := TL.numL_digits n c hc; omega
theorem shpS {a : List Nat} (h : okS a) : shp (.str (SX.S a)) = true := by
  have : PyData.strOk (SX.S a) = true := by
    show (SX.S a).cps.all (· < 0x110000) = true
    rw [← Array.all_toList, List.all_eq_true]
    intro c hc
    have := h c hc
    exact decide_eq_true (by omega)
  unfold shp SeqAt.shaped
  simp only [PyData.canLay0, PyData.depth, this]
  rfl
theorem S_iff {a b : List Nat} : SX.S a = SX.S b ↔ a = b := ⟨SX.S_inj, fun h => by rw [h]⟩
theorem gEq_S {a b : List Nat} (ha : okS a) (hb : okS b) : gEq (.str (SX.S a)) (.str (SX.S b)) = some (decide (a = b)) := by rw [gEq_of (shpS ha) (shpS hb), eqv_ss]; simp only [S_iff]
theorem gNe_S {a b : List Nat} (ha : okS a) (hb : okS b) : gNe (.str (SX.S a)) (.str (SX.S b)) = some (!decide (a = b)) := by rw [gNe_of (shpS ha) (shpS hb), eqv_ss]; simp only [S_iff]
theorem gLen_S {a : List Nat} (h : a.length ≤ 1000000) : gLen1 (.str (SX.S a)) = some (.int a.length) := by
  show (if (SX.S a).length ≤ sizeLine then some (PyData.int (SX.S a).length) else none) = _
  rw [SX.S_len, if_pos (sLine h)]
theorem gAdd_S {a b : List Nat} (h : a.length + b.length ≤ 1000000) : gAdd (.str (SX.S a)) (.str (SX.S b)) = some (.str (SX.S (a ++ b))) := by
  show (if (SX.S a).length + (SX.S b).length ≤ sizeLine then some (PyData.str (SX.S a ++ SX.S b)) else none) = _
  rw [SX.S_len, SX.S_len, if_pos (sLine h), SX.S_cat]
theorem cut_take {α : Type} (ds : List α) (k : Nat) : (ds.drop (HT.sIx ds.length 0 none)).take (HT.sIx ds.length ds.length (some (k : Int)) - HT.sIx ds.length 0 none) = ds.take k := by
  rw [HT.sIx_none, HT.sIx_nat, List.drop_zero, Nat.sub_zero]
  by_cases h : k ≤ ds.length
  · rw [Nat.min_eq_left h]
  · rw [Nat.min_eq_right (by omega), List.take_of_length_le (by omega), List.take_of_length_le (by omega)]
theorem cut_drop {α : Type} (ds : List α) (k : Nat) : (ds.drop (HT.sIx ds.length 0 (some (k : Int)))).take (HT.sIx ds.length ds.length none - HT.sIx ds.length 0 (some (k : Int))) = ds.drop k := by
  rw [HT.sIx_none, HT.sIx_nat]
  by_cases h : k ≤ ds.length
  · rw [Nat.min_eq_left h, List.take_of_length_le (by rw [List.length_drop]; omega)]
  · rw [Nat.min_eq_right (by omega), Nat.sub_self, List.take_zero, List.drop_eq_nil_of_le (by omega)]
theorem gSl_to {a : List Nat} (h : a.length ≤ 1000000) (k : Nat) : gSl (.str (SX.S a)) none (some (k : Int)) = some (.str (SX.S (a.take k))) := by
  show (if (SX.S a).length ≤ sizeLine then some (PyData.str (cutS (SX.S a) none (some (k : Int)))) else none) = _
  rw [SX.S_len, if_pos (sLine h)]
  exact congrArg (fun z => some (PyData.str (SX.S z))) (cut_take a k)
theorem gSl_from {a : List Nat} (h : a.length ≤ 1000000) (k : Nat) : gSl (.str (SX.S a)) (some (k : Int)) none = some (.str (SX.S (a.drop k))) := by
  show (if (SX.S a).length ≤ sizeLine then some (PyData.str (cutS (SX.S a) (some (k : Int)) none)) else none) = _
  rw [SX.S_len, if_pos (sLine h)]
  exact congrArg (fun z => some (PyData.str (SX.S z))) (cut_drop a k)
theorem cut_mid {α : Type} (ds : List α) (i j : Nat) : (ds.drop (HT.sIx ds.length 0 (some (i : Int)))).take (HT.sIx ds.length ds.length (some (j : Int)) - HT.sIx ds.length 0 (some (i : Int))) = (ds.take j).drop i := by
  rw [HT.sIx_nat, HT.sIx_nat, List.drop_take]
  by_cases h : i ≤ ds.length
  · rw [Nat.min_eq_left h]
    by_cases h2 : j ≤ ds.length
    · rw [Nat.min_eq_left h2]
    · rw [Nat.min_eq_right (by omega), List.take_of_length_le (by rw [List.length_drop]; omega), List.take_of_length_le (by rw [List.length_drop]; omega)]
  · have e2 : ds.drop i = [] := List.drop_eq_nil_of_le (by omega)
    rw [Nat.min_eq_right (show ds.length ≤ i by omega), List.drop_length, e2]
    simp
theorem gSl_mid {a : List Nat} (h : a.length ≤ 1000000) (i j : Nat) : gSl (.str (SX.S a)) (some (i : Int)) (some (j : Int)) = some (.str (SX.S ((a.take j).drop i))) := by
  show (if (SX.S a).length ≤ sizeLine then some (PyData.str (cutS (SX.S a) (some (i : Int)) (some (j : Int)))) else none) = _
  rw [SX.S_len, if_pos (sLine h)]
  exact congrArg (fun z => some (PyData.str (SX.S z))) (cut_mid a i j)
theorem gIx_S {a : List Nat} (h : a.length ≤ 1000000) {k : Nat} (hk : k < a.length) : gIx (.str (SX.S a)) (.int (k : Int)) = some (.str (SX.S [a[k]])) := by
  show (if (SX.S a).length ≤ sizeLine then (L2.atI a (k : Int)).map (fun c => PyData.str ⟨#[c]⟩) else none) = _
  rw [SX.S_len, if_pos (sLine h), L2.atI_nat (List.getElem?_eq_getElem hk)]
  rfl
theorem gIn_S (c : Nat) (b : List Nat) : gIn (.str (SX.S [c])) (.str (SX.S b)) = some (decide (c ∈ b)) := rfl
theorem gNotIn_S (c : Nat) (b : List Nat) : gNotIn (.str (SX.S [c])) (.str (SX.S b)) = some (!decide (c ∈ b)) := rfl
theorem iD_S {f : En → R D} {ρ ρ' : En} {a : List Nat} (h : f ρ = .ok (.str (SX.S a)) ρ') : iD f ρ = .ok (a.map fun c => .str (SX.S [c])) ρ' := by
  rw [iD_eq, h]; rfl
theorem strD_S (a : List Nat) : strD (SX.S a) = a.map fun c => PyData.str (SX.S [c]) := rfl
theorem gInt_S {a : List Nat} (h : NumText.AllDigits a) (hne : a ≠ []) (hl : a.length ≤ 640) : gInt [.str (SX.S a)] = some (.int (NumText.digitsVal a)) := by
  show (if (SX.S a).length ≤ 640 then (PySem.intText? (SX.S a)).map PyData.int else none) = _
  rw [SX.S_len, if_pos hl, SX.int_S (by rw [List.all_eq_true]; intro c hc; have := h c hc; simp; omega) hne (by omega)]
  rfl
theorem log2_of {n k : Nat} (h : n < 2 ^ k) (hk : 0 < k) : n.log2 < k := by
  by_cases h0 : n = 0
  · subst h0; simpa using hk
  · exact (Nat.log2_lt h0).mpr h
theorem gStr_nat {n : Nat} {k : Nat} (h : n < 2 ^ k) (hk : 0 < k) (h9 : k ≤ 1920) : gStr [.int (n : Int)] = some (.str (SX.S (TL.numL n))) := by
  show (if (n : Int).natAbs.log2 < 1920 then some (PyData.str (toString (n : Int))) else none) = _
  have : (n : Int).natAbs.log2 < 1920 := Nat.lt_of_lt_of_le (log2_of (by simpa using h) hk) h9
  rw [if_pos this]
  exact congrArg (fun z => some (PyData.str z)) (SX.num_S n)
theorem gPart_S {a b : List Nat} (hb : b ≠ []) (h : a.length ≤ 1000000) : gPart (SX.S a) (.str (SX.S b)) = some (match TL.par b [] a with
    | some (p, q) => .tuple [.str (SX.S p), .str (SX.S b), .str (SX.S q)]
    | none => .tuple [.str (SX.S a), .str (SX.S []), .str (SX.S [])]) := by
  have h1 : ((SX.S b).length == 0) = false := by
    rw [SX.S_len]
    cases b with
    | nil => exact absurd rfl hb
    | cons c r => rfl
  show (if ((SX.S b).length == 0) = false ∧ (SX.S a).length ≤ sizeLine then some (PyData.tuple [.str (Txt.partition (SX.S a) (SX.S b)).1, .str (Txt.partition (SX.S a) (SX.S b)).2.1, .str (Txt.partition (SX.S a) (SX.S b)).2.2]) else none) = _
  rw [if_pos ⟨h1, by rw [SX.S_len]; exact sLine h⟩]
  cases q : TL.par b [] a with
  | none => rw [SX.partition_none hb q]
  | some z => obtain ⟨p, r⟩ := z; rw [SX.partition_some hb q]
def intL (t : Int) : List Nat := if t < 0 then 45 :: TL.numL t.natAbs else TL.numL t.natAbs
theorem toS_neg (n : Nat) : Str.ofString (toString (Int.negSucc n)) = SX.S (45 :: TL.numL (n + 1)) := by
  refine TL.ext_tl ?_
  show (Str.ofString _).cps.toList = _
  rw [PyProof.Rows.signs_ofString]
  show (("-" : String) ++ Nat.repr (n + 1)).toList.map Char.toNat = _
  rw [String.toList_append, List.map_append, Nat.toList_repr]
  rfl
theorem toS_int (t : Int) : Str.ofString (toString t) = SX.S (intL t) := by
  cases t with
  | ofNat n => exact SX.num_S n
  | negSucc n =>
    have e : intL (Int.negSucc n) = 45 :: TL.numL (n + 1) := by unfold intL; rw [if_pos (Int.negSucc_lt_zero n)]; rfl
    rw [toS_neg, e]
theorem gStr_int {t : Int} {k : Nat} (h : t.natAbs < 2 ^ k) (hk : 0 < k) (h9 : k ≤ 1920) : gStr [.int t] = some (.str (SX.S (intL t))) := by
  show (if t.natAbs.log2 < 1920 then some (PyData.str (toString t)) else none) = _
  have : t.natAbs.log2 < 1920 := Nat.lt_of_lt_of_le (log2_of h hk) h9
  rw [if_pos this]
  exact congrArg (fun z => some (PyData.str z)) (toS_int t)
theorem okS.int (t : Int) : okS (intL t) := fun c hc => by
  unfold intL at hc
  split at hc
  · rcases List.mem_cons.mp hc with h | h
    · omega
    · exact okS.num _ c h
  · exact okS.num _ c hc
@[simp] theorem gIs_bool (a b : Bool) : gIs (.bool a) (.bool b) = some (decide (a = b)) := rfl
@[simp] theorem gIsNot_bool (a b : Bool) : gIsNot (.bool a) (.bool b) = some (!decide (a = b)) := rfl
theorem gSl_any {a : List Nat} (h : a.length ≤ 1000000) (ok : okS a) (lo hi : Option Int) : ∃ b, okS b ∧ b.length ≤ a.length ∧ gSl (.str (SX.S a)) lo hi = some (.str (SX.S b)) := by
  refine ⟨(a.drop (HT.sIx a.length 0 lo)).take (HT.sIx a.length a.length hi - HT.sIx a.length 0 lo), (ok.drop _).take _, ?_, ?_⟩
  · rw [List.length_take, List.length_drop]; omega
  · show (if (SX.S a).length ≤ sizeLine then some (PyData.str (cutS (SX.S a) lo hi)) else none) = _
    rw [SX.S_len, if_pos (sLine h)]
    rfl
end Dn
namespace Dn
open PySem PySem.Spec PyProof.Rows L2
theorem gmul {a b : Int} (ha : a.natAbs < 2 ^ 200) (hb : b.natAbs < 2 ^ 200) : gMul (.int a) (.int b) = some (.int (a * b)) := gMul_of ha hb (by decide) (by decide) (by decide)
theorem mul_lt {a b : Int} {m n : Nat} (ha : a.natAbs < 2 ^ m) (hb : b.natAbs < 2 ^ n) : (a * b).natAbs < 2 ^ (m + n) := by
  rw [Int.natAbs_mul, Nat.pow_add]
  exact Nat.mul_lt_mul'' ha hb
theorem seq_nx {f g : En → R Fl} {ρ ρ1 : En} {r : R Fl} (h : f ρ = .ok .nx ρ1) (k : g ρ1 = r) : dSeq f g ρ = r := by
  rw [dSeq_eq, h]; exact k
theorem seq_rt {f g : En → R Fl} {ρ ρ1 : En} {d : D} (h : f ρ = .ok (.rt d) ρ1) : dSeq f g ρ = .ok (.rt d) ρ1 := by
  rw [dSeq_eq, h]; rfl
theorem seq_rl {f g : En → R Fl} {ρ ρ1 : En} {d : List D} (h : f ρ = .ok (.rl d) ρ1) : dSeq f g ρ = .ok (.rl d) ρ1 := by
  rw [dSeq_eq, h]; rfl
theorem if_t {c : En → R Bool} {f g : En → R Fl} {ρ ρ1 : En} {r : R Fl} (h : c ρ = .ok true ρ1) (k : f ρ1 = r) : dIf c f g ρ = r := by
  rw [dIf_eq, h]; exact k
theorem if_f {c : En → R Bool} {f g : En → R Fl} {ρ ρ1 : En} {r : R Fl} (h : c ρ = .ok false ρ1) (k : g ρ1 = r) : dIf c f g ρ = r := by
  rw [dIf_eq, h]; exact k
/-- a def's end -/
theorem fin_of {ls : En} {r r2 : R Fl} {q : R L} (h : r = r2) (k : finD ls r2 = q) : finD ls r = q := by rw [h]; exact k
/-- none of these is lent -/
theorem backE_id : ∀ {ls ρ : En}, (∀ c ∈ ls, (∀ ds, c ≠ some (L.bo ds)) ∧ ∀ t, c ≠ some (L.bt t)) → backE ls ρ = ls
  | [], ρ, _ => by cases ρ <;> rfl
  | l :: ls, [], _ => by cases l with
    | none => rfl
    | some l => cases l <;> rfl
  | l :: ls, c :: ρ, h => by
    have ih := backE_id (ρ := ρ) fun c hc => h c (List.mem_cons_of_mem _ hc)
    cases l with
    | none => simp [backE, ih]
    | some l => cases l with
      | bo ds => exact absurd rfl ((h _ List.mem_cons_self).1 ds)
      | bt t => exact absurd rfl ((h _ List.mem_cons_self).2 t)
      | _ => simp [backE, ih]
/-- by the turn, one may return -/
theorem forL_ret {g : D → En → R Unit} {b : En → R Fl} {f : Nat → D} {I : Nat → En → Prop} {P : Nat → Prop} {d0 : D} : ∀ (n k : Nat), (∀ i, k ≤ i → i < k + n → ∀ ρ, I i ρ → ∃ ρ1, g (f i) ρ = .ok () ρ1 ∧ ((P i ∧ ∃ ρ2, b ρ1 = .ok .nx ρ2 ∧ I (i + 1) ρ2) ∨ (¬ P i ∧ ∃ ρ2, b ρ1 = .ok (.rt d0) ρ2))) → ∀ ρ, I k ρ →
    ((∀ i, k ≤ i → i < k + n → P i) ∧ ∃ ρ', dForL g b ((List.range' k n).map f) ρ = .ok .nx ρ' ∧ I (k + n) ρ') ∨ ((¬ ∀ i, k ≤ i → i < k + n → P i) ∧ ∃ ρ', dForL g b ((List.range' k n).map f) ρ = .ok (.rt d0) ρ')
  | 0, k, _, ρ, h => .inl ⟨fun i h1 h2 => by omega, ρ, rfl, h⟩
  | n + 1, k, h, ρ, hp => by
    obtain ⟨ρ1, e1, q⟩ := h k (Nat.le_refl _) (by omega) ρ hp
    have hd : dForL g b ((List.range' k (n + 1)).map f) ρ = (b ρ1).bind fun fl ρ2 => match fl with
        | .nx => dForL g b ((List.range' (k + 1) n).map f) ρ2
        | .ct => dForL g b ((List.range' (k + 1) n).map f) ρ2
        | .bk => .ok .nx ρ2
        | .rt d => .ok (.rt d) ρ2
        | .rl ds => .ok (.rl ds) ρ2 := by
      rw [List.range'_succ, List.map_cons]
      show (g (f k) ρ).bind _ = _
      rw [e1]
      rfl
    rw [hd]
    rcases q with ⟨hP, ρ2, e2, i2⟩ | ⟨hP, ρ2, e2⟩
    · rw [e2]
      rcases forL_ret n (k + 1) (fun i h1 h2 => h i (by omega) (by omega)) ρ2 i2 with ⟨ha, ρ', e, i'⟩ | ⟨ha, ρ', e⟩
      · refine .inl ⟨fun i h1 h2 => ?_, ρ', e, by rw [show k + (n + 1) = k + 1 + n by omega]; exact i'⟩
        by_cases hi : i = k
        · subst hi; exact hP
        · exact ha i (by omega) (by omega)
      · exact .inr ⟨fun z => ha fun i h1 h2 => z i (by omega) (by omega), ρ', e⟩
    · rw [e2]
      exact .inr ⟨fun z => hP (z k (Nat.le_refl _) (by omega)), ρ2, rfl⟩
theorem forL_retR {g : D → En → R Unit} {b : En → R Fl} {lo : Int} {n : Nat} {I : Nat → En → Prop} {P : Nat → Prop} {d0 : D} (h : ∀ i, i < n → ∀ ρ, I i ρ → ∃ ρ1, g (.int (lo + (i : Int))) ρ = .ok () ρ1 ∧ ((P i ∧ ∃ ρ2, b ρ1 = .ok .nx ρ2 ∧ I (i + 1) ρ2) ∨ (¬ P i ∧ ∃ ρ2, b ρ1 = .ok (.rt d0) ρ2))) (ρ : En) (hp : I 0 ρ) :
    ((∀ i, i < n → P i) ∧ ∃ ρ', dForL g b (rngD lo n) ρ = .ok .nx ρ' ∧ I n ρ') ∨ ((¬ ∀ i, i < n → P i) ∧ ∃ ρ', dForL g b (rngD lo n) ρ = .ok (.rt d0) ρ') := by
  have := forL_ret (f := fun i => PyData.int (lo + (i : Int))) n 0 (fun i _ h2 => h i (by omega)) ρ hp
  rw [rngD, List.range_eq_range']
  simpa using this
theorem range_getD (ds : List D) : (List.range' 0 ds.length).map (fun i => ds.getD i .none) = ds := by
  apply List.ext_getElem
  · simp
  · intro i h1 h2
    simp
    simp at h1
    rw [List.getElem?_eq_getElem h1]; rfl
theorem forL_retL {g : D → En → R Unit} {b : En → R Fl} {ds : List D} {I : Nat → En → Prop} {P : D → Prop} {d0 : D} (h : ∀ (i : Nat) (hi : i < ds.length) (ρ : En), I i ρ → ∃ ρ1, g ds[i] ρ = .ok () ρ1 ∧ ((P ds[i] ∧ ∃ ρ2, b ρ1 = .ok .nx ρ2 ∧ I (i + 1) ρ2) ∨ (¬ P ds[i] ∧ ∃ ρ2, b ρ1 = .ok (.rt d0) ρ2))) (ρ : En) (hp : I 0 ρ) :
    ((∀ d ∈ ds, P d) ∧ ∃ ρ', dForL g b ds ρ = .ok .nx ρ' ∧ I ds.length ρ') ∨ ((¬ ∀ d ∈ ds, P d) ∧ ∃ ρ', dForL g b ds ρ = .ok (.rt d0) ρ') := by
  have gd : ∀ (i : Nat) (hi : i < ds.length), ds.getD i .none = ds[i] := fun i hi => by simp [List.getElem?_eq_getElem hi]
  have := forL_ret (g := g) (b := b) (d0 := d0) (I := I) (f := fun i => ds.getD i .none) (P := fun i => P (ds.getD i .none)) ds.length 0 (fun i _ h2 ρ q => by
    have hi : i < ds.length := by omega
    rw [gd i hi]
    exact h i hi ρ q) ρ hp
  rw [range_getD, Nat.zero_add] at this
  have key : (∀ i, 0 ≤ i → i < ds.length → P (ds.getD i .none)) ↔ ∀ d ∈ ds, P d := by
    constructor
    · intro h d hd
      obtain ⟨i, hi, rfl⟩ := List.getElem_of_mem hd
      have := h i (Nat.zero_le _) hi
      rwa [gd i hi] at this
    · intro h i _ hi
      rw [gd i hi]
      exact h _ (List.getElem_mem hi)
  rw [key] at this
  exact this
theorem gIn_tup {x : D} {ds : List D} (h1 : shp x = true) (h2 : shp (.tuple ds) = true) : gIn x (.tuple ds) = some (ds.any fun z => PyData.eqv z x) := if_pos ⟨h1, h2⟩
theorem gIn_lst {x : D} {ds : List D} (h1 : shp x = true) (h2 : shp (.list ds) = true) : gIn x (.list ds) = some (ds.any fun z => PyData.eqv z x) := if_pos ⟨h1, h2⟩
theorem gNotIn_tup {x : D} {ds : List D} (h1 : shp x = true) (h2 : shp (.tuple ds) = true) : gNotIn x (.tuple ds) = some (!ds.any fun z => PyData.eqv z x) := by
  show (gIn x (.tuple ds)).map _ = _
  rw [gIn_tup h1 h2]; rfl
theorem gNotIn_lst {x : D} {ds : List D} (h1 : shp x = true) (h2 : shp (.list ds) = true) : gNotIn x (.list ds) = some (!ds.any fun z => PyData.eqv z x) := by
  show (gIn x (.list ds)).map _ = _
  rw [gIn_lst h1 h2]; rfl
/-! texts -/
theorem S_of (s : Str) : SX.S s.cps.toList = s := by cases s; rfl
def abc : List Nat := [97, 98, 99, 100, 101, 102, 103, 104, 105, 106, 107, 108, 109, 110, 111, 112, 113, 114, 115, 116, 117, 118, 119, 120, 121, 122]
theorem str_abc : ("abcdefghijklmnopqrstuvwxyz" : Str) = SX.S abc := by rfl
theorem mem_abc {c : Nat} : c ∈ abc ↔ 97 ≤ c ∧ c ≤ 122 := by
  constructor
  · intro h
    have : ∀ c ∈ abc, 97 ≤ c ∧ c ≤ 122 := by decide
    exact this c h
  · intro ⟨h1, h2⟩
    have : ∀ k : Fin 26, 97 + k.val ∈ abc := by decide
    have := this ⟨c - 97, by omega⟩
    rwa [show 97 + (c - 97) = c by omega] at this
/-- a word -/
def isW (a : List Nat) : Prop := 1 ≤ a.length ∧ a.length ≤ 8 ∧ ∀ c ∈ a, c ∈ abc
instance (a : List Nat) : Decidable (isW a) := by unfold isW; infer_instance
theorem isW.ok {a : List Nat} (h : isW a) : okS a := fun c hc => by have := mem_abc.mp (h.2.2 c hc); omega
theorem joinL_one : ∀ cs : List Nat, TL.joinL [] (cs.map fun c => [c]) = cs
  | [] => rfl
  | [c] => rfl
  | c :: d :: r => by
    have ih := joinL_one (d :: r)
    show [c] ++ [] ++ TL.joinL [] ((d :: r).map fun c => [c]) = _
    rw [ih]; rfl
theorem join_signs (cs : List Nat) : Txt.join (SX.S []) (cs.map fun c => SX.S [c]) = SX.S cs := by
  have := SX.join_S [] (cs.map fun c => [c])
  rw [List.map_map, joinL_one] at this
  exact this
theorem signs_of : ∀ {ys : List D}, (∀ y ∈ ys, ∃ c, c < 128 ∧ y = .str (SX.S [c])) → ∃ cs : List Nat, okS cs ∧ cs.length = ys.length ∧ ys = cs.map fun c => .str (SX.S [c])
  | [], _ => ⟨[], fun c h => by simp at h, rfl, rfl⟩
  | y :: ys, h => by
    obtain ⟨c, hc, rfl⟩ := h y List.mem_cons_self
    obtain ⟨cs, h1, h2, rfl⟩ := signs_of (ys := ys) fun y hy => h y (List.mem_cons_of_mem _ hy)
    refine ⟨c :: cs, fun d hd => ?_, by simp, rfl⟩
    rcases List.mem_cons.mp hd with q | q
    · subst q; exact hc
    · exact h1 d q
theorem gJoin_signs {cs : List Nat} (h : cs.length ≤ 1000) : gJoin (SX.S []) (.list (cs.map fun c => .str (SX.S [c]))) = some (.str (SX.S cs)) := by
  show gJoinL _ _ = _
  unfold gJoinL
  rw [strs_map' (fun c => SX.S [c])]
  show (if _ then _ else _) = _
  rw [join_signs, if_pos]
  have : ((cs.map fun c => SX.S [c]).map (·.length)).sum = cs.length := by
    induction cs with
    | nil => rfl
    | cons c r ih =>
      rw [List.map_cons, List.map_cons, List.sum_cons, ih (by simp at h; omega), SX.S_len]
      simp; omega
  rw [this, SX.S_len]
  simp; omega
theorem str0 : ("" : Str) = SX.S [] := by rfl
theorem gSlT_take (ds : List D) (k : Nat) : gSl (.tuple ds) none (some (k : Int)) = some (.tuple (ds.take k)) := by
  show some (PyData.tuple _) = _
  rw [cut_take]
theorem gSlT_drop (ds : List D) (k : Nat) : gSl (.tuple ds) (some (k : Int)) none = some (.tuple (ds.drop k)) := by
  show some (PyData.tuple _) = _
  rw [cut_drop]
theorem gAddT {a b : List D} (h : a.length + b.length ≤ 1000000) : gAdd (.tuple a) (.tuple b) = some (.tuple (a ++ b)) := if_pos (sLine h)
theorem gAddL {a b : List D} (h : a.length + b.length ≤ 1000000) : gAdd (.list a) (.list b) = some (.list (a ++ b)) := if_pos (sLine h)
/-- one of a list by an int -/
theorem gIx_pick {l : List D} {v : Int} (h0 : 0 ≤ v) (h1 : v < l.length) : ∃ d, l[v.toNat]? = some d ∧ gIx (.list l) (.int v) = some d := by
  obtain ⟨n, rfl⟩ : ∃ n : Nat, v = n := ⟨v.toNat, by omega⟩
  have hn : n < l.length := by omega
  exact ⟨l[n], by simp [hn], by rw [gIx_lst]; exact atI_of (List.getElem?_eq_getElem hn)⟩
theorem gIx_pickT {l : List D} {v : Int} (h0 : 0 ≤ v) (h1 : v < l.length) : ∃ d, l[v.toNat]? = some d ∧ gIx (.tuple l) (.int v) = some d := by
  obtain ⟨n, rfl⟩ : ∃ n : Nat, v = n := ⟨v.toNat, by omega⟩
  have hn : n < l.length := by omega
  exact ⟨l[n], by simp [hn], by rw [gIx_tup]; exact atI_of (List.getElem?_eq_getElem hn)⟩
def wD (ws : List (List Nat)) : List D := ws.map fun a => .str (SX.S a)
theorem lay_words {ws : List (List Nat)} (ok : ∀ a ∈ ws, okS a) : PyData.canLayAll0 (wD ws) = true ∧ PyData.depthAll (wD ws) ≤ 1 := by
  induction ws with
  | nil => exact ⟨rfl, Nat.zero_le _⟩
  | cons a ws ih =>
    obtain ⟨h1, h2⟩ := ih fun b hb => ok b (List.mem_cons_of_mem _ hb)
    have c := SeqAt.canLay_of_shaped (shpS (ok a List.mem_cons_self))
    show (PyData.canLay0 (.str (SX.S a)) && PyData.canLayAll0 (wD ws)) = true ∧ _
    refine ⟨by rw [c, h1]; rfl, ?_⟩
    show max (PyData.depth (.str (SX.S a))) (PyData.depthAll (wD ws)) ≤ 1
    have : PyData.depth (.str (SX.S a)) ≤ 1 := by simp [PyData.depth]
    omega
theorem shp_words {ws : List (List Nat)} (ok : ∀ a ∈ ws, okS a) : shp (.list (wD ws)) = true := by
  obtain ⟨h1, h2⟩ := lay_words ok
  unfold shp SeqAt.shaped
  simp only [PyData.canLay0, PyData.depth, h1]
  simp
  omega
theorem shp_wordsT {ws : List (List Nat)} (ok : ∀ a ∈ ws, okS a) : shp (.tuple (wD ws)) = true := by
  obtain ⟨h1, h2⟩ := lay_words ok
  unfold shp SeqAt.shaped
  simp only [PyData.canLay0, PyData.depth, h1]
  simp
  omega
theorem any_words (ws : List (List Nat)) (a : List Nat) : ((wD ws).any fun z => PyData.eqv z (.str (SX.S a))) = decide (a ∈ ws) := by
  rw [Bool.eq_iff_iff, List.any_eq_true, decide_eq_true_eq]
  constructor
  · rintro ⟨z, hz, e⟩
    obtain ⟨b, hb, rfl⟩ := List.mem_map.mp hz
    rw [eqv_ss, decide_eq_true_eq, S_iff] at e
    subst e; exact hb
  · intro h
    exact ⟨_, List.mem_map.mpr ⟨a, h, rfl⟩, by rw [eqv_ss]; simp⟩
theorem gNotIn_words {ws : List (List Nat)} (ok : ∀ a ∈ ws, okS a) {a : List Nat} (oa : okS a) : gNotIn (.str (SX.S a)) (.list (wD ws)) = some (!decide (a ∈ ws)) := by
  rw [gNotIn_lst (shpS oa) (shp_words ok), any_words]
theorem gIn_words {ws : List (List Nat)} (ok : ∀ a ∈ ws, okS a) {a : List Nat} (oa : okS a) : gIn (.str (SX.S a)) (.list (wD ws)) = some (decide (a ∈ ws)) := by
  rw [gIn_lst (shpS oa) (shp_words ok), any_words]
theorem wD_append (ws : List (List Nat)) (a : List Nat) : wD ws ++ [.str (SX.S a)] = wD (ws ++ [a]) := by simp [wD]
@[simp] theorem wD_length (ws : List (List Nat)) : (wD ws).length = ws.length := by simp [wD]
end Dn
namespace Lw
open PySem PySem.Spec PyProof.Rows L2 Dn
theorem divisor_eq (a b : Int) : m_divisor [cI a, cI b] = .ok (.im (.int (Int.gcd a b))) [cI a, cI b] := by
  obtain ⟨g, hg, e⟩ := gcd_loop b.natAbs a b (Nat.le_refl _)
  have hab : (if g < 0 then -g else g) = (Int.gcd a b : Int) := by rw [← hg]; split <;> omega
  simp only [m_divisor, b_divisor, b_divisor_l1, dDef_eq, dSeq_eq]
  simp [e, hab]
def wholeD : D → Bool
  | .int _ => true
  | _ => false
theorem is_whole_eq (d : D) : m_is_whole [cD d] = .ok (.im (.bool (wholeD d))) [cD d] := by
  simp only [m_is_whole, b_is_whole, dDef_eq, dSeq_eq]
  cases d <;> simp [isTy, wholeD]
def numD : D → Bool
  | .tuple [.int t, .int b] => decide (0 < b) && decide (Int.gcd t b = 1)
  | _ => false
theorem is_number_eq (d : D) : m_is_number [cD d] = .ok (.im (.bool (numD d))) [cD d] := by
  have no : (∀ ds, d ≠ .tuple ds) → m_is_number [cD d] = .ok (.im (.bool false)) [cD d] ∧ numD d = false := fun h => by
    simp only [m_is_number, b_is_number, dDef_eq, dSeq_eq]
    cases d with
    | tuple ds => exact absurd rfl (h ds)
    | _ => exact ⟨by simp [isTy], rfl⟩
  cases d with
  | tuple ds =>
    by_cases hl : ds.length = 2
    · obtain ⟨a, b, rfl⟩ : ∃ a b, ds = [a, b] := by
        match ds, hl with
        | [a, b], _ => exact ⟨a, b, rfl⟩
      have wa := is_whole_eq a
      have wb := is_whole_eq b
      simp only [m_is_number, b_is_number, dDef_eq, dSeq_eq]
      cases ha : wholeD a with
      | false =>
        have : numD (.tuple [a, b]) = false := by cases a <;> first | rfl | cases ha
        rw [ha] at wa
        rw [this]
        simp [isTy, gLen1, gTupD, gsCons, gsNil, wa]
      | true =>
        cases hb : wholeD b with
        | false =>
          have : numD (.tuple [a, b]) = false := by cases a <;> first | (cases ha; done) | (cases b <;> first | rfl | cases hb)
          rw [ha] at wa
          rw [hb] at wb
          rw [this]
          simp [isTy, gLen1, gTupD, gsCons, gsNil, wa, wb]
        | true =>
          rw [ha] at wa
          rw [hb] at wb
          cases a <;> first | (cases ha; done) | skip
          cases b <;> first | (cases hb; done) | skip
          rename_i t b
          by_cases h0 : 0 < b
          · simp [isTy, gLen1, gTupD, gsCons, gsNil, wa, wb, numD, h0, divisor_eq]
            omega
          · simp [isTy, gLen1, gTupD, gsCons, gsNil, wa, wb, numD, h0]
    · have e : numD (.tuple ds) = false := by
        match ds with
        | [] => rfl
        | [a] => cases a <;> rfl
        | [a, b] => exact absurd rfl hl
        | a :: b :: c :: t => cases a <;> cases b <;> rfl
      have h2 : ¬ (ds.length : Int) = 2 := by omega
      rw [e]
      simp only [m_is_number, b_is_number, dDef_eq, dSeq_eq]
      simp [isTy, gLen1, h2]
  | _ => obtain ⟨h1, h2⟩ := no (by intro ds h; cases h); rw [h2]; exact h1
def toldD : D → Bool
  | .tuple [.int t, .int b] => decide (0 < b) && decide (Int.gcd t b = 1) && decide (t.natAbs < 10 ^ 18) && decide (b ≤ 60)
  | _ => false
theorem toldD_of (d : D) (h : numD d = false) : toldD d = false := by
  unfold numD at h
  split at h
  · simp [toldD]
    simp at h
    intro h1 h2
    exact absurd h2 (h h1)
  · unfold toldD
    split
    · rename_i h2; exact absurd rfl (h2 _ _)
    · rfl
theorem numD_ex {d : D} (h : numD d = true) : ∃ t b : Int, d = nD t b ∧ 0 < b ∧ Int.gcd t b = 1 := by
  unfold numD at h
  split at h
  · simp at h; exact ⟨_, _, rfl, h.1, h.2⟩
  · cases h
theorem toldD_ex {d : D} (h : toldD d = true) : ∃ t b : Int, d = nD t b ∧ 0 < b ∧ Int.gcd t b = 1 ∧ t.natAbs < 10 ^ 18 ∧ b ≤ 60 := by
  unfold toldD at h
  split at h
  · simp at h
    exact ⟨_, _, rfl, by simpa using h.1.1.1, h.1.1.2, by simpa using h.1.2, h.2⟩
  · cases h
theorem is_told_eq (d : D) : m_is_told [cD d] = .ok (.im (.bool (toldD d))) [cD d] := by
  have n := is_number_eq d
  have p : gPow (.int 10) (.int 18) = some (.int (10 ^ 18)) := gPow_of (by decide) (by decide) (by decide)
  simp only [m_is_told, b_is_told, dDef_eq, dSeq_eq]
  cases h : numD d with
  | false =>
    rw [h] at n
    rw [toldD_of d h]
    simp [n]
  | true =>
    rw [h] at n
    obtain ⟨t, b, rfl, h1, h2⟩ := numD_ex h
    have e : ((if t < 0 then -t else t) < 10 ^ 18) = (t.natAbs < 10 ^ 18) := by
      apply propext
      split <;> omega
    by_cases h3 : t.natAbs < 10 ^ 18
    · simp [-Int.reducePow, -Nat.reducePow, n, p, e, toldD, h1, h2, h3]
    · simp [-Int.reducePow, -Nat.reducePow, n, p, e, toldD, h1, h2, h3]
def wordD : D → Bool
  | .str s => decide (isW s.cps.toList)
  | _ => false
theorem is_word_eq (d : D) (hd : ∀ s, d = .str s → s.length ≤ 1000000) : m_is_word [cD d] = .ok (.im (.bool (wordD d))) [cD d] := by
  cases d with
  | str s =>
    obtain ⟨a, rfl⟩ : ∃ a, s = SX.S a := ⟨s.cps.toList, (S_of s).symm⟩
    have hl : a.length ≤ 1000000 := by have := hd _ rfl; rwa [SX.S_len] at this
    have gl := gLen_S hl
    have e : wordD (.str (SX.S a)) = decide (isW a) := rfl
    rw [e]
    have lc := lcL_map (t := b_is_word_l1) (vs := [1]) (f := fun d => match d with | .str s => .bool (decide (s.cps.toList.getD 0 0 ∈ abc)) | _ => .none) (ρ := [cS a, none]) (ds := strD (SX.S a)) (fun d hd => by
      rw [strD_S] at hd
      obtain ⟨c, hc, rfl⟩ := List.mem_map.mp hd
      refine ⟨[cS a, cS [c]], ?_, by simp [restE]⟩
      have := gIn_S c abc
      rw [← str_abc] at this
      simp [b_is_word_l1, wipeE, this]) (by rw [strD_S]; simp; exact sLine hl)
    have em : (strD (SX.S a)).map (fun d => match d with | .str s => PyData.bool (decide (s.cps.toList.getD 0 0 ∈ abc)) | _ => .none) = (a.map fun c => decide (c ∈ abc)).map PyData.bool := by
      rw [strD_S, List.map_map, List.map_map]
      rfl
    rw [em] at lc
    simp only [m_is_word, b_is_word, dDef_eq, dSeq_eq]
    by_cases h1 : 1 ≤ a.length ∧ a.length ≤ 8
    · have h2 : (1 : Int) ≤ a.length := by omega
      have h3 : (a.length : Int) ≤ 8 := by omega
      simp [isTy, gl, h2, h3, immE, lc, -List.map_map]
      rw [Bool.eq_iff_iff]
      simp [isW, h1]
    · have h2 : ¬ isW a := fun h => h1 ⟨h.1, h.2.1⟩
      by_cases h3 : (1 : Int) ≤ a.length
      · have h4 : ¬ (a.length : Int) ≤ 8 := by omega
        simp [isTy, gl, h2, h3, h4]
      · simp [isTy, gl, h2, h3]
  | _ =>
    simp only [m_is_word, b_is_word, dDef_eq, dSeq_eq]
    simp [isTy, wordD]
inductive Kd where
  | num
  | word
  | day
def Kd.e : Kd → D
  | .num => .str "number"
  | .word => .str "word"
  | .day => .str "day"
def sNumber : List Nat := [110, 117, 109, 98, 101, 114]
def sWord : List Nat := [119, 111, 114, 100]
def sDay : List Nat := [100, 97, 121]
theorem strNumber : ("number" : Str) = SX.S sNumber := by rfl
theorem strWord : ("word" : Str) = SX.S sWord := by rfl
theorem strDay : ("day" : Str) = SX.S sDay := by rfl
theorem kn (k : Kd) : gEq k.e (.str "number") = some (match k with | .num => true | _ => false) := by
  cases k <;> simp only [Kd.e, strNumber, strWord, strDay] <;> rw [gEq_S (by unfold okS; decide) (by unfold okS; decide)] <;> rfl
theorem kw (k : Kd) : gEq k.e (.str "word") = some (match k with | .word => true | _ => false) := by
  cases k <;> simp only [Kd.e, strNumber, strWord, strDay] <;> rw [gEq_S (by unfold okS; decide) (by unfold okS; decide)] <;> rfl
theorem kday (k : Kd) : gEq k.e (.str "day") = some (match k with | .day => true | _ => false) := by
  cases k <;> simp only [Kd.e, strNumber, strWord, strDay] <;> rw [gEq_S (by unfold okS; decide) (by unfold okS; decide)] <;> rfl
def dayD : D → Bool
  | .int i => decide (364877 ≤ i) && decide (i ≤ 3286816)
  | _ => false
theorem ahead1000 : m_ahead_of [cI 1000] = .ok (.im (.int 364877)) [cI 1000] := by
  have m : gMul (.int 365) (.int 999) = some (.int 364635) := by rw [gmul (by decide) (by decide)]; rfl
  have a : gFdiv (.int 999) (.int 4) = some (.int 249) := by rw [gFdiv_pos (n := 30) (by decide) (by decide) (by decide) (by decide)]; rfl
  have b : gFdiv (.int 999) (.int 100) = some (.int 9) := by rw [gFdiv_pos (n := 30) (by decide) (by decide) (by decide) (by decide)]; rfl
  have c : gFdiv (.int 999) (.int 400) = some (.int 2) := by rw [gFdiv_pos (n := 30) (by decide) (by decide) (by decide) (by decide)]; rfl
  simp only [m_ahead_of, b_ahead_of, dDef_eq, dSeq_eq]
  simp [m, a, b, c]
theorem ahead9000 : m_ahead_of [cI 9000] = .ok (.im (.int 3286817)) [cI 9000] := by
  have m : gMul (.int 365) (.int 8999) = some (.int 3284635) := by rw [gmul (by decide) (by decide)]; rfl
  have a : gFdiv (.int 8999) (.int 4) = some (.int 2249) := by rw [gFdiv_pos (n := 30) (by decide) (by decide) (by decide) (by decide)]; rfl
  have b : gFdiv (.int 8999) (.int 100) = some (.int 89) := by rw [gFdiv_pos (n := 30) (by decide) (by decide) (by decide) (by decide)]; rfl
  have c : gFdiv (.int 8999) (.int 400) = some (.int 22) := by rw [gFdiv_pos (n := 30) (by decide) (by decide) (by decide) (by decide)]; rfl
  simp only [m_ahead_of, b_ahead_of, dDef_eq, dSeq_eq]
  simp [m, a, b, c]
def dayW : D → Bool
  | .int i => decide (0 ≤ i) && decide (i ≤ 3652058)
  | _ => false
theorem is_day_eq (d : D) : m_is_day [cD d] = .ok (.im (.bool (dayW d))) [cD d] := by
  have w := is_whole_eq d
  simp only [m_is_day, b_is_day, dDef_eq, dSeq_eq]
  cases d with
  | int i =>
    by_cases h : 0 ≤ i
    · simp [w, wholeD, dayW, h]
    · simp [w, wholeD, dayW, h]
  | _ => simp [w, wholeD, dayW]
theorem is_told_day_eq (d : D) : m_is_told_day [cD d] = .ok (.im (.bool (dayD d))) [cD d] := by
  have w := is_day_eq d
  simp only [m_is_told_day, b_is_told_day, dDef_eq, dSeq_eq]
  cases d with
  | int i =>
    by_cases h : 0 ≤ i
    · by_cases h2 : i ≤ 3652058
      · by_cases h3 : 364877 ≤ i
        · simp [w, dayW, h, h2, ahead1000, ahead9000, dayD, h3]
          omega
        · simp [w, dayW, h, h2, ahead1000, ahead9000, dayD, h3]
      · have : ¬ i ≤ 3286816 := by omega
        simp [w, dayW, h, h2, dayD, this]
    · have : ¬ 364877 ≤ i := by omega
      simp [w, dayW, h, dayD, this]
  | _ => simp [w, dayW, dayD]
def cellT (k : Kd) (d : D) : Bool := match d with
  | .none => true
  | d => match k with
    | .num => toldD d
    | .word => wordD d
    | .day => dayD d
def OKD (d : D) : Prop := ∀ s, d = .str s → s.length ≤ 1000000
theorem nonD {d : D} (h : d ≠ .none) (k : Kd) : cellT k d = (match k with | .num => toldD d | .word => wordD d | .day => dayD d) := by
  cases d with
  | none => exact absurd rfl h
  | _ => rfl
theorem isn {d : D} (h : d ≠ .none) : gIs d .none = some false := by
  cases d with
  | none => exact absurd rfl h
  | _ => rfl
theorem is_cell_eq (k : Kd) (d : D) (hd : OKD d) : m_is_cell [cD k.e, cD d] = .ok (.im (.bool (cellT k d))) [cD k.e, cD d] := by
  have e1 := kn k
  have e2 := kw k
  have t := is_told_eq d
  have w := is_word_eq d hd
  have y := is_told_day_eq d
  by_cases h : d = .none
  · subst h
    generalize k.e = K at *
    simp only [m_is_cell, b_is_cell, dDef_eq, dSeq_eq]
    simp [cellT]
  · rw [nonD h k]
    have gi := isn h
    generalize hk : k.e = K at *
    simp only [m_is_cell, b_is_cell, dDef_eq, dSeq_eq]
    cases k <;> simp [gi, e1, e2, t, w, y, -gIs_none]
theorem signs_in {l : List Nat} : ∀ {ys : List D}, (∀ y ∈ ys, ∃ c ∈ l, y = .str (SX.S [c])) → ∃ cs : List Nat, (∀ c ∈ cs, c ∈ l) ∧ cs.length = ys.length ∧ ys = cs.map fun c => .str (SX.S [c])
  | [], _ => ⟨[], fun c h => by simp at h, rfl, rfl⟩
  | y :: ys, h => by
    obtain ⟨c, hc, rfl⟩ := h y List.mem_cons_self
    obtain ⟨cs, h1, h2, rfl⟩ := signs_in (ys := ys) fun y hy => h y (List.mem_cons_of_mem _ hy)
    exact ⟨c :: cs, fun d hd => (List.mem_cons.mp hd).elim (fun q => by subst q; exact hc) (h1 d), by simp, rfl⟩
theorem abc_at {v : Int} (h0 : 0 ≤ v) (h1 : v < 26) : ∃ c ∈ abc, gIx (.str (SX.S abc)) (.int v) = some (.str (SX.S [c])) := by
  obtain ⟨n, rfl⟩ : ∃ n : Nat, v = n := ⟨v.toNat, by omega⟩
  have hl : abc.length = 26 := rfl
  have hn : n < abc.length := by omega
  exact ⟨_, List.getElem_mem hn, gIx_S (a := abc) (by omega) (k := n) hn⟩
theorem pick2 {p q : D} {v : Int} (h0 : 0 ≤ v) (h1 : v < 2) : gIx (.list [p, q]) (.int v) = some (if v = 0 then p else q) := by
  have : v = 0 ∨ v = 1 := by omega
  rcases this with rfl | rfl <;> simp
structure TopsOK (T : List Int) : Prop where
  al : ∀ t ∈ T, 0 < t ∧ t ≤ 1000000000
  ln : T.length ≤ 200
abbrev iL (v : List Int) : D := .list (v.map PyData.int)
theorem ixL {v : List Int} {i : Nat} (h : i < v.length) : ∃ x : Int, v[i]? = some x ∧ gIx (iL v) (.int (i : Int)) = some (.int x) := ⟨v[i], by simp [h], by rw [gIx_lst]; exact atI_of (by simp [h])⟩
theorem tops_at {T : List Int} (ok : TopsOK T) {i : Nat} (hi : i < T.length) : ∃ t : Int, T.getD i 1 = t ∧ 0 < t ∧ t ≤ 1000000000 ∧ gIx (.list (T.map PyData.int)) (.int (i : Int)) = some (.int t) := by
  refine ⟨T[i], by simp [hi], (ok.al _ (List.getElem_mem hi)).1, (ok.al _ (List.getElem_mem hi)).2, ?_⟩
  rw [gIx_lst]; exact atI_of (by simp [hi])
def inT (T v : List Int) : Prop := ∀ (j : Nat) (x : Int), v[j]? = some x → 0 ≤ x ∧ x < T.getD j 1
theorem inT.add {T v : List Int} (h : inT T v) {x : Int} (h0 : 0 ≤ x) (h1 : x < T.getD v.length 1)   : inT T (v ++ [x]) := fun j y e => by
  by_cases hj : j < v.length
  · rw [List.getElem?_append_left hj] at e; exact h j y e
  · rw [List.getElem?_append_right (by omega)] at e
    have : j - v.length = 0 := by
      have := (List.getElem?_eq_some_iff.mp e).1
      simpa using this
    rw [this] at e; cases e
    have : j = v.length := by omega
    subst this
    exact ⟨h0, h1⟩
theorem draws_turn {T : List Int} (ok : TopsOK T) (c : Int) (i : Nat) (hi : i < T.length) (v : List Int) (hl : v.length = i) (hv : inT T v) (left mixed : Int) (l0 : 0 ≤ left) (m0 : 0 ≤ mixed) (m1 : mixed < 2147483647) :
    ∃ (left' mixed' x : Int), 0 ≤ left' ∧ 0 ≤ mixed' ∧ mixed' < 2147483647 ∧ inT T (v ++ [x]) ∧
    b_law_draws_l1 [cI c, cD (.list (T.map PyData.int)), some (.ow (v.map PyData.int)), cI left, cI mixed, cI i] = .ok .nx [cI c, cD (.list (T.map PyData.int)), some (.ow ((v ++ [x]).map PyData.int)), cI left', cI mixed', cI i] := by
  have h200 := ok.ln
  have p18 : gPow (.int 10) (.int 18) = some (.int (10 ^ 18)) := gPow_of (by decide) (by decide) (by decide)
  obtain ⟨t, ht, t0, t1, g⟩ := tops_at ok hi
  have hs : v.length < sizeLine := by have := PySem.sizeLine_eq; omega
  obtain ⟨a, ha⟩ : ∃ a : Int, a = (if c < 0 then -c else c) := ⟨_, rfl⟩
  by_cases hc : 10 ^ 18 ≤ a
  · have f1 : gMod (.int left) (.int t) = some (.int (left % t)) := gMod_pos t0
    have f2 : gFdiv (.int left) (.int t) = some (.int (left / t)) := gFdiv_pos (n := 40) t0 (by omega) (by decide) (by decide)
    refine ⟨left / t, mixed, left % t, Int.ediv_nonneg l0 (by omega), m0, m1, hv.add (Int.emod_nonneg _ (by omega)) (by rw [hl, ht]; exact Int.emod_lt_of_pos _ t0), ?_⟩
    generalize T.map PyData.int = TD at g ⊢
    generalize left % t = x1 at f1 ⊢
    generalize left / t = x2 at f2 ⊢
    simp [-Int.reducePow, b_law_draws_l1, ← ha, p18, hc, g, f1, f2, hs, -gIx_lst]
  · have a1 : gMul (.int mixed) (.int mixed) = some (.int (mixed * mixed)) := gmul (by omega) (by omega)
    have a2 : gMul (.int 69621) (.int mixed) = some (.int (69621 * mixed)) := gmul (by decide) (by omega)
    have a3 : gMul (.int 7919) (.int (i : Int)) = some (.int (7919 * (i : Int))) := gmul (by decide) (by omega)
    obtain ⟨y, hy⟩ : ∃ y, y = (mixed * mixed + 69621 * mixed + 7919 * (i : Int) + 11) % 2147483647 := ⟨_, rfl⟩
    have y0 : 0 ≤ y := by rw [hy]; exact Int.emod_nonneg _ (by decide)
    have y1 : y < 2147483647 := by rw [hy]; exact Int.emod_lt_of_pos _ (by decide)
    have a4 : gMod (.int (mixed * mixed + 69621 * mixed + 7919 * (i : Int) + 11)) (.int 2147483647) = some (.int y) := by rw [gMod_pos (by decide), hy]
    have a5 : gMul (.int y) (.int 16807) = some (.int (y * 16807)) := gmul (by omega) (by decide)
    have a6 : gMod (.int (y * 16807)) (.int 2147483629) = some (.int (y * 16807 % 2147483629)) := gMod_pos (by decide)
    have a7 : gMod (.int (y * 16807 % 2147483629)) (.int t) = some (.int (y * 16807 % 2147483629 % t)) := gMod_pos t0
    refine ⟨left, y, y * 16807 % 2147483629 % t, l0, y0, y1, hv.add (Int.emod_nonneg _ (by omega)) (by rw [hl, ht]; exact Int.emod_lt_of_pos _ t0), ?_⟩
    generalize T.map PyData.int = TD at g ⊢
    generalize y * 16807 % 2147483629 % t = z at a7 ⊢
    generalize y * 16807 % 2147483629 = z2 at a6 a7
    generalize y * 16807 = z3 at a5 a6
    generalize mixed * mixed = m2 at a1 a4
    generalize 69621 * mixed = m3 at a2 a4
    generalize 7919 * (i : Int) = m4 at a3 a4
    clear hy
    simp [-Int.reducePow, b_law_draws_l1, ← ha, p18, hc, g, a1, a2, a3, a4, a5, a6, a7, hs, -gIx_lst]
theorem law_draws_ex {T : List Int} (ok : TopsOK T) (c : Int) (hc : c.natAbs < 2 ^ 1048577) : ∃ v : List Int, v.length = T.length ∧ inT T v ∧ m_law_draws [cI c, cD (iL T)] = .ok (.ow (v.map PyData.int)) [cI c, cD (iL T)] := by
  have g1 : gMul (.int c) (.int 48271) = some (.int (c * 48271)) := gMul_big hc (n := 20) (by decide) (by decide) (by decide) (by decide)
  have g2 : gMod (.int (c * 48271)) (.int 2147483647) = some (.int (c * 48271 % 2147483647)) := gMod_pos (by decide)
  obtain ⟨y, hy⟩ : ∃ y, y = c * 48271 % 2147483647 := ⟨_, rfl⟩
  have y0 : 0 ≤ y := by rw [hy]; exact Int.emod_nonneg _ (by decide)
  have y1 : y < 2147483647 := by rw [hy]; exact Int.emod_lt_of_pos _ (by decide)
  rw [← hy] at g2
  obtain ⟨a, ha, a0⟩ : ∃ a : Int, a = (if c < 0 then -c else c) ∧ 0 ≤ a := ⟨_, rfl, by split <;> omega⟩
  obtain ⟨ρ', LP, left, mixed, v, x5, l0, m0, m1, hl, hv, f5, rfl⟩ := forL_rng (g := putIm 5) (b := b_law_draws_l1) (lo := 0) (n := T.length)
    (P := fun i ρ => ∃ (left mixed : Int) (v : List Int) (x5 : Option Dn.L), 0 ≤ left ∧ 0 ≤ mixed ∧ mixed < 2147483647 ∧ v.length = i ∧ inT T v ∧ free (some x5) = true ∧ ρ = [cI c, cD (iL T), some (.ow (v.map PyData.int)), cI left, cI mixed, x5])
    (fun i hi ρ ⟨left, mixed, v, x5, l0, m0, m1, hl, hv, f5, e⟩ => by
      subst e
      obtain ⟨left', mixed', x, k0, k1, k2, k3, e⟩ := draws_turn ok c i hi v hl hv left mixed l0 m0 m1
      exact ⟨[cI c, cD (iL T), some (.ow (v.map PyData.int)), cI left, cI mixed, cI (0 + (i : Int))], _, by simp [f5], by rw [Int.zero_add]; exact e, left', mixed', v ++ [x], cI i, k0, k1, k2, by simp [hl], k3, rfl, rfl⟩)
    [cI c, cD (iL T), some (.ow []), cI a, cI y, none] ⟨a, y, [], none, a0, y0, y1, rfl, fun j x e => by simp at e, rfl, rfl⟩
  have gl : gLen1 (iL T) = some (.int T.length) := by simp [gLen1]
  have h200 := ok.ln
  have I : Dn.inR (T.length : Int) := inR_of (by omega) (by omega)
  refine ⟨v, hl, hv, ?_⟩
  generalize iL T = TD at gl LP ⊢
  simp only [m_law_draws, b_law_draws, dDef_eq, dSeq_eq]
  simp [← ha, g1, g2, gl, I, LP]
theorem word_turn (w : List Int) (hl : w.length = 10) (m : Int) (hm : gIx (iL w) (.int 1) = some (.int m)) (m0 : 0 ≤ m) (m1 : m < 2) (k : Nat) (hk : k < 8) : ∃ y ρ3, b_law_word_l1 (.int (k : Int)) (wipeE [cD (iL w), cS abc, none] [2]) = .ok (some y) ρ3 ∧ (∃ c ∈ abc, y = .str (SX.S [c])) ∧ restE [cD (iL w), cS abc, none] ρ3 [2] = [cD (iL w), cS abc, none] := by
  obtain ⟨x, _, gx⟩ := ixL (v := w) (i := 2 + k) (by omega)
  have gx' : gIx (iL w) (.int (2 + (k : Int))) = some (.int x) := gx
  obtain ⟨z, hz, z0, z1⟩ : ∃ z : Int, gIx (.list [.int 26, .int 2]) (.int m) = some (.int z) ∧ 0 < z ∧ z ≤ 26 := by
    rw [pick2 m0 m1]; split <;> exact ⟨_, rfl, by decide, by decide⟩
  have f2 : gMod (.int x) (.int z) = some (.int (x % z)) := gMod_pos z0
  obtain ⟨s, hs, e⟩ := abc_at (v := x % z) (Int.emod_nonneg _ (by omega)) (by have := Int.emod_lt_of_pos x z0; omega)
  generalize x % z = q at f2 e
  generalize hab : abc = ab at e hs
  generalize iL w = W at *
  refine ⟨.str (SX.S [s]), [cD W, cS ab, cI k], ?_, ⟨s, hs, rfl⟩, by simp [restE]⟩
  simp [b_law_word_l1, wipeE, gx', hm, hz, f2, e, -gIx_lst]
theorem law_word_ex (w : List Int) (hl : w.length = 10) (n m : Int) (hn : gIx (iL w) (.int 0) = some (.int n)) (hm : gIx (iL w) (.int 1) = some (.int m)) (n0 : 0 ≤ n) (n1 : n < 8) (m0 : 0 ≤ m) (m1 : m < 2) :
    ∃ cs : List Nat, isW cs ∧ m_law_word [cD (iL w)] = .ok (.im (.str (SX.S cs))) [cD (iL w)] := by
  obtain ⟨t, rfl⟩ : ∃ t : Nat, n = t := ⟨n.toNat, by omega⟩
  have hr : (rngD 0 (1 + t)).length = 1 + t := by simp [rngD]
  obtain ⟨ys, ρ', LC, l2, s2, rfl⟩ := lcL_inv (t := b_law_word_l1) (vs := [2]) (ds := rngD 0 (1 + t)) (acc := []) (ρ := [cD (iL w), cS abc, none]) (P := fun ρ => ρ = [cD (iL w), cS abc, none]) (S := fun y => ∃ c ∈ abc, y = .str (SX.S [c]))
    (fun d hd ρ hp => by
      subst hp
      simp only [rngD, List.mem_map, List.mem_range] at hd
      obtain ⟨i, hi, rfl⟩ := hd
      rw [Int.zero_add]
      exact word_turn w hl m hm m0 m1 i (by omega)) rfl (by have := PySem.sizeLine_eq; rw [hr]; simp; omega)
  obtain ⟨cs, o1, o2, rfl⟩ := signs_in s2
  have J := gJoin_signs (cs := cs) (by omega)
  have I : Dn.inR (1 + (t : Int)) := inR_of (by omega) (by omega)
  have e : (1 + (t : Int)).toNat = 1 + t := by omega
  rw [List.nil_append] at LC
  generalize iL w = W at *
  refine ⟨cs, ⟨by omega, by omega, o1⟩, ?_⟩
  simp only [m_law_word, b_law_word, dDef_eq]
  refine (congrArg _ (seq_nx (ρ1 := [cD W, cS abc, none]) (by rw [str_abc]; simp) rfl)).trans ?_
  rw [str0]
  simp [hn, I, e, immE, LC, J, -gIx_lst]
theorem law_divisor_eq (a b : Int) : m_law_divisor [cI a, cI b] = .ok (.im (.int (Int.gcd a b))) [cI a, cI b] := by
  obtain ⟨g, hg, e⟩ := gcd_loop b.natAbs a b (Nat.le_refl _)
  have hab : (if g < 0 then -g else g) = (Int.gcd a b : Int) := by rw [← hg]; split <;> omega
  simp only [m_law_divisor, b_law_divisor, b_law_divisor_l1, dDef_eq, dSeq_eq]
  simp [e, hab]

theorem div_small (a g : Int) (hg : 0 < g) : (a / g).natAbs ≤ a.natAbs := Int.natAbs_ediv_le_natAbs a g
theorem law_number_ex (s w n1 n2 b : Int) (hs : 0 ≤ s ∧ s < 2) (hw : 0 ≤ w ∧ w < 4) (h1 : 0 ≤ n1 ∧ n1 < 1000000000) (h2 : 0 ≤ n2 ∧ n2 < 1000000000) (hb : 0 ≤ b ∧ b < 90) :
    ∃ t u : Int, toldD (nD t u) = true ∧ m_law_number [cD (.list [.int s, .int w, .int n1, .int n2, .int b])] = .ok (.im (nD t u)) [cD (.list [.int s, .int w, .int n1, .int n2, .int b])] := by
  have e9 : gPow (.int 10) (.int 9) = some (.int 1000000000) := by rw [gPow_of (by decide) (by decide) (by decide)]; rfl
  have a1 : gMod (.int n1) (.int 10) = some (.int (n1 % 10)) := gMod_pos (by decide)
  have a2 : gMod (.int n1) (.int 1000) = some (.int (n1 % 1000)) := gMod_pos (by decide)
  have a3 : gMul (.int n1) (.int 1000000000) = some (.int (n1 * 1000000000)) := gmul (by omega) (by decide)
  obtain ⟨z, hz, z0, z1⟩ : ∃ z : Int, gIx (.list [.int (n1 % 10), .int (n1 % 1000), .int n1, .int (n1 * 1000000000 + n2)]) (.int w) = some (.int z) ∧ 0 ≤ z ∧ z < 1000000000000000000 := by
    have : w = 0 ∨ w = 1 ∨ w = 2 ∨ w = 3 := by omega
    rcases this with rfl | rfl | rfl | rfl
    · exact ⟨n1 % 10, by simp, by omega, by omega⟩
    · exact ⟨n1 % 1000, by simp, by omega, by omega⟩
    · exact ⟨n1, by simp, by omega, by omega⟩
    · exact ⟨n1 * 1000000000 + n2, by rw [gIx_lst]; exact atI_of (i := 3) rfl, by omega, by omega⟩
  obtain ⟨y, hy, y0, y1⟩ : ∃ y : Int, gIx (.list [.int (b + 1), .int 1]) (.int (if 60 ≤ b then 1 else 0)) = some (.int y) ∧ 0 < y ∧ y ≤ 60 := by
    by_cases h : 60 ≤ b
    · rw [if_pos h]; exact ⟨1, by simp, by decide, by decide⟩
    · rw [if_neg h]; exact ⟨b + 1, by simp, by omega, by omega⟩
  have dv := law_divisor_eq z y
  have hgp : 0 < Int.gcd z y := Int.gcd_pos_of_ne_zero_right _ (by omega)
  have hgl : Int.gcd z y ≤ 60 := by
    have hd : Int.gcd z y ∣ y.natAbs := by have := Int.natAbs_dvd_natAbs.mpr (Int.gcd_dvd_right z y); simpa using this
    have := Nat.le_of_dvd (by omega) hd
    omega
  obtain ⟨g, hg⟩ : ∃ g : Int, g = (Int.gcd z y : Int) := ⟨_, rfl⟩
  rw [← hg] at dv
  have g0 : 0 < g := by omega
  have g1 : g ≤ 60 := by omega
  have a4 : gMul (.int 2) (.int s) = some (.int (2 * s)) := gmul (by decide) (by omega)
  have a5 : gMul (.int (1 - 2 * s)) (.int z) = some (.int ((1 - 2 * s) * z)) := gmul (by omega) (by omega)
  have hs2 : s = 0 ∨ s = 1 := by omega
  have eg : Int.gcd ((1 - 2 * s) * z) y = Int.gcd z y := by
    rcases hs2 with rfl | rfl
    · simp
    · have : (1 - 2 * (1 : Int)) * z = -z := by omega
      rw [this, Int.neg_gcd]
  have bz : ((1 - 2 * s) * z).natAbs < 10 ^ 18 := by
    rcases hs2 with rfl | rfl
    · have : (1 - 2 * (0 : Int)) * z = z := by omega
      rw [this]; omega
    · have : (1 - 2 * (1 : Int)) * z = -z := by omega
      rw [this]; omega
  obtain ⟨t, u, u0, c1, _, c3, _, c6, c7⟩ := lowest_of ((1 - 2 * s) * z) y y0 (10 ^ 18) bz (by omega) (n := 70) (by decide) (by decide) (by decide)
  rw [eg, ← hg] at c6 c7
  have a7 : gFdiv (.int y) (.int g) = some (.int (y / g)) := gFdiv_pos (n := 40) g0 (by omega) (by decide) (by decide)
  have u1 : u ≤ 60 := by
    have e : u = y / g := by
      rw [c7] at a7
      injection a7 with a7
      injection a7
    have := div_small y g g0
    omega
  have tl : toldD (nD t u) = true := by
    simp [-Int.reducePow, -Nat.reducePow, toldD, u0, c3, c1, u1]
  clear a7
  refine ⟨t, u, tl, ?_⟩
  have i0 : gIx (.list [.int s, .int w, .int n1, .int n2, .int b]) (.int 0) = some (.int s) := by simp
  have i1 : gIx (.list [.int s, .int w, .int n1, .int n2, .int b]) (.int 1) = some (.int w) := by simp
  have i2 : gIx (.list [.int s, .int w, .int n1, .int n2, .int b]) (.int 2) = some (.int n1) := by simp
  have i3 : gIx (.list [.int s, .int w, .int n1, .int n2, .int b]) (.int 3) = some (.int n2) := by rw [gIx_lst]; exact atI_of (i := 3) rfl
  have i4 : gIx (.list [.int s, .int w, .int n1, .int n2, .int b]) (.int 4) = some (.int b) := by rw [gIx_lst]; exact atI_of (i := 4) rfl
  generalize PyData.list [.int s, .int w, .int n1, .int n2, .int b] = LL at i0 i1 i2 i3 i4 ⊢
  clear tl eg bz
  generalize (1 - 2 * s) * z = q2 at a5 c6
  generalize n1 * 1000000000 = q4 at a3 hz
  simp only [m_law_number, b_law_number, dDef_eq, dSeq_eq]
  simp [i0, i1, i2, i3, i4, e9, a1, a2, a3, hz, hy, dv, a4, a5, c6, c7, -gIx_lst]
end Lw
namespace Lw
open PySem PySem.Spec PyProof.Rows L2 Dn
theorem strO : ("0" : Str) = SX.S [48] := by rfl
theorem strDg : ("0123456789" : Str) = SX.S [48, 49, 50, 51, 52, 53, 54, 55, 56, 57] := by rfl
theorem strM : ("-" : Str) = SX.S [45] := by rfl
theorem strMO : ("-0" : Str) = SX.S [45, 48] := by rfl
theorem strL : ("/" : Str) = SX.S [47] := by rfl
theorem ok1 (c : Nat) (h : c < 128) : okS [c] := fun d hd => by rw [List.mem_singleton.mp hd]; exact h
theorem ok0 : okS [] := fun d hd => by simp at hd
/-! figures: the plain law -/
def dig (c : Nat) : Bool := decide (48 ≤ c) && decide (c ≤ 57)
def plainL (a : List Nat) : Bool := decide (a ≠ []) && decide (a.length ≤ 60) && !(decide (a.head? = some 48) && decide (a ≠ [48])) && a.all dig
theorem mem_dig (c : Nat) : (c ∈ [48, 49, 50, 51, 52, 53, 54, 55, 56, 57]) ↔ dig c = true := by
  simp [dig]; omega
theorem plain_dig {a : List Nat} (h : plainL a = true) : NumText.AllDigits a ∧ a ≠ [] ∧ a.length ≤ 60 := by
  simp only [plainL, Bool.and_eq_true, decide_eq_true_eq, List.all_eq_true] at h
  obtain ⟨⟨⟨h1, h2⟩, _⟩, h3⟩ := h
  exact ⟨fun c hc => by have := h3 c hc; simp [dig] at this; exact this, h1, h2⟩
theorem fold_ge : ∀ (l : List Nat) (a : Nat), a ≤ l.foldl (fun acc c => acc * 10 + (c - 48)) a
  | [], a => Nat.le_refl a
  | c :: r, a => by
    rw [List.foldl_cons]
    exact Nat.le_trans (by omega) (fold_ge r _)
theorem plain_zero {a : List Nat} (h : plainL a = true) : NumText.digitsVal a = 0 ↔ a = [48] := by
  obtain ⟨hd, hne, hl⟩ := plain_dig h
  cases a with
  | nil => exact absurd rfl hne
  | cons c r =>
    constructor
    · intro e
      by_cases hc : c = 48
      · subst hc
        simp only [plainL, Bool.and_eq_true, decide_eq_true_eq, Bool.not_eq_true'] at h
        have := h.1.2
        simpa using this
      · have := fold_ge r (0 * 10 + (c - 48))
        have e' : (c :: r).foldl (fun acc c => acc * 10 + (c - 48)) 0 = 0 := e
        rw [List.foldl_cons] at e'
        have := hd.head
        omega
    · intro e; rw [e]; rfl
theorem plain_num {n : Nat} (h : n < 10 ^ 60) : plainL (TL.numL n) = true := by
  have h0 := TL.numL_ne n
  have h1 := TL.numL_digits n
  have h2 := TL.numL_len (n := n) (k := 60) (by decide) h
  have h3 : ¬ ((TL.numL n).head? = some 48 ∧ TL.numL n ≠ [48]) := by
    intro ⟨a, b⟩
    have : ∀ n, (TL.numL n).head? = some 48 → n = 0 := by
      intro n
      induction n using Nat.strongRecOn with
      | _ n ih =>
        intro h
        by_cases hn : n < 10
        · rw [TL.numL_lt hn] at h; simp at h; omega
        · rw [TL.numL_step (by omega)] at h
          have e : (TL.numL (n / 10) ++ [48 + n % 10]).head? = (TL.numL (n / 10)).head? := by
            cases q : TL.numL (n / 10) with
            | nil => exact absurd q (TL.numL_ne _)
            | cons c r => rfl
          rw [e] at h
          have := ih (n / 10) (by omega) h
          omega
    have e := this n a
    subst e
    exact b (TL.numL_lt (by decide))
  simp only [plainL, Bool.and_eq_true, decide_eq_true_eq, List.all_eq_true, Bool.not_eq_true']
  refine ⟨⟨⟨h0, h2⟩, ?_⟩, fun c hc => ?_⟩
  · rw [Bool.eq_false_iff]; intro z; simp only [Bool.and_eq_true, decide_eq_true_eq] at z; exact h3 z
  · have := h1 c hc; simp [dig]; exact this
theorem par_split {c : Nat} : ∀ {a acc p q : List Nat}, TL.par [c] acc a = some (p, q) → acc ++ a = p ++ c :: q
  | [], acc, p, q, h => by cases h
  | d :: r, acc, p, q, h => by
    by_cases hd : d = c
    · subst hd
      have e : TL.pre [d] (d :: r) = true := by simp [TL.pre]
      rw [TL.par_hit e] at h
      simp at h
      obtain ⟨h1, h2⟩ := h
      rw [h1, h2]
    · have e : TL.pre [c] (d :: r) = false := by simp [TL.pre, hd]
      rw [TL.par_miss e] at h
      have := par_split h
      simpa using this
def topL (a : List Nat) : Option Int := if a.take 1 = [45] then (if plainL (a.drop 1) = true ∧ a.drop 1 ≠ [48] then some (0 - (NumText.digitsVal (a.drop 1) : Int)) else none) else if plainL a = true then some (NumText.digitsVal a : Int) else none
def readL (a : List Nat) : Option (Int × Int) := match TL.par [47] [] a with
  | none => (topL a).map fun t => (t, 1)
  | some (p, q) => (topL p).bind fun t => if plainL q = true ∧ 2 ≤ NumText.digitsVal q ∧ Int.gcd t (NumText.digitsVal q) = 1 then some (t, (NumText.digitsVal q : Int)) else none
theorem loop_count (a : List Nat) : ∀ (l : List Nat) (x : Option L), free (some x) = true → ∃ x', dForL (putIm 1) b_count_of_l1 (l.map fun c => PyData.str (SX.S [c])) [cS a, x] = if l.all dig = true then .ok .nx [cS a, x'] else .ex ⟨"NoNumber", none⟩ [cS a, x']
  | [], x, _ => ⟨x, rfl⟩
  | c :: r, x, hx => by
    have hm := mem_dig c
    have gn := gNotIn_S c [48, 49, 50, 51, 52, 53, 54, 55, 56, 57]
    rw [← strDg] at gn
    by_cases h : dig c = true
    · obtain ⟨x', e⟩ := loop_count a r (cS [c]) rfl
      refine ⟨x', ?_⟩
      have h2 := hm.mpr h
      simp only [h2, decide_true, Bool.not_true] at gn
      have b1 : b_count_of_l1 [cS a, cS [c]] = .ok .nx [cS a, cS [c]] := by simp [b_count_of_l1, gn]
      simp [dForL, hx, b1, e, h]
    · refine ⟨cS [c], ?_⟩
      have h2 : ¬ (c ∈ [48, 49, 50, 51, 52, 53, 54, 55, 56, 57]) := fun z => h (hm.mp z)
      simp only [h2, decide_false, Bool.not_false] at gn
      have b1 : b_count_of_l1 [cS a, cS [c]] = .ex ⟨"NoNumber", none⟩ [cS a, cS [c]] := by simp [b_count_of_l1, gn]
      simp [dForL, hx, b1, h]
def cntR (a : List Nat) : R L := if plainL a = true then .ok (.im (.int (NumText.digitsVal a))) [cS a] else .ex ⟨"NoNumber", none⟩ [cS a]
theorem count_eq (a : List Nat) (ok : okS a) (hl : a.length ≤ 1000) : m_count_of [cS a] = cntR a := by
  have e0 := gEq_S ok ok0
  have el := gLen_S (a := a) (by omega)
  rw [← str0] at e0
  unfold cntR
  simp only [m_count_of, b_count_of, dDef_eq, dSeq_eq]
  cases a with
  | nil =>
    simp [e0, plainL]
  | cons c r =>
    have i0 := gIx_S (a := c :: r) (by omega) (k := 0) (by simp)
    simp at i0
    have e1 := gEq_S (ok1 c (ok c List.mem_cons_self)) (ok1 48 (by decide))
    have e2 := gNe_S ok (ok1 48 (by decide))
    rw [← strO] at e1 e2
    obtain ⟨x', L⟩ := loop_count (c :: r) (c :: r) none rfl
    by_cases h1 : 60 < (c :: r).length
    · have : ((60 : Nat) : Int) < ((c :: r).length : Nat) := by exact_mod_cast h1
      have hp : plainL (c :: r) = false := by
        have : decide ((c :: r).length ≤ 60) = false := decide_eq_false (by omega)
        unfold plainL; rw [this]; simp
      rw [hp]
      simp at this
      simp [e0, el, this]
    · have h1' : ¬ 60 < ((c :: r).length : Int) := by exact_mod_cast h1
      have hl60 : decide ((c :: r).length ≤ 60) = true := decide_eq_true (by omega)
      have hp : plainL (c :: r) = (!(decide (c = 48) && decide (c :: r ≠ [48])) && (c :: r).all dig) := by
        unfold plainL; rw [hl60]; simp
      have hgi : (c :: r).all dig = true → gInt [.str (SX.S (c :: r))] = some (.int (NumText.digitsVal (c :: r))) := fun h => gInt_S (fun d hd => by have := List.all_eq_true.mp h d hd; simp [dig] at this; exact this) (by simp) (by omega)
      rw [hp]
      generalize hb : (c :: r) = b at *
      have hne : decide (b = []) = false := decide_eq_false (by rw [← hb]; simp)
      rw [hne] at e0
      by_cases hc : c = 48
      · have e4 : decide ([c] = [48]) = true := decide_eq_true (by rw [hc])
        rw [e4] at e1
        by_cases hr : b = [48]
        · have e3 : decide (b ≠ [48]) = false := decide_eq_false (fun z => z hr)
          have e5 : decide (b = [48]) = true := decide_eq_true hr
          rw [e3]
          rw [e5] at e2
          cases q : b.all dig with
          | false => rw [q] at L; simp [e0, el, h1', i0, e1, e2, strD_S, L]
          | true => rw [q] at L; simp [e0, el, h1', i0, e1, e2, strD_S, L, hgi q]
        · have e3 : decide (b ≠ [48]) = true := decide_eq_true hr
          have e5 : decide (b = [48]) = false := decide_eq_false hr
          rw [e3, decide_eq_true hc]
          rw [e5] at e2
          cases q : b.all dig with
          | false => rw [q] at L; simp [e0, el, h1', i0, e1, e2, strD_S, L]
          | true => rw [q] at L; simp [e0, el, h1', i0, e1, e2, strD_S, L, hgi q]
      · have e4 : decide ([c] = [48]) = false := decide_eq_false (by simpa using hc)
        rw [e4] at e1
        cases q : b.all dig with
        | false => rw [q] at L; simp [e0, el, h1', i0, e1, e2, hc, strD_S, L]
        | true => rw [q] at L; simp [e0, el, h1', i0, e1, e2, hc, strD_S, L, hgi q]
theorem top_eq (a : List Nat) (ok : okS a) (hl : a.length ≤ 1000) : m_top_of [cS a] = match topL a with | some z => .ok (.im (.int z)) [cS a] | none => .ex ⟨"NoNumber", none⟩ [cS a] := by
  have s1 : gSl (.str (SX.S a)) none (some 1) = some (.str (SX.S (a.take 1))) := gSl_to (a := a) (by omega) 1
  have s2 : gSl (.str (SX.S a)) (some 1) none = some (.str (SX.S (a.drop 1))) := gSl_from (a := a) (by omega) 1
  have n1 := gNe_S (ok.take 1) (ok1 45 (by decide))
  rw [← strM] at n1
  have c1 := count_eq a ok hl
  have c2 := count_eq (a.drop 1) (ok.drop 1) (by rw [List.length_drop]; omega)
  simp only [m_top_of, b_top_of, dDef_eq, dSeq_eq]
  unfold topL
  unfold cntR at c1 c2
  generalize a.drop 1 = b at *
  generalize a.take 1 = t at *
  by_cases h : t = [45]
  · rw [if_pos h]
    rw [decide_eq_true h] at n1
    by_cases hp : plainL b = true
    · rw [if_pos hp] at c2
      have z := plain_zero hp
      by_cases h0 : b = [48]
      · have hz := z.mpr h0
        rw [hz] at c2
        rw [if_neg (fun e => e.2 h0)]
        simp [s1, s2, n1, c2]
      · have hz : ¬ NumText.digitsVal b = 0 := fun e => h0 (z.mp e)
        rw [if_pos ⟨hp, h0⟩]
        generalize NumText.digitsVal b = v at *
        have hz' : ¬ (v : Int) = 0 := by omega
        simp [s1, s2, n1, c2, hz, hz']
    · rw [if_neg hp] at c2
      rw [if_neg (fun e => hp e.1)]
      simp [s1, s2, n1, c2]
  · rw [if_neg h]
    rw [decide_eq_false h] at n1
    by_cases hp : plainL a = true
    · rw [if_pos hp] at c1 ⊢
      simp [s1, n1, c1]
    · rw [if_neg hp] at c1 ⊢
      simp [s1, n1, c1]
theorem read_eq (a : List Nat) (ok : okS a) (hl : a.length ≤ 1000) : m_read_number [cS a] = match readL a with | some (t, d) => .ok (.im (nD t d)) [cS a] | none => .ex ⟨"NoNumber", none⟩ [cS a] := by
  have gp := gPart_S (a := a) (b := [47]) (by simp) (by omega)
  rw [← strL] at gp
  have e0 : gEq (.str (SX.S [])) (.str "") = some true := by rw [str0, gEq_S ok0 ok0]; rfl
  have e1 : gEq (.str "/") (.str "") = some false := by rw [strL, str0, gEq_S (ok1 47 (by decide)) ok0]; rfl
  simp only [m_read_number, b_read_number, dDef_eq, dSeq_eq]
  unfold readL
  cases q : TL.par [47] [] a with
  | none =>
    rw [q] at gp
    have T := top_eq a ok hl
    cases qt : topL a with
    | none => rw [qt] at T; simp [isTy, gp, T, gTupD, gsCons, gsNil]
    | some t => rw [qt] at T; simp [isTy, gp, T, gTupD, gsCons, gsNil, e0]
  | some z =>
    obtain ⟨p, r⟩ := z
    rw [q] at gp
    have sp := par_split q
    simp at sp
    have okp : okS p := fun c hc => ok c (by rw [sp]; simp [hc])
    have okr : okS r := fun c hc => ok c (by rw [sp]; simp [hc])
    have hlen : a.length = p.length + (r.length + 1) := by rw [sp]; simp
    have T := top_eq p okp (by omega)
    have C := count_eq r okr (by omega)
    unfold cntR at C
    cases qt : topL p with
    | none => rw [qt] at T; simp [isTy, qt, gp, T, gTupD, gsCons, gsNil]
    | some t =>
      rw [qt] at T
      by_cases hp : plainL r = true
      · rw [if_pos hp] at C
        have G := divisor_eq t (NumText.digitsVal r)
        by_cases h2 : 2 ≤ NumText.digitsVal r
        · have h2' : ¬ (NumText.digitsVal r : Int) < 2 := by omega
          by_cases hg : Int.gcd t (NumText.digitsVal r) = 1
          · simp [isTy, qt, gp, T, gTupD, gsCons, gsNil, e1, C, G, hp, h2, h2', hg]
          · have hg' : ¬ ((Int.gcd t (NumText.digitsVal r) : Nat) : Int) = 1 := by omega
            simp [isTy, qt, gp, T, gTupD, gsCons, gsNil, e1, C, G, hp, h2, h2', hg, hg']
        · have h2' : (NumText.digitsVal r : Int) < 2 := by omega
          simp [isTy, qt, gp, T, gTupD, gsCons, gsNil, e1, C, hp, h2, h2']
      · rw [if_neg hp] at C
        simp [isTy, qt, gp, T, gTupD, gsCons, gsNil, e1, C, hp]
def showL (t d : Int) : List Nat := intL t ++ (if d = 1 then [] else 47 :: TL.numL d.natAbs)
theorem intL_free (t : Int) : 47 ∉ intL t := by
  unfold intL
  split
  · intro h
    rcases List.mem_cons.mp h with h | h
    · omega
    · exact TL.numL_free (by omega) h
  · exact TL.numL_free (by omega)
theorem topL_int {t : Int} (h : t.natAbs < 10 ^ 60) : topL (intL t) = some t := by
  unfold topL intL
  have hp := plain_num h
  have hv := TL.numL_val t.natAbs
  by_cases ht : t < 0
  · have h0 : TL.numL t.natAbs ≠ [48] := fun e => by
      rw [e] at hv
      have : NumText.digitsVal [48] = 0 := rfl
      omega
    rw [if_pos ht]
    simp only [List.take_succ_cons, List.take_zero, List.drop_succ_cons, List.drop_zero, if_true]
    rw [if_pos ⟨hp, h0⟩, hv]
    congr 1; omega
  · rw [if_neg ht]
    have h1 : ¬ (TL.numL t.natAbs).take 1 = [45] := fun e => by
      have : (45 : Nat) ∈ TL.numL t.natAbs := List.mem_of_mem_take (by rw [e]; simp)
      exact TL.numL_free (by omega) this
    rw [if_neg h1, if_pos hp, hv]
    congr 1; omega
theorem read_show {t d : Int} (ht : t.natAbs < 10 ^ 60) (hd : 0 < d) (hd2 : d.natAbs < 10 ^ 60) (hg : Int.gcd t d = 1) : readL (showL t d) = some (t, d) := by
  unfold readL showL
  by_cases h : d = 1
  · rw [if_pos h, List.append_nil, TL.par_none1 (intL_free t), topL_int ht, h]; rfl
  · rw [if_neg h]
    have e := TL.par_part1 (s := 47) (S := []) (p := intL t) (rest := TL.numL d.natAbs) (acc := []) (intL_free t)
    have e' : TL.par [47] [] (intL t ++ 47 :: TL.numL d.natAbs) = some (intL t, TL.numL d.natAbs) := e
    rw [e']
    show ((topL (intL t)).bind fun t => if plainL (TL.numL d.natAbs) = true ∧ 2 ≤ NumText.digitsVal (TL.numL d.natAbs) ∧ Int.gcd t (NumText.digitsVal (TL.numL d.natAbs)) = 1 then some (t, ((NumText.digitsVal (TL.numL d.natAbs) : Nat) : Int)) else none) = _
    rw [topL_int ht]
    have hv := TL.numL_val d.natAbs
    have hdd : ((d.natAbs : Nat) : Int) = d := by omega
    show (if plainL (TL.numL d.natAbs) = true ∧ 2 ≤ NumText.digitsVal (TL.numL d.natAbs) ∧ Int.gcd t (NumText.digitsVal (TL.numL d.natAbs)) = 1 then some (t, ((NumText.digitsVal (TL.numL d.natAbs) : Nat) : Int)) else none) = _
    rw [hv, hdd, if_pos ⟨plain_num hd2, by omega, hg⟩]
theorem show_ok (t d : Int) : okS (showL t d) := by
  unfold showL
  refine (okS.int t).app ?_
  split
  · exact fun c hc => by simp at hc
  · intro c hc
    rcases List.mem_cons.mp hc with h | h
    · omega
    · exact okS.num _ c h
theorem intL_len {t : Int} (ht : t.natAbs < 10 ^ 60) : (intL t).length ≤ 61 ∧ 1 ≤ (intL t).length := by
  have := TL.numL_len (n := t.natAbs) (k := 60) (by decide) ht
  have h2 := List.length_pos_iff.mpr (TL.numL_ne t.natAbs)
  unfold intL
  split
  · rw [List.length_cons]; omega
  · omega
theorem show_len {t d : Int} (ht : t.natAbs < 10 ^ 60) (hd2 : d.natAbs < 10 ^ 60) : (showL t d).length ≤ 122 ∧ 1 ≤ (showL t d).length := by
  have h1 := intL_len ht
  have h2 := TL.numL_len (n := d.natAbs) (k := 60) (by decide) hd2
  unfold showL
  rw [List.length_append]
  split
  · rw [List.length_nil]; omega
  · rw [List.length_cons]; omega
end Lw
namespace Lw
open PySem PySem.Spec PyProof.Rows L2 Dn
/-! days: the plain law -/
def leap (y : Int) : Bool := decide (y % 4 = 0) && (decide (y % 100 ≠ 0) || decide (y % 400 = 0))
def long (y m : Int) : Int := if m = 2 then 28 + (if leap y = true then 1 else 0) else if m = 4 ∨ m = 6 ∨ m = 9 ∨ m = 11 then 30 else 31
def ahead (y : Int) : Int := 365 * (y - 1) + (y - 1) / 4 - (y - 1) / 100 + (y - 1) / 400
def months (y : Int) : Nat → Int
  | 0 => 0
  | n + 1 => months y n + long y ((n : Int) + 1)
theorem long_pos (y m : Int) : 28 ≤ long y m := by unfold long; split <;> (try split) <;> omega
theorem long_le (y m : Int) : long y m ≤ 31 := by unfold long; split <;> (try split) <;> omega
theorem months_mono (y : Int) : ∀ (n k : Nat), months y n ≤ months y (n + k)
  | n, 0 => Int.le_refl _
  | n, k + 1 => by
    have := months_mono y n k
    have h := long_pos y (((n + k : Nat) : Int) + 1)
    show months y n ≤ months y (n + k) + long y (((n + k : Nat) : Int) + 1)
    omega
theorem months_nonneg (y : Int) (n : Nat) : 0 ≤ months y n := by have := months_mono y 0 n; simpa [months] using this
theorem months_12 (y : Int) : months y 12 = 365 + (if leap y = true then 1 else 0) := by
  simp only [months, long]
  simp
  omega
theorem ahead_succ (y : Int) : ahead (y + 1) = ahead y + months y 12 := by
  rw [months_12]
  unfold ahead leap
  simp
  split <;> omega
theorem ahead_mono {a b : Int} (h : a ≤ b) : ahead a ≤ ahead b := by unfold ahead; omega
/-- a day that there is -/
structure Val (y : Int) (m : Nat) (d : Int) : Prop where
  y1 : 1 ≤ y
  m1 : 1 ≤ m
  m12 : m ≤ 12
  d1 : 1 ≤ d
  dl : d ≤ long y (m : Int)
def cnt (y : Int) (m : Nat) (d : Int) : Int := ahead y + months y (m - 1) + d - 1
theorem Val.lt {y : Int} {m : Nat} {d : Int} (v : Val y m d) : ahead y ≤ cnt y m d ∧ cnt y m d < ahead (y + 1) := by
  have h0 := months_nonneg y (m - 1)
  have h1 := months_mono y m (12 - m)
  have e : m + (12 - m) = 12 := by have := v.m12; omega
  rw [e] at h1
  have e2 : months y m = months y (m - 1) + long y (m : Int) := by
    obtain ⟨n, rfl⟩ : ∃ n, m = n + 1 := ⟨m - 1, by have := v.m1; omega⟩
    show months y n + long y ((n : Int) + 1) = _
    simp
  have := v.d1
  have := v.dl
  rw [ahead_succ]
  unfold cnt
  omega
/-- the next day -/
def nxY (y : Int) (m : Nat) (d : Int) : Int := if d < long y m then y else if m < 12 then y else y + 1
def nxM (y : Int) (m : Nat) (d : Int) : Nat := if d < long y m then m else if m < 12 then m + 1 else 1
def nxD (y : Int) (m : Nat) (d : Int) : Int := if d < long y m then d + 1 else 1
theorem Val.next {y : Int} {m : Nat} {d : Int} (v : Val y m d) : Val (nxY y m d) (nxM y m d) (nxD y m d) ∧ cnt (nxY y m d) (nxM y m d) (nxD y m d) = cnt y m d + 1 := by
  obtain ⟨a, b, c, e, f⟩ := v
  unfold nxY nxM nxD
  by_cases h : d < long y m
  · simp only [h, if_true]
    exact ⟨⟨a, b, c, by omega, by omega⟩, by unfold cnt; omega⟩
  · simp only [h, if_false]
    have hd : d = long y m := by omega
    by_cases h2 : m < 12
    · simp only [h2, if_true]
      refine ⟨⟨a, by omega, by omega, by omega, by have := long_pos y ((m + 1 : Nat) : Int); omega⟩, ?_⟩
      obtain ⟨n, rfl⟩ : ∃ n, m = n + 1 := ⟨m - 1, by omega⟩
      unfold cnt
      show ahead y + (months y n + long y ((n : Int) + 1)) + 1 - 1 = ahead y + months y n + d - 1 + 1
      rw [hd]
      simp
      omega
    · simp only [h2, if_false]
      have hm : m = 12 := by omega
      subst hm
      refine ⟨⟨by omega, by omega, by omega, by omega, by have := long_pos (y + 1) ((1 : Nat) : Int); omega⟩, ?_⟩
      unfold cnt
      rw [ahead_succ, hd]
      show ahead y + (months y 11 + long y ((11 : Nat) + 1)) + 0 + 1 - 1 = ahead y + months y 11 + long y ((12 : Nat) : Int) - 1 + 1
      simp
      omega
theorem val_of : ∀ n : Nat, ∃ y m d, Val y m d ∧ cnt y m d = (n : Int)
  | 0 => ⟨1, 1, 1, ⟨by decide, by decide, by decide, by decide, by have := long_pos 1 ((1 : Nat) : Int); omega⟩, by decide⟩
  | n + 1 => by
    obtain ⟨y, m, d, v, e⟩ := val_of n
    obtain ⟨v2, e2⟩ := v.next
    exact ⟨_, _, _, v2, by rw [e2, e]; omega⟩
theorem Val.le9999 {y : Int} {m : Nat} {d : Int} (v : Val y m d) (h : cnt y m d ≤ 3652058) : y ≤ 9999 := by
  have h1 := v.lt
  by_cases hy : y ≤ 9999
  · exact hy
  · have h2 := ahead_mono (a := 10000) (b := y) (by omega)
    have h3 : ahead 10000 = 3652059 := by decide
    omega
theorem leap_eq (y : Int) : m_is_leap [cI y] = .ok (.im (.bool (leap y))) [cI y] := by
  have q4 : gMod (.int y) (.int 4) = some (.int (y % 4)) := gMod_pos (by decide)
  have q100 : gMod (.int y) (.int 100) = some (.int (y % 100)) := gMod_pos (by decide)
  have q400 : gMod (.int y) (.int 400) = some (.int (y % 400)) := gMod_pos (by decide)
  simp only [m_is_leap, b_is_leap, dDef_eq, dSeq_eq]
  unfold leap
  by_cases h1 : y % 400 = 0
  · have h2 : y % 4 = 0 := by omega
    simp [q4, q100, q400, h1, h2]
  · by_cases h2 : y % 4 = 0
    · by_cases h3 : y % 100 = 0 <;> simp [q4, q100, q400, h1, h2, h3]
    · simp [q4, q100, q400, h1, h2]
theorem length_eq (y m : Int) : m_length_of [cI y, cI m] = .ok (.im (.int (long y m))) [cI y, cI m] := by
  simp only [m_length_of, b_length_of, dDef_eq, dSeq_eq]
  unfold long
  by_cases h : m = 2
  · subst h
    cases q : leap y <;> simp [leap_eq, q, gInt]
  · by_cases h4 : m = 4
    · subst h4; simp
    by_cases h6 : m = 6
    · subst h6; simp
    by_cases h9 : m = 9
    · subst h9; simp
    by_cases h11 : m = 11
    · subst h11; simp
    simp [h, h4, h6, h9, h11]
theorem fd (y : Int) (n : Nat) (h1 : 0 < (n : Int)) (h : (n : Int).natAbs < 2 ^ 10) : gFdiv (.int y) (.int n) = some (.int (y / n)) := gFdiv_pos (n := 10) h1 h (by decide) (by decide)
theorem mul365 (y : Int) (h : y.natAbs < 2 ^ 40) : gMul (.int 365) (.int y) = some (.int (365 * y)) := gMul_of (m := 10) (n := 40) (by decide) h (by decide) (by decide) (by decide)
theorem ahead_eq (y : Int) (h : y.natAbs < 2 ^ 30) : m_ahead_of [cI y] = .ok (.im (.int (ahead y))) [cI y] := by
  have f1 := fd (y - 1) 4 (by decide) (by decide)
  have f2 := fd (y - 1) 100 (by decide) (by decide)
  have f3 := fd (y - 1) 400 (by decide) (by decide)
  have g := mul365 (y - 1) (by omega)
  simp only [m_ahead_of, b_ahead_of, dDef_eq, dSeq_eq]
  simp at f1 f2 f3
  simp [f1, f2, f3, g, ahead]
theorem whole_eq (i : Int) : m_is_whole [cI i] = .ok (.im (.bool true)) [cI i] := by
  simp only [m_is_whole, b_is_whole, dDef_eq, dSeq_eq]
  simp [isTy]
theorem law_whole_eq (i : Int) : m_law_whole [cI i] = .ok (.im (.bool true)) [cI i] := by
  simp only [m_law_whole, b_law_whole, dDef_eq, dSeq_eq]
  simp [isTy]
theorem loop_year (day y : Int) (h1 : ahead y ≤ day) (h2 : day < ahead (y + 1)) (hy : y.natAbs < 2 ^ 20) : ∀ (n : Nat) (z : Int), z + n = y → z.natAbs < 2 ^ 20 → ∀ a b,
    dWhile (dCmp gLe (dFn 1 m_ahead_of (aIm (dOp gAdd (dVar 1) (dC (.int 1))) aNil)) (dVar 0)) b_parts_of_l1 [cI day, cI z, a, b] = .ok .nx [cI day, cI y, a, b]
  | 0, z, e, hz, a, b => by
    have : z = y := by omega
    subst this
    have k : ¬ ahead (z + 1) ≤ day := by omega
    rw [dWhile_turn]
    simp [ahead_eq (z + 1) (by omega), k]
  | n + 1, z, e, hz, a, b => by
    have k : ahead (z + 1) ≤ day := by have := ahead_mono (a := z + 1) (b := y) (by omega); omega
    rw [dWhile_turn]
    have ih := loop_year day y h1 h2 hy n (z + 1) (by omega) (by omega) a b
    have b1 : b_parts_of_l1 [cI day, cI z, a, b] = .ok .nx [cI day, cI (z + 1), a, b] := by simp [b_parts_of_l1]
    simp [ahead_eq (z + 1) (by omega), k, b1, ih]
theorem months_succ (y : Int) (n : Nat) : months y (n + 1) = months y n + long y ((n : Int) + 1) := rfl
theorem loop_month (day y d : Int) (m : Nat) (v : Val y m d) : ∀ (n j : Nat), j + n + 1 = m →
    dWhile (dCmp gGe (dVar 2) (dFn 2 m_length_of (aIm (dVar 1) (aIm (dVar 3) aNil)))) b_parts_of_l2 [cI day, cI y, cI (months y (m - 1) - months y j + d - 1), cI ((j : Int) + 1)] = .ok .nx [cI day, cI y, cI (d - 1), cI (m : Int)]
  | 0, j, e => by
    have : m - 1 = j := by omega
    have hm : (m : Int) = (j : Int) + 1 := by omega
    have := v.dl
    rw [‹m - 1 = j›, hm] at *
    have k : ¬ long y ((j : Int) + 1) ≤ months y j - months y j + d - 1 := by omega
    have e2 : months y j - months y j + d - 1 = d - 1 := by omega
    rw [e2] at k ⊢
    rw [dWhile_turn]
    simp [length_eq, k]
  | n + 1, j, e => by
    have h0 := months_mono y (j + 1) n
    have e1 : j + 1 + n = m - 1 := by omega
    rw [e1, months_succ] at h0
    have := v.d1
    have k : long y ((j : Int) + 1) ≤ months y (m - 1) - months y j + d - 1 := by omega
    have ih := loop_month day y d m v n (j + 1) (by omega)
    rw [months_succ] at ih
    have e2 : months y (m - 1) - months y j + d - 1 - long y ((j : Int) + 1) = months y (m - 1) - (months y j + long y ((j : Int) + 1)) + d - 1 := by omega
    rw [dWhile_turn]
    have b1 : b_parts_of_l2 [cI day, cI y, cI (months y (m - 1) - months y j + d - 1), cI ((j : Int) + 1)] = .ok .nx [cI day, cI y, cI (months y (m - 1) - (months y j + long y ((j : Int) + 1)) + d - 1), cI (((j + 1 : Nat) : Int) + 1)] := by
      simp [b_parts_of_l2, length_eq, e2]
    simp [length_eq, k, b1]
    simpa using ih
theorem parts_eq (y : Int) (m : Nat) (d : Int) (v : Val y m d) (hy : y ≤ 10000) : m_parts_of [cI (cnt y m d)] = .ok (.im (.tuple [.int y, .int m, .int d])) [cI (cnt y m d)] := by
  have hl := v.lt
  have h1 := v.y1
  have f := fd (cnt y m d) 366 (by decide) (by decide)
  simp at f
  have hs : cnt y m d / 366 + 1 ≤ y := by
    have : ahead (y + 1) ≤ 366 * y := by unfold ahead; omega
    omega
  have h0 : 0 ≤ cnt y m d := by
    have : 0 ≤ ahead y := by unfold ahead; omega
    omega
  obtain ⟨n, hn⟩ : ∃ n : Nat, cnt y m d / 366 + 1 + n = y := ⟨(y - (cnt y m d / 366 + 1)).toNat, by omega⟩
  have L1 := loop_year (cnt y m d) y hl.1 hl.2 (by omega) n (cnt y m d / 366 + 1) hn (by omega) none none
  have L2 := loop_month (cnt y m d) y d m v (m - 1) 0 (by have := v.m1; omega)
  have e3 : months y (m - 1) - months y 0 + d - 1 = cnt y m d - ahead y := by unfold cnt months; omega
  rw [e3] at L2
  simp at L2
  simp only [m_parts_of, b_parts_of, dDef_eq, dSeq_eq]
  simp [f, L1, L2, ahead_eq y (by omega)]
theorem day_of_eq (y : Int) (m : Nat) (d : Int) (v : Val y m d) (h9 : y ≤ 9999) : m_day_of [cI y, cI m, cI d] = .ok (.im (.int (cnt y m d))) [cI y, cI m, cI d] := by
  obtain ⟨h1, h2, h3, h4, h5⟩ := v
  have k0 : ¬ y < 1 := by omega
  have k1 : ¬ 9999 < y := by omega
  have k2 : ¬ (m : Int) < 1 := by omega
  have k3 : (m : Int) ≤ 12 := by omega
  have k4 : ¬ d < 1 := by omega
  have k5 : ¬ long y m < d := by omega
  have A := ahead_eq y (by omega)
  have r1 : Dn.inR (m : Int) := inR_of (by omega) (by omega)
  have r2 : Dn.inR 1 := inR_of (by decide) (by decide)
  obtain ⟨ρ', L, x, hx, rfl⟩ := forL_rng (g := putIm 4) (b := b_day_of_l1) (lo := 1) (n := m - 1) (P := fun i ρ => ∃ x, free (some x) = true ∧ ρ = [cI y, cI m, cI d, cI (ahead y + d - 1 + months y i), x])
    (fun i hi ρ ⟨x, hx, e⟩ => by
      subst e
      refine ⟨[cI y, cI m, cI d, cI (ahead y + d - 1 + months y i), cI (1 + (i : Int))], _, by simp [hx], ?_, cI (1 + (i : Int)), rfl, rfl⟩
      have e : ahead y + d - 1 + months y i + long y (1 + (i : Int)) = ahead y + d - 1 + months y (i + 1) := by rw [months_succ, Int.add_comm 1]; omega
      simp [b_day_of_l1, length_eq, e]) [cI y, cI m, cI d, cI (ahead y + d - 1), none] ⟨none, rfl, by simp [months]⟩
  have e : ahead y + d - 1 + months y (m - 1) = cnt y m d := by unfold cnt; omega
  rw [e] at L
  simp only [m_day_of, b_day_of, dDef_eq, dSeq_eq]
  simp [whole_eq, k0, k1, k2, k3, k4, k5, length_eq, A, r1, r2, L]
/-! days as texts: the plain law -/
theorem dig_all {a : List Nat} (h : a.all dig = true) : NumText.AllDigits a := fun c hc => by have := List.all_eq_true.mp h c hc; simp [dig] at this; exact this
def okD (y m d : Nat) : Bool := decide (1 ≤ y) && decide (1 ≤ m) && decide (m ≤ 12) && decide (1 ≤ d) && decide ((d : Int) ≤ long y m)
/-- what a text of ten signs tells -/
def figs (a : List Nat) : List Nat := a.take 4 ++ (a.take 7).drop 5 ++ a.drop 8
def readD (a : List Nat) : Option Int := if a.length = 10 ∧ a[4]? = some 45 ∧ a[7]? = some 45 ∧ (figs a).all dig = true then
  (if okD (NumText.digitsVal (a.take 4)) (NumText.digitsVal ((a.take 7).drop 5)) (NumText.digitsVal (a.drop 8)) = true then some (cnt (NumText.digitsVal (a.take 4)) (NumText.digitsVal ((a.take 7).drop 5)) (NumText.digitsVal (a.drop 8))) else none) else none
def pad2 (n : Nat) : List Nat := [48 + n / 10, 48 + n % 10]
def pad4 (n : Nat) : List Nat := [48 + n / 1000, 48 + n / 100 % 10, 48 + n / 10 % 10, 48 + n % 10]
def dayL (y m d : Nat) : List Nat := pad4 y ++ [45] ++ pad2 m ++ [45] ++ pad2 d
theorem numL2 {n : Nat} (h1 : 10 ≤ n) (h2 : n < 100) : TL.numL n = [48 + n / 10, 48 + n % 10] := by
  rw [TL.numL_step h1, TL.numL_lt (by omega)]; rfl
theorem numL3 {n : Nat} (h1 : 100 ≤ n) (h2 : n < 1000) : TL.numL n = [48 + n / 100, 48 + n / 10 % 10, 48 + n % 10] := by
  rw [TL.numL_step (by omega), numL2 (by omega) (by omega)]
  simp
  omega
theorem numL4 {n : Nat} (h1 : 1000 ≤ n) (h2 : n < 10000) : TL.numL n = [48 + n / 1000, 48 + n / 100 % 10, 48 + n / 10 % 10, 48 + n % 10] := by
  rw [TL.numL_step (by omega), numL3 (by omega) (by omega)]
  simp
  omega
theorem numL5 {n : Nat} (h1 : 10000 ≤ n) (h2 : n < 100000) : TL.numL n = [48 + n / 10000, 48 + n / 1000 % 10, 48 + n / 100 % 10, 48 + n / 10 % 10, 48 + n % 10] := by
  rw [TL.numL_step (by omega), numL4 (by omega) (by omega)]
  simp
  omega
theorem drop5 {y : Nat} (h : y < 10000) : (TL.numL (10000 + y)).drop 1 = pad4 y := by
  rw [numL5 (by omega) (by omega)]
  simp [pad4]
  omega
theorem drop3 {y : Nat} (h : y < 100) : (TL.numL (100 + y)).drop 1 = pad2 y := by
  rw [numL3 (by omega) (by omega)]
  simp [pad2]
  omega
theorem zf_S (a : List Nat) (k : Nat) (hd : NumText.AllDigits a) (hne : a ≠ []) (hk : a.length ≤ k) : Txt.zfill (SX.S a) (k : Int) = SX.S (List.replicate (k - a.length) 48 ++ a) := by
  unfold Txt.zfill
  rw [SX.S_len]
  by_cases h : (k : Int) ≤ a.length
  · rw [if_pos h, show k - a.length = 0 by omega]; rfl
  · rw [if_neg h]
    cases a with
    | nil => exact absurd rfl hne
    | cons c r =>
      have hc := hd.head
      have e : (SX.S (c :: r)).cps[0]? = some c := by simp [SX.S]
      have z : zfilled (SX.S (c :: r)) ((k : Int).toNat - (c :: r).length) = PySem.Builtin.Str.padded (SX.S (c :: r)) ((k : Int).toNat - (c :: r).length) 0 48 := by
        unfold zfilled
        rw [e]
        split
        · rename_i h; cases h; omega
        · rename_i h; cases h; omega
        · rfl
      rw [z]
      refine TL.ext_tl ?_
      show (Array.replicate _ 48 ++ (c :: r).toArray ++ Array.replicate 0 48).toList = List.replicate _ 48 ++ (c :: r)
      simp
theorem zf4 {y : Nat} (h : y < 10000) : Txt.zfill (SX.S (TL.numL y)) 4 = SX.S (pad4 y) := by
  have hd := TL.numL_digits y
  have hne := TL.numL_ne y
  have hl := TL.numL_len (n := y) (k := 4) (by decide) (by omega)
  have := zf_S (TL.numL y) 4 hd hne hl
  refine Eq.trans this ?_
  congr 1
  by_cases h1 : y < 10
  · rw [TL.numL_lt h1]; simp [pad4, List.replicate]; omega
  by_cases h2 : y < 100
  · rw [numL2 (by omega) h2]; simp [pad4, List.replicate]; omega
  by_cases h3 : y < 1000
  · rw [numL3 (by omega) h3]; simp [pad4, List.replicate]; omega
  · rw [numL4 (by omega) h]; simp [pad4]
theorem zf2 {y : Nat} (h : y < 100) : Txt.zfill (SX.S (TL.numL y)) 2 = SX.S (pad2 y) := by
  have hd := TL.numL_digits y
  have hne := TL.numL_ne y
  have hl := TL.numL_len (n := y) (k := 2) (by decide) (by omega)
  have := zf_S (TL.numL y) 2 hd hne hl
  refine Eq.trans this ?_
  congr 1
  by_cases h1 : y < 10
  · rw [TL.numL_lt h1]; simp [pad2, List.replicate]; omega
  · rw [numL2 (by omega) h]; simp [pad2]
theorem pad4_val {y : Nat} (h : y < 10000) : NumText.digitsVal (pad4 y) = y := by
  simp [NumText.digitsVal, pad4]; omega
theorem pad2_val {y : Nat} (h : y < 100) : NumText.digitsVal (pad2 y) = y := by
  simp [NumText.digitsVal, pad2]; omega
theorem pad4_dig {y : Nat} (h : y < 10000) : (pad4 y).all dig = true := by
  simp [pad4, dig]; omega
theorem pad2_dig {y : Nat} (h : y < 100) : (pad2 y).all dig = true := by
  simp [pad2, dig]; omega
theorem read_day_text {y m d : Nat} (hy : y < 10000) (hm : m < 100) (hd : d < 100) (h : okD y m d = true) : readD (dayL y m d) = some (cnt y m d) := by
  have t4 : (dayL y m d).take 4 = pad4 y := by simp [dayL, pad4, pad2]
  have t57 : ((dayL y m d).take 7).drop 5 = pad2 m := by simp [dayL, pad4, pad2]
  have t8 : (dayL y m d).drop 8 = pad2 d := by simp [dayL, pad4, pad2]
  unfold readD figs
  rw [t4, t57, t8, pad4_val hy, pad2_val hm, pad2_val hd, if_pos h]
  rw [if_pos]
  refine ⟨by simp [dayL, pad4, pad2], by simp [dayL, pad4, pad2], by simp [dayL, pad4, pad2], ?_⟩
  rw [List.all_append, List.all_append, pad4_dig hy, pad2_dig hm, pad2_dig hd]; rfl
theorem day_okS (y m d : Nat) (hy : y < 10000) (hm : m < 100) (hd : d < 100) : okS (dayL y m d) := by
  intro c hc
  simp [dayL, pad4, pad2] at hc
  omega
theorem day_of_gen (y m d : Nat) (hy : y ≤ 9999) (hm : m ≤ 99) (hd : d ≤ 99) : m_day_of [cI y, cI m, cI d] = if okD y m d = true then .ok (.im (.int (cnt y m d))) [cI y, cI m, cI d] else .ex ⟨"NoDay", none⟩ [cI y, cI m, cI d] := by
  by_cases h : okD y m d = true
  · rw [if_pos h]
    simp only [okD, Bool.and_eq_true, decide_eq_true_eq] at h
    obtain ⟨⟨⟨⟨h1, h2⟩, h3⟩, h4⟩, h5⟩ := h
    exact day_of_eq y m d ⟨by omega, h2, h3, by omega, h5⟩ (by omega)
  · rw [if_neg h]
    have hh : ¬ ((((1 ≤ y ∧ 1 ≤ m) ∧ m ≤ 12) ∧ 1 ≤ d) ∧ (d : Int) ≤ long y m) := fun z => h (by simp only [okD, Bool.and_eq_true, decide_eq_true_eq]; exact z)
    have k0 : ¬ (9999 : Int) < y := by omega
    simp only [m_day_of, b_day_of, dDef_eq, dSeq_eq]
    by_cases h1 : 1 ≤ y
    · have h1' : ¬ (y : Int) < 1 := by omega
      by_cases h2 : 1 ≤ m
      · have h2' : ¬ (m : Int) < 1 := by omega
        by_cases h3 : m ≤ 12
        · have h3' : ¬ (12 : Int) < m := by omega
          by_cases h4 : 1 ≤ d
          · have h4' : ¬ (d : Int) < 1 := by omega
            have h5 : long y m < d := by
              have : ¬ (d : Int) ≤ long y m := fun z => hh ⟨⟨⟨⟨h1, h2⟩, h3⟩, h4⟩, z⟩
              omega
            simp [-Int.not_lt, whole_eq, k0, h1', h2', h3', h4', h5, length_eq]
          · have h4' : (d : Int) < 1 := by omega
            simp [-Int.not_lt, whole_eq, k0, h1', h2', h3', h4', length_eq]
        · have h3' : (12 : Int) < m := by omega
          simp [-Int.not_lt, whole_eq, k0, h1', h2', h3']
      · have h2' : (m : Int) < 1 := by omega
        simp [-Int.not_lt, whole_eq, k0, h1', h2']
    · have h1' : (y : Int) < 1 := by omega
      simp [-Int.not_lt, whole_eq, h1']
theorem loop_read (a : List Nat) : ∀ (l : List Nat) (x : Option L), free (some x) = true → ∃ x', dForL (putIm 1) b_read_day_l1 (l.map fun c => PyData.str (SX.S [c])) [cS a, x] = if l.all dig = true then .ok .nx [cS a, x'] else .ex ⟨"NoDay", none⟩ [cS a, x']
  | [], x, _ => ⟨x, rfl⟩
  | c :: r, x, hx => by
    have hm := mem_dig c
    have gn := gNotIn_S c [48, 49, 50, 51, 52, 53, 54, 55, 56, 57]
    rw [← strDg] at gn
    by_cases h : dig c = true
    · obtain ⟨x', e⟩ := loop_read a r (cS [c]) rfl
      refine ⟨x', ?_⟩
      have h2 := hm.mpr h
      simp only [h2, decide_true, Bool.not_true] at gn
      have b1 : b_read_day_l1 [cS a, cS [c]] = .ok .nx [cS a, cS [c]] := by simp [b_read_day_l1, gn]
      simp [dForL, hx, b1, e, h]
    · refine ⟨cS [c], ?_⟩
      have h2 : ¬ (c ∈ [48, 49, 50, 51, 52, 53, 54, 55, 56, 57]) := fun z => h (hm.mp z)
      simp only [h2, decide_false, Bool.not_false] at gn
      have b1 : b_read_day_l1 [cS a, cS [c]] = .ex ⟨"NoDay", none⟩ [cS a, cS [c]] := by simp [b_read_day_l1, gn]
      simp [dForL, hx, b1, h]
theorem len10 {a : List Nat} (h : a.length = 10) : ∃ c0 c1 c2 c3 c4 c5 c6 c7 c8 c9, a = [c0, c1, c2, c3, c4, c5, c6, c7, c8, c9] := by
  match a, h with
  | [c0, c1, c2, c3, c4, c5, c6, c7, c8, c9], _ => exact ⟨c0, c1, c2, c3, c4, c5, c6, c7, c8, c9, rfl⟩
theorem val_lt : ∀ (l : List Nat) (acc : Nat), NumText.AllDigits l → l.foldl (fun acc c => acc * 10 + (c - 48)) acc < (acc + 1) * 10 ^ l.length
  | [], acc, _ => by simp
  | c :: r, acc, h => by
    have hc := h.head
    have ih := val_lt r (acc * 10 + (c - 48)) h.tail
    rw [List.foldl_cons, List.length_cons, Nat.pow_succ]
    have : (acc * 10 + (c - 48) + 1) * 10 ^ r.length ≤ (acc * 10 + 10) * 10 ^ r.length := Nat.mul_le_mul_right _ (by omega)
    have e : (acc + 1) * (10 ^ r.length * 10) = (acc * 10 + 10) * 10 ^ r.length := by
      rw [Nat.mul_comm (10 ^ r.length) 10, ← Nat.mul_assoc, Nat.add_mul]
    omega
theorem val_bound {l : List Nat} (h : NumText.AllDigits l) : NumText.digitsVal l < 10 ^ l.length := by
  have := val_lt l 0 h
  simpa [NumText.digitsVal] using this
theorem read_day_eq (a : List Nat) (ok : okS a) (hl : a.length ≤ 1000) : m_read_day [cS a] = match readD a with | some n => .ok (.im (.int n)) [cS a] | none => .ex ⟨"NoDay", none⟩ [cS a] := by
  have el := gLen_S (a := a) (by omega)
  rw [m_read_day, b_read_day, dDef_eq, dSeq_eq]
  by_cases h10 : a.length = 10
  · obtain ⟨c0, c1, c2, c3, c4, c5, c6, c7, c8, c9, e⟩ := len10 h10
    have i4 : gIx (.str (SX.S a)) (.int 4) = some (.str (SX.S [c4])) := by
      have := gIx_S (a := a) (by omega) (k := 4) (by omega)
      subst e; exact this
    have i7 : gIx (.str (SX.S a)) (.int 7) = some (.str (SX.S [c7])) := by
      have := gIx_S (a := a) (by omega) (k := 7) (by omega)
      subst e; exact this
    have n4 : gNe (.str (SX.S [c4])) (.str "-") = some (!decide (c4 = 45)) := by
      rw [strM, gNe_S (ok1 _ (ok c4 (by rw [e]; simp))) (ok1 45 (by decide))]; simp
    have n7 : gNe (.str (SX.S [c7])) (.str "-") = some (!decide (c7 = 45)) := by
      rw [strM, gNe_S (ok1 _ (ok c7 (by rw [e]; simp))) (ok1 45 (by decide))]; simp
    have s1 : gSl (.str (SX.S a)) none (some 4) = some (.str (SX.S (a.take 4))) := gSl_to (by omega) 4
    have s2 : gSl (.str (SX.S a)) (some 5) (some 7) = some (.str (SX.S ((a.take 7).drop 5))) := gSl_mid (by omega) 5 7
    have s3 : gSl (.str (SX.S a)) (some 8) none = some (.str (SX.S (a.drop 8))) := gSl_from (by omega) 8
    have l1 : (a.take 4).length = 4 := by rw [e]; rfl
    have l2 : ((a.take 7).drop 5).length = 2 := by rw [e]; rfl
    have l3 : (a.drop 8).length = 2 := by rw [e]; rfl
    have g1 := gAdd_S (a := a.take 4) (b := (a.take 7).drop 5) (by omega)
    have g2 := gAdd_S (a := a.take 4 ++ (a.take 7).drop 5) (b := a.drop 8) (by rw [List.length_append]; omega)
    have e4 : a[4]? = some c4 := by rw [e]; rfl
    have e7 : a[7]? = some c7 := by rw [e]; rfl
    obtain ⟨x', L⟩ := loop_read a (figs a) none rfl
    unfold readD
    unfold figs at L ⊢
    rw [e4, e7]
    have k10 : (a.length : Int) = 10 := by omega
    clear e e4 e7
    generalize a.take 4 = A at *
    generalize (a.take 7).drop 5 = B at *
    generalize a.drop 8 = C at *
    generalize hF : A ++ B ++ C = F at *
    by_cases h4 : c4 = 45
    · rw [decide_eq_true h4] at n4
      by_cases h7 : c7 = 45
      · rw [decide_eq_true h7] at n7
        by_cases hd : F.all dig = true
        · rw [if_pos hd] at L
          rw [if_pos ⟨h10, by rw [h4], by rw [h7], hd⟩]
          rw [← hF, List.all_append, List.all_append, Bool.and_eq_true, Bool.and_eq_true] at hd
          have d1 := dig_all hd.1.1
          have d2 := dig_all hd.1.2
          have d3 := dig_all hd.2
          have v1 := gInt_S d1 (by intro z; rw [z] at l1; cases l1) (by omega)
          have v2 := gInt_S d2 (by intro z; rw [z] at l2; cases l2) (by omega)
          have v3 := gInt_S d3 (by intro z; rw [z] at l3; cases l3) (by omega)
          have w1 := val_bound d1
          have w2 := val_bound d2
          have w3 := val_bound d3
          rw [l1] at w1; rw [l2] at w2; rw [l3] at w3
          have G := day_of_gen _ _ _ (show NumText.digitsVal (A) ≤ 9999 by omega) (show NumText.digitsVal (B) ≤ 99 by omega) (show NumText.digitsVal (C) ≤ 99 by omega)
          generalize NumText.digitsVal (A) = Y at *
          generalize NumText.digitsVal (B) = M at *
          generalize NumText.digitsVal (C) = DD at *
          cases q : okD Y M DD with
          | false => rw [q] at G; simp [-List.append_assoc, isTy, el, k10, i4, i7, n4, n7, s1, s2, s3, g1, g2, strD_S, L, v1, v2, v3, G]
          | true => rw [q] at G; simp [-List.append_assoc, isTy, el, k10, i4, i7, n4, n7, s1, s2, s3, g1, g2, strD_S, L, v1, v2, v3, G]
        · rw [if_neg hd] at L
          rw [if_neg (fun z => hd z.2.2.2)]
          simp [-List.append_assoc, isTy, el, k10, i4, i7, n4, n7, s1, s2, s3, g1, g2, strD_S, L]
      · rw [decide_eq_false h7] at n7
        rw [if_neg (fun z => h7 (Option.some.inj z.2.2.1))]
        simp [isTy, el, k10, i4, i7, n4, n7]
    · rw [decide_eq_false h4] at n4
      rw [if_neg (fun z => h4 (Option.some.inj z.2.1))]
      simp [isTy, el, k10, i4, n4]
  · have k10 : ¬ (a.length : Int) = 10 := by omega
    have : readD a = none := by unfold readD; rw [if_neg (fun z => h10 z.1)]
    rw [this]
    simp [isTy, el, k10]
theorem show_day_eq (y m d : Nat) (v : Val y m d) (h9 : y ≤ 9999) : m_show_day [cI (cnt y m d)] = .ok (.im (.str (SX.S (dayL y m d)))) [cI (cnt y m d)] := by
  have P := parts_eq y m d v (by omega)
  have hm := v.m12
  have hd := v.dl
  have hd2 := long_le y m
  have g1 := gStr_nat (n := y) (k := 20) (by omega) (by decide) (by decide)
  have g2 := gStr_nat (n := m) (k := 20) (by omega) (by decide) (by decide)
  have g3 := gStr_nat (n := d) (k := 20) (by omega) (by decide) (by decide)
  have z1 : gZfill (SX.S (TL.numL y)) (.int 4) = some (.str (SX.S (pad4 y))) := by
    rw [← zf4 (by omega)]; rfl
  have z2 : gZfill (SX.S (TL.numL m)) (.int 2) = some (.str (SX.S (pad2 m))) := by
    rw [← zf2 (by omega)]; rfl
  have z3 : gZfill (SX.S (TL.numL d)) (.int 2) = some (.str (SX.S (pad2 d))) := by
    rw [← zf2 (by omega)]; rfl
  have a1 := gAdd_S (a := pad4 y) (b := [45]) (by simp [pad4])
  have a2 := gAdd_S (a := pad4 y ++ [45]) (b := pad2 m) (by simp [pad4, pad2])
  have a3 := gAdd_S (a := pad4 y ++ [45] ++ pad2 m) (b := [45]) (by simp [pad4, pad2])
  have a4 := gAdd_S (a := pad4 y ++ [45] ++ pad2 m ++ [45]) (b := pad2 d) (by simp [pad4, pad2])
  rw [← strM] at a1 a3
  simp only [m_show_day, b_show_day, dDef_eq, dSeq_eq]
  unfold dayL
  simp [-List.append_assoc, P, gTupD, gsCons, gsNil, g1, g2, g3, z1, z2, z3, a1, a2, a3, a4]
end Lw
namespace Lw
open PySem PySem.Spec PyProof.Rows L2 Dn
/-! the law's days -/
def lensL (y : Int) : List Int := [31, 28 + (if leap y = true then 1 else 0), 31, 30, 31, 30, 31, 31, 30, 31, 30, 31]
theorem lens_eq (y : Int) : m_law_lengths [cI y] = .ok (.ow ((lensL y).map PyData.int)) [cI y] := by
  have m1 : gMod (.int y) (.int 4) = some (.int (y % 4)) := gMod_pos (by decide)
  have m2 : gMod (.int y) (.int 100) = some (.int (y % 100)) := gMod_pos (by decide)
  have m3 : gMod (.int y) (.int 400) = some (.int (y % 400)) := gMod_pos (by decide)
  simp only [m_law_lengths, b_law_lengths, dDef_eq, dSeq_eq]
  by_cases h1 : y % 4 = 0
  · by_cases h2 : y % 100 = 0
    · by_cases h3 : y % 400 = 0
      · simp [m1, m2, m3, h1, h2, h3, lensL, leap]
      · simp [m1, m2, m3, h1, h2, h3, lensL, leap]
    · simp [m1, m2, h1, h2, lensL, leap]
  · simp [m1, h1, lensL, leap]
theorem lens_at (y : Int) {m : Nat} (h : m < 12) : (lensL y)[m]? = some (long y ((m : Int) + 1)) := by
  have : m = 0 ∨ m = 1 ∨ m = 2 ∨ m = 3 ∨ m = 4 ∨ m = 5 ∨ m = 6 ∨ m = 7 ∨ m = 8 ∨ m = 9 ∨ m = 10 ∨ m = 11 := by omega
  rcases this with rfl | rfl | rfl | rfl | rfl | rfl | rfl | rfl | rfl | rfl | rfl | rfl <;> simp [lensL, long]
theorem lens_sum (y : Int) {m : Nat} (h : m < 12) : ((lensL y).take m).sum = months y m := by
  have : m = 0 ∨ m = 1 ∨ m = 2 ∨ m = 3 ∨ m = 4 ∨ m = 5 ∨ m = 6 ∨ m = 7 ∨ m = 8 ∨ m = 9 ∨ m = 10 ∨ m = 11 := by omega
  rcases this with rfl | rfl | rfl | rfl | rfl | rfl | rfl | rfl | rfl | rfl | rfl | rfl <;> simp [lensL, long, months] <;> omega
theorem law_day_eq (y m dd : Nat) (hy : y < 8000) (hm : m < 12) : ∃ n : Nat, (n : Int) = (dd : Int) % long (1000 + (y : Int)) ((m : Int) + 1) ∧ Val (((1000 + y : Nat) : Int)) (m + 1) (((n + 1 : Nat) : Int)) ∧
    m_law_day [cD (iL [(y : Int), (m : Int), (dd : Int)])] = .ok (.im (.tuple [.int (cnt ((1000 + y : Nat) : Int) (m + 1) ((n + 1 : Nat) : Int)), .str (SX.S (dayL (1000 + y) (m + 1) (n + 1)))])) [cD (iL [(y : Int), (m : Int), (dd : Int)])] := by
  have L := lens_eq (1000 + (y : Int))
  have q1 : gMul (.int 365) (.int (1000 + (y : Int) - 1)) = some (.int (365 * (1000 + (y : Int) - 1))) := gmul (by decide) (by omega)
  have q2 : gFdiv (.int (1000 + (y : Int) - 1)) (.int 4) = some (.int ((1000 + (y : Int) - 1) / 4)) := gFdiv_pos (n := 40) (by decide) (by decide) (by decide) (by decide)
  have q3 : gFdiv (.int (1000 + (y : Int) - 1)) (.int 100) = some (.int ((1000 + (y : Int) - 1) / 100)) := gFdiv_pos (n := 40) (by decide) (by decide) (by decide) (by decide)
  have q4 : gFdiv (.int (1000 + (y : Int) - 1)) (.int 400) = some (.int ((1000 + (y : Int) - 1) / 400)) := gFdiv_pos (n := 40) (by decide) (by decide) (by decide) (by decide)
  have hsl : gSl (iL (lensL (1000 + (y : Int)))) none (some (m : Int)) = some (iL ((lensL (1000 + (y : Int))).take m)) := by
    rw [gSl_take]; simp [List.map_take]
  have hS : gSum [iL ((lensL (1000 + (y : Int))).take m)] = some (.int (months (1000 + (y : Int)) m)) := by
    rw [gSum_list, Dn.ints_map, ← lens_sum _ hm]; rfl
  have gx : gIx (iL (lensL (1000 + (y : Int)))) (.int (m : Int)) = some (.int (long (1000 + (y : Int)) ((m : Int) + 1))) := by
    rw [gIx_lst]; exact atI_of (by rw [List.getElem?_map, lens_at _ hm]; rfl)
  have x0 := long_pos (1000 + (y : Int)) ((m : Int) + 1)
  have x1 := long_le (1000 + (y : Int)) ((m : Int) + 1)
  have md : gMod (.int (dd : Int)) (.int (long (1000 + (y : Int)) ((m : Int) + 1))) = some (.int ((dd : Int) % long (1000 + (y : Int)) ((m : Int) + 1))) := gMod_pos (by omega)
  have r0 := Int.emod_nonneg (dd : Int) (show long (1000 + (y : Int)) ((m : Int) + 1) ≠ 0 by omega)
  have r1 := Int.emod_lt_of_pos (dd : Int) (show 0 < long (1000 + (y : Int)) ((m : Int) + 1) by omega)
  obtain ⟨n, hn⟩ : ∃ n : Nat, (n : Int) = (dd : Int) % long (1000 + (y : Int)) ((m : Int) + 1) := ⟨((dd : Int) % long (1000 + (y : Int)) ((m : Int) + 1)).toNat, by omega⟩
  refine ⟨n, hn, ⟨by omega, by omega, by omega, by omega, ?_⟩, ?_⟩
  · have : ((1000 + y : Nat) : Int) = 1000 + (y : Int) := by omega
    rw [this]
    have : ((m + 1 : Nat) : Int) = (m : Int) + 1 := by omega
    rw [this]
    omega
  rw [← hn] at md r1
  have i0 : gIx (.list [.int (y : Int), .int (m : Int), .int (dd : Int)]) (.int 0) = some (.int (y : Int)) := by simp
  have i1 : gIx (.list [.int (y : Int), .int (m : Int), .int (dd : Int)]) (.int 1) = some (.int (m : Int)) := by simp
  have i2 : gIx (.list [.int (y : Int), .int (m : Int), .int (dd : Int)]) (.int 2) = some (.int (dd : Int)) := by simp
  have n31 : n < 31 := by omega
  have g1 : gStr [.int (1000 + (y : Int))] = some (.str (SX.S (pad4 (1000 + y)))) := by
    have := gStr_nat (n := 1000 + y) (k := 20) (by omega) (by decide) (by decide)
    rw [numL4 (by omega) (by omega)] at this
    exact this
  have g2 : gStr [.int ((m : Int) + 1)] = some (.str (SX.S (TL.numL (m + 1)))) := gStr_nat (n := m + 1) (k := 20) (by omega) (by decide) (by decide)
  have g3 : gStr [.int ((n : Int) + 1)] = some (.str (SX.S (TL.numL (n + 1)))) := gStr_nat (n := n + 1) (k := 20) (by omega) (by decide) (by decide)
  have z2 : gZfill (SX.S (TL.numL (m + 1))) (.int 2) = some (.str (SX.S (pad2 (m + 1)))) := by rw [← zf2 (by omega)]; rfl
  have z3 : gZfill (SX.S (TL.numL (n + 1))) (.int 2) = some (.str (SX.S (pad2 (n + 1)))) := by rw [← zf2 (by omega)]; rfl
  have a1 := gAdd_S (a := pad4 (1000 + y)) (b := [45]) (by simp [pad4])
  have a2 := gAdd_S (a := pad4 (1000 + y) ++ [45]) (b := pad2 (m + 1)) (by simp [pad4, pad2])
  have a3 := gAdd_S (a := pad4 (1000 + y) ++ [45] ++ pad2 (m + 1)) (b := [45]) (by simp [pad4, pad2])
  have a4 := gAdd_S (a := pad4 (1000 + y) ++ [45] ++ pad2 (m + 1) ++ [45]) (b := pad2 (n + 1)) (by simp [pad4, pad2])
  rw [← strM] at a1 a3
  have ec : cnt ((1000 + y : Nat) : Int) (m + 1) ((n + 1 : Nat) : Int) = 365 * (1000 + (y : Int) - 1) + (1000 + (y : Int) - 1) / 4 - (1000 + (y : Int) - 1) / 100 + (1000 + (y : Int) - 1) / 400 + months (1000 + (y : Int)) m + (n : Int) := by
    have e1 : ((1000 + y : Nat) : Int) = 1000 + (y : Int) := by omega
    have e2 : ((n + 1 : Nat) : Int) = (n : Int) + 1 := by omega
    rw [e1, e2]
    show ahead (1000 + (y : Int)) + months (1000 + (y : Int)) m + ((n : Int) + 1) - 1 = _
    unfold ahead
    omega
  rw [ec]
  show m_law_day [cD (.list [.int (y : Int), .int (m : Int), .int (dd : Int)])] = .ok (.im (.tuple [_, .str (SX.S (pad4 (1000 + y) ++ [45] ++ pad2 (m + 1) ++ [45] ++ pad2 (n + 1)))])) [cD (.list [.int (y : Int), .int (m : Int), .int (dd : Int)])]
  clear ec hn r0 x0 x1
  generalize PyData.list [.int (y : Int), .int (m : Int), .int (dd : Int)] = LL at *
  generalize 365 * (1000 + (y : Int) - 1) = Q1 at *
  generalize (1000 + (y : Int) - 1) / 4 = Q2 at *
  generalize (1000 + (y : Int) - 1) / 100 = Q3 at *
  generalize (1000 + (y : Int) - 1) / 400 = Q4 at *
  generalize pad4 (1000 + y) ++ [45] ++ pad2 (m + 1) ++ [45] ++ pad2 (n + 1) = T5 at *
  generalize pad4 (1000 + y) ++ [45] ++ pad2 (m + 1) ++ [45] = T4 at *
  generalize pad4 (1000 + y) ++ [45] ++ pad2 (m + 1) = T3 at *
  generalize pad4 (1000 + y) ++ [45] = T2 at *
  generalize months (1000 + (y : Int)) m = MS at *
  generalize hLN : long (1000 + (y : Int)) ((m : Int) + 1) = LN at *
  have L' : m_law_lengths [cI (1000 + (y : Int))] = .ok (.ow ((lensL (1000 + (y : Int))).map PyData.int)) [cI (1000 + (y : Int))] := L
  simp only [iL] at hsl hS gx
  generalize ((lensL (1000 + (y : Int))).take m).map PyData.int = MT at *
  generalize (lensL (1000 + (y : Int))).map PyData.int = ML at *
  simp only [m_law_day, b_law_day, dDef_eq, dSeq_eq]
  simp [i0, i1, i2, L', q1, q2, q3, q4, hsl, hS, gx, md, g1, g2, g3, z2, z3, a1, a2, a3, a4, -gIx_lst, -gSum_list]
end Lw
namespace Lw
open PySem PySem.Spec PyProof.Rows L2 Dn
/-! the law reads a number -/
theorem loop_fig (a : List Nat) : ∀ (l : List Nat) (x : Option Dn.L), free (some x) = true → ∃ x', dForL (putIm 1) b_law_figures_l1 (l.map fun c => PyData.str (SX.S [c])) [cS a, x] = .ok (if l.all dig = true then .nx else .rt (.int (-1))) [cS a, x']
  | [], x, _ => ⟨x, rfl⟩
  | c :: r, x, hx => by
    have hm := mem_dig c
    have gn := gNotIn_S c [48, 49, 50, 51, 52, 53, 54, 55, 56, 57]
    rw [← strDg] at gn
    by_cases h : dig c = true
    · obtain ⟨x', e⟩ := loop_fig a r (cS [c]) rfl
      refine ⟨x', ?_⟩
      have h2 := hm.mpr h
      simp only [h2, decide_true, Bool.not_true] at gn
      have b1 : b_law_figures_l1 [cS a, cS [c]] = .ok .nx [cS a, cS [c]] := by simp [b_law_figures_l1, gn]
      simp [dForL, hx, b1, e, h]
    · refine ⟨cS [c], ?_⟩
      have h2 : ¬ (c ∈ [48, 49, 50, 51, 52, 53, 54, 55, 56, 57]) := fun z => h (hm.mp z)
      simp only [h2, decide_false, Bool.not_false] at gn
      have b1 : b_law_figures_l1 [cS a, cS [c]] = .ok (.rt (.int (-1))) [cS a, cS [c]] := by simp [b_law_figures_l1, gn]
      simp [dForL, hx, b1, h]
def figV (a : List Nat) : Int := if plainL a = true then (NumText.digitsVal a : Int) else -1
theorem fig_eq (a : List Nat) (ok : okS a) (hl : a.length ≤ 1000) : m_law_figures [cS a] = .ok (.im (.int (figV a))) [cS a] := by
  have e0 := gEq_S ok ok0
  have el := gLen_S (a := a) (by omega)
  rw [← str0] at e0
  simp only [m_law_figures, b_law_figures, dDef_eq]
  cases a with
  | nil =>
    simp only [dSeq_eq]
    simp [e0, figV, plainL]
  | cons c r =>
    have i0 := gIx_S (a := c :: r) (by omega) (k := 0) (by simp)
    simp at i0
    have e1 := gEq_S (ok1 c (ok c List.mem_cons_self)) (ok1 48 (by decide))
    rw [← strO] at e1
    obtain ⟨x', L⟩ := loop_fig (c :: r) (c :: r) none rfl
    have hne : decide (c :: r = []) = false := decide_eq_false (by simp)
    rw [hne] at e0
    by_cases h1 : 60 < (c :: r).length
    · have hp : plainL (c :: r) = false := by
        unfold plainL
        rw [decide_eq_false (show ¬ (c :: r).length ≤ 60 by omega)]
        simp
      have h1' : (60 : Int) < ((c :: r).length : Int) := by omega
      have ev : figV (c :: r) = -1 := by unfold figV; rw [hp]; rfl
      rw [ev]
      generalize (c :: r) = b at *
      simp only [dSeq_eq]
      simp [e0, el, h1']
    · have h1' : ¬ (60 : Int) < ((c :: r).length : Int) := by omega
      have hp : plainL (c :: r) = (!(decide (c = 48) && decide (c :: r ≠ [48])) && (c :: r).all dig) := by
        unfold plainL; rw [decide_eq_true (show (c :: r).length ≤ 60 by omega)]; simp
      by_cases h2 : c = 48 ∧ r ≠ []
      · obtain ⟨hc, hr⟩ := h2
        have hrl := List.length_pos_iff.mpr hr
        have h3 : (1 : Int) < ((c :: r).length : Int) := by simp; omega
        have hq : plainL (c :: r) = false := by
          rw [hp, decide_eq_true hc, decide_eq_true (show c :: r ≠ [48] from fun z => hr (by injection z))]
          simp
        have ev : figV (c :: r) = -1 := by unfold figV; rw [hq]; rfl
        rw [ev]
        have e4 : decide ([c] = [48]) = true := decide_eq_true (by rw [hc])
        rw [e4] at e1
        generalize (c :: r) = b at *
        simp only [dSeq_eq]
        simp [e0, el, h1', h3, i0, e1]
      · have hq : plainL (c :: r) = (c :: r).all dig := by
          rw [hp]
          by_cases hc : c = 48
          · have hr : r = [] := Classical.byContradiction fun z => h2 ⟨hc, z⟩
            subst hc hr
            simp
          · rw [decide_eq_false hc]; simp
        have cond : ∀ ρ : En, ρ = [cS (c :: r), none] → (dIf (dOr (dCmp gEq (dVar 0) (dC (.str ""))) (dOr (dCmp gGt (dLenN 0) (dC (.int 60))) (dAnd (dCmp gGt (dLenN 0) (dC (.int 1))) (dCmp gEq (dIxN 0 (dC (.int 0))) (dC (.str "0"))))))
   (dRet (d1 gNeg (dC (.int 1)))) dNx) ρ = .ok .nx ρ := by
          rintro ρ rfl
          by_cases h3 : (1 : Int) < ((c :: r).length : Int)
          · have hc : ¬ c = 48 := fun z => h2 ⟨z, fun y => by subst y; simp at h3⟩
            have e4 : decide ([c] = [48]) = false := decide_eq_false (by simpa using hc)
            rw [e4] at e1
            generalize (c :: r) = b at *
            simp [e0, el, h1', h3, i0, e1]
          · generalize (c :: r) = b at *
            simp [e0, el, h1', h3]
        have cond' := cond _ rfl
        by_cases hd : (c :: r).all dig = true
        · have pd := plain_dig (hq.trans hd)
          have gi := gInt_S pd.1 pd.2.1 (by have := pd.2.2; omega)
          have ev : figV (c :: r) = (NumText.digitsVal (c :: r) : Int) := by unfold figV; rw [hq, if_pos hd]
          rw [ev]
          rw [if_pos hd] at L
          generalize (c :: r) = b at *
          refine (congrArg _ (seq_nx cond' (seq_nx (ρ1 := [cS b, x']) (by simp [strD_S, L]) rfl))).trans ?_
          simp [gi]
        · have ev : figV (c :: r) = -1 := by unfold figV; rw [hq, if_neg hd]
          rw [ev]
          rw [if_neg hd] at L
          generalize (c :: r) = b at *
          refine (congrArg _ (seq_nx cond' (seq_rt (d := .int (-1)) (ρ1 := [cS b, x']) (by simp [strD_S, L])))).trans ?_
          simp
end Lw
namespace Lw
open PySem PySem.Spec PyProof.Rows L2 Dn
def sgn (less : Bool) : Int := if less = true then 1 else 0
def bodyL (p : List Nat) : List Nat := if p.take 1 = [45] then p.drop 1 else p
theorem topL_fig (p : List Nat) : topL p = (if figV (bodyL p) < 0 ∨ (p.take 1 = [45] ∧ figV (bodyL p) = 0) then none else some ((1 - 2 * sgn (decide (p.take 1 = [45]))) * figV (bodyL p))) := by
  unfold topL bodyL figV
  by_cases h : p.take 1 = [45]
  · simp only [h, if_true, true_and]
    by_cases hp : plainL (p.drop 1) = true
    · have z := plain_zero hp
      by_cases h0 : p.drop 1 = [48]
      · rw [h0]
        have p48 : plainL [48] = true := by decide
        have d48 : NumText.digitsVal [48] = 0 := by decide
        rw [if_neg (fun e => e.2 rfl), if_pos p48, if_pos (.inr (by rw [d48]; rfl))]
      · have h1 : ¬ NumText.digitsVal (p.drop 1) = 0 := fun e => h0 (z.mp e)
        have h2 : ¬ ((NumText.digitsVal (p.drop 1) : Int) < 0 ∨ (NumText.digitsVal (p.drop 1) : Int) = 0) := by omega
        rw [if_pos ⟨hp, h0⟩, if_pos hp, if_neg h2]
        simp [sgn]
    · rw [if_neg (fun e => hp e.1), if_neg hp, if_pos (.inl (by decide))]
  · simp only [h, if_false, false_and, or_false]
    by_cases hp : plainL p = true
    · have h2 : ¬ (NumText.digitsVal p : Int) < 0 := by omega
      rw [if_pos hp, if_pos hp, if_neg h2]
      simp [sgn]
    · rw [if_neg hp, if_neg hp, if_pos (by decide)]
def outN (less : Bool) (v w : Int) (L : Bool) : D :=
  if v < 0 ∨ (less = true ∧ v = 0) ∨ w < 1 ∨ (L = true ∧ w < 2) then .none else if v < 1000000000000000000 ∧ w ≤ 60 ∧ Int.gcd v w = 1 then nD ((1 - 2 * sgn less) * v) w else .none
noncomputable def nbTail : En → R Fl := (dSeq (dIf (dOr (dCmp gLt (dVar 5) (dC (.int 0))) (dOr (dAnd (dTru (dVar 4)) (dCmp gEq (dVar 5) (dC (.int 0)))) (dOr (dCmp gLt (dVar 6) (dC (.int 1))) (dAnd (dCmp gNe (dVar 2) (dC (.str ""))) (dCmp gLt (dVar 6) (dC (.int 2)))))))
   (dRet (dC .none))
   dNx)
  (dSeq (dIf (dOr (dCmp gGe (dVar 5) (dOp gPow (dC (.int 10)) (dC (.int 18)))) (dOr (dCmp gGt (dVar 6) (dC (.int 60))) (dCmp gNe (dFn 2 m_law_divisor (aIm (dVar 5) (aIm (dVar 6) aNil))) (dC (.int 1)))))
   (dRet (dC .none))
   dNx)
  (dRet (dTup (aIm (dOp gMul (dOp gSub (dC (.int 1)) (dOp gMul (dC (.int 2)) (dCall gInt (aIm (dVar 4) aNil)))) (dVar 5)) (aIm (dVar 6) aNil))))))
theorem nbTail_eq (c0 c1 c3 : Option Dn.L) (ln : D) (less : Bool) (v w : Int) (L : Bool) (hL : gNe ln (.str "") = some L) : nbTail [c0, c1, cD ln, c3, cD (.bool less), cI v, cI w] = .ok (.rt (outN less v w L)) [c0, c1, cD ln, c3, cD (.bool less), cI v, cI w] := by
  have p18 : gPow (.int 10) (.int 18) = some (.int 1000000000000000000) := by rw [gPow_of (by decide) (by decide) (by decide)]; rfl
  have G := law_divisor_eq v w
  unfold nbTail outN
  by_cases c : v < 0 ∨ (less = true ∧ v = 0) ∨ w < 1 ∨ (L = true ∧ w < 2)
  · rw [if_pos c]
    refine seq_rt ?_
    by_cases h1 : v < 0
    · simp [h1]
    · by_cases h2 : w < 1
      · cases less with
        | true =>
          by_cases h3 : v = 0
          · subst h3; simp
          · simp [h1, h2, h3]
        | false => simp [h1, h2]
      · have h2' : ¬ w ≤ 0 := by omega
        rcases c with c | ⟨rfl, c⟩ | c | ⟨rfl, c⟩
        · exact absurd c h1
        · subst c; simp
        · exact absurd c h2
        · cases less with
          | true =>
            by_cases h3 : v = 0
            · subst h3; simp
            · simp [h1, h2, h3, hL, c]
          | false => simp [h1, h2, hL, c]
  · rw [if_neg c]
    have h1 : ¬ v < 0 := fun z => c (.inl z)
    have h2 : ¬ w < 1 := fun z => c (.inr (.inr (.inl z)))
    have h3 : less = true → ¬ v = 0 := fun z y => c (.inr (.inl ⟨z, y⟩))
    have h4 : L = true → ¬ w < 2 := fun z y => c (.inr (.inr (.inr ⟨z, y⟩)))
    clear c
    refine seq_nx (ρ1 := [c0, c1, cD ln, c3, cD (.bool less), cI v, cI w]) ?_ ?_
    · cases less with
      | true =>
        have h3 := h3 rfl
        cases L with
        | true => have h4 := h4 rfl; simp [h1, h2, h3, hL, h4]
        | false => simp [h1, h2, h3, hL]
      | false =>
        cases L with
        | true => have h4 := h4 rfl; simp [h1, h2, hL, h4]
        | false => simp [h1, h2, hL]
    · by_cases d : v < 1000000000000000000 ∧ w ≤ 60 ∧ Int.gcd v w = 1
      · rw [if_pos d]
        obtain ⟨d1, d2, d3⟩ := d
        have d1' : ¬ (1000000000000000000 : Int) ≤ v := by omega
        have d2' : ¬ (60 : Int) < w := by omega
        have sg : gMul (.int 2) (.int (sgn less)) = some (.int (2 * sgn less)) := gmul (by decide) (by cases less <;> decide)
        have sm : gMul (.int (1 - 2 * sgn less)) (.int v) = some (.int ((1 - 2 * sgn less) * v)) := gmul (by cases less <;> decide) (by omega)
        have gi : gInt [.bool less] = some (.int (sgn less)) := rfl
        generalize (1 - 2 * sgn less) * v = vv at *
        generalize 2 * sgn less = s2 at *
        generalize sgn less = s1 at *
        refine seq_nx (ρ1 := [c0, c1, cD ln, c3, cD (.bool less), cI v, cI w]) ?_ ?_
        · simp [p18, d1', d2', G, d3]
        · simp [gi, sg, sm]
      · rw [if_neg d]
        refine seq_rt ?_
        by_cases d1 : (1000000000000000000 : Int) ≤ v
        · simp [p18, d1]
        · by_cases d2 : (60 : Int) < w
          · simp [p18, d1, d2]
          · have d3 : ¬ ((Int.gcd v w : Nat) : Int) = 1 := fun z => d ⟨by omega, by omega, by omega⟩
            simp [p18, d1, d2, G, d3]
def numBy (a : List Nat) : D := match readL a with
  | some (t, d) => if toldD (nD t d) = true then nD t d else .none
  | none => .none
end Lw
namespace Lw
open PySem PySem.Spec PyProof.Rows L2 Dn
theorem told_sgn (less : Bool) (v w : Int) (hv : 0 ≤ v) (hw : 0 < w) : toldD (nD ((1 - 2 * sgn less) * v) w) = decide (v < 1000000000000000000 ∧ w ≤ 60 ∧ Int.gcd v w = 1) ∧ Int.gcd ((1 - 2 * sgn less) * v) w = Int.gcd v w := by
  have eg : Int.gcd ((1 - 2 * sgn less) * v) w = Int.gcd v w := by
    cases less with
    | false => simp [sgn]
    | true =>
      have : (1 - 2 * sgn true) * v = -v := by simp only [sgn, if_true]; omega
      rw [this, Int.neg_gcd]
  have ea : ((1 - 2 * sgn less) * v).natAbs = v.natAbs := by
    cases less with
    | false => simp [sgn]
    | true =>
      have : (1 - 2 * sgn true) * v = -v := by simp only [sgn, if_true]; omega
      rw [this, Int.natAbs_neg]
  refine ⟨?_, eg⟩
  generalize (1 - 2 * sgn less) * v = t at *
  simp only [toldD, eg, ea]
  rw [Bool.eq_iff_iff]
  simp only [Bool.and_eq_true, decide_eq_true_eq]
  constructor
  · rintro ⟨⟨⟨_, h2⟩, h3⟩, h4⟩; exact ⟨by omega, h4, h2⟩
  · rintro ⟨h1, h2, h3⟩; exact ⟨⟨⟨hw, h3⟩, by omega⟩, h2⟩
theorem figV_pos {a : List Nat} : figV a = -1 ∨ (plainL a = true ∧ figV a = (NumText.digitsVal a : Int)) := by
  unfold figV
  by_cases h : plainL a = true
  · rw [if_pos h]; exact .inr ⟨h, rfl⟩
  · rw [if_neg h]; exact .inl rfl
theorem numBy_eq (a : List Nat) : numBy a = (match TL.par [47] [] a with
  | none => outN (decide (a.take 1 = [45])) (figV (bodyL a)) 1 false
  | some (p, q) => outN (decide (p.take 1 = [45])) (figV (bodyL p)) (figV q) true) := by
  unfold numBy readL
  have tf : ∀ p : List Nat, topL p = (if figV (bodyL p) < 0 ∨ (decide (p.take 1 = [45]) = true ∧ figV (bodyL p) = 0) then none else some ((1 - 2 * sgn (decide (p.take 1 = [45]))) * figV (bodyL p))) := fun p => by
    rw [topL_fig p]
    simp only [decide_eq_true_eq]
  cases TL.par [47] [] a with
  | none =>
    simp only
    rw [tf a]
    unfold outN
    generalize decide (a.take 1 = [45]) = ls at *
    generalize figV (bodyL a) = v at *
    by_cases c : v < 0 ∨ (ls = true ∧ v = 0)
    · have c' : v < 0 ∨ (ls = true ∧ v = 0) ∨ (1 : Int) < 1 ∨ (false = true ∧ (1 : Int) < 2) := by
        rcases c with c | c
        · exact .inl c
        · exact .inr (.inl c)
      simp only [if_pos c, if_pos c', Option.map_none]
    · have c' : ¬ (v < 0 ∨ (ls = true ∧ v = 0) ∨ (1 : Int) < 1 ∨ (false = true ∧ (1 : Int) < 2)) := fun z => by
        rcases z with z | z | z | z
        · exact c (.inl z)
        · exact c (.inr z)
        · omega
        · exact absurd z.1 (by decide)
      have hv : 0 ≤ v := by
        have : ¬ v < 0 := fun z => c (.inl z)
        omega
      obtain ⟨T, _⟩ := told_sgn ls v 1 hv (by decide)
      simp only [if_neg c, if_neg c', Option.map_some]
      rw [T]
      by_cases d : v < 1000000000000000000 ∧ (1 : Int) ≤ 60 ∧ Int.gcd v 1 = 1
      · rw [if_pos d, decide_eq_true d]; rfl
      · rw [if_neg d, decide_eq_false d]; rfl
  | some z =>
    obtain ⟨p, q⟩ := z
    simp only
    rw [tf p]
    unfold outN
    generalize decide (p.take 1 = [45]) = ls at *
    generalize figV (bodyL p) = v at *
    by_cases c : v < 0 ∨ (ls = true ∧ v = 0)
    · have c' : v < 0 ∨ (ls = true ∧ v = 0) ∨ figV q < 1 ∨ (True ∧ figV q < 2) := by
        rcases c with c | c
        · exact .inl c
        · exact .inr (.inl c)
      simp only [if_pos c, if_pos c', Option.bind_none]
    · have hv : 0 ≤ v := by
        have : ¬ v < 0 := fun z => c (.inl z)
        omega
      simp only [if_neg c, Option.bind_some]
      rcases figV_pos (a := q) with hq | ⟨hq, hw⟩
      · have hp : ¬ plainL q = true := fun z => by
          unfold figV at hq
          rw [if_pos z] at hq
          omega
        have c' : v < 0 ∨ (ls = true ∧ v = 0) ∨ figV q < 1 ∨ (True ∧ figV q < 2) := .inr (.inr (.inl (by rw [hq]; decide)))
        rw [if_neg (fun z => hp z.1), if_pos c']
      · rw [hw]
        generalize NumText.digitsVal q = w at *
        by_cases h2 : 2 ≤ w
        · have c' : ¬ (v < 0 ∨ (ls = true ∧ v = 0) ∨ (w : Int) < 1 ∨ (True ∧ (w : Int) < 2)) := fun z => by
            rcases z with z | z | z | z
            · exact c (.inl z)
            · exact c (.inr z)
            · omega
            · omega
          obtain ⟨T, eg⟩ := told_sgn ls v w hv (by omega)
          rw [if_neg c', eg]
          by_cases hg : Int.gcd v w = 1
          · rw [if_pos ⟨hq, h2, hg⟩]
            simp only
            rw [T]
            by_cases d : v < 1000000000000000000 ∧ (w : Int) ≤ 60 ∧ Int.gcd v w = 1
            · rw [if_pos d, decide_eq_true d]; rfl
            · rw [if_neg d, decide_eq_false d]; rfl
          · rw [if_neg (fun z => hg z.2.2), if_neg (fun z => hg z.2.2)]
        · have c' : v < 0 ∨ (ls = true ∧ v = 0) ∨ (w : Int) < 1 ∨ (True ∧ (w : Int) < 2) := .inr (.inr (.inr ⟨trivial, by omega⟩))
          rw [if_neg (fun z => h2 z.2.1), if_pos c']
theorem nb_mid (a p r : List Nat) (okp : okS p) (okr : okS r) (hp : p.length ≤ 1000) (hr : r.length ≤ 1000) (ln : D) (L : Bool) (hL : gNe ln (.str "") = some L) :
    (dSeq (dAsg (putIm 4) (dB (dCmp gEq (dSlN 1 oN (oI (dC (.int 1)))) (dC (.str "-")))))
  (dSeq (dAsg (putIm 5) (dFn 1 m_law_figures (aIm (dSlN 1 (oI (dCall gInt (aIm (dVar 4) aNil))) oN) aNil)))
  (dSeq (dAsg (putIm 6) (dC (.int 1)))
  (dSeq (dIf (dCmp gNe (dVar 2) (dC (.str "")))
   (dAsg (putIm 6) (dFn 1 m_law_figures (aIm (dVar 3) aNil)))
   dNx) nbTail)))) [cS a, cS p, cD ln, cS r, none, none, none] = .ok (.rt (outN (decide (p.take 1 = [45])) (figV (bodyL p)) (if L = true then figV r else 1) L)) [cS a, cS p, cD ln, cS r, cD (.bool (decide (p.take 1 = [45]))), cI (figV (bodyL p)), cI (if L = true then figV r else 1)] := by
  have s1 : gSl (.str (SX.S p)) none (some 1) = some (.str (SX.S (p.take 1))) := gSl_to (a := p) (by omega) 1
  have n1 := gEq_S (okp.take 1) (ok1 45 (by decide))
  rw [← strM] at n1
  have gi : gInt [.bool (decide (p.take 1 = [45]))] = some (.int (sgn (decide (p.take 1 = [45])))) := rfl
  have s2 : gSl (.str (SX.S p)) (some (sgn (decide (p.take 1 = [45])))) none = some (.str (SX.S (bodyL p))) := by
    unfold bodyL
    by_cases h : p.take 1 = [45]
    · rw [if_pos h, decide_eq_true h]; exact gSl_from (a := p) (by omega) 1
    · rw [if_neg h, decide_eq_false h]; exact gSl_from (a := p) (by omega) 0
  have okb : okS (bodyL p) := by unfold bodyL; split; exact okp.drop 1; exact okp
  have lb : (bodyL p).length ≤ 1000 := by unfold bodyL; split; simp; omega; exact hp
  have F1 := fig_eq (bodyL p) okb lb
  have F2 := fig_eq r okr hr
  generalize sgn (decide (p.take 1 = [45])) = s at *
  generalize hls : decide (p.take 1 = [45]) = ls at *
  refine seq_nx (ρ1 := [cS a, cS p, cD ln, cS r, cD (.bool ls), none, none]) (by simp [s1, n1]) (seq_nx (ρ1 := [cS a, cS p, cD ln, cS r, cD (.bool ls), cI (figV (bodyL p)), none]) (by simp [gi, s2, F1]) (seq_nx (ρ1 := [cS a, cS p, cD ln, cS r, cD (.bool ls), cI (figV (bodyL p)), cI 1]) (by simp) (seq_nx (ρ1 := [cS a, cS p, cD ln, cS r, cD (.bool ls), cI (figV (bodyL p)), cI (if L = true then figV r else 1)]) ?_ (nbTail_eq _ _ _ ln ls _ _ L hL))))
  cases L with
  | true => simp [hL, F2]
  | false => simp [hL]
theorem number_by_eq (a : List Nat) (ok : okS a) (hl : a.length ≤ 1000) : m_law_number_by [cS a] = .ok (.im (numBy a)) [cS a] := by
  have gp := gPart_S (a := a) (b := [47]) (by simp) (by omega)
  rw [← strL] at gp
  have e0 : gNe (.str (SX.S [])) (.str "") = some false := by rw [str0, gNe_S ok0 ok0]; rfl
  have e1 : gNe (.str "/") (.str "") = some true := by rw [strL, str0, gNe_S (ok1 47 (by decide)) ok0]; rfl
  have eb : b_law_number_by = dSeq (dAsg (gTupD 3 (gsCons (putIm 1) (gsCons (putIm 2) (gsCons (putIm 3) gsNil)))) (dM1 gPart (dVar 0) (dC (.str "/")))) (dSeq (dAsg (putIm 4) (dB (dCmp gEq (dSlN 1 oN (oI (dC (.int 1)))) (dC (.str "-")))))
  (dSeq (dAsg (putIm 5) (dFn 1 m_law_figures (aIm (dSlN 1 (oI (dCall gInt (aIm (dVar 4) aNil))) oN) aNil)))
  (dSeq (dAsg (putIm 6) (dC (.int 1)))
  (dSeq (dIf (dCmp gNe (dVar 2) (dC (.str "")))
   (dAsg (putIm 6) (dFn 1 m_law_figures (aIm (dVar 3) aNil)))
   dNx) nbTail)))) := rfl
  rw [numBy_eq a]
  simp only [m_law_number_by, dDef_eq]
  rw [eb]
  cases q : TL.par [47] [] a with
  | none =>
    rw [q] at gp
    refine (congrArg _ (seq_nx (ρ1 := [cS a, cS a, cD (.str (SX.S [])), cS [], none, none, none]) (by simp [gp, gTupD, gsCons, gsNil]) (nb_mid a a [] ok ok0 hl (by decide) _ false e0))).trans ?_
    simp
  | some z =>
    obtain ⟨p, r⟩ := z
    rw [q] at gp
    have sp := par_split q
    simp at sp
    have okp : okS p := fun c hc => ok c (by rw [sp]; simp [hc])
    have okr : okS r := fun c hc => ok c (by rw [sp]; simp [hc])
    have hlen : a.length = p.length + (r.length + 1) := by rw [sp]; simp
    refine (congrArg _ (seq_nx (ρ1 := [cS a, cS p, cD (.str "/"), cS r, none, none, none]) (by simp [gp, gTupD, gsCons, gsNil]) (nb_mid a p r okp okr (by omega) (by omega) _ true e1))).trans ?_
    simp
end Lw
namespace Lw
open PySem PySem.Spec PyProof.Rows L2 Dn
/-! the law reads a day -/
def dayBy (a : List Nat) : D := match readD a with
  | some n => if dayD (.int n) = true then .int n else .none
  | none => .none
theorem fig3 (x y : Nat) : figV [49, x, y] = (if dig x = true ∧ dig y = true then 100 + (NumText.digitsVal [x, y] : Int) else -1) := by
  have hp : plainL [49, x, y] = (dig x && dig y) := by
    simp [plainL, dig]
  unfold figV
  rw [hp]
  by_cases h : dig x = true ∧ dig y = true
  · rw [if_pos h, if_pos (by rw [h.1, h.2]; rfl)]
    simp [NumText.digitsVal]
    omega
  · rw [if_neg h, if_neg (fun z => h (by simpa using z))]
theorem fig4 (c0 c1 c2 c3 : Nat) (h0 : 49 ≤ c0 ∧ c0 ≤ 56) : figV [c0, c1, c2, c3] = (if dig c1 = true ∧ dig c2 = true ∧ dig c3 = true then (NumText.digitsVal [c0, c1, c2, c3] : Int) else -1) := by
  have hp : plainL [c0, c1, c2, c3] = (dig c1 && (dig c2 && dig c3)) := by
    have h1 : ¬ c0 = 48 := by omega
    have h2 : dig c0 = true := by unfold dig; simp; omega
    simp [plainL, h1, h2]
  unfold figV
  rw [hp]
  by_cases h : dig c1 = true ∧ dig c2 = true ∧ dig c3 = true
  · rw [if_pos h, if_pos (by rw [h.1, h.2.1, h.2.2]; rfl)]
  · rw [if_neg h, if_neg (fun z => h (by simpa using z))]
theorem dig_le {c : Nat} (h : dig c = true) : 48 ≤ c ∧ c ≤ 57 := by simpa [dig] using h
theorem day_told {y m d : Nat} (v : Val y m d) : dayD (.int (cnt y m d)) = decide (1000 ≤ y ∧ y < 9000) := by
  obtain ⟨l1, l2⟩ := v.lt
  have e1 : ahead 1000 = 364877 := by decide
  have e2 : ahead 9000 = 3286817 := by decide
  simp only [dayD]
  rw [Bool.eq_iff_iff]
  simp only [Bool.and_eq_true, decide_eq_true_eq]
  constructor
  · rintro ⟨h1, h2⟩
    constructor
    · apply Classical.byContradiction
      intro z
      have := ahead_mono (show (y : Int) + 1 ≤ 1000 by omega)
      omega
    · apply Classical.byContradiction
      intro z
      have := ahead_mono (show (9000 : Int) ≤ (y : Int) by omega)
      omega
  · rintro ⟨h1, h2⟩
    have a1 := ahead_mono (show (1000 : Int) ≤ (y : Int) by omega)
    have a2 := ahead_mono (show (y : Int) + 1 ≤ 9000 by omega)
    omega
theorem okD_val {y m d : Nat} (h : okD y m d = true) : Val y m d := by
  simp [okD] at h
  exact ⟨by omega, by omega, by omega, by omega, by omega⟩
theorem okD_of {y m d : Nat} (h : Val y m d) : okD y m d = true := by
  have := h.y1; have := h.m1; have := h.m12; have := h.d1; have := h.dl
  simp [okD]
  omega
theorem day_by_eq (a : List Nat) (ok : okS a) (hl : a.length ≤ 1000) : m_law_day_by [cS a] = .ok (.im (dayBy a)) [cS a] := by
  have el := gLen_S (a := a) (by omega)
  by_cases h10 : a.length = 10
  · obtain ⟨c0, c1, c2, c3, c4, c5, c6, c7, c8, c9, e⟩ := len10 h10
    have i4 : gIx (.str (SX.S a)) (.int 4) = some (.str (SX.S [c4])) := by
      have := gIx_S (a := a) (by omega) (k := 4) (by omega)
      subst e; exact this
    have i7 : gIx (.str (SX.S a)) (.int 7) = some (.str (SX.S [c7])) := by
      have := gIx_S (a := a) (by omega) (k := 7) (by omega)
      subst e; exact this
    have i0 : gIx (.str (SX.S a)) (.int 0) = some (.str (SX.S [c0])) := by
      have := gIx_S (a := a) (by omega) (k := 0) (by omega)
      subst e; exact this
    have n4 : gNe (.str (SX.S [c4])) (.str "-") = some (!decide (c4 = 45)) := by
      rw [strM, gNe_S (ok1 _ (ok c4 (by rw [e]; simp))) (ok1 45 (by decide))]; simp
    have n7 : gNe (.str (SX.S [c7])) (.str "-") = some (!decide (c7 = 45)) := by
      rw [strM, gNe_S (ok1 _ (ok c7 (by rw [e]; simp))) (ok1 45 (by decide))]; simp
    have n0 : gNotIn (.str (SX.S [c0])) (.str "12345678") = some (!decide (49 ≤ c0 ∧ c0 ≤ 56)) := by
      rw [show ("12345678" : Str) = SX.S [49, 50, 51, 52, 53, 54, 55, 56] by rfl, gNotIn_S]
      congr 2
      rw [Bool.eq_iff_iff]
      simp
      omega
    have s1 : gSl (.str (SX.S a)) none (some 4) = some (.str (SX.S [c0, c1, c2, c3])) := by
      have := gSl_to (a := a) (by omega) 4
      subst e; exact this
    have s2 : gSl (.str (SX.S a)) (some 5) (some 7) = some (.str (SX.S [c5, c6])) := by
      have := gSl_mid (a := a) (by omega) 5 7
      subst e; exact this
    have s3 : gSl (.str (SX.S a)) (some 8) none = some (.str (SX.S [c8, c9])) := by
      have := gSl_from (a := a) (by omega) 8
      subst e; exact this
    have g2 : gAdd (.str "1") (.str (SX.S [c5, c6])) = some (.str (SX.S [49, c5, c6])) := by
      rw [show ("1" : Str) = SX.S [49] by rfl, gAdd_S (by simp)]; rfl
    have g3 : gAdd (.str "1") (.str (SX.S [c8, c9])) = some (.str (SX.S [49, c8, c9])) := by
      rw [show ("1" : Str) = SX.S [49] by rfl, gAdd_S (by simp)]; rfl
    have F1 := fig_eq [c0, c1, c2, c3] (fun c hc => ok c (by rw [e]; simp at hc ⊢; omega)) (by simp)
    have F2 := fig_eq [49, c5, c6] (fun c hc => by
      simp at hc
      rcases hc with rfl | rfl | rfl
      · decide
      · exact ok _ (by rw [e]; simp)
      · exact ok _ (by rw [e]; simp)) (by simp)
    have F3 := fig_eq [49, c8, c9] (fun c hc => by
      simp at hc
      rcases hc with rfl | rfl | rfl
      · decide
      · exact ok _ (by rw [e]; simp)
      · exact ok _ (by rw [e]; simp)) (by simp)
    have rd : readD a = if c4 = 45 ∧ c7 = 45 ∧ (dig c0 = true ∧ dig c1 = true ∧ dig c2 = true ∧ dig c3 = true) ∧ (dig c5 = true ∧ dig c6 = true) ∧ (dig c8 = true ∧ dig c9 = true) then
        (if okD (NumText.digitsVal [c0, c1, c2, c3]) (NumText.digitsVal [c5, c6]) (NumText.digitsVal [c8, c9]) = true then some (cnt (NumText.digitsVal [c0, c1, c2, c3]) (NumText.digitsVal [c5, c6]) (NumText.digitsVal [c8, c9])) else none) else none := by
      subst e
      unfold readD
      have ef : (figs [c0, c1, c2, c3, c4, c5, c6, c7, c8, c9]).all dig = (dig c0 && (dig c1 && (dig c2 && (dig c3 && (dig c5 && (dig c6 && (dig c8 && dig c9))))))) := by simp [figs]
      rw [ef]
      show (if 10 = 10 ∧ some c4 = some 45 ∧ some c7 = some 45 ∧ _ then (if okD (NumText.digitsVal [c0, c1, c2, c3]) (NumText.digitsVal [c5, c6]) (NumText.digitsVal [c8, c9]) = true then some (cnt (NumText.digitsVal [c0, c1, c2, c3]) (NumText.digitsVal [c5, c6]) (NumText.digitsVal [c8, c9])) else none) else none) = _
      congr 1
      simp [and_assoc]
    have f1 := fun h => fig4 c0 c1 c2 c3 h
    have f2 := fig3 c5 c6
    have f3 := fig3 c8 c9
    clear ok
    have k10 : (a.length : Int) = 10 := by omega
    rw [k10] at el
    simp only [m_law_day_by, b_law_day_by, dDef_eq]
    have no : ∀ (Z : Prop) [Decidable Z] (x : Option Int), ¬ Z → (match (if Z then x else none) with | some n => if dayD (.int n) = true then PyData.int n else .none | none => .none) = .none := fun Z _ x h => by rw [if_neg h]
    by_cases h4 : c4 = 45
    · rw [decide_eq_true h4] at n4
      by_cases h7 : c7 = 45
      · rw [decide_eq_true h7] at n7
        by_cases h0 : 49 ≤ c0 ∧ c0 ≤ 56
        · rw [decide_eq_true h0] at n0
          replace f1 := f1 h0
          have pre : ∀ (g : En → Dn.R Fl) (r : Dn.R Fl), g [cS a, cI (figV [c0, c1, c2, c3]), cI (figV [49, c5, c6] - 100), cI (figV [49, c8, c9] - 100)] = r →
              dSeq (dIf (dOr (dCmp gNe (dLenN 0) (dC (.int 10))) (dOr (dCmp gNe (dIxN 0 (dC (.int 4))) (dC (.str "-"))) (dOr (dCmp gNe (dIxN 0 (dC (.int 7))) (dC (.str "-"))) (dCmp gNotIn (dIxN 0 (dC (.int 0))) (dC (.str "12345678")))))) (dRet (dC .none)) dNx) (dSeq (dAsg (putIm 1) (dFn 1 m_law_figures (aIm (dSlN 0 oN (oI (dC (.int 4)))) aNil))) (dSeq (dAsg (putIm 2) (dOp gSub (dFn 1 m_law_figures (aIm (dOp gAdd (dC (.str "1")) (dSlN 0 (oI (dC (.int 5))) (oI (dC (.int 7))))) aNil)) (dC (.int 100)))) (dSeq (dAsg (putIm 3) (dOp gSub (dFn 1 m_law_figures (aIm (dOp gAdd (dC (.str "1")) (dSlN 0 (oI (dC (.int 8))) oN)) aNil)) (dC (.int 100)))) g))) [cS a, none, none, none] = r := fun g r h =>
            seq_nx (ρ1 := [cS a, none, none, none]) (by simp [el, i4, i7, i0, n4, n7, n0]) (seq_nx (ρ1 := [cS a, cI (figV [c0, c1, c2, c3]), none, none]) (by simp [s1, F1]) (seq_nx (ρ1 := [cS a, cI (figV [c0, c1, c2, c3]), cI (figV [49, c5, c6] - 100), none]) (by simp [s2, g2, F2]) (seq_nx (ρ1 := [cS a, cI (figV [c0, c1, c2, c3]), cI (figV [49, c5, c6] - 100), cI (figV [49, c8, c9] - 100)]) (by simp [s3, g3, F3]) h)))
          by_cases p4 : dig c1 = true ∧ dig c2 = true ∧ dig c3 = true
          · rw [if_pos p4] at f1
            have d0 : dig c0 = true := by unfold dig; simp; omega
            have y0 : 1000 ≤ NumText.digitsVal [c0, c1, c2, c3] ∧ NumText.digitsVal [c0, c1, c2, c3] ≤ 8999 := by
              have := dig_le p4.1
              have := dig_le p4.2.1
              have := dig_le p4.2.2
              simp [NumText.digitsVal]
              omega
            by_cases p2 : dig c5 = true ∧ dig c6 = true
            · rw [if_pos p2] at f2
              by_cases p3 : dig c8 = true ∧ dig c9 = true
              · rw [if_pos p3] at f3
                have all : c4 = 45 ∧ c7 = 45 ∧ (dig c0 = true ∧ dig c1 = true ∧ dig c2 = true ∧ dig c3 = true) ∧ (dig c5 = true ∧ dig c6 = true) ∧ (dig c8 = true ∧ dig c9 = true) := ⟨h4, h7, ⟨d0, p4⟩, p2, p3⟩
                rw [if_pos all] at rd
                have d99 : NumText.digitsVal [c8, c9] ≤ 99 := by
                  have := dig_le p3.1
                  have := dig_le p3.2
                  simp [NumText.digitsVal]
                  omega
                rw [f1, f2, f3, show 100 + ((NumText.digitsVal [c5, c6] : Nat) : Int) - 100 = ((NumText.digitsVal [c5, c6] : Nat) : Int) by omega, show 100 + ((NumText.digitsVal [c8, c9] : Nat) : Int) - 100 = ((NumText.digitsVal [c8, c9] : Nat) : Int) by omega] at pre
                clear F1 F2 F3 f1 f2 f3
                generalize NumText.digitsVal [c0, c1, c2, c3] = Y at *
                generalize NumText.digitsVal [c5, c6] = M at *
                generalize NumText.digitsVal [c8, c9] = N at *
                have y1 : ¬ (Y : Int) < 1000 := by omega
                by_cases hok : okD Y M N = true
                · have V := okD_val hok
                  have T := day_told V
                  rw [decide_eq_true (show 1000 ≤ Y ∧ Y < 9000 by omega)] at T
                  have ed : dayBy a = .int (cnt Y M N) := by
                    unfold dayBy
                    rw [rd, if_pos hok]
                    simp only [T, if_true]
                  rw [ed]
                  have v1 := V.m1
                  have v2 := V.m12
                  have v3 := V.d1
                  have v4 := V.dl
                  obtain ⟨n, hn, Vn, E⟩ := law_day_eq (Y - 1000) (M - 1) (N - 1) (by omega) (by omega)
                  have en : n = N - 1 := by
                    have e1 : (1000 : Int) + ((Y - 1000 : Nat) : Int) = Y := by omega
                    have e2 : ((M - 1 : Nat) : Int) + 1 = M := by omega
                    rw [e1, e2, Int.emod_eq_of_lt (by omega) (by omega)] at hn
                    omega
                  subst en
                  rw [show 1000 + (Y - 1000) = Y by omega, show M - 1 + 1 = M by omega, show N - 1 + 1 = N by omega] at E
                  have eL : iL [((Y - 1000 : Nat) : Int), ((M - 1 : Nat) : Int), ((N - 1 : Nat) : Int)] = .list [.int ((Y : Int) - 1000), .int ((M : Int) - 1), .int ((N : Int) - 1)] := by
                    rw [show ((Y - 1000 : Nat) : Int) = (Y : Int) - 1000 by omega, show ((M - 1 : Nat) : Int) = (M : Int) - 1 by omega, show ((N - 1 : Nat) : Int) = (N : Int) - 1 by omega]
                    rfl
                  rw [eL] at E
                  have LE := lens_eq (Y : Int)
                  have LA : gIx (.list ((lensL (Y : Int)).map PyData.int)) (.int ((M : Int) - 1)) = some (.int (long (Y : Int) (M : Int))) := by
                    have e3 : (M : Int) - 1 = ((M - 1 : Nat) : Int) := by omega
                    rw [e3, gIx_lst]
                    refine atI_of ?_
                    rw [List.getElem?_map, lens_at _ (by omega), show ((M - 1 : Nat) : Int) + 1 = M by omega]
                    rfl
                  have t2 : ¬ (M : Int) < 1 := by omega
                  have t3 : ¬ (12 : Int) < (M : Int) := by omega
                  have t4 : ¬ (N : Int) < 1 := by omega
                  have t5 : ¬ long (Y : Int) (M : Int) < (N : Int) := by omega
                  generalize (lensL (Y : Int)).map PyData.int = LL at *
                  generalize cnt (Y : Int) M (N : Int) = CN at *
                  generalize long (Y : Int) (M : Int) = LG at *
                  refine (congrArg _ (pre _ _ (seq_nx (ρ1 := [cS a, cI Y, cI M, cI N]) ?_ (r := .ok (.rt (.int CN)) [cS a, cI Y, cI M, cI N]) ?_))).trans ?_
                  · simp [y1, t2, t3, t4, LE, LA, t5, -gIx_lst]
                  · simp [E]
                  · simp
                · have ed : dayBy a = .none := by
                    unfold dayBy
                    rw [rd, if_neg hok]
                  rw [ed]
                  have nv : ¬ Val Y M N := fun v => hok (okD_of v)
                  refine (congrArg _ (pre _ _ (seq_rt (d := .none) (ρ1 := [cS a, cI Y, cI M, cI N]) ?_))).trans ?_
                  · by_cases t2 : (M : Int) < 1
                    · simp [y1, t2]
                    · by_cases t3 : (12 : Int) < (M : Int)
                      · simp [y1, t2, t3]
                      · by_cases t4 : (N : Int) < 1
                        · simp [y1, t2, t3, t4]
                        · have LE := lens_eq (Y : Int)
                          have LA : gIx (.list ((lensL (Y : Int)).map PyData.int)) (.int ((M : Int) - 1)) = some (.int (long (Y : Int) (M : Int))) := by
                            have e3 : (M : Int) - 1 = ((M - 1 : Nat) : Int) := by omega
                            rw [e3, gIx_lst]
                            refine atI_of ?_
                            rw [List.getElem?_map, lens_at _ (by omega), show ((M - 1 : Nat) : Int) + 1 = M by omega]
                            rfl
                          have t5 : long (Y : Int) (M : Int) < (N : Int) := by
                            apply Classical.byContradiction
                            intro z
                            exact nv ⟨by omega, by omega, by omega, by omega, by omega⟩
                          generalize (lensL (Y : Int)).map PyData.int = LL at *
                          simp [y1, t2, t3, t4, LE, LA, t5, -gIx_lst]
                  · simp
              · have ed : dayBy a = .none := by
                  unfold dayBy
                  rw [rd]
                  exact no _ _ (fun z => p3 z.2.2.2.2)
                rw [ed]
                rw [if_neg p3] at f3
                rw [f1, f3] at pre
                generalize figV [49, c5, c6] - 100 = MV at *
                generalize NumText.digitsVal [c0, c1, c2, c3] = Y at *
                have y1 : ¬ (Y : Int) < 1000 := by omega
                refine (congrArg _ (pre _ _ (seq_rt (d := .none) (ρ1 := [cS a, cI Y, cI MV, cI (-1 - 100)]) ?_))).trans ?_
                · by_cases t2 : MV < 1
                  · simp [y1, t2]
                  · by_cases t3 : 12 < MV
                    · simp [y1, t2, t3]
                    · simp [y1, t2, t3]
                · simp
            · have ed : dayBy a = .none := by
                unfold dayBy
                rw [rd]
                exact no _ _ (fun z => p2 z.2.2.2.1)
              rw [ed]
              rw [if_neg p2] at f2
              rw [f1, f2] at pre
              generalize figV [49, c8, c9] - 100 = DV at *
              generalize NumText.digitsVal [c0, c1, c2, c3] = Y at *
              have y1 : ¬ (Y : Int) < 1000 := by omega
              refine (congrArg _ (pre _ _ (seq_rt (d := .none) (ρ1 := [cS a, cI Y, cI (-1 - 100), cI DV]) ?_))).trans ?_
              · simp [y1]
              · simp
          · have ed : dayBy a = .none := by
              unfold dayBy
              rw [rd]
              exact no _ _ (fun z => p4 z.2.2.1.2)
            rw [ed]
            rw [if_neg p4] at f1
            rw [f1] at pre
            generalize figV [49, c5, c6] - 100 = MV at *
            generalize figV [49, c8, c9] - 100 = DV at *
            refine (congrArg _ (pre _ _ (seq_rt (d := .none) (ρ1 := [cS a, cI (-1), cI MV, cI DV]) ?_))).trans ?_
            · simp
            · simp
        · rw [decide_eq_false h0] at n0
          have ed : dayBy a = .none := by
            unfold dayBy
            rw [rd]
            by_cases all : c4 = 45 ∧ c7 = 45 ∧ (dig c0 = true ∧ dig c1 = true ∧ dig c2 = true ∧ dig c3 = true) ∧ (dig c5 = true ∧ dig c6 = true) ∧ (dig c8 = true ∧ dig c9 = true)
            · rw [if_pos all]
              obtain ⟨_, _, ⟨q0, q1, q2, q3⟩, _⟩ := all
              have hy : ¬ (1000 ≤ NumText.digitsVal [c0, c1, c2, c3] ∧ NumText.digitsVal [c0, c1, c2, c3] < 9000) := by
                have := dig_le q0
                have := dig_le q1
                have := dig_le q2
                have := dig_le q3
                simp [NumText.digitsVal]
                omega
              by_cases hok : okD (NumText.digitsVal [c0, c1, c2, c3]) (NumText.digitsVal [c5, c6]) (NumText.digitsVal [c8, c9]) = true
              · rw [if_pos hok]
                have T := day_told (okD_val hok)
                rw [decide_eq_false hy] at T
                simp only [T]
                rfl
              · rw [if_neg hok]
            · rw [if_neg all]
          rw [ed]
          simp only [dSeq_eq]
          simp [el, i4, i7, i0, n4, n7, n0]
      · rw [decide_eq_false h7] at n7
        have ed : dayBy a = .none := by
          unfold dayBy
          rw [rd]
          exact no _ _ (fun z => h7 z.2.1)
        rw [ed]
        simp only [dSeq_eq]
        simp [el, i4, i7, n4, n7]
    · rw [decide_eq_false h4] at n4
      have ed : dayBy a = .none := by
        unfold dayBy
        rw [rd]
        exact no _ _ (fun z => h4 z.1)
      rw [ed]
      simp only [dSeq_eq]
      simp [el, i4, n4]
  · have hr : readD a = none := by unfold readD; rw [if_neg (fun z => h10 z.1)]
    have k10 : ¬ (a.length : Int) = 10 := by omega
    unfold dayBy
    rw [hr]
    simp only [m_law_day_by, b_law_day_by, dDef_eq, dSeq_eq]
    simp [el, k10]
end Lw
namespace Lw
open PySem PySem.Spec PyProof.Rows L2 Dn
/-! cells read -/
def cellBy (k : Kd) (a : List Nat) : D := match k with
  | .num => numBy a
  | .word => if isW a then .str (SX.S a) else .none
  | .day => dayBy a
def kx : Kd → Int
  | .num => 0
  | .word => 1
  | .day => 2
theorem law_cell_by_eq (k : Kd) (a : List Nat) (ok : okS a) (hl : a.length ≤ 1000) : m_law_cell_by [cI (kx k), cS a] = .ok (.im (cellBy k a)) [cI (kx k), cS a] := by
  have N := number_by_eq a ok hl
  have Y := day_by_eq a ok hl
  cases k with
  | num =>
    simp only [m_law_cell_by, b_law_cell_by, dDef_eq, dSeq_eq]
    simp [kx, N, cellBy]
  | day =>
    simp only [m_law_cell_by, b_law_cell_by, dDef_eq, dSeq_eq]
    simp [kx, Y, cellBy]
  | word =>
    have gl := gLen_S (a := a) (by omega)
    have lc := lcL_map (t := b_law_cell_by_l1) (vs := [3]) (f := fun d => match d with | .str s => .bool (decide (s.cps.toList.getD 0 0 ∈ abc)) | _ => .none) (ρ := [cI 1, cS a, none, none]) (ds := strD (SX.S a)) (fun d hd => by
      rw [strD_S] at hd
      obtain ⟨c, hc, rfl⟩ := List.mem_map.mp hd
      refine ⟨[cI 1, cS a, none, cS [c]], ?_, by simp [restE]⟩
      have := gIn_S c abc
      rw [← str_abc] at this
      simp [b_law_cell_by_l1, wipeE, this]) (by rw [strD_S]; simp; exact sLine (by omega))
    have em : (strD (SX.S a)).map (fun d => match d with | .str s => PyData.bool (decide (s.cps.toList.getD 0 0 ∈ abc)) | _ => .none) = (a.map fun c => decide (c ∈ abc)).map PyData.bool := by
      rw [strD_S, List.map_map, List.map_map]
      rfl
    rw [em] at lc
    have ga : gAll [.list ((a.map fun c => decide (c ∈ abc)).map PyData.bool)] = some (.bool ((a.map fun c => decide (c ∈ abc)).all id)) := by simp [-List.map_map]
    have pl : ((a.map fun c => decide (c ∈ abc)).all id = true) ↔ ∀ c ∈ a, c ∈ abc := by simp
    generalize ((a.map fun c => decide (c ∈ abc)).all id) = b at *
    generalize (a.map fun c => decide (c ∈ abc)).map PyData.bool = BL at *
    show m_law_cell_by [cI 1, cS a] = .ok (.im (if isW a then .str (SX.S a) else .none)) [cI 1, cS a]
    simp only [m_law_cell_by, b_law_cell_by, dDef_eq]
    refine (congrArg _ (seq_nx (ρ1 := [cI 1, cS a, none, none]) (by simp) (seq_nx (ρ1 := [cI 1, cS a, none, none]) (by simp) (seq_nx (ρ1 := [cI 1, cS a, cD (.bool b), none]) (by simp [immE, lc, ga]) (r := .ok (.rt (if isW a then .str (SX.S a) else .none)) [cI 1, cS a, cD (.bool b), none]) ?_)))).trans ?_
    · simp only [dSeq_eq]
      cases b with
      | true =>
        have al := pl.mp rfl
        by_cases h1 : 1 ≤ a.length
        · have h1' : (1 : Int) ≤ a.length := by omega
          by_cases h2 : a.length ≤ 8
          · have h2' : (a.length : Int) ≤ 8 := by omega
            rw [if_pos (show isW a from ⟨h1, h2, al⟩)]
            simp [gl, h1', h2']
          · have h2' : ¬ (a.length : Int) ≤ 8 := by omega
            rw [if_neg (fun z : isW a => h2 z.2.1)]
            simp [gl, h1', h2']
        · have h1' : ¬ (1 : Int) ≤ a.length := by omega
          rw [if_neg (fun z : isW a => h1 z.1)]
          simp [gl, h1']
      | false =>
        rw [if_neg (fun z : isW a => Bool.false_ne_true (pl.mpr z.2.2))]
        simp
    · simp
theorem numBy_dash : numBy [45] = .none := by rfl
theorem cellBy_dash (k : Kd) : cellBy k [45] = .none := by
  cases k
  · exact numBy_dash
  · unfold cellBy
    simp only
    rw [if_neg (by decide)]
  · show dayBy [45] = .none
    unfold dayBy readD
    rw [if_neg (by decide)]
theorem cell_by_eq (k : Kd) (a : List Nat) (ok : okS a) (hl : a.length ≤ 1000) : m_cell_by [cD k.e, cS a] = (match k with
    | .num => (match readL a with | some (t, d) => .ok (.im (nD t d)) [cD k.e, cS a] | none => .ex ⟨"NoNumber", none⟩ [cD k.e, cS a])
    | .word => .ok (.im (.str (SX.S a))) [cD k.e, cS a]
    | .day => (match readD a with | some n => .ok (.im (.int n)) [cD k.e, cS a] | none => .ex ⟨"NoDay", none⟩ [cD k.e, cS a])) := by
  have e1 := kn k
  have e3 := kday k
  have R := read_eq a ok hl
  have Y := read_day_eq a ok hl
  cases k with
  | num =>
    generalize Kd.num.e = K at *
    simp only [m_cell_by, b_cell_by, dDef_eq, dSeq_eq]
    cases q : readL a with
    | none => rw [q] at R; simp [e1, R]
    | some z => obtain ⟨t, d⟩ := z; rw [q] at R; simp [e1, R]
  | word =>
    generalize Kd.word.e = K at *
    simp only [m_cell_by, b_cell_by, dDef_eq, dSeq_eq]
    simp [e1, e3]
  | day =>
    generalize Kd.day.e = K at *
    simp only [m_cell_by, b_cell_by, dDef_eq, dSeq_eq]
    cases q : readD a with
    | none => rw [q] at Y; simp [e1, e3, Y]
    | some z => rw [q] at Y; simp [e1, e3, Y]
theorem read_tail (K : D) (a : List Nat) (d : D) (b : Bool) (h : m_is_cell [cD K, cD d] = .ok (.im (.bool b)) [cD K, cD d]) : (dSeq (dIf (dNot (dTru (dFn 2 m_is_cell (aIm (dVar 0) (aIm (dVar 2) aNil)))))
   (dRaiseF "NoTable" "row" (dC .none))
   dNx)
  (dRet (dVar 2))) [cD K, cS a, cD d] = if b = true then .ok (.rt d) [cD K, cS a, cD d] else .ex ⟨"NoTable", some ("row", .none)⟩ [cD K, cS a, cD d] := by
  cases b with
  | true => simp only [dSeq_eq]; simp [h]
  | false => simp only [dSeq_eq]; simp [h]
theorem read_pre (K : D) (a : List Nat) (ok : okS a) (hn : a ≠ [45]) (g : En → Dn.R Fl) (r : Dn.R Fl) (h : g [cD K, cS a, none] = r) : dSeq (dIf (dNot (dIsi "str" (dVar 1)))
   (dRaiseF "NoTable" "row" (dC .none))
   dNx)
  (dSeq (dIf (dCmp gEq (dVar 1) (dC (.str "-")))
   (dRet (dC .none))
   dNx) g) [cD K, cS a, none] = r := by
  have e := gEq_S ok (ok1 45 (by decide))
  rw [decide_eq_false hn, ← strM] at e
  exact seq_nx (ρ1 := [cD K, cS a, none]) (by simp [isTy]) (seq_nx (ρ1 := [cD K, cS a, none]) (by simp [e]) h)
theorem read_dash (K : D) : m_read_cell [cD K, cS [45]] = .ok (.im .none) [cD K, cS [45]] := by
  have e := gEq_S (ok1 45 (by decide)) (ok1 45 (by decide))
  rw [decide_eq_true rfl, ← strM] at e
  have eC : cS [45] = cD (.str "-") := by rw [strM]
  rw [eC]
  simp only [m_read_cell, b_read_cell, dDef_eq, dSeq_eq]
  simp [isTy, e]
theorem read_nostr (K d : D) (h : isTy "str" d = false) : ∃ ρ', m_read_cell [cD K, cD d] = .ex ⟨"NoTable", some ("row", .none)⟩ ρ' := by
  simp only [m_read_cell, b_read_cell, dDef_eq, dSeq_eq]
  exact ⟨_, by simp [h]; rfl⟩
theorem read_cell_eq (k : Kd) (a : List Nat) (ok : okS a) (hl : a.length ≤ 1000) (hn : a ≠ [45]) :
    (cellBy k a ≠ .none ∧ m_read_cell [cD k.e, cS a] = .ok (.im (cellBy k a)) [cD k.e, cS a]) ∨ (cellBy k a = .none ∧ ∃ ρ', m_read_cell [cD k.e, cS a] = .ex ⟨"NoTable", some ("row", .none)⟩ ρ') := by
  have C := cell_by_eq k a ok hl
  have fin : ∀ (d : D) (b : Bool), m_cell_by [cD k.e, cS a] = .ok (.im d) [cD k.e, cS a] → m_is_cell [cD k.e, cD d] = .ok (.im (.bool b)) [cD k.e, cD d] →
      m_read_cell [cD k.e, cS a] = finD [cD k.e, cS a] (if b = true then .ok (.rt d) [cD k.e, cS a, cD d] else .ex ⟨"NoTable", some ("row", .none)⟩ [cD k.e, cS a, cD d]) := fun d b h1 h2 => by
    simp only [m_read_cell, b_read_cell, dDef_eq]
    refine congrArg _ (read_pre k.e a ok hn _ _ (seq_nx (ρ1 := [cD k.e, cS a, cD d]) (tryR_ok ?_) (read_tail k.e a d b h2)))
    generalize k.e = K at *
    simp [h1]
  have bad : ∀ e : String, (e = "NoNumber" ∨ e = "NoDay") → m_cell_by [cD k.e, cS a] = .ex ⟨e, none⟩ [cD k.e, cS a] → ∃ ρ', m_read_cell [cD k.e, cS a] = .ex ⟨"NoTable", some ("row", .none)⟩ ρ' := fun e he h1 => by
    simp only [m_read_cell, b_read_cell, dDef_eq]
    refine ⟨[cD k.e, cS a], ?_⟩
    have ct : catOr cat_NoNumber cat_NoDay e = some true := by
      rcases he with rfl | rfl
      · rfl
      · rfl
    refine (congrArg _ (read_pre k.e a ok hn _ (.ex ⟨"NoTable", some ("row", .none)⟩ [cD k.e, cS a, none]) ?_)).trans ?_
    · generalize k.e = K at *
      have hb : (dAsg (putIm 2) (dFn 2 m_cell_by (aIm (dVar 0) (aIm (dVar 1) aNil)))) [cD K, cS a, none] = .ex ⟨e, none⟩ [cD K, cS a, none] := by simp [h1]
      have := tryR_ex (s := dRaiseF "NoTable" "row" (dC .none)) hb ct
      simp only [dSeq_eq, this]
      simp
    · simp
  cases k with
  | num =>
    unfold cellBy numBy
    simp only at C ⊢
    cases q : readL a with
    | none => rw [q] at C; exact .inr ⟨rfl, bad "NoNumber" (.inl rfl) C⟩
    | some z =>
      obtain ⟨t, d⟩ := z
      rw [q] at C
      have I := is_cell_eq .num (nD t d) (fun s e => by cases e)
      have ec : cellT .num (nD t d) = toldD (nD t d) := rfl
      rw [ec] at I
      have F := fin _ _ C I
      simp only
      by_cases h : toldD (nD t d) = true
      · rw [if_pos h] at F ⊢
        exact .inl ⟨(fun z => by cases z), F.trans (by simp)⟩
      · rw [if_neg h] at F ⊢
        exact .inr ⟨rfl, _, F.trans rfl⟩
  | word =>
    unfold cellBy
    have I := is_cell_eq .word (.str (SX.S a)) (fun s e => by cases e; rw [SX.S_len]; omega)
    have ec : cellT .word (.str (SX.S a)) = decide (isW a) := rfl
    rw [ec] at I
    have F := fin _ _ C I
    simp only
    by_cases h : isW a
    · rw [decide_eq_true h, if_pos rfl] at F
      rw [if_pos h]
      exact .inl ⟨(fun z => by cases z), F.trans (by simp)⟩
    · rw [decide_eq_false h, if_neg (by decide)] at F
      rw [if_neg h]
      exact .inr ⟨rfl, _, F.trans rfl⟩
  | day =>
    unfold cellBy dayBy
    simp only at C ⊢
    cases q : readD a with
    | none => rw [q] at C; exact .inr ⟨rfl, bad "NoDay" (.inr rfl) C⟩
    | some n =>
      rw [q] at C
      have I := is_cell_eq .day (.int n) (fun s e => by cases e)
      have ec : cellT .day (.int n) = dayD (.int n) := rfl
      rw [ec] at I
      have F := fin _ _ C I
      simp only
      by_cases h : dayD (.int n) = true
      · rw [if_pos h] at F ⊢
        exact .inl ⟨(fun z => by cases z), F.trans (by simp)⟩
      · rw [if_neg h] at F ⊢
        exact .inr ⟨rfl, _, F.trans rfl⟩
end Lw
namespace Lw
open PySem PySem.Spec PyProof.Rows L2 Dn
theorem pow199 : (10 : Nat) ^ 60 ≤ 2 ^ 200 := by decide
theorem show_eq {t d : Int} (ht : t.natAbs < 10 ^ 60) (hd : 0 < d) (hd2 : d.natAbs < 10 ^ 60) : m_show_number [cD (nD t d)] = .ok (.im (.str (SX.S (showL t d)))) [cD (nD t d)] := by
  have h1 := gStr_int (t := t) (k := 200) (Nat.lt_of_lt_of_le ht pow199) (by decide) (by decide)
  have h2 := gStr_int (t := d) (k := 200) (Nat.lt_of_lt_of_le hd2 pow199) (by decide) (by decide)
  have hdl : intL d = TL.numL d.natAbs := by unfold intL; rw [if_neg (by omega)]
  rw [hdl] at h2
  have l1 := intL_len ht
  have l2 := TL.numL_len (n := d.natAbs) (k := 60) (by decide) hd2
  have a1 := gAdd_S (a := intL t) (b := [47]) (by simp; omega)
  have a2 := gAdd_S (a := intL t ++ [47]) (b := TL.numL d.natAbs) (by simp; omega)
  rw [← strL] at a1
  simp only [m_show_number, b_show_number, dDef_eq, dSeq_eq]
  unfold showL
  by_cases h : d = 1
  · simp [h, h1]
  · simp [h, h1, h2, a1] 
    simp at a2
    simp [a2]
/-! alike, refused, the good cells -/
def AlikeOK (d : D) : Prop := d = .none ∨ (∃ a, okS a ∧ d = .str (SX.S a)) ∨ (∃ i, d = .int i) ∨ ∃ t u, d = nD t u
theorem alike_eq {d : D} (h : AlikeOK d) : m_law_alike [cD d, cD d] = .ok (.im (.bool true)) [cD d, cD d] := by
  have bb : ∀ b : Bool, gEq (.bool b) (.bool b) = some true := fun b => by cases b <;> rfl
  simp only [m_law_alike, b_law_alike, dDef_eq, dSeq_eq]
  rcases h with rfl | ⟨a, ok, rfl⟩ | ⟨i, rfl⟩ | ⟨t, u, rfl⟩
  · have e : gEq .none .none = some true := rfl
    simp [isTy, e, bb]
  · have e := gEq_self (shpS ok)
    simp [isTy, e, bb]
  · have e : gEq (.int i) (.int i) = some true := gEq_self rfl
    have w := law_whole_eq i
    simp [isTy, w]
  · have e : gEq (nD t u) (nD t u) = some true := gEq_self rfl
    have w1 := law_whole_eq t
    have w2 := law_whole_eq u
    have i0 : gIx (nD t u) (.int 0) = some (.int t) := by simp
    have i1 : gIx (nD t u) (.int 1) = some (.int u) := by simp
    have gl : gLen1 (nD t u) = some (.int 2) := rfl
    have t1 : isTy "tuple" (nD t u) = true := rfl
    have t2 : isTy "str" (nD t u) = false := rfl
    have t3 : gIs (nD t u) .none = some false := rfl
    generalize nD t u = N at *
    simp [t1, t2, t3, gl, i0, i1, w1, w2, e, -gIs_none]
theorem refused_eq (K d : D) {ρ0 : En} (h : m_read_cell [cD K, cD d] = .ex ⟨"NoTable", some ("row", .none)⟩ ρ0) : m_law_refused [cD K, cD d] = .ok (.im (.bool true)) [cD K, cD d] := by
  have gb : giveB [AV.im K, AV.im d] ρ0 [cD K, cD d, none] = [cD K, cD d, none] := by
    cases ρ0 with
    | nil => rfl
    | cons a l => cases l <;> rfl
  simp only [m_law_refused, b_law_refused, dDef_eq]
  refine (congrArg _ (seq_rt (d := .bool true) (ρ1 := [cD K, cD d, none]) (tryAs_ex (e := ⟨"NoTable", some ("row", .none)⟩) (ρ1 := [cD K, cD d, none]) (by simp [h, gb]) rfl rfl fun a dx => ⟨[cD K, cD d, some (.xn a dx ⟨"NoTable", some ("row", .none)⟩)], ?_, rfl⟩))).trans ?_
  · simp [is_NoNumber, is_NoDay, is_ValueError, is_MarkError]
  · simp
theorem cellBy_alike (k : Kd) (a : List Nat) (ok : okS a) : AlikeOK (cellBy k a) := by
  cases k with
  | num =>
    unfold cellBy numBy
    simp only
    cases readL a with
    | none => exact .inl rfl
    | some z =>
      obtain ⟨t, d⟩ := z
      simp only
      split
      · exact .inr (.inr (.inr ⟨t, d, rfl⟩))
      · exact .inl rfl
  | word =>
    unfold cellBy
    simp only
    split
    · exact .inr (.inl ⟨a, ok, rfl⟩)
    · exact .inl rfl
  | day =>
    unfold cellBy dayBy
    simp only
    cases readD a with
    | none => exact .inl rfl
    | some n =>
      simp only
      split
      · exact .inr (.inr (.inl ⟨n, rfl⟩))
      · exact .inl rfl
structure GC (k : Kd) (d : D) (a : List Nat) : Prop where
  sh : m_show_cell [cD k.e, cD d] = .ok (.im (.str (SX.S a))) [cD k.e, cD d]
  rd : m_read_cell [cD k.e, cS a] = .ok (.im d) [cD k.e, cS a]
  al : AlikeOK d
  ok : okS a
  l0 : 1 ≤ a.length
  ln : a.length ≤ 130
theorem gc_none (k : Kd) : GC k .none [45] := by
  refine ⟨?_, read_dash k.e, .inl rfl, ok1 45 (by decide), by decide, by decide⟩
  have eC : (PyData.str (SX.S [45])) = .str "-" := by rw [strM]
  rw [eC]
  generalize k.e = K
  simp only [m_show_cell, b_show_cell, dDef_eq, dSeq_eq]
  simp
theorem gc_of (k : Kd) {d : D} {a : List Nat} (hd : d ≠ .none) (hc : cellBy k a = d) (ok : okS a) (l0 : 1 ≤ a.length) (ln : a.length ≤ 130) (sh : m_show_cell [cD k.e, cD d] = .ok (.im (.str (SX.S a))) [cD k.e, cD d]) : GC k d a := by
  have hn : a ≠ [45] := fun e => by
    subst e
    rw [cellBy_dash] at hc
    exact hd hc.symm
  refine ⟨sh, ?_, hc ▸ cellBy_alike k a ok, ok, l0, ln⟩
  rcases read_cell_eq k a ok (by omega) hn with ⟨_, e⟩ | ⟨e, _⟩
  · rw [hc] at e; exact e
  · rw [hc] at e; exact absurd e hd
theorem gc_num {t u : Int} (h : toldD (nD t u) = true) : GC .num (nD t u) (showL t u) := by
  obtain ⟨t', u', e, h1, h2, h3, h4⟩ := toldD_ex h
  cases e
  have b60 : (10 : Nat) ^ 18 ≤ 10 ^ 60 := by decide
  have ht : t.natAbs < 10 ^ 60 := by omega
  have hu : u.natAbs < 10 ^ 60 := by have : (60 : Nat) < 10 ^ 60 := by decide
                                     omega
  have sl := show_len ht hu
  have R := read_show ht h1 hu h2
  refine gc_of .num (fun z => by cases z) ?_ (show_ok t u) sl.2 (by omega) ?_
  · unfold cellBy numBy
    simp only [R, h, if_true]
  · have S := show_eq ht h1 hu
    have e1 := kn .num
    have gi : gIs (nD t u) .none = some false := rfl
    generalize Kd.num.e = K at *
    generalize nD t u = N at *
    simp only [m_show_cell, b_show_cell, dDef_eq, dSeq_eq]
    simp [gi, e1, S, -gIs_none]
theorem gc_word {a : List Nat} (h : isW a) : GC .word (.str (SX.S a)) a := by
  have := h.1
  have := h.2.1
  refine gc_of .word (fun z => by cases z) ?_ h.ok h.1 (by omega) ?_
  · unfold cellBy
    simp only
    rw [if_pos h]
  · have e1 := kn .word
    have e3 := kday .word
    generalize Kd.word.e = K at *
    simp only [m_show_cell, b_show_cell, dDef_eq, dSeq_eq]
    simp [e1, e3]
theorem gc_day {y m d : Nat} (v : Val y m d) (h1 : 1000 ≤ y) (h2 : y < 9000) : GC .day (.int (cnt y m d)) (dayL y m d) := by
  have hm := v.m12
  have hd := v.dl
  have hd2 := long_le y m
  have R := read_day_text (y := y) (m := m) (d := d) (by omega) (by omega) (by omega) (okD_of v)
  have T := day_told v
  rw [decide_eq_true ⟨h1, h2⟩] at T
  refine gc_of .day (fun z => by cases z) ?_ (day_okS y m d (by omega) (by omega) (by omega)) (by simp [dayL, pad4, pad2]) (by simp [dayL, pad4, pad2]) ?_
  · unfold cellBy dayBy
    simp only [R, T, if_true]
  · have S := show_day_eq y m d v (by omega)
    have e1 := kn .day
    have e3 := kday .day
    generalize Kd.day.e = K at *
    generalize cnt y m d = C at *
    generalize dayL y m d = A at *
    simp only [m_show_cell, b_show_cell, dDef_eq, dSeq_eq]
    simp [e1, e3, S]
end Lw
namespace Lw
open PySem PySem.Spec PyProof.Rows L2 Dn
/-! the good cell that is drawn -/
def T10 : List Int := [3, 9, 10, 11400, 1000, 8, 2, 26, 26, 26, 26, 26, 26, 26, 26, 2, 4, 1000000000, 1000000000, 90, 8000, 12, 31]
theorem T10ok : TopsOK T10 := ⟨by decide, by decide⟩
theorem list23 {w : List Int} (h : w.length = 23) : ∃ d0 d1 d2 d3 d4 d5 d6 d7 d8 d9 d10 d11 d12 d13 d14 d15 d16 d17 d18 d19 d20 d21 d22, w = [d0, d1, d2, d3, d4, d5, d6, d7, d8, d9, d10, d11, d12, d13, d14, d15, d16, d17, d18, d19, d20, d21, d22] := by
  match w, h with
  | [d0, d1, d2, d3, d4, d5, d6, d7, d8, d9, d10, d11, d12, d13, d14, d15, d16, d17, d18, d19, d20, d21, d22], _ => exact ⟨_, _, _, _, _, _, _, _, _, _, _, _, _, _, _, _, _, _, _, _, _, _, _, rfl⟩
theorem gSlL_mid (ds : List D) (i j : Nat) : gSl (.list ds) (some (i : Int)) (some (j : Int)) = some (.list ((ds.take j).drop i)) := by
  show some (PyData.list _) = _
  rw [cut_mid]
theorem iL_mid (v : List Int) (i j : Nat) : gSl (iL v) (some (i : Int)) (some (j : Int)) = some (iL ((v.take j).drop i)) := by
  rw [gSlL_mid, ← List.map_take, ← List.map_drop]
theorem good_ex (v : List Int) (vl : v.length = 23) (hv : inT T10 v) (k : Kd) (hk : v[0]? = some (kx k)) : ∃ (d : D) (a : List Nat), GC k d a ∧ m_law_good [cD (iL v)] = .ok (.im (.tuple [d, .str (SX.S a)])) [cD (iL v)] := by
  have S1 := iL_mid v 15 20
  have S2 := iL_mid v 5 15
  have S3 := iL_mid v 20 23
  replace S1 : gSl (iL v) (some 15) (some 20) = some (iL ((v.take 20).drop 15)) := S1
  replace S2 : gSl (iL v) (some 5) (some 15) = some (iL ((v.take 15).drop 5)) := S2
  replace S3 : gSl (iL v) (some 20) (some 23) = some (iL ((v.take 23).drop 20)) := S3
  obtain ⟨x0, hx0, i0⟩ := ixL (v := v) (i := 0) (by omega)
  rw [hk] at hx0
  cases hx0
  obtain ⟨d1, _, i1⟩ := ixL (v := v) (i := 1) (by omega)
  replace i0 : gIx (iL v) (.int 0) = some (.int (kx k)) := i0
  replace i1 : gIx (iL v) (.int 1) = some (.int d1) := i1
  by_cases h1 : d1 = 0
  · subst h1
    refine ⟨.none, [45], gc_none k, ?_⟩
    have eC : (PyData.str (SX.S [45])) = .str "-" := by rw [strM]
    rw [eC]
    generalize iL v = V at *
    simp only [m_law_good, b_law_good, dDef_eq, dSeq_eq]
    simp [i1]
  · obtain ⟨d0, d1', d2, d3, d4, d5, d6, d7, d8, d9, d10, d11, d12, d13, d14, d15, d16, d17, d18, d19, d20, d21, d22, rfl⟩ := list23 vl
    cases k with
    | num =>
      obtain ⟨t, u, hT, N⟩ := law_number_ex d15 d16 d17 d18 d19 (hv 15 d15 rfl) (hv 16 d16 rfl) (hv 17 d17 rfl) (hv 18 d18 rfl) (hv 19 d19 rfl)
      have G := gc_num hT
      refine ⟨_, _, G, ?_⟩
      obtain ⟨t', u', e, h1', h2, h3, h4⟩ := toldD_ex hT
      cases e
      have p18 : (10 : Nat) ^ 18 ≤ 2 ^ 70 := by decide
      have p60 : (60 : Nat) < 2 ^ 70 := by decide
      have q18 : (10 : Nat) ^ 18 ≤ 10 ^ 60 := by decide
      have q60 : (60 : Nat) < 10 ^ 60 := by decide
      have g1 := gStr_int (t := t) (k := 70) (by omega) (by decide) (by decide)
      have g2 : gStr [.int u] = some (.str (SX.S (TL.numL u.natAbs))) := by
        have := gStr_int (t := u) (k := 70) (by omega) (by decide) (by decide)
        unfold intL at this
        rw [if_neg (by omega)] at this
        exact this
      have l1 := (intL_len (t := t) (by omega)).1
      have l2 := TL.numL_len (n := u.natAbs) (k := 60) (by decide) (by omega)
      have a1 : gAdd (.str "/") (.str (SX.S (TL.numL u.natAbs))) = some (.str (SX.S (47 :: TL.numL u.natAbs))) := by
        rw [strL, gAdd_S (by simp; omega)]; rfl
      have a0 : gAdd (.str (SX.S (intL t))) (.str "") = some (.str (SX.S (intL t))) := by
        have := gAdd_S (a := intL t) (b := []) (by simp; omega)
        rw [List.append_nil, ← str0] at this
        exact this
      have a2 : gAdd (.str (SX.S (intL t))) (.str (SX.S (47 :: TL.numL u.natAbs))) = some (.str (SX.S (intL t ++ 47 :: TL.numL u.natAbs))) := gAdd_S (by simp; omega)
      have S1' : gSl (iL [d0, d1', d2, d3, d4, d5, d6, d7, d8, d9, d10, d11, d12, d13, d14, d15, d16, d17, d18, d19, d20, d21, d22]) (some 15) (some 20) = some (.list [.int d15, .int d16, .int d17, .int d18, .int d19]) := S1
      clear S1 S2 S3 hv G
      generalize iL [d0, d1', d2, d3, d4, d5, d6, d7, d8, d9, d10, d11, d12, d13, d14, d15, d16, d17, d18, d19, d20, d21, d22] = V at *
      generalize PyData.list [.int d15, .int d16, .int d17, .int d18, .int d19] = W at *
      unfold showL
      simp only [m_law_good, b_law_good, dDef_eq]
      refine (congrArg _ (seq_nx (ρ1 := [cD V, none, none]) (by simp [i1, h1]) (seq_rt (d := .tuple [nD t u, .str (SX.S (intL t ++ if u = 1 then [] else 47 :: TL.numL u.natAbs))]) (ρ1 := [cD V, cI t, cI u]) ?_))).trans ?_
      · refine if_t (ρ1 := [cD V, none, none]) (by simp [i0, kx]) (seq_nx (ρ1 := [cD V, cI t, cI u]) ?_ ?_)
        · simp [S1', N, gTupD, gsCons, gsNil]
        · clear l2
          generalize TL.numL u.natAbs = NU at *
          by_cases hu : u = 1
          · subst hu
            simp [g1, g2, a1, a0]
          · have hu' : (1 : Int) < u := by omega
            simp [g1, g2, a1, a2, hu, hu']
      · simp
    | word =>
      have wl : ((([d0, d1', d2, d3, d4, d5, d6, d7, d8, d9, d10, d11, d12, d13, d14, d15, d16, d17, d18, d19, d20, d21, d22] : List Int).take 15).drop 5).length = 10 := rfl
      obtain ⟨cs, hc, N⟩ := law_word_ex _ wl d5 d6 rfl rfl (hv 5 d5 rfl).1 (hv 5 d5 rfl).2 (hv 6 d6 rfl).1 (hv 6 d6 rfl).2
      refine ⟨_, _, gc_word hc, ?_⟩
      generalize (([d0, d1', d2, d3, d4, d5, d6, d7, d8, d9, d10, d11, d12, d13, d14, d15, d16, d17, d18, d19, d20, d21, d22] : List Int).take 15).drop 5 = WL at *
      clear S1 S3 hv
      generalize iL [d0, d1', d2, d3, d4, d5, d6, d7, d8, d9, d10, d11, d12, d13, d14, d15, d16, d17, d18, d19, d20, d21, d22] = V at *
      generalize iL WL = W at *
      simp only [m_law_good, b_law_good, dDef_eq, dSeq_eq]
      simp [i1, h1, i0, kx, S2, N]
    | day =>
      have b20 := hv 20 d20 rfl
      have b21 := hv 21 d21 rfl
      have b22 := hv 22 d22 rfl
      have b20' : 0 ≤ d20 ∧ d20 < 8000 := b20
      have b21' : 0 ≤ d21 ∧ d21 < 12 := b21
      have b22' : 0 ≤ d22 ∧ d22 < 31 := b22
      clear b20 b21 b22
      obtain ⟨y, rfl⟩ : ∃ y : Nat, d20 = y := ⟨d20.toNat, by omega⟩
      obtain ⟨m, rfl⟩ : ∃ m : Nat, d21 = m := ⟨d21.toNat, by omega⟩
      obtain ⟨dd, rfl⟩ : ∃ dd : Nat, d22 = dd := ⟨d22.toNat, by omega⟩
      obtain ⟨n, hn, V1, E⟩ := law_day_eq y m dd (by omega) (by omega)
      refine ⟨_, _, gc_day V1 (by omega) (by omega), ?_⟩
      have S3' : gSl (iL [d0, d1', d2, d3, d4, d5, d6, d7, d8, d9, d10, d11, d12, d13, d14, d15, d16, d17, d18, d19, (y : Int), (m : Int), (dd : Int)]) (some 20) (some 23) = some (iL [(y : Int), (m : Int), (dd : Int)]) := S3
      clear S1 S2 S3 hv
      generalize iL [d0, d1', d2, d3, d4, d5, d6, d7, d8, d9, d10, d11, d12, d13, d14, d15, d16, d17, d18, d19, (y : Int), (m : Int), (dd : Int)] = V at *
      generalize iL [(y : Int), (m : Int), (dd : Int)] = W at *
      simp only [m_law_good, b_law_good, dDef_eq, dSeq_eq]
      simp [i1, h1, i0, kx, S3', E]
end Lw
namespace Lw
open PySem PySem.Spec PyProof.Rows L2 Dn
/-! the bent text -/
def sS : List Nat := [32, 33, 34, 35, 36, 38, 39, 40, 41, 42, 43, 44, 45, 46, 47, 48, 49, 50, 51, 52, 53, 54, 55, 56, 57, 58, 59, 60, 61, 62, 63, 64, 65, 66, 67, 68, 69, 70, 71, 72, 73, 74, 75, 76, 77, 78, 79, 80, 81, 82, 83, 84, 85, 86, 87, 88, 89, 90, 91, 92, 93, 94, 95, 96, 97, 98, 99, 100, 101, 102, 103, 104, 105, 106, 107, 108, 109, 110, 111, 112, 113, 114, 115, 116, 117, 118, 119, 120, 121, 122, 123, 124, 125, 126, 10]
theorem strS : (" !\"#$&'()*+,-./0123456789:;<=>?\u0040ABCDEFGHIJKLMNOPQRSTUVWXYZ[\\]^_`abcdefghijklmnopqrstuvwxyz{|}~\n" : Str) = SX.S sS := by rfl
def tx (s : Str) : Bool := s.cps.toList.all (fun c => decide (c < 128)) && decide (s.cps.toList.length ≤ 300)
def oS : List Str := (["", "--", "+5", "05", "-0", "0", "5/1", "2/4", "7/61", "1000000000000000000", "-999999999999999999/59"] : List Str) ++ (["0999-12-31", "1000-01-01", "8999-12-31", "9000-01-01", "1900-02-29", "2000-02-29", "2001-00-10"] : List Str) ++ (["2001-13-01", "2001-04-31", "2001-4-3", "abcdefghi", "aB", "a b", "None", "1/0", "/2", "5/", "5/-2"] : List Str) ++ (["none", "1//2", "- 5", "0/5", "2004-02-29", "2100-02-28", "2001-01-00", "1e5", "1_000", "1.5", "3/05"] : List Str)
theorem oS_tx : ∀ s ∈ oS, tx s = true := by decide +kernel
def TxD (d : D) : Prop := ∃ b, okS b ∧ b.length ≤ 300 ∧ d = .str (SX.S b)
theorem tx_D {s : Str} (h : tx s = true) : TxD (.str s) := by
  simp only [tx, Bool.and_eq_true, List.all_eq_true, decide_eq_true_eq] at h
  exact ⟨s.cps.toList, h.1, h.2, by rw [S_of]⟩
theorem sS_ok : ∀ c ∈ sS, c < 128 := by decide
theorem gIx_pick {l : List D} {v : Int} (h0 : 0 ≤ v) (h1 : v < l.length) : ∃ d, l[v.toNat]? = some d ∧ gIx (.list l) (.int v) = some d := by
  obtain ⟨n, rfl⟩ : ∃ n : Nat, v = n := ⟨v.toNat, by omega⟩
  have hn : n < l.length := by omega
  exact ⟨l[n], by simp [hn], by rw [gIx_lst]; exact atI_of (by simp [hn])⟩
theorem gIx_mem {l : List D} {v : Int} (h0 : 0 ≤ v) (h1 : v < l.length) : ∃ d ∈ l, gIx (.list l) (.int v) = some d := by
  obtain ⟨d, e, g⟩ := gIx_pick h0 h1
  exact ⟨d, List.mem_of_getElem? e, g⟩
theorem made_ex (a : List Nat) (ok : okS a) (hl : a.length ≤ 130) (W : D) (d2 d3 d4 : Int) (i2 : gIx W (.int 2) = some (.int d2)) (i3 : gIx W (.int 3) = some (.int d3)) (i4 : gIx W (.int 4) = some (.int d4)) (h2 : 0 ≤ d2 ∧ d2 < 10) :
    ∃ b, okS b ∧ b.length ≤ 300 ∧ m_law_made [cS a, cD W] = .ok (.im (.str (SX.S b))) [cS a, cD W] := by
  have gl : gLen1 (.str (SX.S sS)) = some (.int 95) := gLen_S (a := sS) (by decide)
  have gla := gLen_S (a := a) (by omega)
  have m95 : gMod (.int d3) (.int 95) = some (.int (d3 % 95)) := gMod_pos (by decide)
  have m40 : gMod (.int d3) (.int 40) = some (.int (d3 % 40)) := gMod_pos (by decide)
  have m10 : gMod (.int d3) (.int 10) = some (.int (d3 % 10)) := gMod_pos (by decide)
  have ma : gMod (.int d4) (.int ((a.length : Int) + 1)) = some (.int (d4 % ((a.length : Int) + 1))) := gMod_pos (by omega)
  obtain ⟨k, hk, k1⟩ : ∃ k : Nat, d4 % ((a.length : Int) + 1) = k ∧ k ≤ a.length := by
    have x := Int.emod_nonneg d4 (show (a.length : Int) + 1 ≠ 0 by omega)
    have y := Int.emod_lt_of_pos d4 (show (0 : Int) < (a.length : Int) + 1 by omega)
    exact ⟨(d4 % ((a.length : Int) + 1)).toNat, by omega, by omega⟩
  rw [hk] at ma
  obtain ⟨s, hs, gs⟩ : ∃ s : Nat, s < 128 ∧ gIx (.str (SX.S sS)) (.int (d3 % 95)) = some (.str (SX.S [s])) := by
    obtain ⟨n, hn⟩ : ∃ n : Nat, d3 % 95 = n := ⟨(d3 % 95).toNat, by omega⟩
    have hn95 : n < sS.length := by show n < 95; omega
    rw [hn]
    exact ⟨_, sS_ok _ (List.getElem_mem hn95), gIx_S (a := sS) (by decide) (k := n) hn95⟩
  obtain ⟨n10, hn10, l10⟩ : ∃ n : Nat, d3 % 10 = n ∧ n < 10 := ⟨(d3 % 10).toNat, by omega, by omega⟩
  rw [hn10] at m10
  have gstr := gStr_nat (n := n10) (k := 20) (by omega) (by decide) (by decide)
  have lnum := TL.numL_len (n := n10) (k := 1) (by decide) (by omega)
  have oknum := okS.num n10
  generalize TL.numL n10 = NM at *
  have t1 := gSl_to (a := a) (by omega) k
  have t2 := gSl_from (a := a) (by omega) k
  have t3 := gSl_from (a := a) (by omega) (k + 1)
  replace t3 : gSl (.str (SX.S a)) (some ((k : Int) + 1)) none = some (.str (SX.S (a.drop (k + 1)))) := t3
  have okA := ok.take k
  have okB := ok.drop k
  have okC := ok.drop (k + 1)
  have lA : (a.take k).length ≤ 130 := by simp; omega
  have lB : (a.drop k).length ≤ 130 := by simp; omega
  have lC : (a.drop (k + 1)).length ≤ 130 := by simp; omega
  generalize a.take k = A at *
  generalize a.drop k = B at *
  generalize a.drop (k + 1) = C at *
  have strNl : ("\n" : Str) = SX.S [10] := by rfl
  have strSp : (" " : Str) = SX.S [32] := by rfl
  have a1 : gAdd (.str (SX.S A)) (.str (SX.S [s])) = some (.str (SX.S (A ++ [s]))) := gAdd_S (by simp; omega)
  have a2 : gAdd (.str (SX.S (A ++ [s]))) (.str (SX.S B)) = some (.str (SX.S (A ++ [s] ++ B))) := gAdd_S (by simp; omega)
  have a3 : gAdd (.str (SX.S (A ++ [s]))) (.str (SX.S C)) = some (.str (SX.S (A ++ [s] ++ C))) := gAdd_S (by simp; omega)
  have a4 : gAdd (.str (SX.S A)) (.str (SX.S C)) = some (.str (SX.S (A ++ C))) := gAdd_S (by omega)
  have a5 : gAdd (.str (SX.S a)) (.str "\n") = some (.str (SX.S (a ++ [10]))) := by rw [strNl]; exact gAdd_S (by simp; omega)
  have a6 : gAdd (.str " ") (.str (SX.S a)) = some (.str (SX.S ([32] ++ a))) := by rw [strSp]; exact gAdd_S (by simp; omega)
  have a7 : gAdd (.str (SX.S a)) (.str " ") = some (.str (SX.S (a ++ [32]))) := by rw [strSp]; exact gAdd_S (by simp; omega)
  have a8 : gAdd (.str (SX.S a)) (.str (SX.S a)) = some (.str (SX.S (a ++ a))) := gAdd_S (by omega)
  have a9 : gAdd (.str (SX.S A)) (.str (SX.S NM)) = some (.str (SX.S (A ++ NM))) := gAdd_S (by omega)
  have a10 : gAdd (.str (SX.S (A ++ NM))) (.str (SX.S B)) = some (.str (SX.S (A ++ NM ++ B))) := gAdd_S (by simp; omega)
  have a11 : gAdd (.str "-") (.str (SX.S a)) = some (.str (SX.S ([45] ++ a))) := by rw [strM]; exact gAdd_S (by simp; omega)
  obtain ⟨od, hod, go⟩ := gIx_mem (l := oS.map PyData.str) (v := d3 % 40) (by omega) (by show d3 % 40 < 40; omega)
  have tod : TxD od := by
    obtain ⟨z, hz, rfl⟩ := List.mem_map.mp hod
    exact tx_D (oS_tx z hz)
  obtain ⟨L4, hL4⟩ : ∃ L4 : List D, L4 = [.str (SX.S (A ++ [s] ++ B)), .str (SX.S (A ++ [s] ++ C)), .str (SX.S (A ++ C)), .str (SX.S (a ++ [10]))] := ⟨_, rfl⟩
  obtain ⟨L5, hL5⟩ : ∃ L5 : List D, L5 = [.str (SX.S ([32] ++ a)), .str (SX.S (a ++ [32])), od, .str (SX.S (a ++ a)), .str (SX.S (A ++ NM ++ B))] := ⟨_, rfl⟩
  obtain ⟨r, hr, gr⟩ := gIx_mem (l := L4 ++ L5 ++ [.str (SX.S ([45] ++ a))]) (v := d2) h2.1 (by rw [hL4, hL5]; exact h2.2)
  have one : ∀ c, c < 128 → okS [c] := fun c h => ok1 c h
  have tr : TxD r := by
    rw [hL4, hL5] at hr
    simp only [List.cons_append, List.nil_append, List.mem_cons, List.not_mem_nil, or_false] at hr
    rcases hr with rfl | rfl | rfl | rfl | rfl | rfl | rfl | rfl | rfl | rfl
    · exact ⟨_, (okA.app (one s hs)).app okB, by simp; omega, rfl⟩
    · exact ⟨_, (okA.app (one s hs)).app okC, by simp; omega, rfl⟩
    · exact ⟨_, okA.app okC, by simp; omega, rfl⟩
    · exact ⟨_, ok.app (one 10 (by decide)), by simp; omega, rfl⟩
    · exact ⟨_, (one 32 (by decide)).app ok, by simp; omega, rfl⟩
    · exact ⟨_, ok.app (one 32 (by decide)), by simp; omega, rfl⟩
    · exact tod
    · exact ⟨_, ok.app ok, by simp; omega, rfl⟩
    · exact ⟨_, (okA.app oknum).app okB, by simp; omega, rfl⟩
    · exact ⟨_, (one 45 (by decide)).app ok, by simp; omega, rfl⟩
  obtain ⟨b, b1, b2, rfl⟩ := tr
  refine ⟨b, b1, b2, ?_⟩
  have g1 : gAdd (.list [.str "", .str "--", .str "+5", .str "05", .str "-0", .str "0", .str "5/1", .str "2/4", .str "7/61", .str "1000000000000000000", .str "-999999999999999999/59"]) (.list [.str "0999-12-31", .str "1000-01-01", .str "8999-12-31", .str "9000-01-01", .str "1900-02-29", .str "2000-02-29", .str "2001-00-10"]) = some (.list [.str "", .str "--", .str "+5", .str "05", .str "-0", .str "0", .str "5/1", .str "2/4", .str "7/61", .str "1000000000000000000", .str "-999999999999999999/59", .str "0999-12-31", .str "1000-01-01", .str "8999-12-31", .str "9000-01-01", .str "1900-02-29", .str "2000-02-29", .str "2001-00-10"]) := gAddL (by simp)
  have g2 : gAdd (.list [.str "", .str "--", .str "+5", .str "05", .str "-0", .str "0", .str "5/1", .str "2/4", .str "7/61", .str "1000000000000000000", .str "-999999999999999999/59", .str "0999-12-31", .str "1000-01-01", .str "8999-12-31", .str "9000-01-01", .str "1900-02-29", .str "2000-02-29", .str "2001-00-10"]) (.list [.str "2001-13-01", .str "2001-04-31", .str "2001-4-3", .str "abcdefghi", .str "aB", .str "a b", .str "None", .str "1/0", .str "/2", .str "5/", .str "5/-2"]) = some (.list [.str "", .str "--", .str "+5", .str "05", .str "-0", .str "0", .str "5/1", .str "2/4", .str "7/61", .str "1000000000000000000", .str "-999999999999999999/59", .str "0999-12-31", .str "1000-01-01", .str "8999-12-31", .str "9000-01-01", .str "1900-02-29", .str "2000-02-29", .str "2001-00-10", .str "2001-13-01", .str "2001-04-31", .str "2001-4-3", .str "abcdefghi", .str "aB", .str "a b", .str "None", .str "1/0", .str "/2", .str "5/", .str "5/-2"]) := gAddL (by simp)
  have g3 : gAdd (.list [.str "", .str "--", .str "+5", .str "05", .str "-0", .str "0", .str "5/1", .str "2/4", .str "7/61", .str "1000000000000000000", .str "-999999999999999999/59", .str "0999-12-31", .str "1000-01-01", .str "8999-12-31", .str "9000-01-01", .str "1900-02-29", .str "2000-02-29", .str "2001-00-10", .str "2001-13-01", .str "2001-04-31", .str "2001-4-3", .str "abcdefghi", .str "aB", .str "a b", .str "None", .str "1/0", .str "/2", .str "5/", .str "5/-2"]) (.list [.str "none", .str "1//2", .str "- 5", .str "0/5", .str "2004-02-29", .str "2100-02-28", .str "2001-01-00", .str "1e5", .str "1_000", .str "1.5", .str "3/05"]) = some (.list (oS.map PyData.str)) := gAddL (by simp)
  generalize PyData.list (oS.map PyData.str) = OD at *
  have sz := PySem.sizeLine_eq
  have ct : catO (.list L4) (.list L5) = some (L4 ++ L5) := catO_of (by rw [hL4, hL5]; simp)
  have hs9 : (L4 ++ L5).length < sizeLine := by rw [hL4, hL5]; simp; omega
  simp only [m_law_made, b_law_made, dDef_eq]
  rw [strS]
  refine (congrArg _ (seq_nx (ρ1 := [cS a, cD W, cS sS, none, none, none, none]) (by simp)
    (seq_nx (ρ1 := [cS a, cD W, cS sS, cS [s], none, none, none]) (by simp [i3, gl, m95, gs])
    (seq_nx (ρ1 := [cS a, cD W, cS sS, cS [s], cI k, none, none]) (by simp [i4, gla, ma])
    (seq_nx (ρ1 := [cS a, cD W, cS sS, cS [s], cI k, cD (.list [.str "", .str "--", .str "+5", .str "05", .str "-0", .str "0", .str "5/1", .str "2/4", .str "7/61", .str "1000000000000000000", .str "-999999999999999999/59"]), none]) (by simp)
    (seq_nx (ρ1 := [cS a, cD W, cS sS, cS [s], cI k, cD (.list [.str "", .str "--", .str "+5", .str "05", .str "-0", .str "0", .str "5/1", .str "2/4", .str "7/61", .str "1000000000000000000", .str "-999999999999999999/59", .str "0999-12-31", .str "1000-01-01", .str "8999-12-31", .str "9000-01-01", .str "1900-02-29", .str "2000-02-29", .str "2001-00-10"]), none]) (by simp [g1])
    (seq_nx (ρ1 := [cS a, cD W, cS sS, cS [s], cI k, cD (.list [.str "", .str "--", .str "+5", .str "05", .str "-0", .str "0", .str "5/1", .str "2/4", .str "7/61", .str "1000000000000000000", .str "-999999999999999999/59", .str "0999-12-31", .str "1000-01-01", .str "8999-12-31", .str "9000-01-01", .str "1900-02-29", .str "2000-02-29", .str "2001-00-10", .str "2001-13-01", .str "2001-04-31", .str "2001-4-3", .str "abcdefghi", .str "aB", .str "a b", .str "None", .str "1/0", .str "/2", .str "5/", .str "5/-2"]), none]) (by simp [g2])
    (seq_nx (ρ1 := [cS a, cD W, cS sS, cS [s], cI k, cD OD, none]) (by simp [g3])
    (seq_nx (ρ1 := [cS a, cD W, cS sS, cS [s], cI k, cD OD, some (.ow L4)]) ?_
    (seq_nx (ρ1 := [cS a, cD W, cS sS, cS [s], cI k, cD OD, some (.ow (L4 ++ L5))]) ?_
    (seq_nx (ρ1 := [cS a, cD W, cS sS, cS [s], cI k, cD OD, some (.ow (L4 ++ L5 ++ [.str (SX.S ([45] ++ a))]))]) ?_ rfl))))))))))).trans ?_
  · rw [hL4]
    generalize A ++ [s] ++ B = X1 at *
    generalize A ++ [s] ++ C = X2 at *
    generalize A ++ [s] = X3 at *
    generalize A ++ C = X4 at *
    generalize a ++ [10] = X5 at *
    simp [t1, t2, t3, a1, a2, a3, a4, a5]
  · rw [hL5] at ct ⊢
    generalize [32] ++ a = X1 at *
    generalize a ++ [32] = X2 at *
    generalize a ++ a = X3 at *
    generalize A ++ NM ++ B = X4 at *
    generalize A ++ NM = X5 at *
    simp [i3, t1, t2, a6, a7, a8, m40, m10, go, gstr, a9, a10, ct, frz, -gIx_lst]
  · generalize [45] ++ a = X1 at *
    generalize L4 ++ L5 = X2 at *
    simp [a11, hs9]
  · generalize L4 ++ L5 ++ [PyData.str (SX.S ([45] ++ a))] = LL at *
    simp [i2, gr, -gIx_lst]
end Lw
namespace Lw
open PySem PySem.Spec PyProof.Rows L2 Dn
theorem forL_inv {g : D → En → R Unit} {b : En → R Fl} {I : En → Prop} : ∀ (ds : List D), (∀ d ∈ ds, ∀ ρ, I ρ → ∃ ρ1 ρ2, g d ρ = .ok () ρ1 ∧ b ρ1 = .ok .nx ρ2 ∧ I ρ2) → ∀ ρ, I ρ → ∃ ρ', dForL g b ds ρ = .ok .nx ρ' ∧ I ρ'
  | [], _, ρ, h => ⟨ρ, rfl, h⟩
  | d :: ds, h, ρ, hi => by
    obtain ⟨ρ1, ρ2, e1, e2, i2⟩ := h d List.mem_cons_self ρ hi
    obtain ⟨ρ', e, i'⟩ := forL_inv ds (fun z hz => h z (List.mem_cons_of_mem _ hz)) ρ2 i2
    refine ⟨ρ', ?_, i'⟩
    show (g d ρ).bind _ = _
    rw [e1]
    show (b ρ1).bind _ = _
    rw [e2]
    exact e
theorem rep26 : repL [.int 26] (.int 8) = some (.list [.int 26, .int 26, .int 26, .int 26, .int 26, .int 26, .int 26, .int 26]) := by
  have hs := PySem.sizeLine_eq
  unfold repL
  simp only
  rw [if_pos ⟨by decide, by decide, by rw [hs]; decide⟩]
  rfl
theorem kind_at2 {x : Int} (h0 : 0 ≤ x) (h1 : x < 3) : ∃ k : Kd, kx k = x ∧ gIx (.list [.str "number", .str "word", .str "day"]) (.int x) = some k.e := by
  have : x = 0 ∨ x = 1 ∨ x = 2 := by omega
  rcases this with rfl | rfl | rfl
  · exact ⟨.num, rfl, by simp [Kd.e]⟩
  · exact ⟨.word, rfl, by simp [Kd.e]⟩
  · exact ⟨.day, rfl, by simp [Kd.e]⟩
theorem AlikeOK.sh {d : D} (h : AlikeOK d) : shp d = true := by
  rcases h with rfl | ⟨a, ok, rfl⟩ | ⟨i, rfl⟩ | ⟨t, u, rfl⟩
  · rfl
  · exact shpS ok
  · rfl
  · rfl
theorem turn (S : D) (c : Int) (hc : c.natAbs < 2 ^ 1048577) (x2 x3 x4 x5 x6 x7 x8 x9 x10 x11 x12 : Option Dn.L) (f2 : free (some x2) = true) (f3 : free (some x3) = true) (f4 : free (some x4) = true) (f5 : free (some x5) = true) (f6 : free (some x6) = true) (f7 : free (some x7) = true) (f8 : free (some x8) = true) (f9 : free (some x9) = true) (f10 : free (some x10) = true) (f11 : free (some x11) = true) (f12 : free (some x12) = true) :
    ∃ y2 y3 y4 y5 y6 y7 y8 y9 y10 y11 y12 : D, b_law_l1 [cD S, cI c, x2, x3, x4, x5, x6, x7, x8, x9, x10, x11, x12] = .ok .nx [cD S, cI c, cD y2, cD y3, cD y4, cD y5, cD y6, cD y7, cD y8, cD y9, cD y10, cD y11, cD y12] := by
  obtain ⟨v, vl, hv, DR⟩ := law_draws_ex T10ok c hc
  clear hc
  have vl23 : v.length = 23 := vl
  obtain ⟨d0, e0, i0⟩ := ixL (v := v) (i := 0) (by omega)
  obtain ⟨d2, e2, i2⟩ := ixL (v := v) (i := 2) (by omega)
  obtain ⟨d3, e3, i3⟩ := ixL (v := v) (i := 3) (by omega)
  obtain ⟨d4, e4, i4⟩ := ixL (v := v) (i := 4) (by omega)
  replace i0 : gIx (iL v) (.int 0) = some (.int d0) := i0
  replace i2 : gIx (iL v) (.int 2) = some (.int d2) := i2
  replace i3 : gIx (iL v) (.int 3) = some (.int d3) := i3
  replace i4 : gIx (iL v) (.int 4) = some (.int d4) := i4
  have b0 : 0 ≤ d0 ∧ d0 < 3 := hv 0 d0 e0
  have b2 : 0 ≤ d2 ∧ d2 < 10 := hv 2 d2 e2
  obtain ⟨k, hk, gk⟩ := kind_at2 b0.1 b0.2
  obtain ⟨d, a, G, LG⟩ := good_ex v vl23 hv k (by rw [e0, hk])
  obtain ⟨b, okb, lb, MD⟩ := made_ex a G.ok G.ln (iL v) d2 d3 d4 i2 i3 i4 b2
  have m7 : gMod (.int d4) (.int 7) = some (.int (d4 % 7)) := gMod_pos (by decide)
  have m2 : gMod (.int d3) (.int 2) = some (.int (d3 % 2)) := gMod_pos (by decide)
  have m6 : gMod (.int d3) (.int 6) = some (.int (d3 % 6)) := gMod_pos (by decide)
  obtain ⟨z, hz, gz⟩ : ∃ z : Int, z = (if d4 % 7 = 3 then 1 else 0) * (1 + d3 % 2) ∧ gMul (.int (if d4 % 7 = 3 then 1 else 0)) (.int (1 + d3 % 2)) = some (.int z) := ⟨_, rfl, gmul (by split <;> decide) (by omega)⟩
  have m3 : gMod (.int (d0 + z)) (.int 3) = some (.int ((d0 + z) % 3)) := gMod_pos (by decide)
  obtain ⟨k2, hk2, gk2⟩ := kind_at2 (x := (d0 + z) % 3) (by omega) (by omega)
  have CB := law_cell_by_eq k2 b okb (by omega)
  rw [hk2] at CB
  have shd := G.al.sh
  obtain ⟨q, hq⟩ : ∃ q : Bool, gEq d (.str (SX.S a)) = some q := ⟨_, gEq_of shd (shpS G.ok)⟩
  obtain ⟨od, hod, god⟩ : ∃ od, isTy "str" od = false ∧ gIx (.list [.none, .int 5, .bool true, .list [.str (SX.S a)], .tuple [.str (SX.S a)], .bool q]) (.int (d3 % 6)) = some od := by
    obtain ⟨n, hn, n6⟩ : ∃ n : Nat, d3 % 6 = n ∧ n < 6 := ⟨(d3 % 6).toNat, by omega, by omega⟩
    rw [hn]
    have : n = 0 ∨ n = 1 ∨ n = 2 ∨ n = 3 ∨ n = 4 ∨ n = 5 := by omega
    rcases this with rfl | rfl | rfl | rfl | rfl | rfl
    · exact ⟨.none, rfl, by simp⟩
    · exact ⟨.int 5, rfl, by simp⟩
    · exact ⟨.bool true, rfl, by simp⟩
    · exact ⟨.list [.str (SX.S a)], rfl, by rw [gIx_lst]; exact atI_of (i := 3) rfl⟩
    · exact ⟨.tuple [.str (SX.S a)], rfl, by rw [gIx_lst]; exact atI_of (i := 4) rfl⟩
    · exact ⟨.bool q, rfl, by rw [gIx_lst]; exact atI_of (i := 5) rfl⟩
  obtain ⟨ρo, RO⟩ := read_nostr k.e od hod
  have RF := refused_eq k.e od RO
  have AL := alike_eq G.al
  have ne := gNe_self (shpS G.ok)
  have SH := G.sh
  have RD := G.rd
  have e9 : gPow (.int 10) (.int 9) = some (.int 1000000000) := by rw [gPow_of (by decide) (by decide) (by decide)]; rfl
  have q1 : gMul (.int 95) (.int 3) = some (.int 285) := by rw [gmul (by decide) (by decide)]; rfl
  have q2 : gMul (.int 285) (.int 40) = some (.int 11400) := by rw [gmul (by decide) (by decide)]; rfl
  have g1 : gAdd (.list [.int 3, .int 9, .int 10, .int 11400, .int 1000, .int 8, .int 2]) (.list [.int 26, .int 26, .int 26, .int 26, .int 26, .int 26, .int 26, .int 26]) = some (.list [.int 3, .int 9, .int 10, .int 11400, .int 1000, .int 8, .int 2, .int 26, .int 26, .int 26, .int 26, .int 26, .int 26, .int 26, .int 26]) := gAddL (by decide)
  have g2 : gAdd (.list [.int 3, .int 9, .int 10, .int 11400, .int 1000, .int 8, .int 2, .int 26, .int 26, .int 26, .int 26, .int 26, .int 26, .int 26, .int 26]) (.list [.int 2, .int 4, .int 1000000000, .int 1000000000, .int 90, .int 8000, .int 12, .int 31]) = some (iL T10) := gAddL (by decide)
  have r26 := rep26
  -- the middle: the bent text
  have mid : ∀ (c0 c1 c2 c3 c4 c5 c6 c7 c8 : Option Dn.L), (dIf (dOr (dCmp gEq (dVar 10) (dC (.str "-"))) (dCmp gIsNot (dVar 11) (dC .none)))
   (dIf (dNot (dTru (dFn 2 m_law_alike (aIm (dFn 2 m_read_cell (aIm (dVar 9) (aIm (dVar 10) aNil))) (aIm (dVar 11) aNil)))))
    (dRet (dC (.bool false)))
    dNx)
   (dIf (dNot (dTru (dFn 2 m_law_refused (aIm (dVar 9) (aIm (dVar 10) aNil)))))
    (dRet (dC (.bool false)))
    dNx)) [c0, c1, c2, c3, c4, c5, c6, c7, c8, cD k2.e, cS b, cD (cellBy k2 b), x12] = .ok .nx [c0, c1, c2, c3, c4, c5, c6, c7, c8, cD k2.e, cS b, cD (cellBy k2 b), x12] := fun c0 c1 c2 c3 c4 c5 c6 c7 c8 => by
    by_cases hb : b = [45]
    · subst hb
      rw [cellBy_dash]
      have A := alike_eq (d := .none) (.inl rfl)
      have R := read_dash k2.e
      have eC : cS [45] = cD (.str "-") := by rw [strM]
      have ge : gEq (.str "-") (.str "-") = some true := gEq_self (by rw [strM]; exact shpS (ok1 45 (by decide)))
      rw [eC] at R ⊢
      generalize k2.e = K2 at *
      simp [ge, R, A]
    · have ge := gEq_S okb (ok1 45 (by decide))
      rw [decide_eq_false hb, ← strM] at ge
      rcases read_cell_eq k2 b okb (by omega) hb with ⟨hn, R⟩ | ⟨hn, ρ', R⟩
      · have A := alike_eq (cellBy_alike k2 b okb)
        have gn : gIsNot (cellBy k2 b) .none = some true := by
          generalize cellBy k2 b = w at *
          cases w <;> first | rfl | exact absurd rfl hn
        generalize cellBy k2 b = w at *
        generalize k2.e = K2 at *
        simp [ge, gn, R, A, -gIsNot_none]
      · have F := refused_eq k2.e (.str (SX.S b)) R
        rw [hn]
        generalize k2.e = K2 at *
        simp [ge, F]
  refine ⟨.list [.int 3, .int 9, .int 10, .int 11400, .int 1000, .int 8, .int 2, .int 26, .int 26, .int 26, .int 26, .int 26, .int 26, .int 26, .int 26], iL v, k.e, d, .str (SX.S a), .str (SX.S a), .int ((d0 + z) % 3), k2.e, .str (SX.S b), cellBy k2 b, od, ?_⟩
  have MID := mid (cD S) (cI c) (cD (.list [.int 3, .int 9, .int 10, .int 11400, .int 1000, .int 8, .int 2, .int 26, .int 26, .int 26, .int 26, .int 26, .int 26, .int 26, .int 26])) (cD (iL v)) (cD k.e) (cD d) (cS a) (cS a) (cI ((d0 + z) % 3))
  clear mid hv e0 e2 e3 e4 vl vl23 RO G hod b0 b2 hk hk2 okb lb shd hz
  have aa : isTy "str" (.str (SX.S a)) = true := rfl
  generalize hV : iL v = V at *
  generalize k.e = K at *
  generalize cellBy k2 b = w at *
  generalize k2.e = K2 at *
  generalize (d0 + z) % 3 = o at *
  generalize iL T10 = TT at *
  generalize hL15 : PyData.list [.int 3, .int 9, .int 10, .int 11400, .int 1000, .int 8, .int 2, .int 26, .int 26, .int 26, .int 26, .int 26, .int 26, .int 26, .int 26] = L15 at *
  unfold b_law_l1
  refine seq_nx (ρ1 := [cD S, cI c, cD L15, x3, x4, x5, x6, x7, x8, x9, x10, x11, x12]) (by simp [q1, q2, r26, g1, f2])
    (seq_nx (ρ1 := [cD S, cI c, cD L15, cD V, x4, x5, x6, x7, x8, x9, x10, x11, x12]) (by simp [e9, g2, DR, f3]; exact hV)
    (seq_nx (ρ1 := [cD S, cI c, cD L15, cD V, cD K, x5, x6, x7, x8, x9, x10, x11, x12]) (by simp [i0, gk, f4, -gIx_lst])
    (seq_nx (ρ1 := [cD S, cI c, cD L15, cD V, cD K, cD d, cS a, x7, x8, x9, x10, x11, x12]) (by simp [LG, gTupD, gsCons, gsNil, f5, f6])
    (seq_nx (ρ1 := [cD S, cI c, cD L15, cD V, cD K, cD d, cS a, cS a, x8, x9, x10, x11, x12]) (by simp [SH, f7])
    (seq_nx (ρ1 := [cD S, cI c, cD L15, cD V, cD K, cD d, cS a, cS a, x8, x9, x10, x11, x12]) (by simp [aa, ne, RD, AL])
    (seq_nx (ρ1 := [cD S, cI c, cD L15, cD V, cD K, cD d, cS a, cS a, cI o, x9, x10, x11, x12]) ?_
    (seq_nx (ρ1 := [cD S, cI c, cD L15, cD V, cD K, cD d, cS a, cS a, cI o, cD K2, x10, x11, x12]) (by simp [gk2, f9, -gIx_lst])
    (seq_nx (ρ1 := [cD S, cI c, cD L15, cD V, cD K, cD d, cS a, cS a, cI o, cD K2, cS b, x11, x12]) (by simp [MD, f10])
    (seq_nx (ρ1 := [cD S, cI c, cD L15, cD V, cD K, cD d, cS a, cS a, cI o, cD K2, cS b, cD w, x12]) (by simp [CB, f11])
    (seq_nx (ρ1 := [cD S, cI c, cD L15, cD V, cD K, cD d, cS a, cS a, cI o, cD K2, cS b, cD w, x12]) MID
    (seq_nx (ρ1 := [cD S, cI c, cD L15, cD V, cD K, cD d, cS a, cS a, cI o, cD K2, cS b, cD w, cD od]) (by simp [hq, i3, m6, god, f12, -gIx_lst]) ?_)))))))))))
  · by_cases h7 : d4 % 7 = 3
    · rw [if_pos h7] at gz
      simp [i0, i4, m7, h7, i3, m2, gz, m3, f8]
    · rw [if_neg h7] at gz
      simp [i0, i4, m7, h7, i3, m2, gz, m3, f8]
  · simp [RF, RD, AL]
theorem law_true (ns : List Int) (hl : ns.length ≤ 63) (hb : ∀ z ∈ ns, z.natAbs < 2 ^ 1048576) : ∃ ls', m_law [cD (scriptD ns)] = .ok (.im (.bool true)) ls' := by
  have e : scriptD ns = .list (ns.map PyData.int) := rfl
  have hadd : gAdd (.list (ns.map PyData.int)) (.list [.int 0]) = some (.list ((ns ++ [0]).map PyData.int)) := by
    rw [gAddL (by simp; omega), List.map_append]; rfl
  have t64 : gSl (.list ((ns ++ [0]).map PyData.int)) none (some 64) = some (.list ((ns ++ [0]).map PyData.int)) := by
    have := gSl_take ((ns ++ [0]).map PyData.int) 64
    rw [List.take_of_length_le (by simp; omega)] at this
    exact this
  have hb2 : ∀ z ∈ ns ++ [0], z.natAbs < 2 ^ 1048577 := fun z hz => by
    have e2 : (2 : Nat) ^ 1048577 = 2 ^ 1048576 * 2 := by rw [show (1048577 : Nat) = 1048576 + 1 from rfl, Nat.pow_succ]
    have p : 0 < (2 : Nat) ^ 1048576 := Nat.pow_pos (by decide)
    rw [e2]
    rcases List.mem_append.mp hz with h | h
    · have := hb z h
      generalize (2 : Nat) ^ 1048576 = M at *
      omega
    · simp at h
      subst h
      generalize (2 : Nat) ^ 1048576 = M at *
      show 0 < M * 2
      omega
  rw [e]
  generalize ns.map PyData.int = S at *
  obtain ⟨ρ', L, x1, x2, x3, x4, x5, x6, x7, x8, x9, x10, x11, x12, _, _, _, _, _, _, _, _, _, _, _, _, rfl⟩ := forL_inv (g := putIm 1) (b := b_law_l1)
    (I := fun ρ => ∃ x1 x2 x3 x4 x5 x6 x7 x8 x9 x10 x11 x12 : Option Dn.L, free (some x1) = true ∧ free (some x2) = true ∧ free (some x3) = true ∧ free (some x4) = true ∧ free (some x5) = true ∧ free (some x6) = true ∧ free (some x7) = true ∧ free (some x8) = true ∧ free (some x9) = true ∧ free (some x10) = true ∧ free (some x11) = true ∧ free (some x12) = true ∧ ρ = [cD (.list S), x1, x2, x3, x4, x5, x6, x7, x8, x9, x10, x11, x12]) ((ns ++ [0]).map PyData.int)
    (fun z hz ρ ⟨x1, x2, x3, x4, x5, x6, x7, x8, x9, x10, x11, x12, f1, f2, f3, f4, f5, f6, f7, f8, f9, f10, f11, f12, e⟩ => by
      subst e
      obtain ⟨c, hc, rfl⟩ := List.mem_map.mp hz
      obtain ⟨y2, y3, y4, y5, y6, y7, y8, y9, y10, y11, y12, E⟩ := turn (.list S) c (hb2 c hc) x2 x3 x4 x5 x6 x7 x8 x9 x10 x11 x12 f2 f3 f4 f5 f6 f7 f8 f9 f10 f11 f12
      exact ⟨[cD (.list S), cI c, x2, x3, x4, x5, x6, x7, x8, x9, x10, x11, x12], _, by simp [f1], E, cI c, cD y2, cD y3, cD y4, cD y5, cD y6, cD y7, cD y8, cD y9, cD y10, cD y11, cD y12, rfl, rfl, rfl, rfl, rfl, rfl, rfl, rfl, rfl, rfl, rfl, rfl, rfl⟩)
    [cD (.list S), none, none, none, none, none, none, none, none, none, none, none, none] ⟨none, none, none, none, none, none, none, none, none, none, none, none, rfl, rfl, rfl, rfl, rfl, rfl, rfl, rfl, rfl, rfl, rfl, rfl, rfl⟩
  refine ⟨[cD (.list S)], ?_⟩
  generalize (ns ++ [0]).map PyData.int = S2 at *
  simp only [m_law, b_law, dDef_eq]
  refine (congrArg _ (seq_nx (ρ1 := [cD (.list S), x1, x2, x3, x4, x5, x6, x7, x8, x9, x10, x11, x12]) (by simp [hadd, t64, L]) rfl)).trans ?_
  simp
end Lw
namespace Lw
open PySem PySem.Spec PyProof.Rows L2 Dn
/-! the head -/
abbrev Rw : PySem.W.OpenRow := PySem.W.OpenLaw.row PySem.Challenge.rw_twobytwo_k10_cells_as_texts
abbrev hkL : PySem.W.Hook := He.hookX 6 faL fnL [] [] (allB exL)
def obL (s : PySem.W.SharedT) : He.AlX := He.obsX 6 faL fnL [] [] (allB exL) (HandSHeadRun.getT s)
theorem obL_eq (s : PySem.W.SharedT) : obL s = hkL.obs s.abs := He.obsX_eq (HandSHeadRun.getT_eq s)
theorem runL (w : World) : HandSHeadRun.RunEq Rw (PySem.W.view Rw.prog [53]) hkL obL 3640 [("MarkError" : PySem.Str), ("NoNumber" : PySem.Str), ("NoDay" : PySem.Str), ("NoTable" : PySem.Str), ("is_whole" : PySem.Str), ("divisor" : PySem.Str), ("is_number" : PySem.Str), ("FIGURES_figures" : PySem.Str), ("MOST" : PySem.Str), ("show_number" : PySem.Str), ("count_of" : PySem.Str), ("top_of" : PySem.Str), ("read_number" : PySem.Str), ("is_told" : PySem.Str), ("FIGURES_days" : PySem.Str), ("LAST" : PySem.Str), ("is_leap" : PySem.Str), ("length_of" : PySem.Str), ("ahead_of" : PySem.Str), ("is_day" : PySem.Str), ("is_told_day" : PySem.Str), ("day_of" : PySem.Str), ("parts_of" : PySem.Str), ("show_day" : PySem.Str), ("read_day" : PySem.Str), ("LETTERS" : PySem.Str), ("is_word" : PySem.Str), ("is_cell" : PySem.Str), ("show_cell" : PySem.Str), ("cell_by" : PySem.Str), ("read_cell" : PySem.Str), ("_law_draws" : PySem.Str), ("_law_whole" : PySem.Str), ("_law_divisor" : PySem.Str), ("_law_lengths" : PySem.Str), ("_law_number" : PySem.Str), ("_law_word" : PySem.Str), ("_law_day" : PySem.Str), ("_law_good" : PySem.Str), ("_law_figures" : PySem.Str), ("_law_number_by" : PySem.Str), ("_law_day_by" : PySem.Str), ("_law_cell_by" : PySem.Str), ("_law_made" : PySem.Str), ("_law_alike" : PySem.Str), ("_law_refused" : PySem.Str)] w := by
  intro os
  kernel_rfl
theorem tx_of {K : PySem.W.Frag} {h h2 : Heap} {w : World} {mg : Str → Option Value} (X : K.In h) (G : h.Ns mainGlobals mg) (c : He.SaysX faL fnL [] [] (allB exL) w h2 K) : Tx K mg :=
  ⟨c.t.d, c.more, fun x q => He.glo_ok X G q, fun x q => He.free_ok X G q, fun x z q => He.str_ok X G q, fun x z q => He.int_ok X G q⟩
end Lw
open PySem PySem.W PySem.Calls PyProof.Rows
set_option maxHeartbeats 0 in
theorem PySem.Challenge.cw_twobytwo_k10_cells_as_texts_holds : PySem.Challenge.rw_twobytwo_k10_cells_as_texts.Holds := by
  w_on; o_law
  refine HandSHeadRun.head_any (r := OpenLaw.row PySem.Challenge.rw_twobytwo_k10_cells_as_texts) (q := view (OpenLaw.row PySem.Challenge.rw_twobytwo_k10_cells_as_texts).prog [53]) (H := Lw.hkL) (ob := Lw.obL) (M := 3640) (loose := [("MarkError" : PySem.Str), ("NoNumber" : PySem.Str), ("NoDay" : PySem.Str), ("NoTable" : PySem.Str), ("is_whole" : PySem.Str), ("divisor" : PySem.Str), ("is_number" : PySem.Str), ("FIGURES_figures" : PySem.Str), ("MOST" : PySem.Str), ("show_number" : PySem.Str), ("count_of" : PySem.Str), ("top_of" : PySem.Str), ("read_number" : PySem.Str), ("is_told" : PySem.Str), ("FIGURES_days" : PySem.Str), ("LAST" : PySem.Str), ("is_leap" : PySem.Str), ("length_of" : PySem.Str), ("ahead_of" : PySem.Str), ("is_day" : PySem.Str), ("is_told_day" : PySem.Str), ("day_of" : PySem.Str), ("parts_of" : PySem.Str), ("show_day" : PySem.Str), ("read_day" : PySem.Str), ("LETTERS" : PySem.Str), ("is_word" : PySem.Str), ("is_cell" : PySem.Str), ("show_cell" : PySem.Str), ("cell_by" : PySem.Str), ("read_cell" : PySem.Str), ("_law_draws" : PySem.Str), ("_law_whole" : PySem.Str), ("_law_divisor" : PySem.Str), ("_law_lengths" : PySem.Str), ("_law_number" : PySem.Str), ("_law_word" : PySem.Str), ("_law_day" : PySem.Str), ("_law_good" : PySem.Str), ("_law_figures" : PySem.Str), ("_law_number_by" : PySem.Str), ("_law_day_by" : PySem.Str), ("_law_cell_by" : PySem.Str), ("_law_made" : PySem.Str), ("_law_alike" : PySem.Str), ("_law_refused" : PySem.Str)]) (d := HandSHeadRun.topDef (OpenLaw.row PySem.Challenge.rw_twobytwo_k10_cells_as_texts).prog 53) (kwd := []) Lw.obL_eq
    (by kernel_rfl) (fun s => by kernel_rfl) Lw.runL (by kernel_rfl) (by kernel_rfl) (by kernel_rfl) (by rfl) (by first | assumption | decide +kernel) (by decide +kernel) ⟨rfl, rfl, rfl, rfl, rfl, by decide +kernel⟩ ?hw ?hc
  case hw => w_witness2
  case hc =>
    refine Dn.walk_ofEB (l := PySem.Challenge.rw_twobytwo_k10_cells_as_texts) (n := 63) (k := 8) (x := "script") (CX := fun w => L2.CX (PySem.Challenge.rw_twobytwo_k10_cells_as_texts).prog w) rfl (by decide) (by kernel_rfl) ⟨rfl, by decide, by decide⟩ ?F (fun _ _ _ _ _ z => by obtain ⟨_, _, _, _, _, _, _, _, _, _, _, _, q⟩ := z; exact q)
    intro w mg fa h Y G hmg0
    obtain ⟨K, KX, c⟩ := Y
    have hmg : mg ("law" : PySem.Str) = some (.ref fa) := by
      have e : (HandSHeadRun.topDef (OpenLaw.row PySem.Challenge.rw_twobytwo_k10_cells_as_texts).prog 53).name = ("law" : PySem.Str) := by kernel_rfl
      rw [← e]
      exact hmg0
    have T := Lw.tx_of KX G c
    have ef := hmg.symm.trans (Lw.g_law T)
    cases ef
    refine ⟨K, Lw.fd_law T, Dn.spD K (Dn.caK [] K) 1 Lw.m_law, KX, fun s v => (L2.FunD.bindsA (ps := ["script"]) (Lw.F_law T) fun _ _ _ _ _ _ us hl => match us, hl with | [_], _ => rfl) s [v] rfl, fun H a ns hl hb hS => ?_, fun base _ _ => Lw.ok_law T⟩
    obtain ⟨ls', e⟩ := Lw.law_true ns hl fun z hz => Dn.bits_lt (hb z hz)
    exact Dn.law_sp hS e
