import PyProof.Rows.All
import Wide.All
import OpenK.AllK
import Wide.FinOn
import HandS.ForMost
import HandS.ForExc
import HandS.Wide
import HandS.Walk
import HandS.CallSlots
import HandS.IsInst
import HandS.Style
import HandS.Deep
import HandS.Codes
import HandS.StrMore
import HandS.StrSplit
import HandS.WideBits
import HandS.TupAny
import HandS.NoneIn
import HandS.Defaults
import HandS.Head0
import HandS.Head1
import HandS.Head2
import HandS.HeadEnd
import HandS.HeadHook1
import HandS.HeadHook2
import HandS.EndBits
import HandS.WordsExc
import HandS.Comp
import HandS.More
import HandS.SortKw
import PyProof.WalkInts
import PySem.Challenge.RW_twobytwo_k09_words_and_cells
set_option Elab.async false
set_option linter.all false
set_option maxRecDepth 100000
set_option maxHeartbeats 4000000
namespace Dn
open PySem PySem.Spec PyProof.Rows L2

/-! ### data, cells, results -/
abbrev D := PyData
/-- what may change within -/
inductive Tr where
  | im (d : D)
  | ls (ts : List Tr)
inductive L where
  | im (d : D)
  | ow (ds : List D)
  | bo (ds : List D)
  | ot (t : Tr)
  | bt (t : Tr)
def L.own : L → Bool
  | .ow _ => true
  | .ot _ => true
  | _ => false
def L.mu : L → Bool
  | .im _ => false
  | _ => true
abbrev En := List (Option L)
structure Exn where
  cls : String
  arg : Option (Str × D)
inductive R (α : Type) where
  | ok (a : α) (ρ : En)
  | ex (c : Exn) (ρ : En)
  | no
def R.bind {α β : Type} : R α → (α → En → R β) → R β
  | .ok a ρ, g => g a ρ
  | .ex c ρ, _ => .ex c ρ
  | .no, _ => .no

/-! ### how data stands in a heap -/
def kD : Key → PyData
  | .inl i => .int i
  | .inr s => .str s
mutual
inductive DR (K : PySem.W.Frag) (H : Hp) : V → PyData → Prop
  | non : DR K H .non .none
  | bl (b : Bool) : DR K H (.bl b) (.bool b)
  | int (i : Int) : DR K H (.int i) (.int i)
  | str (x : Str) : DR K H (.str x) (.str x)
  | lst {a : Addr} {xs : List V} {ds : List PyData} : SqL K H a xs → DRs K H xs ds → DR K H (.ref a) (.list ds)
  | tup {a : Addr} {xs : List V} {ds : List PyData} : SqT K H a xs → DRs K H xs ds → DR K H (.ref a) (.tuple ds)
  | dic {a : Addr} {kvs : List (Key × V)} {ds : List PyData} : H a = some (.dK kvs) → DRs K H (kvs.map (·.2)) ds → DR K H (.ref a) (.dict ((kvs.map fun p => kD p.1).zip ds))
inductive DRs (K : PySem.W.Frag) (H : Hp) : List V → List PyData → Prop
  | nil : DRs K H [] []
  | cons {v : V} {vs : List V} {d : PyData} {ds : List PyData} : DR K H v d → DRs K H vs ds → DRs K H (v :: vs) (d :: ds)
end

theorem Same.rd {H H' : Hp} {a : Addr} {o : HO} (e : Same H H') (h : Rd H a o) : Rd H' a o := by
  rcases h with h | ⟨o, h⟩
  · exact .inl (e _ _ h)
  · exact .inr ⟨o, e _ _ h⟩
theorem Same.tup {K : PySem.W.Frag} {H H' : Hp} {a : Addr} {xs : List V} (e : Same H H') (h : SqT K H a xs) : SqT K H' a xs := by
  rcases h with (h | ⟨o, h⟩) | h
  · exact .inl (.inl (e _ _ h))
  · exact .inl (.inr ⟨o, e _ _ h⟩)
  · exact .inr h
section
variable {K : PySem.W.Frag} {G H H' : Hp}
mutual
theorem DR.mono (e : Same H H') : ∀ {v : V} {d : PyData}, DR K H v d → DR K H' v d
  | _, _, .non => .non
  | _, _, .bl b => .bl b
  | _, _, .int i => .int i
  | _, _, .str x => .str x
  | _, _, .lst h hs => .lst (e.seq h) (DRs.mono e hs)
  | _, _, .tup h hs => .tup (Same.tup e h) (DRs.mono e hs)
  | _, _, .dic h hs => .dic (e _ _ h) (DRs.mono e hs)
theorem DRs.mono (e : Same H H') : ∀ {vs : List V} {ds : List PyData}, DRs K H vs ds → DRs K H' vs ds
  | _, _, .nil => .nil
  | _, _, .cons h t => .cons (DR.mono e h) (DRs.mono e t)
end
theorem DRs.length : ∀ {vs : List V} {ds : List PyData}, DRs K H vs ds → vs.length = ds.length
  | _, _, .nil => rfl
  | _, _, .cons _ t => by rw [List.length_cons, List.length_cons, DRs.length t]
theorem DRs.get : ∀ {vs : List V} {ds : List PyData} {i : Nat} {d : PyData}, DRs K H vs ds → ds[i]? = some d → ∃ v, vs[i]? = some v ∧ DR K H v d
  | _, _, _, _, .nil, e => by simp at e
  | _, _, 0, _, .cons h _, e => by simp at e; subst e; exact ⟨_, rfl, h⟩
  | _, _, i + 1, _, .cons _ t, e => by
    obtain ⟨v, h1, h2⟩ := DRs.get (i := i) t (by simpa using e)
    exact ⟨v, by simpa using h1, h2⟩
theorem DRs.append : ∀ {vs ws : List V} {ds es : List PyData}, DRs K H vs ds → DRs K H ws es → DRs K H (vs ++ ws) (ds ++ es)
  | _, _, _, _, .nil, s => s
  | _, _, _, _, .cons h t, s => .cons h (DRs.append t s)
theorem DRs.take : ∀ {vs : List V} {ds : List PyData} (n : Nat), DRs K H vs ds → DRs K H (vs.take n) (ds.take n)
  | _, _, 0, _ => .nil
  | _, _, _ + 1, .nil => .nil
  | _, _, n + 1, .cons h t => .cons h (DRs.take n t)
theorem DRs.drop : ∀ {vs : List V} {ds : List PyData} (n : Nat), DRs K H vs ds → DRs K H (vs.drop n) (ds.drop n)
  | _, _, 0, r => r
  | _, _, _ + 1, .nil => .nil
  | _, _, n + 1, .cons _ t => DRs.drop n t
theorem DRs.set {v : V} {d : PyData} (hv : DR K H v d) : ∀ {vs : List V} {ds : List PyData} (i : Nat), DRs K H vs ds → DRs K H (vs.set i v) (ds.set i d)
  | _, _, _, .nil => .nil
  | _, _, 0, .cons _ t => .cons hv t
  | _, _, i + 1, .cons h t => .cons h (DRs.set hv i t)
theorem DRs.erase : ∀ {vs : List V} {ds : List PyData} (i : Nat), DRs K H vs ds → DRs K H (vs.eraseIdx i) (ds.eraseIdx i)
  | _, _, _, .nil => .nil
  | _, _, 0, .cons _ t => t
  | _, _, i + 1, .cons h t => .cons h (DRs.erase i t)
theorem DRs.dropLast : ∀ {vs : List V} {ds : List PyData}, DRs K H vs ds → DRs K H vs.dropLast ds.dropLast := fun {vs ds} h => by
  rw [List.dropLast_eq_take, List.dropLast_eq_take, h.length]
  exact h.take _
theorem DRs.reverse : ∀ {vs : List V} {ds : List PyData}, DRs K H vs ds → DRs K H vs.reverse ds.reverse
  | _, _, .nil => .nil
  | _, _, .cons h t => by
    rw [List.reverse_cons, List.reverse_cons]
    exact DRs.append (DRs.reverse t) (.cons h .nil)
theorem DRs.ints : ∀ {vs : List V} {ns : List Int}, DRs K H vs (ns.map PyData.int) → vs = ns.map V.int
  | _, [], .nil => rfl
  | _, n :: r, .cons h t => by
    cases h
    rw [DRs.ints t]
    rfl
theorem DRs.ofInts : ∀ (ns : List Int), DRs K H (ns.map V.int) (ns.map PyData.int)
  | [] => .nil
  | n :: r => .cons (.int n) (DRs.ofInts r)
theorem DRs.strs : ∀ {vs : List V} {ns : List Str}, DRs K H vs (ns.map PyData.str) → vs = ns.map V.str
  | _, [], .nil => rfl
  | _, n :: r, .cons h t => by
    cases h
    rw [DRs.strs t]
    rfl
theorem DRs.ofStrs : ∀ (ns : List Str), DRs K H (ns.map V.str) (ns.map PyData.str)
  | [] => .nil
  | n :: r => .cons (.str n) (DRs.ofStrs r)
theorem DRs.bools : ∀ {vs : List V} {ns : List Bool}, DRs K H vs (ns.map PyData.bool) → vs = ns.map V.bl
  | _, [], .nil => rfl
  | _, n :: r, .cons h t => by
    cases h
    rw [DRs.bools t]
    rfl
end

/-! ### the frame's relation -/
/-- the addresses of what may change -/
inductive Foot (H : Hp) : V → Tr → Addr → Prop
  | here {a : Addr} {ts : List Tr} : Foot H (.ref a) (.ls ts) a
  | sub {o : Addr} {vs : List V} {ts : List Tr} {k : Nat} {v : V} {t : Tr} {a : Addr} : H o = some (.lst vs) → vs[k]? = some v → ts[k]? = some t → Foot H v t a → Foot H (.ref o) (.ls ts) a
inductive TR (K : PySem.W.Frag) (G H : Hp) : V → Tr → Prop
  | im {v : V} {d : D} : DR K G v d → TR K G H v (.im d)
  | ls {o : Addr} {vs : List V} {ts : List Tr} : G o = none → H o = some (.lst vs) → vs.length = ts.length → (∀ (k : Nat) (v : V) (t : Tr), vs[k]? = some v → ts[k]? = some t → TR K G H v t) →
      (∀ (k : Nat) (v : V) (t : Tr), vs[k]? = some v → ts[k]? = some t → ¬ Foot H v t o) →
      (∀ (j k : Nat) (v u : V) (t s : Tr) (a : Addr), vs[j]? = some v → ts[j]? = some t → vs[k]? = some u → ts[k]? = some s → Foot H v t a → Foot H u s a → j = k) → TR K G H (.ref o) (.ls ts)
section
variable {K : PySem.W.Frag} {G H G' H' : Hp}
theorem TR.foot {v : V} {t : Tr} {a : Addr} (r : TR K G H v t) (f : Foot H v t a) : G a = none ∧ ∃ vs, H a = some (.lst vs) := by
  induction f with
  | here => cases r with | ls g h _ _ _ _ => exact ⟨g, _, h⟩
  | sub h e1 e2 _ ih =>
    cases r with
    | ls g h' _ c _ _ =>
      rw [h] at h'; cases h'
      exact ih (c _ _ _ e1 e2)
theorem Foot.to {v : V} {t : Tr} {a : Addr} (f : Foot H v t a) : (∀ a, Foot H v t a → H' a = H a) → Foot H' v t a := by
  induction f with
  | here => exact fun _ => .here
  | sub h e1 e2 _ ih => exact fun k => .sub (by rw [k _ .here]; exact h) e1 e2 (ih fun a q => k a (.sub h e1 e2 q))
theorem Foot.from {v : V} {t : Tr} {a : Addr} (f : Foot H' v t a) : (∀ a, Foot H v t a → H' a = H a) → Foot H v t a := by
  induction f with
  | here => exact fun _ => .here
  | sub h e1 e2 _ ih =>
    intro k
    have h' := h
    rw [k _ .here] at h'
    exact .sub h' e1 e2 (ih fun a q => k a (.sub h' e1 e2 q))
theorem TR.keep {v : V} {t : Tr} (r : TR K G H v t) (sg : Same G G') : (∀ a, Foot H v t a → G' a = none) → (∀ a, Foot H v t a → H' a = H a) → TR K G' H' v t := by
  induction r with
  | im h => exact fun _ _ => .im (h.mono sg)
  | @ls o vs ts g h l c n d ih =>
    intro hg hk
    have ck : ∀ (k : Nat) (v : V) (t : Tr), vs[k]? = some v → ts[k]? = some t → ∀ a, Foot H v t a → H' a = H a := fun k v t e1 e2 a q => hk a (.sub h e1 e2 q)
    exact .ls (hg _ .here) (by rw [hk _ .here]; exact h) l (fun k v t e1 e2 => ih k v t e1 e2 (fun a q => hg a (.sub h e1 e2 q)) (ck k v t e1 e2))
      (fun k v t e1 e2 q => n k v t e1 e2 (q.from (ck k v t e1 e2))) (fun j k v u t s a e1 e2 e3 e4 q1 q2 => d j k v u t s a e1 e2 e3 e4 (q1.from (ck j v t e1 e2)) (q2.from (ck k u s e3 e4)))
def cellR (K : PySem.W.Frag) (G H : Hp) (v : V) : L → Prop
  | .im d => DR K G v d
  | .ow ds => ∃ o vs, v = .ref o ∧ G o = none ∧ H o = some (.lst vs) ∧ DRs K G vs ds
  | .bo ds => ∃ o vs, v = .ref o ∧ G o = none ∧ H o = some (.lst vs) ∧ DRs K G vs ds
  | .ot t => TR K G H v t
  | .bt t => TR K G H v t
def Fo (H : Hp) (l : L) (v : V) (a : Addr) : Prop := match l with
  | .im _ => False
  | .ow _ => v = .ref a
  | .bo _ => v = .ref a
  | .ot t => Foot H v t a
  | .bt t => Foot H v t a
theorem Fo.some {l : L} {v : V} {a : Addr} (c : cellR K G H v l) (f : Fo H l v a) : G a = none ∧ ∃ vs, H a = some (.lst vs) := by
  cases l with
  | im d => exact f.elim
  | ow ds => obtain ⟨o, vs, e, g, q, _⟩ := c; subst e; cases (show V.ref o = V.ref a from f); exact ⟨g, vs, q⟩
  | bo ds => obtain ⟨o, vs, e, g, q, _⟩ := c; subst e; cases (show V.ref o = V.ref a from f); exact ⟨g, vs, q⟩
  | ot t => exact TR.foot c f
  | bt t => exact TR.foot c f
theorem Fo.to {l : L} {v : V} {a : Addr} (f : Fo H l v a) (k : ∀ a, Fo H l v a → H' a = H a) : Fo H' l v a := by
  cases l with
  | ot t => exact Foot.to f k
  | bt t => exact Foot.to f k
  | _ => exact f
theorem Fo.from {l : L} {v : V} {a : Addr} (f : Fo H' l v a) (k : ∀ a, Fo H l v a → H' a = H a) : Fo H l v a := by
  cases l with
  | ot t => exact Foot.from f k
  | bt t => exact Foot.from f k
  | _ => exact f
theorem Fo.mu {l : L} {v : V} {a : Addr} (f : Fo H l v a) : l.mu = true := by cases l <;> first | rfl | exact f.elim
theorem cell_keep {l : L} {v : V} (c : cellR K G H v l) (sg : Same G G') (hg : ∀ a, Fo H l v a → G' a = none) (hk : ∀ a, Fo H l v a → H' a = H a) : cellR K G' H' v l := by
  cases l with
  | im d => exact DR.mono sg c
  | ow ds => obtain ⟨o, vs, e, g, q, hd⟩ := c; subst e; exact ⟨o, vs, rfl, hg o rfl, by rw [hk o rfl]; exact q, DRs.mono sg hd⟩
  | bo ds => obtain ⟨o, vs, e, g, q, hd⟩ := c; subst e; exact ⟨o, vs, rfl, hg o rfl, by rw [hk o rfl]; exact q, DRs.mono sg hd⟩
  | ot t => exact TR.keep c sg hg hk
  | bt t => exact TR.keep c sg hg hk
end
/-- the mutable ones' addresses -/
def Own (H : Hp) (σ : L2.St) (ρ : En) (a : Addr) : Prop := ∃ (i : Nat) (l : L) (v : V), ρ[i]? = some (some l) ∧ σ[i]? = some (some v) ∧ Fo H l v a
/-- those of the other slots -/
def OwnX (H : Hp) (σ : L2.St) (ρ : En) (i : Nat) (a : Addr) : Prop := ∃ (j : Nat) (l : L) (v : V), j ≠ i ∧ ρ[j]? = some (some l) ∧ σ[j]? = some (some v) ∧ Fo H l v a
structure Rel (K : PySem.W.Frag) (G H : Hp) (σ : L2.St) (ρ : En) : Prop where
  sub : Same G H
  len : σ.length = ρ.length
  cell : ∀ (i : Nat) (l : L), ρ[i]? = some (some l) → ∃ v, σ[i]? = some (some v) ∧ cellR K G H v l
  apart : ∀ (i j : Nat) (l m : L) (v u : V) (a : Addr), ρ[i]? = some (some l) → ρ[j]? = some (some m) → σ[i]? = some (some v) → σ[j]? = some (some u) → Fo H l v a → Fo H m u a → i = j
structure Stp (G H : Hp) (σ : L2.St) (ρ : En) (G' H' : Hp) (σ' : L2.St) (ρ' : En) : Prop where
  g : Same G G'
  h : ∀ a o, H a = some o → ¬ Own H σ ρ a → H' a = some o
  fr : ∀ a, G' a ≠ none → G a ≠ none ∨ H a = none ∨ Own H σ ρ a
  ow : ∀ a, Own H' σ' ρ' a → Own H σ ρ a ∨ H a = none
  tr : ∀ a, H a ≠ none → H' a ≠ none
  ln : ρ'.length = ρ.length
  bo : ∀ (i : Nat) (ds : List D), ρ[i]? = some (some (L.bo ds)) → σ'[i]? = σ[i]? ∧ ∃ ds', ρ'[i]? = some (some (L.bo ds'))
  bt : ∀ (i : Nat) (t : Tr), ρ[i]? = some (some (L.bt t)) → σ'[i]? = σ[i]? ∧ ∃ t', ρ'[i]? = some (some (L.bt t')) ∧ ∀ v a, σ[i]? = some (some v) → Foot H v t a → Foot H' v t' a

section
variable {K : PySem.W.Frag} {G H G1 H1 G2 H2 G' H' : Hp} {σ σ1 σ2 : L2.St} {ρ ρ1 ρ2 : En}
theorem tracked_upd {p : Addr} {o : HO} : ∀ a, H a ≠ none → upd H p o a ≠ none := fun a h => by
  by_cases e : a = p
  · subst e; rw [upd_same]; exact fun z => nomatch z
  · rw [upd_ne e]; exact h
theorem Rel.at_ (r : Rel K G H σ ρ) {i : Nat} {l : L} {v : V} (e : ρ[i]? = some (some l)) (s : σ[i]? = some (some v)) : cellR K G H v l := by
  obtain ⟨v', s', c⟩ := r.cell i l e
  rw [s] at s'; cases s'; exact c
theorem Rel.own (r : Rel K G H σ ρ) {a : Addr} (h : Own H σ ρ a) : G a = none ∧ ∃ vs, H a = some (.lst vs) := by
  obtain ⟨i, l, v, e, s, f⟩ := h
  exact f.some (r.at_ e s)
theorem OwnX.own {i : Nat} {a : Addr} (h : OwnX H σ ρ i a) : Own H σ ρ a := let ⟨j, l, v, _, e, s, f⟩ := h; ⟨j, l, v, e, s, f⟩
theorem Rel.notX (r : Rel K G H σ ρ) {i : Nat} {l : L} {v : V} {a : Addr} (e : ρ[i]? = some (some l)) (s : σ[i]? = some (some v)) (f : Fo H l v a) : ¬ OwnX H σ ρ i a := fun ⟨j, m, u, hj, e', s', f'⟩ => hj (r.apart j i m l u v a e' e s' s f' f)
theorem Stp.refl : Stp G H σ ρ G H σ ρ := ⟨Same.refl _, fun _ _ h _ => h, fun _ h => .inl h, fun _ h => .inl h, fun _ h => h, rfl, fun _ ds h => ⟨rfl, ds, h⟩, fun _ t h => ⟨rfl, t, h, fun _ _ _ f => f⟩⟩
theorem Stp.trans (r : Rel K G H σ ρ) (a : Stp G H σ ρ G1 H1 σ1 ρ1) (b : Stp G1 H1 σ1 ρ1 G2 H2 σ2 ρ2) : Stp G H σ ρ G2 H2 σ2 ρ2 := by
  refine ⟨a.g.trans b.g, fun x o h n => ?_, fun x h => ?_, fun x h => ?_, fun x h => b.tr x (a.tr x h), b.ln.trans a.ln, fun i ds h => ?_, fun i t h => ?_⟩
  · refine b.h x o (a.h x o h n) fun h1 => ?_
    rcases a.ow x h1 with z | z
    · exact n z
    · rw [h] at z; cases z
  · by_cases hx : Own H σ ρ x
    · exact .inr (.inr hx)
    · rcases b.fr x h with z | z | z
      · exact a.fr x z
      · cases q : H x with
        | none => exact .inr (.inl rfl)
        | some o => rw [a.h x o q hx] at z; cases z
      · rcases a.ow x z with z | z
        · exact .inr (.inr z)
        · exact .inr (.inl z)
  · by_cases hx : Own H σ ρ x
    · exact .inl hx
    · rcases b.ow x h with z | z
      · exact a.ow x z
      · cases q : H x with
        | none => exact .inr rfl
        | some o => rw [a.h x o q hx] at z; cases z
  · obtain ⟨e1, ds1, h1⟩ := a.bo i ds h
    obtain ⟨e2, ds2, h2⟩ := b.bo i ds1 h1
    exact ⟨e2.trans e1, ds2, h2⟩
  · obtain ⟨e1, t1, h1, f1⟩ := a.bt i t h
    obtain ⟨e2, t2, h2, f2⟩ := b.bt i t1 h1
    exact ⟨e2.trans e1, t2, h2, fun v x s f => f2 v x (e1.trans s) (f1 v x s f)⟩
/-- what the immutable part knows stays -/
theorem Rel.g_h (r : Rel K G H σ ρ) : Same G H := r.sub
/-- what the slots own is not touched -/
theorem Rel.keep (r : Rel K G H σ ρ) (sg : Same G G') (sb : Same G' H') (hg : ∀ a, Own H σ ρ a → G' a = none) (hk : ∀ a, Own H σ ρ a → H' a = H a) : Rel K G' H' σ ρ ∧ ∀ a, Own H' σ ρ a ↔ Own H σ ρ a := by
  have ck : ∀ (i : Nat) (l : L) (v : V), ρ[i]? = some (some l) → σ[i]? = some (some v) → ∀ a, Fo H l v a → H' a = H a := fun i l v e s a f => hk a ⟨i, l, v, e, s, f⟩
  refine ⟨⟨sb, r.len, fun i l e => ?_, fun i j l m v u a ei ej si sj fi fj => r.apart i j l m v u a ei ej si sj (fi.from (ck i l v ei si)) (fj.from (ck j m u ej sj))⟩, fun a => ⟨fun ⟨i, l, v, e, s, f⟩ => ⟨i, l, v, e, s, f.from (ck i l v e s)⟩, fun ⟨i, l, v, e, s, f⟩ => ⟨i, l, v, e, s, f.to (ck i l v e s)⟩⟩⟩
  obtain ⟨v, s, c⟩ := r.cell i l e
  exact ⟨v, s, cell_keep c sg (fun a f => hg a ⟨i, l, v, e, s, f⟩) (ck i l v e s)⟩
theorem ne_own (r : Rel K G H σ ρ) {p a : Addr} (hp : H p = none) (h : Own H σ ρ a) : a ≠ p := fun z => by
  obtain ⟨_, vs, q⟩ := r.own h
  rw [z, hp] at q; cases q
/-- a new immutable object -/
theorem Rel.laid (r : Rel K G H σ ρ) {p : Addr} {o : HO} (hp : H p = none) : Rel K (upd G p o) (upd H p o) σ ρ ∧ Stp G H σ ρ (upd G p o) (upd H p o) σ ρ := by
  have hg : G p = none := Same.free r.sub hp
  have sg : Same G (upd G p o) := fun b x e => by rw [upd_ne (ne_of_none e hg)]; exact e
  have sh : Same H (upd H p o) := fun b x e => by rw [upd_ne (ne_of_none e hp)]; exact e
  obtain ⟨r', ow⟩ := r.keep (G' := upd G p o) (H' := upd H p o) sg (fun b x e => by
    by_cases hb : b = p
    · subst hb; rw [upd_same] at e; rw [upd_same]; exact e
    · rw [upd_ne hb] at e; rw [upd_ne hb]; exact r.sub b x e) (fun a h => by rw [upd_ne (ne_own r hp h)]; exact (r.own h).1) (fun a h => upd_ne (ne_own r hp h))
  refine ⟨r', ⟨sg, fun a x e _ => sh a x e, fun a h => ?_, fun a h => .inl ((ow a).mp h), tracked_upd, rfl, fun i ds h => ⟨rfl, ds, h⟩, fun i t h => ⟨rfl, t, h, fun v a s f => f.to fun b q => upd_ne (ne_own r hp ⟨i, _, v, h, s, q⟩)⟩⟩⟩
  by_cases ha : a = p
  · subst ha; exact .inr (.inl hp)
  · rw [upd_ne ha] at h; exact .inl h
/-- a new mutable object, not yet at a slot -/
theorem Rel.laidM (r : Rel K G H σ ρ) {p : Addr} {o : HO} (hp : H p = none) : Rel K G (upd H p o) σ ρ ∧ Stp G H σ ρ G (upd H p o) σ ρ := by
  have sh : Same H (upd H p o) := fun b x e => by rw [upd_ne (ne_of_none e hp)]; exact e
  obtain ⟨r', ow⟩ := r.keep (G' := G) (H' := upd H p o) (Same.refl _) (fun b x e => sh b x (r.sub b x e)) (fun a h => (r.own h).1) (fun a h => upd_ne (ne_own r hp h))
  exact ⟨r', ⟨Same.refl _, fun a x e _ => sh a x e, fun a h => .inl h, fun a h => .inl ((ow a).mp h), tracked_upd, rfl, fun i ds h => ⟨rfl, ds, h⟩, fun i t h => ⟨rfl, t, h, fun v a s f => f.to fun b q => upd_ne (ne_own r hp ⟨i, _, v, h, s, q⟩)⟩⟩⟩
theorem own_upd (r : Rel K G H σ ρ) {p : Addr} {o : HO} (hp : H p = none) (a : Addr) : Own (upd H p o) σ ρ a ↔ Own H σ ρ a :=
  (r.keep (G' := G) (H' := upd H p o) (Same.refl _) (fun b x e => by rw [upd_ne (ne_of_none (r.sub b x e) hp)]; exact r.sub b x e) (fun a h => (r.own h).1) (fun a h => upd_ne (ne_own r hp h))).2 a
theorem not_own (r : Rel K G H σ ρ) {p : Addr} (hp : H p = none) : ¬ Own H σ ρ p := fun h => ne_own r hp h rfl
/-- one slot is stored into -/
theorem Rel.set1 (r : Rel K G H σ ρ) {i : Nat} {c : Option L} (hi : ρ[i]? = some c) {v' : V} {l' : L} (sg : Same G G') (sb : Same G' H') (hg : ∀ a, OwnX H σ ρ i a → G' a = none) (hk : ∀ a, OwnX H σ ρ i a → H' a = H a)
    (hc : cellR K G' H' v' l') (hd : ∀ a, Fo H' l' v' a → ¬ OwnX H σ ρ i a) : Rel K G' H' (σ.set i (some v')) (ρ.set i (some l')) ∧ ∀ a, Own H' (σ.set i (some v')) (ρ.set i (some l')) a → OwnX H σ ρ i a ∨ Fo H' l' v' a := by
  have hσ : i < σ.length := by rw [r.len]; exact (List.getElem?_eq_some_iff.mp hi).1
  have lk : ∀ j, j ≠ i → (ρ.set i (some l'))[j]? = ρ[j]? := fun j hj => List.getElem?_set_ne (Ne.symm hj)
  have ls : ∀ j, j ≠ i → (σ.set i (some v'))[j]? = σ[j]? := fun j hj => List.getElem?_set_ne (Ne.symm hj)
  have lki : (ρ.set i (some l'))[i]? = some (some l') := List.getElem?_set_self (List.getElem?_eq_some_iff.mp hi).1
  have lsi : (σ.set i (some v'))[i]? = some (some v') := List.getElem?_set_self hσ
  have ck : ∀ (j : Nat) (l : L) (v : V), j ≠ i → ρ[j]? = some (some l) → σ[j]? = some (some v) → ∀ a, Fo H l v a → H' a = H a := fun j l v hj e s a f => hk a ⟨j, l, v, hj, e, s, f⟩
  refine ⟨⟨sb, by rw [List.length_set, List.length_set]; exact r.len, fun j l e => ?_, fun j k l m v u a ej ek sj sk fj fk => ?_⟩, fun a ⟨j, l, v, e, s, f⟩ => ?_⟩
  · by_cases hj : j = i
    · subst hj; rw [lki] at e; cases e; exact ⟨v', lsi, hc⟩
    · rw [lk j hj] at e
      obtain ⟨v, s, c⟩ := r.cell j l e
      exact ⟨v, by rw [ls j hj]; exact s, cell_keep c sg (fun a f => hg a ⟨j, l, v, hj, e, s, f⟩) (ck j l v hj e s)⟩
  · by_cases hj : j = i
    · by_cases hk' : k = i
      · rw [hj, hk']
      · subst hj
        rw [lki] at ej; cases ej
        rw [lsi] at sj; cases sj
        rw [lk k hk'] at ek; rw [ls k hk'] at sk
        exact absurd ⟨k, m, u, hk', ek, sk, fk.from (ck k m u hk' ek sk)⟩ (hd a fj)
    · rw [lk j hj] at ej; rw [ls j hj] at sj
      by_cases hk' : k = i
      · subst hk'
        rw [lki] at ek; cases ek
        rw [lsi] at sk; cases sk
        exact absurd ⟨j, l, v, hj, ej, sj, fj.from (ck j l v hj ej sj)⟩ (hd a fk)
      · rw [lk k hk'] at ek; rw [ls k hk'] at sk
        exact r.apart j k l m v u a ej ek sj sk (fj.from (ck j l v hj ej sj)) (fk.from (ck k m u hk' ek sk))
  · by_cases hj : j = i
    · subst hj; rw [lki] at e; cases e; rw [lsi] at s; cases s; exact .inr f
    · rw [lk j hj] at e; rw [ls j hj] at s
      exact .inl ⟨j, l, v, hj, e, s, f.from (ck j l v hj e s)⟩
theorem set_id {α : Type} {l : List α} {i : Nat} {a : α} (h : l[i]? = some a) : l.set i a = l := by
  obtain ⟨hi, e⟩ := List.getElem?_eq_some_iff.mp h
  rw [← e]; exact List.set_getElem_self hi
end
end Dn
namespace Dn
open PySem PySem.Spec PyProof.Rows L2

theorem PE.imp {X : Cx} {e : Expr} {t t' : TE} (h : PE X e t) (i : ∀ σ H Q, t' σ H Q → t σ H Q) : PE X e t' := ⟨fun pins s σ H Q I q => h.run pins s σ H Q I (i _ _ _ q)⟩
theorem PT.imp {X : Cx} {e : Expr} {t t' : TT} (h : PT X e t) (i : ∀ σ H Q, t' σ H Q → t σ H Q) : PT X e t' := ⟨fun pins s σ H Q I q => h.run pins s σ H Q I (i _ _ _ q)⟩
theorem PW.imp {X : Cx} {e : Expr} {t t' : TT} (h : PW X e t) (i : ∀ σ H Q, t' σ H Q → t σ H Q) : PW X e t' := ⟨fun w pins s σ H Q I q => h.run w pins s σ H Q I (i _ _ _ q)⟩
theorem PA.imp {X : Cx} {es : List Expr} {t t' : TA} (h : PA X es t) (i : ∀ σ H Q, t' σ H Q → t σ H Q) : PA X es t' := ⟨fun p pins s σ H Q I q => h.run p pins s σ H Q I (i _ _ _ q)⟩
theorem PS.imp {X : Cx} {e : Stmt} {t t' : TS} (h : PS X e t) (i : ∀ D σ H, t' D σ H → t D σ H) : PS X e t' := ⟨fun pins s σ H D I q => h.run pins s σ H D I (i _ _ _ q)⟩
theorem PSs.imp {X : Cx} {e : List Stmt} {t t' : TS} (h : PSs X e t) (i : ∀ D σ H, t' D σ H → t D σ H) : PSs X e t' := ⟨fun pins s σ H D I q => h.run pins s σ H D I (i _ _ _ q)⟩
theorem PO.imp {X : Cx} {e : Option Expr} {t t' : TO} (h : PO X e t) (i : ∀ σ H Q, t' σ H Q → t σ H Q) : PO X e t' := ⟨fun pins s σ H Q I q => h.run pins s σ H Q I (i _ _ _ q)⟩

/-! ### what is wanted: of exceptions too -/
structure Wh where
  ca : String → Option Value
  W : WX
/-- an exception as it lies -/
structure ExR (K : PySem.W.Frag) (w : Wh) (G H : Hp) (c : Exn) (cls : Value) (dx : Option Addr) : Prop where
  hc : w.ca c.cls = some cls
  hn : c.arg = none → dx = none ∨ ∃ n, cls = Value.type n
  hs : ∀ f d, c.arg = some (f, d) → ∃ a v, dx = some a ∧ H a = some (.xd [(f, v)]) ∧ DR K G v d
section
variable {α β : Type}
def Fn (K : PySem.W.Frag) (w : Wh) (G H : Hp) (σ : L2.St) (ρ : En) (r : R α) (P : Hp → Hp → En → α → Prop) : Prop :=
  match r with
  | .no => False
  | .ok a ρ' => ∀ G' H', Rel K G' H' σ ρ' → Stp G H σ ρ G' H' σ ρ' → P G' H' ρ' a
  | .ex c ρ' => ∀ G' H' cls dx, Rel K G' H' σ ρ' → Stp G H σ ρ G' H' σ ρ' → ExR K w G' H' c cls dx → w.W cls dx σ H'
variable {K : PySem.W.Frag} {w : Wh} {G H : Hp} {σ : L2.St} {ρ : En}
theorem Fn.imp {r : R α} {P P' : Hp → Hp → En → α → Prop} (h : Fn K w G H σ ρ r P) (i : ∀ G' H' ρ' a, P G' H' ρ' a → P' G' H' ρ' a) : Fn K w G H σ ρ r P' := by
  cases r with
  | no => exact h
  | ok a ρ' => exact fun G' H' r s => i _ _ _ _ (h G' H' r s)
  | ex c ρ' => exact h
theorem Fn.bind {r : R α} {g : α → En → R β} {P : Hp → Hp → En → β → Prop} (rel : Rel K G H σ ρ) (h : Fn K w G H σ ρ (r.bind g) P) :
    Fn K w G H σ ρ r (fun G1 H1 ρ1 a => Rel K G1 H1 σ ρ1 ∧ Stp G H σ ρ G1 H1 σ ρ1 ∧ Fn K w G1 H1 σ ρ1 (g a ρ1) P) := by
  cases r with
  | no => exact h
  | ex c ρ' => exact h
  | ok a ρ' =>
    intro G1 H1 r1 s1
    refine ⟨r1, s1, ?_⟩
    have h' : Fn K w G H σ ρ (g a ρ') P := h
    cases q : g a ρ' with
    | no => rw [q] at h'; exact h'
    | ex c ρ2 => rw [q] at h'; exact fun G' H' cls dx r2 s2 => h' G' H' cls dx r2 (s1.trans rel s2)
    | ok b ρ2 => rw [q] at h'; exact fun G' H' r2 s2 => h' G' H' r2 (s1.trans rel s2)
def lift (o : Option α) (ρ : En) : R α := match o with
  | some a => .ok a ρ
  | none => .no
theorem Fn.lift {o : Option α} {P : Hp → Hp → En → α → Prop} (h : Fn K w G H σ ρ (lift o ρ) P) : ∃ a, o = some a ∧ ∀ G' H', Rel K G' H' σ ρ → Stp G H σ ρ G' H' σ ρ → P G' H' ρ a := by
  cases o with
  | none => exact h.elim
  | some a => exact ⟨a, rfl, h⟩
theorem Fn.ok {a : α} {P : Hp → Hp → En → α → Prop} (h : Fn K w G H σ ρ (.ok a ρ) P) (rel : Rel K G H σ ρ) : P G H ρ a := h G H rel Stp.refl
end

/-! ### the judgements -/
/-- what is wanted of a value -/
abbrev QD (K : PySem.W.Frag) (Q : VK) : Hp → Hp → En → D → Prop := fun G' H' _ d => ∀ v, DR K G' v d → Q v H'
abbrev QB (Q : Bool → Hp → Prop) : Hp → Hp → En → Bool → Prop := fun _ H' _ b => Q b H'
/-- a new list, nobody else's -/
structure NewL (K : PySem.W.Frag) (H : Hp) (σ : L2.St) (G' H' : Hp) (ρ' : En) (p : Addr) (ds : List D) : Prop where
  g : G' p = none
  own : ¬ Own H' σ ρ' p
  here : ∃ vs, H' p = some (.lst vs) ∧ DRs K G' vs ds
  new : H p = none
abbrev QN (K : PySem.W.Frag) (H : Hp) (σ : L2.St) (Q : VK) : Hp → Hp → En → List D → Prop := fun G' H' ρ' ds => ∀ p, NewL K H σ G' H' ρ' p ds → Q (.ref p) H'
/-- an argument: a value, or a slot lent -/
inductive AV where
  | im (d : D)
  | sl (i : Nat)
inductive AVs (K : PySem.W.Frag) (G : Hp) (σ : L2.St) : List V → List AV → Prop
  | nil : AVs K G σ [] []
  | im {v : V} {vs : List V} {d : D} {as : List AV} : DR K G v d → AVs K G σ vs as → AVs K G σ (v :: vs) (.im d :: as)
  | sl {v : V} {vs : List V} {i : Nat} {as : List AV} : σ[i]? = some (some v) → AVs K G σ vs as → AVs K G σ (v :: vs) (.sl i :: as)
abbrev QA (K : PySem.W.Frag) (σ : L2.St) (Q : List V → Hp → Prop) : Hp → Hp → En → List AV → Prop := fun G' H' _ as => ∀ vs, AVs K G' σ vs as → Q vs H'
abbrev QO (Q : Option Int → Hp → Prop) : Hp → Hp → En → Option Int → Prop := fun _ H' _ b => Q b H'

abbrev teD (K : PySem.W.Frag) (w : Wh) (f : En → R D) : TE := fun σ H Q => ∃ G ρ, Rel K G H σ ρ ∧ Fn K w G H σ ρ (f ρ) (QD K Q)
abbrev teN (K : PySem.W.Frag) (w : Wh) (f : En → R (List D)) : TE := fun σ H Q => ∃ G ρ, Rel K G H σ ρ ∧ Fn K w G H σ ρ (f ρ) (QN K H σ Q)
abbrev teB (K : PySem.W.Frag) (w : Wh) (f : En → R Bool) : TT := fun σ H Q => ∃ G ρ, Rel K G H σ ρ ∧ Fn K w G H σ ρ (f ρ) (QB Q)
abbrev teA (K : PySem.W.Frag) (w : Wh) (f : En → R (List AV)) : TA := fun σ H Q => ∃ G ρ, Rel K G H σ ρ ∧ Fn K w G H σ ρ (f ρ) (QA K σ Q)
abbrev teO (K : PySem.W.Frag) (w : Wh) (f : En → R (Option Int)) : TO := fun σ H Q => ∃ G ρ, Rel K G H σ ρ ∧ Fn K w G H σ ρ (f ρ) (QO Q)
abbrev VE (X : Cx) (w : Wh) (e : Expr) (f : En → R D) : Prop := PE X e (teD X.K w f)
abbrev VN (X : Cx) (w : Wh) (e : Expr) (f : En → R (List D)) : Prop := PE X e (teN X.K w f)
abbrev VT (X : Cx) (w : Wh) (e : Expr) (f : En → R Bool) : Prop := PT X e (teB X.K w f)
abbrev VW (X : Cx) (w : Wh) (e : Expr) (f : En → R Bool) : Prop := PW X e (teB X.K w f)
abbrev VA (X : Cx) (w : Wh) (es : List Expr) (f : En → R (List AV)) : Prop := PA X es (teA X.K w f)
abbrev VO (X : Cx) (w : Wh) (e : Option Expr) (f : En → R (Option Int)) : Prop := PO X e (teO X.K w f)

/-! ### names and constants -/
def frz (i : Nat) (ds : List D) (ρ : En) : En := ρ.set i (some (.im (.list ds)))
def dVar (i : Nat) : En → R D := fun ρ => match ρ[i]? with
  | some (some (.im d)) => .ok d ρ
  | some (some (.ow ds)) => .ok (.list ds) (frz i ds ρ)
  | _ => .no
def dC (d : D) : En → R D := fun ρ => .ok d ρ
section
variable {K : PySem.W.Frag} {G H : Hp} {σ : L2.St} {ρ : En}
/-- a slot's list becomes a datum -/
theorem Rel.freeze (r : Rel K G H σ ρ) {i : Nat} {ds : List D} (h : ρ[i]? = some (some (L.ow ds))) :
    ∃ G' o, σ[i]? = some (some (V.ref o)) ∧ Rel K G' H σ (frz i ds ρ) ∧ Stp G H σ ρ G' H σ (frz i ds ρ) ∧ DR K G' (.ref o) (.list ds) := by
  obtain ⟨v, s, c⟩ := r.cell i _ h
  obtain ⟨o, vs, rfl, g, q, hd⟩ := c
  have sg : Same G (upd G o (.lst vs)) := fun b x e => by rw [upd_ne (ne_of_none e g)]; exact e
  have hDR : DR K (upd G o (.lst vs)) (.ref o) (.list ds) := .lst (.inl (.inl upd_same)) (DRs.mono sg hd)
  have own_o : Own H σ ρ o := ⟨i, _, _, h, s, rfl⟩
  obtain ⟨r', ow⟩ := r.set1 (G' := upd G o (.lst vs)) (H' := H) (v' := .ref o) (l' := .im (.list ds)) h sg (fun b x e => by
    by_cases hb : b = o
    · subst hb; rw [upd_same] at e; cases e; exact q
    · rw [upd_ne hb] at e; exact r.sub b x e) (fun a ha => by
    have : a ≠ o := fun z => by subst z; exact r.notX h s rfl ha
    rw [upd_ne this]; exact (r.own ha.own).1) (fun a ha => rfl) hDR (fun a f => f.elim)
  rw [set_id s] at r' ow
  refine ⟨upd G o (.lst vs), o, s, r', ⟨sg, fun a x e _ => e, fun a ha => ?_, fun a ha => ?_, fun _ h => h, by unfold frz; rw [List.length_set], fun j es e => ⟨rfl, es, ?_⟩, fun j t e => ⟨rfl, t, ?_, fun _ _ _ f => f⟩⟩, hDR⟩
  · by_cases hb : a = o
    · subst hb; exact .inr (.inr own_o)
    · rw [upd_ne hb] at ha; exact .inl ha
  · rcases ow a ha with z | z
    · exact .inl z.own
    · exact z.elim
  · have hj : j ≠ i := fun z => by subst z; rw [h] at e; cases e
    unfold frz; rw [List.getElem?_set_ne (Ne.symm hj)]; exact e
  · have hj : j ≠ i := fun z => by subst z; rw [h] at e; cases e
    unfold frz; rw [List.getElem?_set_ne (Ne.symm hj)]; exact e
end
section
variable {X : Cx} {w : Wh}
theorem ve_var (i : Nat) {x : Str} {pos : Pos} (hN : X.N[i]? = some x := by rfl) (hv : Vis X.env.scope x := by first | exact Or.inl rfl | exact Or.inr (Or.inl rfl) | exact Or.inr (Or.inr rfl)) (hd : (x == ("__debug__" : Str)) = false := by decide)
    (hcd : (x == ("__classdict__" : Str)) = false := by decide) : VE X w (.Name x pos) (dVar i) := by
  refine PE.imp (pe_var hN hv hd hcd) fun σ H Q ⟨G, ρ, r, h⟩ => ?_
  unfold dVar at h
  cases e : ρ[i]? with
  | none => rw [e] at h; exact h.elim
  | some o =>
    rw [e] at h
    cases o with
    | none => exact h.elim
    | some l =>
      cases l with
      | im d =>
        obtain ⟨v, s, c⟩ := r.cell i _ e
        exact ⟨v, s, h.ok r v c⟩
      | ow ds =>
        obtain ⟨G', o, s, r', st, hd⟩ := r.freeze e
        exact ⟨.ref o, s, h G' H r' st _ hd⟩
      | _ => exact h.elim
theorem ve_int {i : Int} {j : Nat} {pos : Pos} : VE X w (.Constant (.int i) j pos) (dC (.int i)) := PE.imp pe_int fun _ _ _ ⟨_, _, r, h⟩ => h.ok r _ (.int i)
end
end Dn
namespace Dn
open PySem PySem.Spec PyProof.Rows L2

/-! ### what operators do to data -/
def gAdd : D → D → Option D
  | .int i, .int j => some (.int (i + j))
  | .str a, .str b => if a.length + b.length ≤ sizeLine then some (.str (a ++ b)) else none
  | .list a, .list b => if a.length + b.length ≤ sizeLine then some (.list (a ++ b)) else none
  | .tuple a, .tuple b => if a.length + b.length ≤ sizeLine then some (.tuple (a ++ b)) else none
  | _, _ => none
def gSub : D → D → Option D
  | .int i, .int j => some (.int (i - j))
  | _, _ => none
def gMul : D → D → Option D
  | .int i, .int j => if i.natAbs.log2 + j.natAbs.log2 < 100000000 then some (.int (i * j)) else none
  | _, _ => none
def gFdiv : D → D → Option D
  | .int i, .int j => if j ≠ 0 ∧ j.natAbs.log2 < 9000 then some (.int (i.fdiv j)) else none
  | _, _ => none
def gMod : D → D → Option D
  | .int i, .int j => if j ≠ 0 then some (.int (i.fmod j)) else none
  | _, _ => none
def gPow : D → D → Option D
  | .int i, .int j => if 0 ≤ j ∧ (Builtin.Int.intBits i : Int) * j ≤ 2 ^ 27 then some (.int (i ^ j.toNat)) else none
  | _, _ => none
def OpS (K : PySem.W.Frag) (r : R2) (g : D → D → Option D) : Prop :=
  ∀ (w : Wh) (x y : V) (dx dy d : D) (G H : Hp) (σ : L2.St) (ρ : En) (Q : VK), Rel K G H σ ρ → DR K G x dx → DR K G y dy → g dx dy = some d →
    (∀ G' H', Rel K G' H' σ ρ → Stp G H σ ρ G' H' σ ρ → ∀ v, DR K G' v d → Q v H') → r x y H Q
def dOp (g : D → D → Option D) (fa fb : En → R D) : En → R D := fun ρ => (fa ρ).bind fun x ρ1 => (fb ρ1).bind fun y ρ2 => lift (g x y) ρ2
section
variable {K : PySem.W.Frag} {G H : Hp} {σ : L2.St} {ρ : En}
/-- a new immutable thing is handed on -/
theorem hand_new (r : Rel K G H σ ρ) {Q : VK} {d : D} (q : ∀ G' H', Rel K G' H' σ ρ → Stp G H σ ρ G' H' σ ρ → ∀ v, DR K G' v d → Q v H') {o : HO}
    (mk : ∀ p, H p = none → DR K (upd G p o) (.ref p) d) : ∀ p, H p = none → Q (.ref p) (upd H p o) := fun p hp => by
  obtain ⟨r', s'⟩ := r.laid (o := o) hp
  exact q _ _ r' s' _ (mk p hp)
theorem same_laid (r : Rel K G H σ ρ) {p : Addr} {o : HO} (hp : H p = none) : Same G (upd G p o) := (r.laid (o := o) hp).2.g
theorem DR.newT (r : Rel K G H σ ρ) {vs : List V} {ds : List D} (h : DRs K G vs ds) : ∀ p, H p = none → DR K (upd G p (.tup vs)) (.ref p) (.tuple ds) := fun p hp =>
  .tup (.inl (.inl upd_same)) (h.mono (same_laid r hp))
theorem DR.newL (r : Rel K G H σ ρ) {vs : List V} {ds : List D} (h : DRs K G vs ds) : ∀ p, H p = none → DR K (upd G p (.lst vs)) (.ref p) (.list ds) := fun p hp =>
  .lst (.inl (.inl upd_same)) (h.mono (same_laid r hp))
end
section
variable {X : Cx} {w : Wh}
/-- lists that are read -/
def rCatR (K : PySem.W.Frag) : R2 := fun x y H Q => ∃ l b xs zs, x = .ref l ∧ y = .ref b ∧ SqL K H l xs ∧ SqL K H b zs ∧ xs.length + zs.length ≤ sizeLine ∧ ∀ p, H p = none → Q (.ref p) (upd H p (.lst (xs ++ zs)))
theorem op_catR : OpR X (binaryOp .Add) (rCatR X.K) := by
  intro pins s σ H x y v u Q I rx ry h
  obtain ⟨l, b, xs, zs, rfl, rfl, hH, hB, hz, q⟩ := h
  cases rx
  cases ry
  obtain ⟨its, r, ⟨⟨cls, dd, data, sl⟩, n, ho, hc, hdn, hd⟩, z⟩ := I.list hH
  obtain ⟨its2, r2, ⟨⟨cls2, dd2, data2, sl2⟩, n2, ho2, hc2, hdn2, hd2⟩, z2⟩ := I.list hB
  simp only at hc hd hc2 hd2
  subst hc hd hc2 hd2
  have hl := r.length
  have hl2 := r2.length
  have ea : its.toArray ++ its2.toArray = (its ++ its2).toArray := by simp
  refine concat_meets ⟨_, ho, rfl⟩ ⟨_, ho2, rfl⟩ noFill_list_add seq_list_add PySem.F.slot_list_add PySem.F.entry_list_add (PySem.F.args_list_add_2 _ _) (list_addW l b its.toArray its2.toArray n n2 dd dd2 sl sl2 (by rw [List.size_toArray, List.size_toArray]; omega)) ⟨ho, ho2, ?_⟩
  rw [ea]
  exact ⟨.ref _, _, I.lnew (t' := s.toks) (r.append r2) (by rw [List.length_append]; omega), rfl, q _ I.fresh⟩
def rAddA (K : PySem.W.Frag) : R2 := fun x y H Q => (∃ i j, x = .int i ∧ y = .int j ∧ Q (.int (i + j)) H) ∨ (∃ i j, x = .str i ∧ y = .str j ∧ i.length + j.length ≤ sizeLine ∧ Q (.str (i ++ j)) H) ∨ rCatR K x y H Q ∨ rCatA K x y H Q
theorem op_addA : OpR X (binaryOp .Add) (rAddA X.K) := op_add.or (op_add_str.or (op_catR.or op_catA))
theorem os_add : OpS X.K (rAddA X.K) gAdd := by
  intro w x y dx dy d G H σ ρ Q r hx hy e q
  cases hx with
  | int i =>
    cases hy with
    | int j => cases e; exact .inl ⟨i, j, rfl, rfl, q _ _ r Stp.refl _ (.int _)⟩
    | _ => cases e
  | str a =>
    cases hy with
    | str b =>
      simp only [gAdd] at e
      split at e
      · cases e; exact .inr (.inl ⟨a, b, rfl, rfl, ‹_›, q _ _ r Stp.refl _ (.str _)⟩)
      · cases e
    | _ => cases e
  | @lst a xs ds h hs =>
    cases hy with
    | @lst b ys es h' hs' =>
      simp only [gAdd] at e
      split at e
      · rename_i hz
        cases e
        refine .inr (.inr (.inl ⟨a, b, xs, ys, rfl, rfl, r.sub.seq h, r.sub.seq h', ?_, hand_new r q (DR.newL r (hs.append hs'))⟩))
        rw [hs.length, hs'.length]; exact hz
      · cases e
    | _ => cases e
  | @tup a xs ds h hs =>
    cases hy with
    | @tup b ys es h' hs' =>
      simp only [gAdd] at e
      split at e
      · rename_i hz
        cases e
        refine .inr (.inr (.inr ⟨a, b, xs, ys, rfl, rfl, Same.tup r.sub h, Same.tup r.sub h', ?_, fun hn => ?_, fun _ hn => ?_, fun _ _ => hand_new r q (DR.newT r (hs.append hs'))⟩))
        · rw [hs.length, hs'.length]; exact hz
        · subst hn; cases hs
          rw [List.nil_append] at q
          exact q _ _ r Stp.refl _ (.tup h' hs')
        · subst hn; cases hs'
          rw [List.append_nil] at q
          exact q _ _ r Stp.refl _ (.tup h hs)
      · cases e
    | _ => cases e
  | _ => cases e
/-- ints alone -/
theorem os_int {C : Int → Int → Prop} {g : Int → Int → Int} {gd : D → D → Option D} {K : PySem.W.Frag} (hg : ∀ a b d, gd a b = some d → ∃ i j, a = .int i ∧ b = .int j ∧ C i j ∧ d = .int (g i j)) : OpS K (rI C fun i j => .int (g i j)) gd := by
  intro w x y dx dy d G H σ ρ Q r hx hy e q
  obtain ⟨i, j, rfl, rfl, c, rfl⟩ := hg _ _ _ e
  cases hx
  cases hy
  exact ⟨i, j, rfl, rfl, c, q _ _ r Stp.refl _ (.int _)⟩
theorem op_subA : OpR X (binaryOp .Sub) (rI (fun _ _ => True) fun i j => .int (i - j)) := opI fun _ _ _ _ _ _ _ _ q => sub_int q
theorem os_sub {K : PySem.W.Frag} : OpS K (rI (fun _ _ => True) fun i j => .int (i - j)) gSub := os_int fun a b d e => by
  cases a <;> cases b <;> first | (cases e; done) | (cases e; exact ⟨_, _, rfl, rfl, trivial, rfl⟩)
theorem mulX_log {i j : Int} (h : i.natAbs.log2 + j.natAbs.log2 < 100000000) : CMulX i j :=
  mulx_ok (a := i.natAbs.log2 + 1) (b := j.natAbs.log2 + 1) Nat.lt_log2_self Nat.lt_log2_self (by omega)
theorem os_mul {K : PySem.W.Frag} : OpS K (rI CMulX fun i j => .int (i * j)) gMul := os_int fun a b d e => by
  cases a <;> cases b <;> first | (cases e; done) | (simp only [gMul] at e; split at e <;> cases e; exact ⟨_, _, rfl, rfl, mulX_log ‹_›, rfl⟩)
def CDivX (_ j : Int) : Prop := j ≠ 0 ∧ j.natAbs.log2 < 9000
theorem op_fdivX : OpR X (binaryOp .FloorDiv) (rI CDivX fun i j => .int (i.fdiv j)) := opI fun _ _ _ _ _ _ _ hc q => floordiv_int hc.1 q (.inl (PyProof.noPylong_of_log2 hc.2))
theorem os_fdiv {K : PySem.W.Frag} : OpS K (rI CDivX fun i j => .int (i.fdiv j)) gFdiv := os_int fun a b d e => by
  cases a <;> cases b <;> first | (cases e; done) | (simp only [gFdiv] at e; split at e <;> cases e; exact ⟨_, _, rfl, rfl, ‹_›, rfl⟩)
theorem os_mod {K : PySem.W.Frag} : OpS K (rI (fun _ j => j ≠ 0) fun i j => .int (i.fmod j)) gMod := os_int fun a b d e => by
  cases a <;> cases b <;> first | (cases e; done) | (simp only [gMod] at e; split at e <;> cases e; exact ⟨_, _, rfl, rfl, ‹_›, rfl⟩)
theorem op_powB : OpR X (binaryOp .Pow) (rI (fun i j => 0 ≤ j ∧ (Builtin.Int.intBits i : Int) * j ≤ 2 ^ 27) fun i j => .int (i ^ j.toNat)) := opI fun _ _ _ _ _ _ _ hc q => pow_int hc.1 hc.2 q
theorem os_pow {K : PySem.W.Frag} : OpS K (rI (fun i j => 0 ≤ j ∧ (Builtin.Int.intBits i : Int) * j ≤ 2 ^ 27) fun i j => .int (i ^ j.toNat)) gPow := os_int fun a b d e => by
  cases a <;> cases b <;> first | (cases e; done) | (simp only [gPow] at e; split at e <;> cases e; exact ⟨_, _, rfl, rfl, ‹_›, rfl⟩)

theorem ve_op {op : Operator} {r : R2} {g : D → D → Option D} {a b : Expr} {fa fb : En → R D} {pos : Pos} (ho : OpR X (binaryOp op) r) (hs : OpS X.K r g) (ha : VE X w a fa) (hb : VE X w b fb) : VE X w (.BinOp a op b pos) (dOp g fa fb) := by
  refine PE.imp (pe_op ho ha hb) fun σ H Q ⟨G, ρ, rel, h⟩ => ⟨G, ρ, rel, (Fn.bind rel h).imp fun G1 H1 ρ1 dx ⟨r1, s1, h1⟩ x hx => ⟨G1, ρ1, r1, (Fn.bind r1 h1).imp fun G2 H2 ρ2 dy ⟨r2, s2, h2⟩ y hy => ?_⟩⟩
  obtain ⟨d, e, q⟩ := Fn.lift h2
  exact hs w x y dx dy d G2 H2 σ ρ2 Q r2 (hx.mono s2.g) hy e q
theorem ve_add {a b : Expr} {fa fb : En → R D} {pos : Pos} (ha : VE X w a fa) (hb : VE X w b fb) : VE X w (.BinOp a .Add b pos) (dOp gAdd fa fb) := ve_op op_addA os_add ha hb
theorem ve_sub {a b : Expr} {fa fb : En → R D} {pos : Pos} (ha : VE X w a fa) (hb : VE X w b fb) : VE X w (.BinOp a .Sub b pos) (dOp gSub fa fb) := ve_op op_subA os_sub ha hb
theorem ve_mul {a b : Expr} {fa fb : En → R D} {pos : Pos} (ha : VE X w a fa) (hb : VE X w b fb) : VE X w (.BinOp a .Mult b pos) (dOp gMul fa fb) := ve_op op_mulX os_mul ha hb
theorem ve_fdiv {a b : Expr} {fa fb : En → R D} {pos : Pos} (ha : VE X w a fa) (hb : VE X w b fb) : VE X w (.BinOp a .FloorDiv b pos) (dOp gFdiv fa fb) := ve_op op_fdivX os_fdiv ha hb
theorem ve_mod {a b : Expr} {fa fb : En → R D} {pos : Pos} (ha : VE X w a fa) (hb : VE X w b fb) : VE X w (.BinOp a .Mod b pos) (dOp gMod fa fb) := ve_op op_modN os_mod ha hb
theorem ve_pow {a b : Expr} {fa fb : En → R D} {pos : Pos} (ha : VE X w a fa) (hb : VE X w b fb) : VE X w (.BinOp a .Pow b pos) (dOp gPow fa fb) := ve_op op_powB os_pow ha hb

/-! ### one-place operators -/
def gNeg : D → Option D
  | .int i => some (.int (-i))
  | _ => none
def d1 (g : D → Option D) (fa : En → R D) : En → R D := fun ρ => (fa ρ).bind fun x ρ1 => lift (g x) ρ1
theorem ve_neg {a : Expr} {fa : En → R D} {pos : Pos} (ha : VE X w a fa) : VE X w (.UnaryOp .USub a pos) (d1 gNeg fa) := by
  refine PE.imp (pe_un un_neg ha) fun σ H Q ⟨G, ρ, rel, h⟩ => ⟨G, ρ, rel, (Fn.bind rel h).imp fun G1 H1 ρ1 dx ⟨r1, s1, h1⟩ x hx => ?_⟩
  obtain ⟨d, e, q⟩ := Fn.lift h1
  cases hx with
  | int i => cases e; exact ⟨i, rfl, q _ _ r1 Stp.refl _ (.int _)⟩
  | _ => cases e

/-! ### comparisons -/
def shp (d : D) : Bool := SeqAt.shaped d
def gEq (a b : D) : Option Bool := if shp a = true ∧ shp b = true then some (PyData.eqv a b) else none
def gNe (a b : D) : Option Bool := (gEq a b).map (!·)
def gLt : D → D → Option Bool
  | .int i, .int j => some (decide (i < j))
  | .str a, .str b => some (decide (a.cps.toList < b.cps.toList))
  | _, _ => none
def gLe : D → D → Option Bool
  | .int i, .int j => some (decide (i ≤ j))
  | .str a, .str b => some (!decide (b.cps.toList < a.cps.toList))
  | _, _ => none
def gGt : D → D → Option Bool
  | .int i, .int j => some (decide (j < i))
  | .str a, .str b => some (decide (b.cps.toList < a.cps.toList))
  | _, _ => none
def gGe : D → D → Option Bool
  | .int i, .int j => some (decide (j ≤ i))
  | .str a, .str b => some (!decide (a.cps.toList < b.cps.toList))
  | _, _ => none
def gIs : D → D → Option Bool
  | x, .none => some (match x with | .none => true | _ => false)
  | .bool a, .bool b => some (decide (a = b))
  | .none, .bool _ => some false
  | .tuple _, .bool _ => some false
  | .list _, .bool _ => some false
  | _, _ => none
def gIsNot (a b : D) : Option Bool := (gIs a b).map (!·)
def OpB (K : PySem.W.Frag) (r : R2) (g : D → D → Option Bool) : Prop :=
  ∀ (x y : V) (dx dy : D) (b : Bool) (H : Hp) (Q : VK), DR K H x dx → DR K H y dy → g dx dy = some b → Q (.bl b) H → r x y H Q
def dCmp (g : D → D → Option Bool) (fa fb : En → R D) : En → R Bool := fun ρ => (fa ρ).bind fun x ρ1 => (fb ρ1).bind fun y ρ2 => lift (g x y) ρ2
/-- a truth as a value -/
def dB (f : En → R Bool) : En → R D := fun ρ => (f ρ).bind fun b ρ1 => .ok (.bool b) ρ1
theorem vt_cmp {op : CmpOp} {r : R2} {g : D → D → Option Bool} {a b : Expr} {fa fb : En → R D} {pos : Pos} (ho : OpR X (compareOp op) r) (hs : OpB X.K r g) (ha : VE X w a fa) (hb : VE X w b fb) (hm : behindInMarks op b = false) :
    VT X w (.Compare a [op] [b] pos) (dCmp g fa fb) := by
  refine PT.imp (pt_cmpR ho ha hb hm) fun σ H Q ⟨G, ρ, rel, h⟩ => ⟨G, ρ, rel, (Fn.bind rel h).imp fun G1 H1 ρ1 dx ⟨r1, s1, h1⟩ x hx => ⟨G1, ρ1, r1, (Fn.bind r1 h1).imp fun G2 H2 ρ2 dy ⟨r2, s2, h2⟩ y hy => ?_⟩⟩
  obtain ⟨d, e, q⟩ := Fn.lift h2
  exact hs x y dx dy d H2 _ ((hx.mono s2.g).mono r2.sub) (hy.mono r2.sub) e ⟨d, rfl, q _ _ r2 Stp.refl⟩
theorem ve_cmp {op : CmpOp} {r : R2} {g : D → D → Option Bool} {a b : Expr} {fa fb : En → R D} {pos : Pos} (ho : OpR X (compareOp op) r) (hs : OpB X.K r g) (ha : VE X w a fa) (hb : VE X w b fb) (hm : behindInMarks op b = false) :
    VE X w (.Compare a [op] [b] pos) (dB (dCmp g fa fb)) := by
  refine PE.imp (pe_cmpR ho ha hb hm) fun σ H Q ⟨G, ρ, rel, h⟩ => ⟨G, ρ, rel, (Fn.bind rel (Fn.bind rel h |>.imp (P' := fun G1 H1 ρ1 (b : Bool) => ∀ v, DR X.K G1 v (.bool b) → Q v H1) (fun G1 H1 ρ1 b ⟨r1, s1, h1⟩ => fun v hv => h1.ok r1 v hv))).imp fun G1 H1 ρ1 dx ⟨r1, s1, h1⟩ x hx => ⟨G1, ρ1, r1, (Fn.bind r1 h1).imp fun G2 H2 ρ2 dy ⟨r2, s2, h2⟩ y hy => ?_⟩⟩
  obtain ⟨d, e, q⟩ := Fn.lift h2
  exact hs x y dx dy d H2 _ ((hx.mono s2.g).mono r2.sub) (hy.mono r2.sub) e (q _ _ r2 Stp.refl _ (.bl d))
end
end Dn
namespace Dn
open PySem PySem.Spec PyProof.Rows L2

/-! ### data that == and in take -/
section
variable {K : PySem.W.Frag} {H : Hp}
mutual
theorem DR.dp : ∀ {d : PyData} {v : V}, DR K H v d → d.canLay0 = true → Dp K H v d
  | _, _, .non, _ => .non
  | _, _, .bl b, _ => .bl b
  | _, _, .int i, _ => .int i
  | _, _, .str x, _ => .str x
  | _, _, .lst h hs, c => .lst h (DRs.dp hs (by simpa [PyData.canLay0] using c))
  | _, _, .tup h hs, c => .tup h (DRs.dp hs (by simpa [PyData.canLay0] using c))
  | _, _, .dic _ _, c => by simp [PyData.canLay0] at c
theorem DRs.dp : ∀ {ds : List PyData} {vs : List V}, DRs K H vs ds → PyData.canLayAll0 ds = true → DpAll K H vs ds
  | _, _, .nil, _ => .nil
  | _, _, .cons h t, c => by
    have c' := c
    simp only [PyData.canLayAll0, Bool.and_eq_true] at c'
    exact .cons (DR.dp h c'.1) (DRs.dp t c'.2)
end
theorem shp_can {d : PyData} (h : shp d = true) : d.canLay0 = true := SeqAt.canLay_of_shaped h
end
theorem room_in_shaped' {A : Around} {xs : List PyData} {d : PyData} (hd : shp d = true) (hu : A.units + 65 < cLine) : A.units + 1 + min (PyData.depthAll xs) d.depth < cLine := by
  have h1 : d.depth ≤ 64 := SeqAt.depth_of_shaped hd
  have h2 : min (PyData.depthAll xs) d.depth ≤ d.depth := Nat.min_le_right _ _
  omega
def gInD (x : D) (y : D) : Option Bool := match y with
  | .list ds => if shp x = true ∧ shp (.list ds) = true then some (ds.any fun z => PyData.eqv z x) else none
  | .tuple ds => if shp x = true ∧ shp (.tuple ds) = true then some (ds.any fun z => PyData.eqv z x) else none
  | _ => none
def gInS (x : D) (y : D) : Option Bool := match x, y with
  | .str a, .str b => some (match a.cps.toList with
    | [c] => decide (c ∈ b.cps.toList)
    | _ => !(Builtin.Str.occurrences b a 0 b.length 1).isEmpty)
  | _, _ => none
def gIn (x y : D) : Option Bool := match y with
  | .str _ => gInS x y
  | _ => gInD x y
def gNotIn (x y : D) : Option Bool := (gIn x y).map (!·)
section
variable {X : Cx} {w : Wh}
theorem ob_eq : OpB X.K (rEqD X.K) gEq := by
  intro x y dx dy b H Q hx hy e q
  simp only [gEq] at e
  split at e
  · rename_i h
    cases e
    exact ⟨dx, dy, hx.dp (shp_can h.1), hy.dp (shp_can h.2), h.1, h.2, q⟩
  · cases e
theorem ob_ne : OpB X.K (rNeD X.K) gNe := by
  intro x y dx dy b H Q hx hy e q
  simp only [gNe, gEq] at e
  split at e
  · rename_i h
    cases e
    exact ⟨dx, dy, hx.dp (shp_can h.1), hy.dp (shp_can h.2), h.1, h.2, q⟩
  · cases e
def rOrdA (p : Int → Int → Bool) (q : Str → Str → Bool) : R2 := fun x y H Q => (∃ i j, x = .int i ∧ y = .int j ∧ Q (.bl (p i j)) H) ∨ (∃ i j, x = .str i ∧ y = .str j ∧ Q (.bl (q i j)) H)
theorem op_ltA : OpR X (compareOp .Lt) (rOrdA (fun i j => decide (i < j)) fun a b => decide (a.cps.toList < b.cps.toList)) := op_lt.or op_lt_str
theorem op_leA : OpR X (compareOp .LtE) (rOrdA (fun i j => decide (i ≤ j)) fun a b => !decide (b.cps.toList < a.cps.toList)) := op_le.or op_le_str
theorem op_gtA : OpR X (compareOp .Gt) (rOrdA (fun i j => decide (j < i)) fun a b => decide (b.cps.toList < a.cps.toList)) := op_gt.or op_gt_str
theorem op_geA : OpR X (compareOp .GtE) (rOrdA (fun i j => decide (j ≤ i)) fun a b => !decide (a.cps.toList < b.cps.toList)) := op_ge.or op_ge_str
theorem ob_ord {p : Int → Int → Bool} {q : Str → Str → Bool} {g : D → D → Option Bool} {K : PySem.W.Frag} (h1 : ∀ i j, g (.int i) (.int j) = some (p i j)) (h2 : ∀ i j, g (.str i) (.str j) = some (q i j))
    (h3 : ∀ x y b, g x y = some b → (∃ i j, x = .int i ∧ y = .int j) ∨ ∃ i j, x = .str i ∧ y = .str j) : OpB K (rOrdA p q) g := by
  intro x y dx dy b H Q hx hy e k
  rcases h3 _ _ _ e with ⟨i, j, rfl, rfl⟩ | ⟨i, j, rfl, rfl⟩
  · cases hx; cases hy
    rw [h1] at e; cases e
    exact .inl ⟨i, j, rfl, rfl, k⟩
  · cases hx; cases hy
    rw [h2] at e; cases e
    exact .inr ⟨i, j, rfl, rfl, k⟩
theorem ob_lt {K : PySem.W.Frag} : OpB K (rOrdA (fun i j => decide (i < j)) fun a b => decide (a.cps.toList < b.cps.toList)) gLt := ob_ord (fun _ _ => rfl) (fun _ _ => rfl) fun x y b e => by
  cases x <;> cases y <;> first | (cases e; done) | exact .inl ⟨_, _, rfl, rfl⟩ | exact .inr ⟨_, _, rfl, rfl⟩
theorem ob_le {K : PySem.W.Frag} : OpB K (rOrdA (fun i j => decide (i ≤ j)) fun a b => !decide (b.cps.toList < a.cps.toList)) gLe := ob_ord (fun _ _ => rfl) (fun _ _ => rfl) fun x y b e => by
  cases x <;> cases y <;> first | (cases e; done) | exact .inl ⟨_, _, rfl, rfl⟩ | exact .inr ⟨_, _, rfl, rfl⟩
theorem ob_gt {K : PySem.W.Frag} : OpB K (rOrdA (fun i j => decide (j < i)) fun a b => decide (b.cps.toList < a.cps.toList)) gGt := ob_ord (fun _ _ => rfl) (fun _ _ => rfl) fun x y b e => by
  cases x <;> cases y <;> first | (cases e; done) | exact .inl ⟨_, _, rfl, rfl⟩ | exact .inr ⟨_, _, rfl, rfl⟩
theorem ob_ge {K : PySem.W.Frag} : OpB K (rOrdA (fun i j => decide (j ≤ i)) fun a b => !decide (a.cps.toList < b.cps.toList)) gGe := ob_ord (fun _ _ => rfl) (fun _ _ => rfl) fun x y b e => by
  cases x <;> cases y <;> first | (cases e; done) | exact .inl ⟨_, _, rfl, rfl⟩ | exact .inr ⟨_, _, rfl, rfl⟩

/-! #### is -/
def plV : V → V → Bool
  | _, .non => true
  | .non, .bl _ => true
  | .bl _, .bl _ => true
  | .ref _, .bl _ => true
  | _, _ => false
def rIsP (neg : Bool) : R2 := fun x y H Q => plV x y = true ∧ Q (.bl (if neg then !decide (x = y) else decide (x = y))) H
theorem plV_is {x y : V} {v u : Value} (h : plV x y = true) (rx : RelV x v) (ry : RelV y u) : plainIs v u = true ∧ (v = u ↔ x = y) := by
  cases y with
  | non =>
    cases (show u = Value.none from ry)
    cases x with
    | non => cases (show v = Value.none from rx); exact ⟨rfl, by simp⟩
    | bl b => cases (show v = Value.bool b from rx); exact ⟨rfl, by simp⟩
    | int i => obtain ⟨t, rfl⟩ := rx; exact ⟨rfl, by simp⟩
    | str i => obtain ⟨t, rfl⟩ := rx; exact ⟨rfl, by simp⟩
    | byt i => obtain ⟨t, rfl⟩ := rx; exact ⟨rfl, by simp⟩
    | flt i => obtain ⟨t, rfl⟩ := rx; exact ⟨rfl, by simp⟩
    | ref a => cases (show v = Value.ref a from rx); exact ⟨rfl, by simp⟩
    | ty n => cases (show v = Value.type n from rx); exact ⟨rfl, by simp⟩
  | bl c =>
    cases (show u = Value.bool c from ry)
    cases x with
    | non => cases (show v = Value.none from rx); exact ⟨rfl, by simp⟩
    | bl b => cases (show v = Value.bool b from rx); exact ⟨rfl, by simp⟩
    | ref a => cases (show v = Value.ref a from rx); exact ⟨rfl, by simp⟩
    | _ => cases h
  | _ => cases x <;> cases h
theorem op_isP : OpR X (compareOp .Is) (rIsP false) := by
  intro pins s σ H x y v u Q I rx ry h
  obtain ⟨hp, q⟩ := h
  obtain ⟨h1, h2⟩ := plV_is hp rx ry
  refine wpAny_is_plain h1 ⟨.bl (decide (x = y)), H, I, ?_, q⟩
  show _ = Value.bool _
  congr 1
  rw [Bool.eq_iff_iff]; simp [h2]
theorem op_isNotP : OpR X (compareOp .IsNot) (rIsP true) := by
  intro pins s σ H x y v u Q I rx ry h
  obtain ⟨hp, q⟩ := h
  obtain ⟨h1, h2⟩ := plV_is hp rx ry
  refine wpAny_isNot_plain h1 ⟨.bl (!decide (x = y)), H, I, ?_, q⟩
  show _ = Value.bool _
  congr 2
  rw [Bool.eq_iff_iff]; simp [h2]
theorem gIs_ok {K : PySem.W.Frag} {H : Hp} {x y : V} {dx dy : D} {b : Bool} (hx : DR K H x dx) (hy : DR K H y dy) (e : gIs dx dy = some b) : plV x y = true ∧ decide (x = y) = b := by
  cases hy with
  | non => cases hx <;> (cases e; exact ⟨rfl, by simp⟩)
  | bl c => cases hx <;> first | (cases e; done) | (cases e; exact ⟨rfl, by simp⟩)
  | _ => cases hx <;> cases e
theorem ob_is {K : PySem.W.Frag} : OpB K (rIsP false) gIs := fun x y dx dy b H Q hx hy e q => by
  obtain ⟨h1, h2⟩ := gIs_ok hx hy e
  exact ⟨h1, by rw [if_neg Bool.false_ne_true, h2]; exact q⟩
theorem ob_isNot {K : PySem.W.Frag} : OpB K (rIsP true) gIsNot := fun x y dx dy b H Q hx hy e q => by
  simp only [gIsNot, Option.map_eq_some_iff] at e
  obtain ⟨c, e, rfl⟩ := e
  obtain ⟨h1, h2⟩ := gIs_ok hx hy e
  exact ⟨h1, by rw [if_pos rfl, h2]; exact q⟩

/-! #### in -/
def rInS (neg : Bool) : R2 := fun x y H Q => ∃ i j : Str, x = .str i ∧ y = .str j ∧ ∃ b, gInS (.str i) (.str j) = some b ∧ Q (.bl (if neg then !b else b)) H
theorem op_inS : OpR X (compareOp .In) (rInS false) := by
  intro pins s σ H x y v u Q I rx ry h
  obtain ⟨i, j, rfl, rfl, b, e, q⟩ := h
  simp only [gInS] at e
  split at e
  · rename_i c hc
    cases e
    have ei : i = ⟨#[c]⟩ := by
      obtain ⟨⟨l⟩⟩ := i
      have hc : l = [c] := hc
      subst hc
      rfl
    subst ei
    exact op_in_sign pins s σ H _ _ v u Q I rx ry ⟨c, j, rfl, rfl, q⟩
  · cases e
    exact op_in_str pins s σ H _ _ v u Q I rx ry ⟨i, j, rfl, rfl, q⟩
theorem op_notInS : OpR X (compareOp .NotIn) (rInS true) := by
  intro pins s σ H x y v u Q I rx ry h
  obtain ⟨i, j, rfl, rfl, b, e, q⟩ := h
  simp only [gInS] at e
  split at e
  · rename_i c hc
    cases e
    have ei : i = ⟨#[c]⟩ := by
      obtain ⟨⟨l⟩⟩ := i
      have hc : l = [c] := hc
      subst hc
      rfl
    subst ei
    exact op_notIn_sign pins s σ H _ _ v u Q I rx ry ⟨c, j, rfl, rfl, q⟩
  · cases e
    exact op_notin_str pins s σ H _ _ v u Q I rx ry ⟨i, j, rfl, rfl, q⟩
def rInT (K : PySem.W.Frag) (neg : Bool) : R2 := fun x y H Q => ∃ d e b, Dp K H x d ∧ Dp K H y e ∧ gInD d e = some b ∧ Q (.bl (if neg then !b else b)) H
theorem op_inT (hu : X.A.units + 65 < cLine) : OpR X (compareOp .In) (rInT X.K false) := by
  intro pins s σ H x y v u Q I rx ry h
  obtain ⟨d, e, b, hd, he, eb, q⟩ := h
  obtain ⟨as, r1⟩ := Dp.reads I d x v hd rx
  obtain ⟨bs, r2⟩ := Dp.reads I e y u he ry
  cases e with
  | list ds =>
    simp only [gInD] at eb
    split at eb
    · rename_i h; cases eb
      exact SeqAt.in_list_reads r2 r1 (shp_can h.2) (shp_can h.1) (room_in_shaped' h.1 hu) ⟨.bl _, H, I, rfl, q⟩
    · cases eb
  | tuple ds =>
    simp only [gInD] at eb
    split at eb
    · rename_i h; cases eb
      exact SeqAt.in_tuple_reads r2 r1 (shp_can h.2) (shp_can h.1) (room_in_shaped' h.1 hu) ⟨.bl _, H, I, rfl, q⟩
    · cases eb
  | _ => cases eb
theorem op_notInT (hu : X.A.units + 65 < cLine) : OpR X (compareOp .NotIn) (rInT X.K true) := by
  intro pins s σ H x y v u Q I rx ry h
  obtain ⟨d, e, b, hd, he, eb, q⟩ := h
  obtain ⟨as, r1⟩ := Dp.reads I d x v hd rx
  obtain ⟨bs, r2⟩ := Dp.reads I e y u he ry
  cases e with
  | list ds =>
    simp only [gInD] at eb
    split at eb
    · rename_i h; cases eb
      exact SeqAt.notIn_list_reads r2 r1 (shp_can h.2) (shp_can h.1) (room_in_shaped' h.1 hu) ⟨.bl _, H, I, rfl, q⟩
    · cases eb
  | tuple ds =>
    simp only [gInD] at eb
    split at eb
    · rename_i h; cases eb
      exact SeqAt.notIn_tuple_reads r2 r1 (shp_can h.2) (shp_can h.1) (room_in_shaped' h.1 hu) ⟨.bl _, H, I, rfl, q⟩
    · cases eb
  | _ => cases eb
def rInA (K : PySem.W.Frag) (neg : Bool) : R2 := fun x y H Q => rInS neg x y H Q ∨ rInT K neg x y H Q
theorem op_inA (hu : X.A.units + 65 < cLine) : OpR X (compareOp .In) (rInA X.K false) := op_inS.or (op_inT hu)
theorem op_notInA (hu : X.A.units + 65 < cLine) : OpR X (compareOp .NotIn) (rInA X.K true) := op_notInS.or (op_notInT hu)
theorem gInD_can {x y : D} {b : Bool} (e : gInD x y = some b) : x.canLay0 = true ∧ y.canLay0 = true := by
  cases y with
  | list ds =>
    simp only [gInD] at e
    split at e
    · rename_i h; exact ⟨shp_can h.1, shp_can h.2⟩
    · cases e
  | tuple ds =>
    simp only [gInD] at e
    split at e
    · rename_i h; exact ⟨shp_can h.1, shp_can h.2⟩
    · cases e
  | _ => cases e
theorem gIn_ok {K : PySem.W.Frag} {H : Hp} {x y : V} {dx dy : D} {b : Bool} {neg : Bool} {Q : VK} (hx : DR K H x dx) (hy : DR K H y dy) (e : gIn dx dy = some b) (q : Q (.bl (if neg then !b else b)) H) : rInA K neg x y H Q := by
  cases dy with
  | str j =>
    simp only [gIn] at e
    cases dx with
    | str i => cases hx; cases hy; exact .inl ⟨i, j, rfl, rfl, b, e, q⟩
    | _ => cases e
  | list ds =>
    have e' : gInD dx (.list ds) = some b := e
    exact .inr ⟨dx, _, b, hx.dp (gInD_can e').1, hy.dp (gInD_can e').2, e', q⟩
  | tuple ds =>
    have e' : gInD dx (.tuple ds) = some b := e
    exact .inr ⟨dx, _, b, hx.dp (gInD_can e').1, hy.dp (gInD_can e').2, e', q⟩
  | _ => cases e
theorem ob_in {K : PySem.W.Frag} : OpB K (rInA K false) gIn := fun x y dx dy b H Q hx hy e q => gIn_ok hx hy e (by rw [if_neg Bool.false_ne_true]; exact q)
theorem ob_notIn {K : PySem.W.Frag} : OpB K (rInA K true) gNotIn := fun x y dx dy b H Q hx hy e q => by
  simp only [gNotIn, Option.map_eq_some_iff] at e
  obtain ⟨c, e, rfl⟩ := e
  exact gIn_ok hx hy e (by rw [if_pos rfl]; exact q)

/-! ### truths: and, or, not, if else -/
def dNot (f : En → R Bool) : En → R Bool := fun ρ => (f ρ).bind fun b ρ1 => .ok (!b) ρ1
def dAnd (f g : En → R Bool) : En → R Bool := fun ρ => (f ρ).bind fun b ρ1 => if b = true then g ρ1 else .ok false ρ1
def dOr (f g : En → R Bool) : En → R Bool := fun ρ => (f ρ).bind fun b ρ1 => if b = true then .ok true ρ1 else g ρ1
def dIfE {α : Type} (c : En → R Bool) (f g : En → R α) : En → R α := fun ρ => (c ρ).bind fun b ρ1 => if b = true then f ρ1 else g ρ1
variable {a b c e : Expr} {rest : List Expr} {fa fb fc : En → R D} {ga gb gc : En → R Bool} {pos : Pos}
theorem vt_not (ha : VT X w a ga) : VT X w (.UnaryOp .Not a pos) (dNot ga) :=
  PT.imp (pt_not ha) fun σ H Q ⟨G, ρ, rel, h⟩ => ⟨G, ρ, rel, (Fn.bind rel h).imp fun G1 H1 ρ1 b ⟨r1, s1, h1⟩ => h1.ok r1⟩
theorem vw_and1 (ha : VT X w a ga) : VW X w (.BoolOp .And [a] pos) ga := pw_and1 ha
theorem vw_or1 (ha : VT X w a ga) : VW X w (.BoolOp .Or [a] pos) ga := pw_or1 ha
theorem vw_and (ha : VT X w a ga) (hb : VW X w (.BoolOp .And (b :: rest) pos) gb) : VW X w (.BoolOp .And (a :: b :: rest) pos) (dAnd ga gb) :=
  PW.imp (pw_and ha hb) fun σ H Q ⟨G, ρ, rel, h⟩ => ⟨G, ρ, rel, (Fn.bind rel h).imp fun G1 H1 ρ1 b ⟨r1, s1, h1⟩ => by
    cases b with
    | true => exact iteT ⟨G1, ρ1, r1, h1⟩
    | false => exact iteF (Fn.ok (show Fn X.K w G1 H1 σ ρ1 (.ok false ρ1) (QB Q) from h1) r1)⟩
theorem vw_or (ha : VT X w a ga) (hb : VW X w (.BoolOp .Or (b :: rest) pos) gb) : VW X w (.BoolOp .Or (a :: b :: rest) pos) (dOr ga gb) :=
  PW.imp (pw_or ha hb) fun σ H Q ⟨G, ρ, rel, h⟩ => ⟨G, ρ, rel, (Fn.bind rel h).imp fun G1 H1 ρ1 b ⟨r1, s1, h1⟩ => by
    cases b with
    | true => exact iteT (Fn.ok (show Fn X.K w G1 H1 σ ρ1 (.ok true ρ1) (QB Q) from h1) r1)
    | false => exact iteF ⟨G1, ρ1, r1, h1⟩⟩
theorem vt_w (h : VW X w e ga) : VT X w e ga := PW.pt h
/-- a truth that is a value -/
theorem Fn.dB {K : PySem.W.Frag} {G H : Hp} {σ : L2.St} {ρ : En} {Q : VK} (rel : Rel K G H σ ρ) (h : Fn K w G H σ ρ (dB ga ρ) (QD K Q)) : Fn K w G H σ ρ (ga ρ) (fun G1 H1 ρ1 b => Rel K G1 H1 σ ρ1 ∧ Stp G H σ ρ G1 H1 σ ρ1 ∧ Q (.bl b) H1) :=
  (Fn.bind rel h).imp fun G1 H1 ρ1 b ⟨r1, s1, h1⟩ => ⟨r1, s1, h1.ok r1 _ (.bl b)⟩
theorem Fn.toB {K : PySem.W.Frag} {G H : Hp} {σ : L2.St} {ρ : En} {P : Hp → Hp → En → D → Prop} {g : En → R Bool} (rel : Rel K G H σ ρ) (h : Fn K w G H σ ρ (g ρ) (fun G1 H1 ρ1 b => P G1 H1 ρ1 (.bool b))) : Fn K w G H σ ρ (Dn.dB g ρ) P := by
  unfold Dn.dB
  cases q : g ρ with
  | no => rw [q] at h; exact h
  | ex c ρ' => rw [q] at h; exact h
  | ok b ρ' => rw [q] at h; exact h
theorem ve_not (ha : VE X w a (dB ga)) : VE X w (.UnaryOp .Not a pos) (dB (dNot ga)) :=
  PE.imp (pe_not ha) fun σ H Q ⟨G, ρ, rel, h⟩ => ⟨G, ρ, rel, Fn.toB rel ((Fn.bind rel (Fn.dB rel h)).imp fun G1 H1 ρ1 b ⟨r1, s1, h1⟩ v hv => by
    cases hv
    exact ⟨b, rfl, (h1.ok r1).2.2⟩)⟩
theorem ve_and1 (ha : VE X w a fa) : VE X w (.BoolOp .And [a] pos) fa := pe_one ha
theorem ve_or1 (ha : VE X w a fa) : VE X w (.BoolOp .Or [a] pos) fa := pe_one ha
def dAndV (f : En → R Bool) (g : En → R D) : En → R D := fun ρ => (f ρ).bind fun b ρ1 => if b = true then g ρ1 else .ok (.bool false) ρ1
def dOrV (f : En → R Bool) (g : En → R D) : En → R D := fun ρ => (f ρ).bind fun b ρ1 => if b = true then .ok (.bool true) ρ1 else g ρ1
theorem ve_and (ha : VE X w a (dB ga)) (hb : VE X w (.BoolOp .And (b :: rest) pos) fb) : VE X w (.BoolOp .And (a :: b :: rest) pos) (dAndV ga fb) :=
  PE.imp (pe_and ha hb) fun σ H Q ⟨G, ρ, rel, h⟩ => ⟨G, ρ, rel, Fn.toB rel ((Fn.bind rel h).imp fun G1 H1 ρ1 b ⟨r1, s1, h1⟩ v hv => by
    cases hv
    refine ⟨b, rfl, ?_⟩
    cases b with
    | true => exact iteT ⟨G1, ρ1, r1, h1⟩
    | false => exact iteF (Fn.ok (show Fn X.K w G1 H1 σ ρ1 (.ok (.bool false) ρ1) (QD X.K Q) from h1) r1 _ (.bl false)))⟩
theorem ve_or (ha : VE X w a (dB ga)) (hb : VE X w (.BoolOp .Or (b :: rest) pos) fb) : VE X w (.BoolOp .Or (a :: b :: rest) pos) (dOrV ga fb) :=
  PE.imp (pe_or ha hb) fun σ H Q ⟨G, ρ, rel, h⟩ => ⟨G, ρ, rel, Fn.toB rel ((Fn.bind rel h).imp fun G1 H1 ρ1 b ⟨r1, s1, h1⟩ v hv => by
    cases hv
    refine ⟨b, rfl, ?_⟩
    cases b with
    | true => exact iteT (Fn.ok (show Fn X.K w G1 H1 σ ρ1 (.ok (.bool true) ρ1) (QD X.K Q) from h1) r1 _ (.bl true))
    | false => exact iteF ⟨G1, ρ1, r1, h1⟩)⟩
theorem ve_ifE (hc : VT X w c gc) (ha : VE X w a fa) (hb : VE X w b fb) : VE X w (.IfExp c a b pos) (dIfE gc fa fb) :=
  PE.imp (pe_ifExp hc ha hb) fun σ H Q ⟨G, ρ, rel, h⟩ => ⟨G, ρ, rel, (Fn.bind rel h).imp fun G1 H1 ρ1 b ⟨r1, s1, h1⟩ => by
    cases b with
    | true => exact iteT ⟨G1, ρ1, r1, h1⟩
    | false => exact iteF ⟨G1, ρ1, r1, h1⟩⟩
/-- a value's truth -/
def truD : D → Option Bool
  | .none => some false
  | .bool b => some b
  | .int i => some (i != 0)
  | .str s => if s.length ≤ sizeLine then some ((s.length : Int) != 0) else none
  | .list l => some (!l.isEmpty)
  | .tuple l => some (!l.isEmpty)
  | .dict _ => none
def asB : D → Option Bool
  | .bool b => some b
  | _ => none
/-- a value that is a truth, as one -/
def dUB (f : En → R D) : En → R Bool := fun ρ => (f ρ).bind fun d ρ1 => lift (asB d) ρ1
def dTru (f : En → R D) : En → R Bool := fun ρ => (f ρ).bind fun d ρ1 => lift (truD d) ρ1
theorem DRs.emp {K : PySem.W.Frag} {H : Hp} {vs : List V} {ds : List D} (h : DRs K H vs ds) : vs.isEmpty = ds.isEmpty := by cases h <;> rfl
theorem truD_ok {K : PySem.W.Frag} {H : Hp} {v : V} {d : D} {b : Bool} (h : DR K H v d) (e : truD d = some b) : TruV K v H b := by
  cases h with
  | non => cases e; rfl
  | bl b => cases e; rfl
  | int i => cases e; rfl
  | str s =>
    simp only [truD] at e
    split at e
    · cases e; exact ⟨‹_›, rfl⟩
    · cases e
  | lst h hs => cases e; exact .inl ⟨_, h, by rw [hs.emp]⟩
  | tup h hs => cases e; exact .inr (.inl ⟨_, h, by rw [hs.emp]⟩)
  | dic _ _ => cases e
theorem vt_tru (ha : VE X w a fa) (he : ∀ whole, isTrue a X.env whole = (do let v ← whole; standAt a.pos; holding [v] (truthy v)) := by intro _; rfl) : VT X w a (dTru fa) :=
  PT.imp (pt_truth ha he) fun σ H Q ⟨G, ρ, rel, h⟩ => ⟨G, ρ, rel, (Fn.bind rel h).imp fun G1 H1 ρ1 d ⟨r1, s1, h1⟩ v hv => by
    obtain ⟨b, e, q⟩ := Fn.lift h1
    exact ⟨b, truD_ok (hv.mono r1.sub) e, q _ _ r1 Stp.refl⟩⟩
/-- a value seen as a truth -/
theorem ve_ub (ha : VE X w a fa) : VE X w a (dB (dUB fa)) :=
  PE.imp ha fun σ H Q ⟨G, ρ, rel, h⟩ => ⟨G, ρ, rel, (Fn.bind rel (Fn.dB rel h)).imp fun G1 H1 ρ1 d ⟨r1, s1, h1⟩ v hv => by
    obtain ⟨b, e, q⟩ := Fn.lift h1
    cases hv with
    | bl c => cases e; exact (q _ _ r1 Stp.refl).2.2
    | _ => cases e⟩
end
end Dn
namespace Dn
open PySem PySem.Spec PyProof.Rows L2

/-! ### reading -/
def L.toD : L → D
  | .im d => d
  | .ow ds => .list ds
  | .bo ds => .list ds
  | .ot _ => .none
  | .bt _ => .none
def L.tree : L → Bool
  | .ot _ => true
  | .bt _ => true
  | _ => false
/-- what may be read as d now -/
inductive DV (K : PySem.W.Frag) (G H : Hp) : V → D → Prop where
  | im {v : V} {d : D} (h : DR K G v d) : DV K G H v d
  | mu {o : Addr} {vs : List V} {ds : List D} (e : H o = some (.lst vs)) (h : DRs K G vs ds) : DV K G H (.ref o) (.list ds)
section
variable {K : PySem.W.Frag} {G H : Hp} {σ : L2.St} {ρ : En}
theorem Rel.view (r : Rel K G H σ ρ) {i : Nat} {l : L} (h : ρ[i]? = some (some l)) (hf : l.tree = false) : ∃ v, σ[i]? = some (some v) ∧ DV K G H v l.toD := by
  obtain ⟨v, s, c⟩ := r.cell i l h
  refine ⟨v, s, ?_⟩
  cases l with
  | im d => exact .im c
  | ow ds => obtain ⟨o, vs, rfl, g, q, hd⟩ := c; exact .mu q hd
  | bo ds => obtain ⟨o, vs, rfl, g, q, hd⟩ := c; exact .mu q hd
  | ot t => cases hf
  | bt t => cases hf
/-- a list or a tuple that is read -/
theorem DV.list (r : Rel K G H σ ρ) {v : V} {ds : List D} (h : DV K G H v (.list ds)) : ∃ o vs, v = .ref o ∧ SqL K H o vs ∧ DRs K G vs ds := by
  cases h with
  | im h => cases h with | lst h hs => exact ⟨_, _, rfl, r.sub.seq h, hs⟩
  | mu e h => exact ⟨_, _, rfl, .inl (.inl e), h⟩
theorem DV.tuple (r : Rel K G H σ ρ) {v : V} {ds : List D} (h : DV K G H v (.tuple ds)) : ∃ o vs, v = .ref o ∧ SqT K H o vs ∧ DRs K G vs ds := by
  cases h with
  | im h => cases h with | tup h hs => exact ⟨_, _, rfl, Same.tup r.sub h, hs⟩
theorem DV.str {v : V} {s : Str} (h : DV K G H v (.str s)) : v = .str s := by
  cases h with
  | im h => cases h; rfl
theorem DV.int {v : V} {s : Int} (h : DV K G H v (.int s)) : v = .int s := by
  cases h with
  | im h => cases h; rfl
theorem DV.bool {v : V} {s : Bool} (h : DV K G H v (.bool s)) : v = .bl s := by
  cases h with
  | im h => cases h; rfl
end
def gIx : D → D → Option D
  | .list ds, .int i => atI ds i
  | .tuple ds, .int i => atI ds i
  | .str s, .int i => if s.length ≤ sizeLine then (atI s.cps.toList i).map fun c => .str ⟨#[c]⟩ else none
  | _, _ => none
theorem DRs.atI {K : PySem.W.Frag} {G : Hp} {vs : List V} {ds : List D} {i : Int} {d : D} (h : DRs K G vs ds) (e : L2.atI ds i = some d) : ∃ v, L2.atI vs i = some v ∧ DR K G v d := by
  unfold L2.atI at e ⊢
  rw [h.length]
  cases q : ixN ds.length i with
  | none => rw [q] at e; cases e
  | some j =>
    rw [q] at e
    exact h.get e
theorem gIx_ok {K : PySem.W.Frag} {G H : Hp} {σ : L2.St} {ρ : En} {x y : V} {dx dy d : D} {Q : VK} (r : Rel K G H σ ρ) (hx : DV K G H x dx) (hy : DR K G y dy) (e : gIx dx dy = some d) (q : ∀ v, DR K G v d → Q v H) : rIx K x y H Q := by
  cases dy with
  | int i =>
    cases hy
    cases dx with
    | list ds =>
      obtain ⟨o, vs, rfl, h, hs⟩ := hx.list r
      obtain ⟨v, e', hv⟩ := hs.atI e
      exact .inl ⟨o, vs, i, v, rfl, rfl, h, e', q v hv⟩
    | tuple ds =>
      obtain ⟨o, vs, rfl, h, hs⟩ := hx.tuple r
      obtain ⟨v, e', hv⟩ := hs.atI e
      exact .inr (.inl ⟨o, vs, i, v, rfl, rfl, h, e', q v hv⟩)
    | str s =>
      have := hx.str
      subst this
      simp only [gIx] at e
      split at e
      · simp only [Option.map_eq_some_iff] at e
        obtain ⟨c, e, rfl⟩ := e
        exact .inr (.inr ⟨s, i, c, rfl, rfl, ‹_›, e, q _ (.str _)⟩)
      · cases e
    | _ => cases e
  | _ => cases dx <;> cases e
/-- the slot i, read when what follows is done -/
def atSlot {α β : Type} (i : Nat) (f : En → R β) (g : L → β → En → R α) : En → R α := fun ρ => match ρ[i]? with
  | some (some _) => (f ρ).bind fun y ρ1 => match ρ1[i]? with
    | some (some l) => if l.tree = true then .no else g l y ρ1
    | _ => .no
  | _ => .no
section
variable {X : Cx} {w : Wh} {a b : Expr} {fa fb : En → R D} {pos : Pos}
theorem ve_ix (ha : VE X w a fa) (hb : VE X w b fb) (hp : PlainIx b := by exact fun _ _ => rfl) : VE X w (.Subscript a b pos) (dOp gIx fa fb) := by
  refine PE.imp (pe_ix ix_seq ha hb hp) fun σ H Q ⟨G, ρ, rel, h⟩ => ⟨G, ρ, rel, (Fn.bind rel h).imp fun G1 H1 ρ1 dx ⟨r1, s1, h1⟩ x hx => ⟨G1, ρ1, r1, (Fn.bind r1 h1).imp fun G2 H2 ρ2 dy ⟨r2, s2, h2⟩ y hy => ?_⟩⟩
  obtain ⟨d, e, q⟩ := Fn.lift h2
  exact gIx_ok r2 (.im (hx.mono s2.g)) hy e fun v hv => q _ _ r2 Stp.refl v hv
theorem Fn.slot {α β : Type} {K : PySem.W.Frag} {G H : Hp} {σ : L2.St} {ρ : En} {i : Nat} {f : En → R β} {g : L → β → En → R α} {P : Hp → Hp → En → α → Prop} (rel : Rel K G H σ ρ) (h : Fn K w G H σ ρ (atSlot i f g ρ) P) :
    ∃ v, σ[i]? = some (some v) ∧ Fn K w G H σ ρ (f ρ) (fun G1 H1 ρ1 y => ∃ l, ρ1[i]? = some (some l) ∧ DV K G1 H1 v l.toD ∧ Rel K G1 H1 σ ρ1 ∧ Stp G H σ ρ G1 H1 σ ρ1 ∧ Fn K w G1 H1 σ ρ1 (g l y ρ1) P) := by
  unfold atSlot at h
  split at h
  · rename_i l0 e0
    obtain ⟨v, s, _⟩ := rel.cell i _ e0
    refine ⟨v, s, (Fn.bind rel h).imp fun G1 H1 ρ1 y ⟨r1, s1, h1⟩ => ?_⟩
    split at h1
    · rename_i l e1
      split at h1
      · exact h1.elim
      · rename_i hf
        obtain ⟨v', s', dv⟩ := r1.view e1 (by simpa using hf)
        rw [s] at s'; cases s'
        exact ⟨l, e1, dv, r1, s1, h1⟩
    · exact h1.elim
  · exact h.elim
def dIxN (i : Nat) (fb : En → R D) : En → R D := atSlot i fb fun l y ρ => lift (gIx l.toD y) ρ
theorem ve_ixN (i : Nat) {x : Str} {p : Pos} (hb : VE X w b fb) (hN : X.N[i]? = some x := by rfl) (hv : Vis X.env.scope x := by first | exact Or.inl rfl | exact Or.inr (Or.inl rfl) | exact Or.inr (Or.inr rfl))
    (hp : PlainIx b := by exact fun _ _ => rfl) (hd : (x == ("__debug__" : Str)) = false := by decide) (hcd : (x == ("__classdict__" : Str)) = false := by decide) : VE X w (.Subscript (.Name x p) b pos) (dIxN i fb) := by
  refine PE.imp (pe_ix ix_seq (pe_var hN hv hd hcd) hb hp) fun σ H Q ⟨G, ρ, rel, h⟩ => ?_
  obtain ⟨v, s, h⟩ := Fn.slot rel h
  refine ⟨v, s, G, ρ, rel, h.imp fun G1 H1 ρ1 dy ⟨l, e, dv, r1, s1, h1⟩ y hy => ?_⟩
  obtain ⟨d, e', q⟩ := Fn.lift h1
  exact gIx_ok r1 dv hy e' fun v hv => q _ _ r1 Stp.refl v hv

/-! ### slices -/
def gSl : D → Option Int → Option Int → Option D
  | .list ds, lo, hi => some (.list ((ds.drop (HT.sIx ds.length 0 lo)).take (HT.sIx ds.length ds.length hi - HT.sIx ds.length 0 lo)))
  | .tuple ds, lo, hi => some (.tuple ((ds.drop (HT.sIx ds.length 0 lo)).take (HT.sIx ds.length ds.length hi - HT.sIx ds.length 0 lo)))
  | .str s, lo, hi => if s.length ≤ sizeLine then some (.str (cutS s lo hi)) else none
  | _, _, _ => none
def rSlA (K : PySem.W.Frag) : V → Option Int → Option Int → Hp → VK → Prop := fun x lo hi H Q => rSlL K x lo hi H Q ∨ L2.rSlA K x lo hi H Q ∨ rSlS x lo hi H Q
theorem sl_all : SlR X (rSlA X.K) := sl_list.or (sl_tupA.or sl_str)
theorem DRs.cut {K : PySem.W.Frag} {G : Hp} {vs : List V} {ds : List D} (h : DRs K G vs ds) (lo hi : Option Int) : DRs K G (cutV vs lo hi) ((ds.drop (HT.sIx ds.length 0 lo)).take (HT.sIx ds.length ds.length hi - HT.sIx ds.length 0 lo)) := by
  unfold cutV
  rw [h.length]
  exact (h.drop _).take _
theorem gSl_ok {K : PySem.W.Frag} {G H : Hp} {σ : L2.St} {ρ : En} {x : V} {dx d : D} {lo hi : Option Int} {Q : VK} (r : Rel K G H σ ρ) (hx : DV K G H x dx) (e : gSl dx lo hi = some d)
    (q : ∀ G' H', Rel K G' H' σ ρ → Stp G H σ ρ G' H' σ ρ → ∀ v, DR K G' v d → Q v H') : rSlA K x lo hi H Q := by
  cases dx with
  | list ds =>
    cases e
    obtain ⟨o, vs, rfl, h, hs⟩ := hx.list r
    exact .inl ⟨o, vs, rfl, h, hand_new r q (DR.newL r (hs.cut lo hi))⟩
  | tuple ds =>
    cases e
    obtain ⟨o, vs, rfl, h, hs⟩ := hx.tuple r
    refine .inr (.inl ⟨o, vs, rfl, h, fun hw => ?_, fun _ => hand_new r q (DR.newT r (hs.cut lo hi))⟩)
    rw [hs.length] at hw
    rw [hw.1, hw.2, Nat.sub_zero, List.drop_zero, List.take_length] at q
    cases hx with
    | im hx => exact q _ _ r Stp.refl _ hx
  | str s =>
    simp only [gSl] at e
    split at e
    · cases e
      have := hx.str
      subst this
      exact .inr (.inr ⟨s, rfl, ‹_›, q _ _ r Stp.refl _ (.str _)⟩)
    · cases e
  | _ => cases e
def oN : En → R (Option Int) := fun ρ => .ok none ρ
def asI : D → Option Int
  | .int i => some i
  | _ => none
def oI (f : En → R D) : En → R (Option Int) := fun ρ => (f ρ).bind fun d ρ1 => lift ((asI d).map some) ρ1
theorem vo_none : VO X w none oN := PO.imp po_none fun σ H Q ⟨G, ρ, rel, h⟩ => Fn.ok (show Fn X.K w G H σ ρ (.ok none ρ) (QO Q) from h) rel
theorem vo_some {e : Expr} {f : En → R D} (he : VE X w e f) : VO X w (some e) (oI f) :=
  PO.imp (po_some he) fun σ H Q ⟨G, ρ, rel, h⟩ => ⟨G, ρ, rel, (Fn.bind rel h).imp fun G1 H1 ρ1 d ⟨r1, s1, h1⟩ v hv => by
    obtain ⟨o, e', q⟩ := Fn.lift h1
    simp only [Option.map_eq_some_iff] at e'
    obtain ⟨i, ei, rfl⟩ := e'
    cases hv with
    | int j => cases ei; exact ⟨i, rfl, q _ _ r1 Stp.refl⟩
    | _ => cases ei⟩
def dPair {α β : Type} (f : En → R α) (g : En → R β) : En → R (α × β) := fun ρ => (f ρ).bind fun a ρ1 => (g ρ1).bind fun b ρ2 => .ok (a, b) ρ2
def dSl (fa : En → R D) (l u : En → R (Option Int)) : En → R D := fun ρ => (fa ρ).bind fun x ρ1 => (l ρ1).bind fun lo ρ2 => (u ρ2).bind fun hi ρ3 => lift (gSl x lo hi) ρ3
theorem ve_sl {lo hi : Option Expr} {l u : En → R (Option Int)} {p2 : Pos} (ha : VE X w a fa) (hl : VO X w lo l) (hu : VO X w hi u) : VE X w (.Subscript a (.Slice lo hi none p2) pos) (dSl fa l u) := by
  refine PE.imp (pe_slice sl_all ha hl hu) fun σ H Q ⟨G, ρ, rel, h⟩ => ⟨G, ρ, rel, (Fn.bind rel h).imp fun G1 H1 ρ1 dx ⟨r1, s1, h1⟩ x hx => ⟨G1, ρ1, r1, (Fn.bind r1 h1).imp fun G2 H2 ρ2 lo ⟨r2, s2, h2⟩ => ⟨G2, ρ2, r2, (Fn.bind r2 h2).imp fun G3 H3 ρ3 hi ⟨r3, s3, h3⟩ => ?_⟩⟩⟩
  obtain ⟨d, e, q⟩ := Fn.lift h3
  exact gSl_ok r3 (.im ((hx.mono s2.g).mono s3.g)) e q
def dSlN (i : Nat) (l u : En → R (Option Int)) : En → R D := atSlot i (dPair l u) fun x p ρ => lift (gSl x.toD p.1 p.2) ρ
theorem ve_slN (i : Nat) {x : Str} {p : Pos} {lo hi : Option Expr} {l u : En → R (Option Int)} {p2 : Pos} (hl : VO X w lo l) (hu : VO X w hi u) (hN : X.N[i]? = some x := by rfl) (hv : Vis X.env.scope x := by first | exact Or.inl rfl | exact Or.inr (Or.inl rfl) | exact Or.inr (Or.inr rfl))
    (hd : (x == ("__debug__" : Str)) = false := by decide) (hcd : (x == ("__classdict__" : Str)) = false := by decide) : VE X w (.Subscript (.Name x p) (.Slice lo hi none p2) pos) (dSlN i l u) := by
  refine PE.imp (pe_slice sl_all (pe_var hN hv hd hcd) hl hu) fun σ H Q ⟨G, ρ, rel, h⟩ => ?_
  obtain ⟨v, s, h⟩ := Fn.slot rel h
  refine ⟨v, s, G, ρ, rel, (Fn.bind rel h).imp fun G1 H1 ρ1 lo ⟨r1, s1, h1⟩ => ⟨G1, ρ1, r1, (Fn.bind r1 h1).imp fun G2 H2 ρ2 hi ⟨r2, s2, h2⟩ => ?_⟩⟩
  obtain ⟨L, e, dv, r3, s3, h3⟩ := h2.ok r2
  obtain ⟨d, e', q⟩ := Fn.lift h3
  exact gSl_ok r3 dv e' q

/-! ### arguments, displays -/
def aNil : En → R (List AV) := fun ρ => .ok [] ρ
def aIm (f : En → R D) (g : En → R (List AV)) : En → R (List AV) := fun ρ => (f ρ).bind fun d ρ1 => (g ρ1).bind fun as ρ2 => .ok (.im d :: as) ρ2
def aSl (i : Nat) (g : En → R (List AV)) : En → R (List AV) := fun ρ => match ρ[i]? with
  | some (some _) => (g ρ).bind fun as ρ2 => .ok (.sl i :: as) ρ2
  | _ => .no
theorem AVs.mono {K : PySem.W.Frag} {G G' : Hp} {σ : L2.St} (e : Same G G') : ∀ {vs : List V} {as : List AV}, AVs K G σ vs as → AVs K G' σ vs as
  | _, _, .nil => .nil
  | _, _, .im h t => .im (h.mono e) (AVs.mono e t)
  | _, _, .sl h t => .sl h (AVs.mono e t)
variable {e : Expr} {es : List Expr} {f : En → R D} {ga : En → R (List AV)}
theorem va_nil : VA X w [] aNil := PA.imp pa_nil fun σ H Q ⟨G, ρ, rel, h⟩ => Fn.ok (show Fn X.K w G H σ ρ (.ok [] ρ) (QA X.K σ Q) from h) rel _ .nil
theorem va_im (he : VE X w e f) (ht : VA X w es ga) (hs : starEach (e :: es) X.env = (false, eval e X.env) :: starEach es X.env := by rfl) : VA X w (e :: es) (aIm f ga) :=
  PA.imp (pa_cons he ht hs) fun σ H Q ⟨G, ρ, rel, h⟩ => ⟨G, ρ, rel, (Fn.bind rel h).imp fun G1 H1 ρ1 d ⟨r1, s1, h1⟩ v hv => ⟨G1, ρ1, r1, (Fn.bind r1 h1).imp fun G2 H2 ρ2 as ⟨r2, s2, h2⟩ vs hvs =>
    Fn.ok (show Fn X.K w G2 H2 σ ρ2 (.ok (AV.im d :: as) ρ2) (QA X.K σ Q) from h2) r2 _ (.im (hv.mono s2.g) hvs)⟩⟩
theorem va_sl (i : Nat) {x : Str} {p : Pos} (ht : VA X w es ga) (hN : X.N[i]? = some x := by rfl) (hv : Vis X.env.scope x := by first | exact Or.inl rfl | exact Or.inr (Or.inl rfl) | exact Or.inr (Or.inr rfl))
    (hd : (x == ("__debug__" : Str)) = false := by decide) (hcd : (x == ("__classdict__" : Str)) = false := by decide) (hs : starEach (.Name x p :: es) X.env = (false, eval (.Name x p) X.env) :: starEach es X.env := by rfl) : VA X w (.Name x p :: es) (aSl i ga) :=
  PA.imp (pa_cons (pe_var hN hv hd hcd) ht hs) fun σ H Q ⟨G, ρ, rel, h⟩ => by
    unfold aSl at h
    split at h
    · rename_i l el
      obtain ⟨v, s, _⟩ := rel.cell i _ el
      exact ⟨v, s, G, ρ, rel, (Fn.bind rel h).imp fun G2 H2 ρ2 as ⟨r2, s2, h2⟩ vs hvs => Fn.ok (show Fn X.K w G2 H2 σ ρ2 (.ok (AV.sl i :: as) ρ2) (QA X.K σ Q) from h2) r2 _ (.sl s hvs)⟩
    · exact h.elim
/-- all are values -/
def allIm : List AV → Option (List D)
  | [] => some []
  | .im d :: r => (allIm r).map (d :: ·)
  | .sl _ :: _ => none
theorem AVs.all {K : PySem.W.Frag} {G : Hp} {σ : L2.St} : ∀ {vs : List V} {as : List AV} {ds : List D}, AVs K G σ vs as → allIm as = some ds → DRs K G vs ds
  | _, _, _, .nil, e => by cases e; exact .nil
  | _, _, _, .im h t, e => by
    simp only [allIm, Option.map_eq_some_iff] at e
    obtain ⟨r, e, rfl⟩ := e
    exact .cons h (AVs.all t e)
  | _, _, _, .sl _ _, e => by cases e
def dAll (g : En → R (List AV)) : En → R (List D) := fun ρ => (g ρ).bind fun as ρ1 => lift (allIm as) ρ1
def dTup (g : En → R (List AV)) : En → R D := fun ρ => (dAll g ρ).bind fun ds ρ1 => if ds.length ≤ sizeLine then .ok (.tuple ds) ρ1 else .no
def dLst (g : En → R (List AV)) : En → R D := fun ρ => (dAll g ρ).bind fun ds ρ1 => if ds.length ≤ sizeLine then .ok (.list ds) ρ1 else .no
def nLst (g : En → R (List AV)) : En → R (List D) := fun ρ => (dAll g ρ).bind fun ds ρ1 => if ds.length ≤ sizeLine then .ok ds ρ1 else .no
theorem Fn.all {α : Type} {K : PySem.W.Frag} {G H : Hp} {σ : L2.St} {ρ : En} {g : List D → En → R α} {P : Hp → Hp → En → α → Prop} (rel : Rel K G H σ ρ) (h : Fn K w G H σ ρ ((dAll ga ρ).bind g) P) :
    Fn K w G H σ ρ (ga ρ) (fun G1 H1 ρ1 as => Rel K G1 H1 σ ρ1 ∧ Stp G H σ ρ G1 H1 σ ρ1 ∧ ∃ ds, allIm as = some ds ∧ Fn K w G1 H1 σ ρ1 (g ds ρ1) P) := by
  have h' : Fn K w G H σ ρ ((ga ρ).bind fun as ρ1 => (Dn.lift (allIm as) ρ1 : R (List D)).bind g) P := by
    have : (dAll ga ρ).bind g = (ga ρ).bind fun as ρ1 => (Dn.lift (allIm as) ρ1 : R (List D)).bind g := by
      unfold dAll
      cases ga ρ <;> rfl
    rw [← this]; exact h
  refine (Fn.bind rel h').imp fun G1 H1 ρ1 as ⟨r1, s1, h1⟩ => ⟨r1, s1, ?_⟩
  cases q : allIm as with
  | none => rw [q] at h1; exact h1.elim
  | some ds => rw [q] at h1; exact ⟨ds, rfl, h1⟩
theorem ve_tup {k : Nat} (h : VA X w es ga) : VE X w (.Tuple es k pos) (dTup ga) :=
  PE.imp (pe_tup h) fun σ H Q ⟨G, ρ, rel, h⟩ => ⟨G, ρ, rel, (Fn.all rel h).imp fun G1 H1 ρ1 as ⟨r1, s1, ds, e, h1⟩ vs hvs => by
    have hd := hvs.all e
    split at h1
    · exact ⟨by rw [hd.length]; assumption, hand_new r1 h1 (DR.newT r1 hd)⟩
    · exact h1.elim⟩
theorem ve_lst (h : VA X w es ga) : VE X w (.List es pos) (dLst ga) :=
  PE.imp (pe_lst h) fun σ H Q ⟨G, ρ, rel, h⟩ => ⟨G, ρ, rel, (Fn.all rel h).imp fun G1 H1 ρ1 as ⟨r1, s1, ds, e, h1⟩ vs hvs => by
    have hd := hvs.all e
    split at h1
    · exact ⟨by rw [hd.length]; assumption, hand_new r1 h1 (DR.newL r1 hd)⟩
    · exact h1.elim⟩
theorem NewL.of {K : PySem.W.Frag} {G H G1 H1 : Hp} {σ : L2.St} {ρ ρ1 : En} {p : Addr} {vs : List V} {ds : List D} (rel : Rel K G H σ ρ) (r1 : Rel K G1 H1 σ ρ1) (s1 : Stp G H σ ρ G1 H1 σ ρ1) (hp : H1 p = none) (hd : DRs K G1 vs ds) :
    NewL K H σ G1 (upd H1 p (.lst vs)) ρ1 p ds := by
  refine ⟨Same.free r1.sub hp, fun ho => ?_, ⟨vs, upd_same, hd⟩, ?_⟩
  · exact not_own r1 hp ((own_upd r1 hp p).mp ho)
  · cases q : H p with
    | none => rfl
    | some o => exact absurd hp (s1.tr p (by rw [q]; exact fun z => nomatch z))
theorem vn_lst (h : VA X w es ga) : VN X w (.List es pos) (nLst ga) :=
  PE.imp (pe_lst h) fun σ H Q ⟨G, ρ, rel, h⟩ => ⟨G, ρ, rel, (Fn.all rel h).imp fun G1 H1 ρ1 as ⟨r1, s1, ds, e, h1⟩ vs hvs => by
    have hd := hvs.all e
    split at h1
    · refine ⟨by rw [hd.length]; assumption, fun p hp => ?_⟩
      obtain ⟨r2, s2⟩ := r1.laidM (o := .lst vs) hp
      exact h1 _ _ r2 s2 p (NewL.of rel r1 s1 hp hd)
    · exact h1.elim⟩
end
end Dn
namespace Dn
open PySem PySem.Spec PyProof.Rows L2

/-! ### calls of what is built in -/
def CallS (K : PySem.W.Frag) (r : List V → Hp → VK → Prop) (g : List D → Option D) : Prop :=
  ∀ (vs : List V) (ds : List D) (d : D) (G H : Hp) (σ : L2.St) (ρ : En) (Q : VK), Rel K G H σ ρ → DRs K G vs ds → g ds = some d →
    (∀ G' H', Rel K G' H' σ ρ → Stp G H σ ρ G' H' σ ρ → ∀ v, DR K G' v d → Q v H') → r vs H Q
def dCall (g : List D → Option D) (ga : En → R (List AV)) : En → R D := fun ρ => (dAll ga ρ).bind fun ds ρ1 => lift (g ds) ρ1
section
variable {X : Cx} {w : Wh} {x : Str} {p pos : Pos} {e : Expr} {es : List Expr} {ga : En → R (List AV)} {id T : String} {r : List V → Hp → VK → Prop} {g : List D → Option D}
theorem CallS.run {K : PySem.W.Frag} (hs : CallS K r g) {G H : Hp} {σ : L2.St} {ρ : En} {Q : VK} (rel : Rel K G H σ ρ) (h : Fn K w G H σ ρ (dCall g ga ρ) (QD K Q)) :
    Fn K w G H σ ρ (ga ρ) (QA K σ fun vs H1 => r vs H1 Q) := (Fn.all rel h).imp fun G1 H1 ρ1 as ⟨r1, s1, ds, e, h1⟩ vs hvs => by
  obtain ⟨d, e', q⟩ := Fn.lift h1
  exact hs vs ds d G1 H1 σ ρ1 Q r1 (hvs.all e) e' q
theorem ve_cB (hc : CallR X (.builtin id) r) (hs : CallS X.K r g) (hg : Gl X x) (hm : X.mg x = none) (hv : bootBuiltins x = some (.builtin id)) (ha : VA X w (e :: es) ga) (hn : x ≠ "__name__" := by decide) (hdb : (x == ("__debug__" : Str)) = false := by decide)
    (he : starEach (e :: es) X.env = (false, eval e X.env) :: starEach es X.env := by rfl) (hpl : (backTo pos (starEach es X.env)).any (·.1) = false := by rfl) : VE X w (.Call (.Name x p) (e :: es) [] pos) (dCall g ga) :=
  PE.imp (pe_callB hc hg hm hv ha hn hdb he hpl) fun σ H Q ⟨G, ρ, rel, h⟩ => ⟨G, ρ, rel, hs.run rel h⟩
theorem ve_cT (hc : CallR X (.type T) r) (hs : CallS X.K r g) (hg : Gl X x) (hm : X.mg x = none) (hv : bootBuiltins x = some (.type T)) (ha : VA X w (e :: es) ga) (hn : x ≠ "__name__" := by decide) (hdb : (x == ("__debug__" : Str)) = false := by decide)
    (he : starEach (e :: es) X.env = (false, eval e X.env) :: starEach es X.env := by rfl) (hpl : (backTo pos (starEach es X.env)).any (·.1) = false := by rfl) : VE X w (.Call (.Name x p) (e :: es) [] pos) (dCall g ga) :=
  PE.imp (pe_callTy hc hg hm hv ha hn hdb he hpl) fun σ H Q ⟨G, ρ, rel, h⟩ => ⟨G, ρ, rel, hs.run rel h⟩

/-! #### len -/
def gLen1 : D → Option D
  | .str s => if s.length ≤ sizeLine then some (.int s.length) else none
  | .list l => some (.int l.length)
  | .tuple l => some (.int l.length)
  | _ => none
def gLen : List D → Option D
  | [d] => gLen1 d
  | _ => none
abbrev rLen (K : PySem.W.Frag) : List V → Hp → VK → Prop := fun xs H Q => ∃ x n, xs = [x] ∧ LenV K x H n ∧ Q (.int n) H
theorem gLen_ok {K : PySem.W.Frag} {G H : Hp} {σ : L2.St} {ρ : En} {v : V} {d d' : D} {Q : VK} (r : Rel K G H σ ρ) (hv : DV K G H v d) (e : gLen1 d = some d') (q : ∀ v, DR K G v d' → Q v H) : rLen K [v] H Q := by
  cases d with
  | str s =>
    have := hv.str
    subst this
    simp only [gLen1] at e
    split at e
    · cases e; exact ⟨_, s.length, rfl, ⟨‹_›, rfl⟩, q _ (.int _)⟩
    · cases e
  | list l =>
    cases e
    obtain ⟨o, vs, rfl, h, hs⟩ := hv.list r
    exact ⟨_, l.length, rfl, .inl ⟨vs, h, hs.length.symm⟩, q _ (.int _)⟩
  | tuple l =>
    cases e
    obtain ⟨o, vs, rfl, h, hs⟩ := hv.tuple r
    exact ⟨_, l.length, rfl, .inr ⟨vs, h, hs.length.symm⟩, q _ (.int _)⟩
  | _ => cases e
theorem cs_len {K : PySem.W.Frag} : CallS K (rLen K) gLen := fun vs ds d G H σ ρ Q r h e q => by
  cases h with
  | nil => cases e
  | cons h1 t =>
    cases t with
    | nil => exact gLen_ok r (.im h1) e (q _ _ r Stp.refl)
    | cons _ _ => cases e
theorem ve_len (hg : Gl X "len") (hm : X.mg "len" = none) (ha : VA X w (e :: es) ga) (he : starEach (e :: es) X.env = (false, eval e X.env) :: starEach es X.env := by rfl) (hpl : (backTo pos (starEach es X.env)).any (·.1) = false := by rfl) :
    VE X w (.Call (.Name "len" p) (e :: es) [] pos) (dCall gLen ga) := ve_cB call_len cs_len hg hm PySem.boot_len ha (by decide) (by decide) he hpl
def dLenN (i : Nat) : En → R D := atSlot i (fun ρ => .ok () ρ) fun l _ ρ => lift (gLen1 l.toD) ρ
theorem ve_lenN (i : Nat) {y : Str} {p2 : Pos} (hg : Gl X "len") (hm : X.mg "len" = none) (hN : X.N[i]? = some y := by rfl) (hv : Vis X.env.scope y := by first | exact Or.inl rfl | exact Or.inr (Or.inl rfl) | exact Or.inr (Or.inr rfl))
    (hd : (y == ("__debug__" : Str)) = false := by decide) (hcd : (y == ("__classdict__" : Str)) = false := by decide)
    (he : starEach [Expr.Name y p2] X.env = [(false, eval (.Name y p2) X.env)] := by rfl) : VE X w (.Call (.Name "len" p) [.Name y p2] [] pos) (dLenN i) := by
  refine PE.imp (pe_callB call_len hg hm PySem.boot_len (pa_cons (pe_var hN hv hd hcd) pa_nil (by rw [he]; rfl)) (by decide) (by decide) (by rw [he]; rfl) (by rfl)) fun σ H Q ⟨G, ρ, rel, h⟩ => ?_
  obtain ⟨v, s, h⟩ := Fn.slot rel h
  obtain ⟨l, e, dv, r1, s1, h1⟩ := h.ok rel
  obtain ⟨d, e', q⟩ := Fn.lift h1
  exact ⟨v, s, gLen_ok r1 dv e' (q _ _ r1 Stp.refl)⟩

/-! #### ints -/
def gAbs : List D → Option D
  | [.int i] => some (.int (if i < 0 then -i else i))
  | _ => none
def gInt : List D → Option D
  | [.int i] => some (.int i)
  | [.bool k] => some (.int (if k then 1 else 0))
  | [.str s] => if s.length ≤ 640 then (PySem.intText? s).map .int else none
  | _ => none
def gStr : List D → Option D
  | [.int i] => if i.natAbs.log2 < 1920 then some (.str (toString i)) else none
  | _ => none
def gMax2 : List D → Option D
  | [.int i, .int j] => some (.int (if j > i then j else i))
  | _ => none
def gMin2 : List D → Option D
  | [.int i, .int j] => some (.int (if j < i then j else i))
  | _ => none
theorem cs1 {K : PySem.W.Frag} {r : List V → Hp → VK → Prop} {g : List D → Option D} (hg : ∀ ds d, g ds = some d → ∃ x, ds = [x])
    (h : ∀ v x d G H σ ρ Q, Rel K G H σ ρ → DR K G v x → g [x] = some d → (∀ v, DR K G v d → Q v H) → r [v] H Q) : CallS K r g := fun vs ds d G H σ ρ Q rel hv e q => by
  obtain ⟨x, rfl⟩ := hg _ _ e
  cases hv with
  | cons h1 t =>
    cases t
    exact h _ x d G H σ ρ Q rel h1 e (q _ _ rel Stp.refl)
theorem cs2 {K : PySem.W.Frag} {r : List V → Hp → VK → Prop} {g : List D → Option D} (hg : ∀ ds d, g ds = some d → ∃ x y, ds = [x, y])
    (h : ∀ v u x y d G H σ ρ Q, Rel K G H σ ρ → DR K G v x → DR K G u y → g [x, y] = some d → (∀ v, DR K G v d → Q v H) → r [v, u] H Q) : CallS K r g := fun vs ds d G H σ ρ Q rel hv e q => by
  obtain ⟨x, y, rfl⟩ := hg _ _ e
  cases hv with
  | cons h1 t =>
    cases t with
    | cons h2 t => cases t; exact h _ _ x y d G H σ ρ Q rel h1 h2 e (q _ _ rel Stp.refl)
theorem cs_abs {K : PySem.W.Frag} : CallS K (fun xs H Q => ∃ i, xs = [.int i] ∧ Q (.int (if i < 0 then -i else i)) H) gAbs :=
  cs1 (fun ds d e => by rcases ds with _ | ⟨x, _ | ⟨y, t⟩⟩ <;> first | exact ⟨_, rfl⟩ | (cases e; done) | (cases x <;> cases e)) fun v x d G H σ ρ Q rel h e q => by
    cases h with
    | int i => cases e; exact ⟨i, rfl, q _ (.int _)⟩
    | _ => cases e
theorem cs_max2 {K : PySem.W.Frag} : CallS K (fun xs H Q => ∃ i j, xs = [.int i, .int j] ∧ Q (.int (if j > i then j else i)) H) gMax2 :=
  cs2 (fun ds d e => by rcases ds with _ | ⟨x, _ | ⟨y, _ | ⟨z, t⟩⟩⟩ <;> first | exact ⟨_, _, rfl⟩ | (cases e; done) | (cases x <;> cases e; done) | (cases x <;> cases y <;> cases e)) fun v u x y d G H σ ρ Q rel h1 h2 e q => by
    cases h1 with
    | int i =>
      cases h2 with
      | int j => cases e; exact ⟨i, j, rfl, q _ (.int _)⟩
      | _ => cases e
    | _ => cases h2 <;> cases e
theorem cs_min2 {K : PySem.W.Frag} : CallS K (fun xs H Q => ∃ i j, xs = [.int i, .int j] ∧ Q (.int (if j < i then j else i)) H) gMin2 :=
  cs2 (fun ds d e => by rcases ds with _ | ⟨x, _ | ⟨y, _ | ⟨z, t⟩⟩⟩ <;> first | exact ⟨_, _, rfl⟩ | (cases e; done) | (cases x <;> cases e; done) | (cases x <;> cases y <;> cases e)) fun v u x y d G H σ ρ Q rel h1 h2 e q => by
    cases h1 with
    | int i =>
      cases h2 with
      | int j => cases e; exact ⟨i, j, rfl, q _ (.int _)⟩
      | _ => cases e
    | _ => cases h2 <;> cases e
abbrev rInt : List V → Hp → VK → Prop := fun xs H Q => ((∃ i, xs = [.int i] ∧ Q (.int i) H) ∨ ∃ k, xs = [.bl k] ∧ Q (.int (if k then 1 else 0)) H) ∨ (∃ a n, xs = [.str a] ∧ PySem.intText? a = some n ∧ a.length ≤ 640 ∧ Q (.int n) H)
theorem call_intA : CallR X (.type "int") rInt := call_int1.or call_int_str
theorem cs_int {K : PySem.W.Frag} : CallS K rInt gInt :=
  cs1 (fun ds d e => by rcases ds with _ | ⟨x, _ | ⟨y, t⟩⟩ <;> first | exact ⟨_, rfl⟩ | (cases e; done) | (cases x <;> cases e)) fun v x d G H σ ρ Q rel h e q => by
    cases h with
    | int i => cases e; exact .inl (.inl ⟨i, rfl, q _ (.int _)⟩)
    | bl k => cases e; exact .inl (.inr ⟨k, rfl, q _ (.int _)⟩)
    | str s =>
      simp only [gInt] at e
      split at e
      · simp only [Option.map_eq_some_iff] at e
        obtain ⟨n, e, rfl⟩ := e
        exact .inr ⟨s, n, rfl, e, ‹_›, q _ (.int _)⟩
      · cases e
    | _ => cases e
theorem cs_str {K : PySem.W.Frag} : CallS K (fun xs H Q => ∃ i, xs = [.int i] ∧ i.natAbs.log2 < 1920 ∧ Q (.str (toString i)) H) gStr :=
  cs1 (fun ds d e => by rcases ds with _ | ⟨x, _ | ⟨y, t⟩⟩ <;> first | exact ⟨_, rfl⟩ | (cases e; done) | (cases x <;> cases e)) fun v x d G H σ ρ Q rel h e q => by
    cases h with
    | int i =>
      simp only [gStr] at e
      split at e
      · cases e; exact ⟨i, rfl, ‹_›, q _ (.str _)⟩
      · cases e
    | _ => cases e

/-! #### isinstance -/
def tyN : D → String
  | .none => "NoneType" | .bool _ => "bool" | .int _ => "int" | .str _ => "str" | .list _ => "list" | .tuple _ => "tuple" | .dict _ => "dict"
def isTy (t : String) : D → Bool
  | .none => t == "NoneType" | .bool _ => t == "bool" || t == "int" | .int _ => t == "int" | .str _ => t == "str" | .list _ => t == "list" | .tuple _ => t == "tuple" | .dict _ => t == "dict"
def dIsi (t : String) (f : En → R D) : En → R Bool := fun ρ => (f ρ).bind fun d ρ1 => .ok (isTy t d) ρ1
theorem DR.ty {K : PySem.W.Frag} {H : Hp} {v : V} {d : D} (h : DR K H v d) : TyX K H v (.type (tyN d)) := by
  cases h with
  | non => exact .base .non
  | bl b => exact .base (.bl b)
  | int i => exact .base (.int i)
  | str s => exact .base (.str s)
  | lst h hs =>
    rcases h with (h | ⟨o, h⟩) | ⟨o, its, n, hk, hc, _⟩
    · exact .base (.lst h)
    · exact .base (.frz h)
    · exact .kList hk hc
  | tup h hs =>
    rcases h with (h | ⟨o, h⟩) | ⟨o, its, n, hk, hc, _⟩
    · exact .base (.tup h)
    · exact .fTuple h
    · exact .kTuple hk hc
  | dic h hs => exact .base (.dK h)
def tyOk (t : String) : Bool := t == "NoneType" || t == "bool" || t == "int" || t == "str" || t == "list" || t == "tuple" || t == "dict"
def isTyS (t n : String) : Bool := t == n || (n == "bool" && t == "int")
theorem isTy_S (t : String) (d : D) : isTy t d = isTyS t (tyN d) := by
  cases d <;> simp [isTy, isTyS, tyN]
theorem isTy_kit {t : String} (ht : tyOk t = true) (d : D) : kitB (tyN d) t = some (isTy t d) := by
  have h : t = "NoneType" ∨ t = "bool" ∨ t = "int" ∨ t = "str" ∨ t = "list" ∨ t = "tuple" ∨ t = "dict" := by
    simpa [tyOk, or_assoc] using ht
  have hn : tyN d = "NoneType" ∨ tyN d = "bool" ∨ tyN d = "int" ∨ tyN d = "str" ∨ tyN d = "list" ∨ tyN d = "tuple" ∨ tyN d = "dict" := by
    cases d <;> simp [tyN]
  rw [isTy_S]
  generalize tyN d = n at hn
  rcases h with rfl | rfl | rfl | rfl | rfl | rfl | rfl <;> rcases hn with rfl | rfl | rfl | rfl | rfl | rfl | rfl <;> decide +kernel
theorem ve_isi {a : Expr} {f : En → R D} {y : Str} {t : String} {p2 : Pos} (hg : Gl X "isinstance") (hm : X.mg "isinstance" = none) (ha : VE X w a f) (hgy : Gl X y) (hmy : X.mg y = none) (hvy : bootBuiltins y = some (.type t)) (ht : tyOk t = true := by rfl)
    (hn : y ≠ "__name__" := by decide) (hdy : (y == ("__debug__" : Str)) = false := by decide)
    (he : starEach [a, Expr.Name y p2] X.env = [(false, eval a X.env), (false, eval (.Name y p2) X.env)] := by rfl)
    (he2 : starEach [Expr.Name y p2] X.env = [(false, eval (.Name y p2) X.env)] := by rfl) :
    VE X w (.Call (.Name "isinstance" p) [a, .Name y p2] [] pos) (dB (dIsi t f)) := by
  refine PE.imp (pe_callB call_isi hg hm (by decide +kernel) (pa_cons ha (pa_cons (pe_bltn (v := .ty t) hgy hmy hvy rfl hn hdy) pa_nil (by rw [he2]; rfl)) (by rw [he, he2])) (by decide) (by decide) (by rw [he, he2]) (by rw [he2]; rfl)) fun σ H Q ⟨G, ρ, rel, h⟩ => ?_
  refine ⟨G, ρ, rel, (Fn.bind rel (Fn.dB rel h)).imp fun G1 H1 ρ1 d ⟨r1, s1, h1⟩ v hv => ?_⟩
  exact ⟨v, .ty t, _, _, _, rfl, .ty t, (hv.mono r1.sub).ty, kit_ty (isTy_kit ht d), (h1.ok r1).2.2⟩
end
end Dn
namespace Dn
open PySem PySem.Spec PyProof.Rows L2

/-! ### statements -/
inductive Fl where
  | nx | bk | ct
  | rt (d : D)
  | rl (ds : List D)
/-- a list that is handed out, nobody else's -/
structure OutL (K : PySem.W.Frag) (G H : Hp) (σ : L2.St) (ρ : En) (G' H' : Hp) (σ' : L2.St) (ρ' : En) (p : Addr) (ds : List D) : Prop where
  g : G' p = none
  own : ¬ Own H' σ' ρ' p
  here : ∃ vs, H' p = some (.lst vs) ∧ DRs K G' vs ds
  new : H p = none ∨ ∃ (i : Nat) (l : L) (v : V), ρ[i]? = some (some l) ∧ l.own = true ∧ σ[i]? = some (some v) ∧ Fo H l v p
def FnS (K : PySem.W.Frag) (w : Wh) (G H : Hp) (σ : L2.St) (ρ : En) (r : R Fl) (D : Ends) : Prop :=
  match r with
  | .no => False
  | .ok .nx ρ' => ∀ G' H' σ', Rel K G' H' σ' ρ' → Stp G H σ ρ G' H' σ' ρ' → D.nx σ' H'
  | .ok .bk ρ' => ∀ G' H' σ', Rel K G' H' σ' ρ' → Stp G H σ ρ G' H' σ' ρ' → D.bk σ' H'
  | .ok .ct ρ' => ∀ G' H' σ', Rel K G' H' σ' ρ' → Stp G H σ ρ G' H' σ' ρ' → D.ct σ' H'
  | .ok (.rt d) ρ' => ∀ G' H' σ' v, Rel K G' H' σ' ρ' → Stp G H σ ρ G' H' σ' ρ' → DR K G' v d → D.rt v H'
  | .ok (.rl ds) ρ' => ∀ G' H' σ' p, Rel K G' H' σ' ρ' → Stp G H σ ρ G' H' σ' ρ' → OutL K G H σ ρ G' H' σ' ρ' p ds → D.rt (.ref p) H'
  | .ex c ρ' => ∀ G' H' σ' cls dx, Rel K G' H' σ' ρ' → Stp G H σ ρ G' H' σ' ρ' → ExR K w G' H' c cls dx → w.W cls dx σ' H'
abbrev tsS (K : PySem.W.Frag) (w : Wh) (f : En → R Fl) : TS := fun D σ H => ∃ G ρ, Rel K G H σ ρ ∧ FnS K w G H σ ρ (f ρ) D
abbrev VS (X : Cx) (w : Wh) (st : Stmt) (f : En → R Fl) : Prop := PS X st (tsS X.K w f)
abbrev VSs (X : Cx) (w : Wh) (sts : List Stmt) (f : En → R Fl) : Prop := PSs X sts (tsS X.K w f)

section
variable {K : PySem.W.Frag} {w : Wh} {G H G1 H1 G2 H2 : Hp} {σ σ1 σ2 : L2.St} {ρ ρ1 ρ2 : En}
/-- an own slot keeps being own and at its place, or goes; here: what is moved out of a later state was new or own before -/
theorem OutL.back (rel : Rel K G H σ ρ) (r1 : Rel K G1 H1 σ1 ρ1) (s1 : Stp G H σ ρ G1 H1 σ1 ρ1) {p : Addr} {ds : List D} (h : OutL K G1 H1 σ1 ρ1 G2 H2 σ2 ρ2 p ds) : OutL K G H σ ρ G2 H2 σ2 ρ2 p ds := by
  refine ⟨h.g, h.own, h.here, ?_⟩
  cases q : H p with
  | none => exact .inl rfl
  | some o =>
    rcases h.new with z | ⟨i, l1, v1, e, lo, s, f1⟩
    · exact absurd z (s1.tr p (by rw [q]; exact fun z => nomatch z))
    · rcases s1.ow p ⟨i, l1, v1, e, s, f1⟩ with ⟨j, l, v, ej, sj, fj⟩ | z
      · have key : ∀ l', ρ1[j]? = some (some l') → σ1[j]? = σ[j]? → Fo H1 l' v p → l' = l1 := fun l' e2 e1 f2 => by
          have := r1.apart i j _ _ _ v p e e2 s (e1.trans sj) f1 f2
          subst this
          rw [e] at e2; cases e2; rfl
        cases l with
        | im d => exact fj.elim
        | ow es' => exact .inr ⟨j, _, v, ej, rfl, sj, fj⟩
        | ot t => exact .inr ⟨j, _, v, ej, rfl, sj, fj⟩
        | bo es' =>
          obtain ⟨e1, ds', e2⟩ := s1.bo j es' ej
          have := key _ e2 e1 fj
          subst this
          cases lo
        | bt t =>
          obtain ⟨e1, t', e2, f2⟩ := s1.bt j t ej
          have := key _ e2 e1 (f2 v p sj fj)
          subst this
          cases lo
      · rw [q] at z; cases z
/-- behind a first step -/
theorem FnS.after (rel : Rel K G H σ ρ) (r1 : Rel K G1 H1 σ1 ρ1) (s1 : Stp G H σ ρ G1 H1 σ1 ρ1) {r : R Fl} {D : Ends} (h : FnS K w G H σ ρ r D) : FnS K w G1 H1 σ1 ρ1 r D := by
  cases r with
  | no => exact h
  | ex c ρ' => exact fun G' H' σ' cls dx r2 s2 => h G' H' σ' cls dx r2 (s1.trans rel s2)
  | ok f ρ' =>
    cases f with
    | nx => exact fun G' H' σ' r2 s2 => h G' H' σ' r2 (s1.trans rel s2)
    | bk => exact fun G' H' σ' r2 s2 => h G' H' σ' r2 (s1.trans rel s2)
    | ct => exact fun G' H' σ' r2 s2 => h G' H' σ' r2 (s1.trans rel s2)
    | rt d => exact fun G' H' σ' v r2 s2 => h G' H' σ' v r2 (s1.trans rel s2)
    | rl ds => exact fun G' H' σ' p r2 s2 ho => h G' H' σ' p r2 (s1.trans rel s2) (ho.back rel r1 s1)
/-- first an expression -/
theorem FnS.bind {α : Type} {r : R α} {g : α → En → R Fl} {D : Ends} (rel : Rel K G H σ ρ) (h : FnS K w G H σ ρ (r.bind g) D) :
    Fn K w G H σ ρ r (fun G1 H1 ρ1 a => Rel K G1 H1 σ ρ1 ∧ Stp G H σ ρ G1 H1 σ ρ1 ∧ FnS K w G1 H1 σ ρ1 (g a ρ1) D) := by
  cases r with
  | no => exact h
  | ex c ρ' => exact fun G' H' cls dx r1 s1 x => h G' H' σ cls dx r1 s1 x
  | ok a ρ' => exact fun G1 H1 r1 s1 => ⟨r1, s1, FnS.after rel r1 s1 (show FnS K w G H σ ρ (g a ρ') D from h)⟩
theorem FnS.lift {α : Type} {o : Option α} {g : α → R Fl} {D : Ends} (h : FnS K w G H σ ρ (match o with | some a => g a | none => .no) D) : ∃ a, o = some a ∧ FnS K w G H σ ρ (g a) D := by
  cases o with
  | none => exact h.elim
  | some a => exact ⟨a, rfl, h⟩
theorem FnS.nx {D : Ends} (h : FnS K w G H σ ρ (.ok .nx ρ1) D) {σ' : L2.St} (r : Rel K G1 H1 σ' ρ1) (s : Stp G H σ ρ G1 H1 σ' ρ1) : D.nx σ' H1 := h _ _ _ r s
/-- a block's first statement -/
theorem FnS.seq {f g : En → R Fl} {D : Ends} (rel : Rel K G H σ ρ) (h : FnS K w G H σ ρ ((f ρ).bind fun fl ρ1 => match fl with | .nx => g ρ1 | fl => .ok fl ρ1) D) :
    FnS K w G H σ ρ (f ρ) { D with nx := fun σ1 H1 => ∃ G1 ρ1, Rel K G1 H1 σ1 ρ1 ∧ FnS K w G1 H1 σ1 ρ1 (g ρ1) D } := by
  cases q : f ρ with
  | no => rw [q] at h; exact h
  | ex c ρ' => rw [q] at h; exact h
  | ok fl ρ' =>
    rw [q] at h
    cases fl with
    | nx => exact fun G1 H1 σ1 r1 s1 => ⟨G1, ρ', r1, FnS.after rel r1 s1 (show FnS K w G H σ ρ (g ρ') D from h)⟩
    | bk => exact h
    | ct => exact h
    | rt d => exact h
    | rl ds => exact h
end
def dSeq (f g : En → R Fl) : En → R Fl := fun ρ => (f ρ).bind fun fl ρ1 => match fl with
  | .nx => g ρ1
  | fl => .ok fl ρ1
def dNx : En → R Fl := fun ρ => .ok .nx ρ
def dBk : En → R Fl := fun ρ => .ok .bk ρ
def dCt : En → R Fl := fun ρ => .ok .ct ρ
def dRet (f : En → R D) : En → R Fl := fun ρ => (f ρ).bind fun d ρ1 => .ok (.rt d) ρ1
def dRetL (f : En → R (List D)) : En → R Fl := fun ρ => (f ρ).bind fun d ρ1 => .ok (.rl d) ρ1
def dDrop (f : En → R D) : En → R Fl := fun ρ => (f ρ).bind fun _ ρ1 => .ok .nx ρ1
def dIf (c : En → R Bool) (f g : En → R Fl) : En → R Fl := fun ρ => (c ρ).bind fun b ρ1 => if b = true then f ρ1 else g ρ1
section
variable {X : Cx} {w : Wh} {st : Stmt} {rest : List Stmt} {f g : En → R Fl} {pos : Pos} {e : Expr} {fe : En → R D}
theorem vss_nil : VSs X w [] dNx := PSs.imp pss_nil fun D σ H ⟨G, ρ, rel, h⟩ => FnS.nx (show FnS X.K w G H σ ρ (.ok .nx ρ) D from h) rel Stp.refl
theorem vss_cons (h1 : VS X w st f) (h2 : VSs X w rest g) : VSs X w (st :: rest) (dSeq f g) := PSs.imp (pss_cons h1 h2) fun D σ H ⟨G, ρ, rel, h⟩ => ⟨G, ρ, rel, FnS.seq rel h⟩
theorem vss_one (h1 : VS X w st f) : VSs X w [st] f := pss_one h1
theorem vs_pass : VS X w (.Pass pos) dNx := PS.imp ps_pass fun D σ H ⟨G, ρ, rel, h⟩ => FnS.nx (show FnS X.K w G H σ ρ (.ok .nx ρ) D from h) rel Stp.refl
theorem vs_break : VS X w (.Break pos) dBk := PS.imp ps_break fun D σ H ⟨G, ρ, rel, h⟩ => (show FnS X.K w G H σ ρ (.ok .bk ρ) D from h) _ _ _ rel Stp.refl
theorem vs_cont : VS X w (.Continue pos) dCt := PS.imp ps_continue fun D σ H ⟨G, ρ, rel, h⟩ => (show FnS X.K w G H σ ρ (.ok .ct ρ) D from h) _ _ _ rel Stp.refl
theorem vs_ret (he : VE X w e fe) : VS X w (.Return (some e) pos) (dRet fe) := PS.imp (ps_ret he) fun D σ H ⟨G, ρ, rel, h⟩ => ⟨G, ρ, rel, (FnS.bind rel h).imp fun G1 H1 ρ1 d ⟨r1, s1, h1⟩ v hv =>
  (show FnS X.K w G1 H1 σ ρ1 (.ok (.rt d) ρ1) D from h1) _ _ _ _ r1 Stp.refl hv⟩
theorem vs_retN : VS X w (.Return none pos) (dRet (dC .none)) := PS.imp ps_retN fun D σ H ⟨G, ρ, rel, h⟩ => (show FnS X.K w G H σ ρ (.ok (.rt .none) ρ) D from h) _ _ _ _ rel Stp.refl .non
theorem vs_expr (he : VE X w e fe) (hs : swapsWith e none pos.line X.env = pure false := by rfl) : VS X w (.Expr e pos) (dDrop fe) := PS.imp (ps_expr he hs) fun D σ H ⟨G, ρ, rel, h⟩ => ⟨G, ρ, rel, (FnS.bind rel h).imp fun G1 H1 ρ1 d ⟨r1, s1, h1⟩ v hv =>
  FnS.nx (show FnS X.K w G1 H1 σ ρ1 (.ok .nx ρ1) D from h1) r1 Stp.refl⟩
theorem vs_if {c : Expr} {a b : List Stmt} {gc : En → R Bool} (hc : VT X w c gc) (ha : VSs X w a f) (hb : VSs X w b g) : VS X w (.If c a b pos) (dIf gc f g) := PS.imp (ps_if hc ha hb) fun D σ H ⟨G, ρ, rel, h⟩ => ⟨G, ρ, rel, (FnS.bind rel h).imp fun G1 H1 ρ1 b ⟨r1, s1, h1⟩ => by
  cases b with
  | true => exact iteT ⟨G1, ρ1, r1, h1⟩
  | false => exact iteF ⟨G1, ρ1, r1, h1⟩⟩
theorem vs_retL {fl : En → R (List D)} (he : VN X w e fl) : VS X w (.Return (some e) pos) (dRetL fl) := PS.imp (ps_ret he) fun D σ H ⟨G, ρ, rel, h⟩ => ⟨G, ρ, rel, by
  unfold dRetL at h
  cases q : fl ρ with
  | no => rw [q] at h; exact h
  | ex c ρ' => rw [q] at h; exact fun G' H' cls dx r1 s1 x => h G' H' σ cls dx r1 s1 x
  | ok ds ρ' =>
    rw [q] at h
    exact fun G1 H1 r1 s1 p n => h G1 H1 σ p r1 s1 ⟨n.g, n.own, n.here, .inl n.new⟩⟩
end

/-! ### stores into slots -/
section
variable {K : PySem.W.Frag} {G H : Hp} {σ : L2.St} {ρ : En}
theorem set_same {α : Type} {l : List α} {i : Nat} {a b : α} (h : l[i]? = some b) : (l.set i a)[i]? = some a := List.getElem?_set_self (List.getElem?_eq_some_iff.mp h).1
/-- the slot i takes a datum -/
theorem Rel.put (r : Rel K G H σ ρ) {i : Nat} {c : Option L} (hi : ρ[i]? = some c) (hb : ∀ ds, c ≠ some (L.bo ds)) (ht : ∀ t, c ≠ some (L.bt t)) {v : V} {d : D} (hv : DR K G v d) :
    Rel K G H (σ.set i (some v)) (ρ.set i (some (.im d))) ∧ Stp G H σ ρ G H (σ.set i (some v)) (ρ.set i (some (.im d))) := by
  obtain ⟨r', ow⟩ := r.set1 (G' := G) (H' := H) (v' := v) (l' := .im d) hi (Same.refl _) r.sub (fun a h => (r.own h.own).1) (fun a _ => rfl) hv (fun a f => f.elim)
  refine ⟨r', ⟨Same.refl _, fun _ _ h _ => h, fun _ h => .inl h, fun a h => .inl ?_, fun _ h => h, by rw [List.length_set], fun j ds e => ?_, fun j t e => ?_⟩⟩
  · rcases ow a h with z | z
    · exact z.own
    · exact z.elim
  · have hj : j ≠ i := fun z => by subst z; rw [hi] at e; exact hb ds (Option.some.inj e)
    exact ⟨List.getElem?_set_ne (Ne.symm hj), ds, by rw [List.getElem?_set_ne (Ne.symm hj)]; exact e⟩
  · have hj : j ≠ i := fun z => by subst z; rw [hi] at e; exact ht t (Option.some.inj e)
    exact ⟨List.getElem?_set_ne (Ne.symm hj), t, by rw [List.getElem?_set_ne (Ne.symm hj)]; exact e, fun _ _ _ f => f⟩
/-- the slot i takes a new list of its own -/
theorem Rel.putL (r : Rel K G H σ ρ) {i : Nat} {c : Option L} (hi : ρ[i]? = some c) {p : Addr} {ds : List D} (hg : G p = none) (ho : ¬ Own H σ ρ p) (hh : ∃ vs, H p = some (.lst vs) ∧ DRs K G vs ds) :
    Rel K G H (σ.set i (some (.ref p))) (ρ.set i (some (.ow ds))) ∧ ∀ a, Own H (σ.set i (some (.ref p))) (ρ.set i (some (.ow ds))) a → Own H σ ρ a ∨ a = p := by
  obtain ⟨vs, hp, hd⟩ := hh
  obtain ⟨r', ow⟩ := r.set1 (G' := G) (H' := H) (v' := .ref p) (l' := .ow ds) hi (Same.refl _) r.sub (fun a h => (r.own h.own).1) (fun a _ => rfl) ⟨p, vs, rfl, hg, hp, hd⟩ (fun a f z => by
    cases (show V.ref p = V.ref a from f); exact ho z.own)
  refine ⟨r', fun a h => ?_⟩
  rcases ow a h with z | z
  · exact .inl z.own
  · cases (show V.ref p = V.ref a from z); exact .inr rfl
theorem Stp.putL {G0 H0 : Hp} {σ0 : L2.St} {ρ0 : En} (s : Stp G0 H0 σ0 ρ0 G H σ ρ) (r : Rel K G H σ ρ) {i : Nat} {c : Option L} (hi : ρ[i]? = some c) (hb : ∀ ds, c ≠ some (L.bo ds)) (ht : ∀ t, c ≠ some (L.bt t)) {p : Addr} {ds : List D} (hg : G p = none) (ho : ¬ Own H σ ρ p) (hh : ∃ vs, H p = some (.lst vs) ∧ DRs K G vs ds) (hn : H0 p = none) :
    Stp G0 H0 σ0 ρ0 G H (σ.set i (some (.ref p))) (ρ.set i (some (.ow ds))) := by
  obtain ⟨_, ow⟩ := r.putL hi hg ho hh
  refine ⟨s.g, s.h, s.fr, fun a h => ?_, s.tr, by rw [List.length_set]; exact s.ln, fun j es e => ?_, fun j t e => ?_⟩
  · rcases ow a h with z | rfl
    · exact s.ow a z
    · exact .inr hn
  · obtain ⟨e1, ds', e2⟩ := s.bo j es e
    have hj : j ≠ i := fun z => by subst z; rw [hi] at e2; exact hb ds' (Option.some.inj e2)
    exact ⟨(List.getElem?_set_ne (Ne.symm hj)).trans e1, ds', by rw [List.getElem?_set_ne (Ne.symm hj)]; exact e2⟩
  · obtain ⟨e1, t', e2, f2⟩ := s.bt j t e
    have hj : j ≠ i := fun z => by subst z; rw [hi] at e2; exact ht t' (Option.some.inj e2)
    exact ⟨(List.getElem?_set_ne (Ne.symm hj)).trans e1, t', by rw [List.getElem?_set_ne (Ne.symm hj)]; exact e2, f2⟩
end
/-- no lent slot is stored into -/
def free (c : Option (Option L)) : Bool := match c with
  | none => false
  | some (some (.bo _)) => false
  | some (some (.bt _)) => false
  | _ => true
theorem free_ok {ρ : En} {i : Nat} (h : free ρ[i]? = true) : ∃ c, ρ[i]? = some c ∧ (∀ ds, c ≠ some (L.bo ds)) ∧ ∀ t, c ≠ some (L.bt t) := by
  cases q : ρ[i]? with
  | none => rw [q] at h; cases h
  | some c =>
    refine ⟨c, rfl, fun ds e => ?_, fun t e => ?_⟩
    · subst e; rw [q] at h; cases h
    · subst e; rw [q] at h; cases h
def putIm (i : Nat) (d : D) (ρ : En) : R Unit := if free ρ[i]? = true then .ok () (ρ.set i (some (.im d))) else .no
def putOw (i : Nat) (ds : List D) (ρ : En) : R Unit := if free ρ[i]? = true then .ok () (ρ.set i (some (.ow ds))) else .no
/-! targets -/
def FnG (K : PySem.W.Frag) (G H : Hp) (σ : L2.St) (ρ : En) (r : R Unit) (Q : L2.St → Hp → Prop) : Prop :=
  match r with
  | .ok _ ρ' => ∀ G' H' σ', Rel K G' H' σ' ρ' → Stp G H σ ρ G' H' σ' ρ' → Q σ' H'
  | _ => False
abbrev VG (X : Cx) (tg : Expr) (g : D → En → R Unit) : Prop := PG X tg (fun v σ H Q => ∃ G ρ d, Rel X.K G H σ ρ ∧ DR X.K G v d ∧ FnG X.K G H σ ρ (g d ρ) Q)
abbrev VGs (X : Cx) (tgs : List Expr) (g : List D → En → R Unit) : Prop := PGs X tgs (fun vs σ H Q => ∃ G ρ ds, Rel X.K G H σ ρ ∧ DRs X.K G vs ds ∧ FnG X.K G H σ ρ (g ds ρ) Q)
theorem PG.imp {X : Cx} {e : Expr} {t t' : TG} (h : PG X e t) (i : ∀ v σ H Q, t' v σ H Q → t v σ H Q) : PG X e t' := ⟨fun pins s σ H v u Q I r q => h.run pins s σ H v u Q I r (i _ _ _ _ q)⟩
theorem PGs.imp {X : Cx} {e : List Expr} {t t' : TGs} (h : PGs X e t) (i : ∀ v σ H Q, t' v σ H Q → t v σ H Q) : PGs X e t' := ⟨fun pins s σ H v u Q I r q => h.run pins s σ H v u Q I r (i _ _ _ _ q)⟩
def gsNil : List D → En → R Unit := fun ds ρ => match ds with
  | [] => .ok () ρ
  | _ => .no
def gsCons (g : D → En → R Unit) (h : List D → En → R Unit) : List D → En → R Unit := fun ds ρ => match ds with
  | d :: r => (g d ρ).bind fun _ ρ1 => h r ρ1
  | [] => .no
def gTupD (n : Nat) (h : List D → En → R Unit) : D → En → R Unit := fun d ρ => match d with
  | .tuple ds => if ds.length = n then h ds ρ else .no
  | .list ds => if ds.length = n then h ds ρ else .no
  | _ => .no
theorem pgOr {X : Cx} {e : Expr} {t t' : TG} (h : PG X e t) (h' : PG X e t') : PG X e (fun v σ H Q => t v σ H Q ∨ t' v σ H Q) :=
  ⟨fun pins s σ H v u Q I r q => q.elim (fun q => h.run pins s σ H v u Q I r q) (fun q => h'.run pins s σ H v u Q I r q)⟩
section
variable {X : Cx} {w : Wh} {x : Str} {pos p : Pos} {e : Expr} {es : List Expr} {fe : En → R D} {g : D → En → R Unit} {h : List D → En → R Unit}
theorem FnG.put {K : PySem.W.Frag} {G H : Hp} {σ : L2.St} {ρ : En} {i : Nat} {v : V} {d : D} {Q : L2.St → Hp → Prop} (rel : Rel K G H σ ρ) (hv : DR K G v d) (q : FnG K G H σ ρ (putIm i d ρ) Q) : Q (σ.set i (some v)) H := by
  unfold putIm at q
  split at q
  · rename_i hf
    obtain ⟨c, hc, hb, ht⟩ := free_ok hf
    obtain ⟨r1, s1⟩ := rel.put hc hb ht hv
    exact q _ _ _ r1 s1
  · exact q.elim
theorem vg_name (i : Nat) (hN : X.N.Nodup) (hi : X.N[i]? = some x := by rfl) (hx : Loc X.env.scope x := by first | exact Or.inl rfl | exact Or.inr rfl) (hf : X.fn x = true ∨ X.env.scope.names.lookup x = some .local := by first | exact .inl rfl | exact .inr rfl | assumption) : VG X (.Name x pos) (putIm i) :=
  PG.imp (pg_name hN hi hx hf) fun v σ H Q ⟨G, ρ, d, rel, hv, q⟩ => FnG.put rel hv q
theorem vgs_nil : VGs X [] gsNil := PGs.imp pgs_nil fun vs σ H Q ⟨G, ρ, ds, rel, hv, q⟩ => by
  cases hv with
  | nil => exact ⟨rfl, q _ _ _ rel Stp.refl⟩
  | cons _ _ => exact q.elim
theorem vgs_cons (h1 : VG X e g) (h2 : VGs X es h) (hs : (assignEach (e :: es) X.env).map (·.2) = assign e X.env :: (assignEach es X.env).map (·.2) := by rfl) : VGs X (e :: es) (gsCons g h) :=
  PGs.imp (pgs_cons h1 h2 hs) fun vs σ H Q ⟨G, ρ, ds, rel, hv, q⟩ => by
    cases hv with
    | nil => exact q.elim
    | @cons v vs d ds hv1 hvs =>
      have q' : FnG X.K G H σ ρ ((g d ρ).bind fun _ ρ1 => h ds ρ1) Q := q
      refine ⟨v, vs, rfl, G, ρ, d, rel, hv1, ?_⟩
      cases e1 : g d ρ with
      | no => rw [e1] at q'; exact q'
      | ex c ρ' => rw [e1] at q'; exact q'
      | ok u ρ' =>
        rw [e1] at q'
        intro G1 H1 σ1 r1 s1
        refine ⟨G1, ρ', ds, r1, hvs.mono s1.g, ?_⟩
        have q2 : FnG X.K G H σ ρ (h ds ρ') Q := q'
        cases e2 : h ds ρ' with
        | no => rw [e2] at q2; exact q2
        | ex c ρ'' => rw [e2] at q2; exact q2
        | ok u' ρ'' => rw [e2] at q2; exact fun G2 H2 σ2 r2 s2 => q2 G2 H2 σ2 r2 (s1.trans rel s2)
theorem vg_tup {k : Nat} {n : Nat} (hc : X.calm = true) (hs : VGs X es h) (hn : (assignEach es X.env).length = n := by rfl) (hst : (assignEach es X.env).findIdx? (·.1) = none := by rfl) : VG X (.Tuple es k pos) (gTupD n h) :=
  PG.imp (pgOr (pg_tup hc hs hn hst) (pg_unl hc hs hn hst)) fun v σ H Q ⟨G, ρ, d, rel, hv, q⟩ => by
    cases hv with
    | @lst a xs ds hq hds =>
      have q' : FnG X.K G H σ ρ (if ds.length = n then h ds ρ else .no) Q := q
      split at q'
      · rename_i hl
        exact .inr ⟨a, xs, rfl, rel.sub.seq hq, by rw [hds.length]; exact hl, G, ρ, ds, rel, hds, q'⟩
      · exact q'.elim
    | @tup a xs ds hq hds =>
      have q' : FnG X.K G H σ ρ (if ds.length = n then h ds ρ else .no) Q := q
      split at q'
      · rename_i hl
        exact .inl ⟨a, xs, rfl, Same.tup rel.sub hq, by rw [hds.length]; exact hl, G, ρ, ds, rel, hds, q'⟩
      · exact q'.elim
    | _ => exact q.elim
def dAsg (g : D → En → R Unit) (f : En → R D) : En → R Fl := fun ρ => (f ρ).bind fun d ρ1 => (g d ρ1).bind fun _ ρ2 => .ok .nx ρ2
theorem FnS.tg {K : PySem.W.Frag} {G H : Hp} {σ : L2.St} {ρ : En} {r : R Unit} {D : Ends} (h : FnS K w G H σ ρ (r.bind fun _ ρ2 => .ok .nx ρ2) D) (hx : ∀ c ρ', r ≠ .ex c ρ') : FnG K G H σ ρ r D.nx := by
  cases r with
  | no => exact h
  | ex c ρ' => exact absurd rfl (hx c ρ')
  | ok u ρ' => exact h
/-- no target raises -/
def NoX (g : D → En → R Unit) : Prop := ∀ d ρ c ρ', g d ρ ≠ .ex c ρ'
theorem nox_put {i : Nat} : NoX (putIm i) := fun d ρ c ρ' => by
  unfold putIm; split <;> exact fun z => nomatch z
theorem vs_asg {tg : Expr} (he : VE X w e fe) (hg : VG X tg g) (hx : NoX g) (hs : swapsWithSole [tg] e pos.line X.env = pure false := by rfl) (hw : swappedStores [tg] e X.env = pure none := by rfl)
    (h1 : (assignEach [tg] X.env).map (·.2) = [assign tg X.env] := by rfl) : VS X w (.Assign [tg] e pos) (dAsg g fe) :=
  PS.imp (ps_asg he hg hs hw h1) fun D σ H ⟨G, ρ, rel, h⟩ => ⟨G, ρ, rel, (FnS.bind rel h).imp fun G1 H1 ρ1 d ⟨r1, s1, h1⟩ v hv => ⟨G1, ρ1, d, r1, hv, FnS.tg h1 (hx d ρ1)⟩⟩
theorem vs_set (i : Nat) {pos' : Pos} (hN : X.N.Nodup) (he : VE X w e fe) (hi : X.N[i]? = some x := by rfl) (hx : Loc X.env.scope x := by first | exact Or.inl rfl | exact Or.inr rfl) (hs : swapsWith e (some (.Name x pos')) pos.line X.env = pure false := by rfl)
    (hf : X.fn x = true ∨ X.env.scope.names.lookup x = some .local := by first | exact .inl rfl | exact .inr rfl | assumption) : VS X w (.Assign [.Name x pos'] e pos) (dAsg (putIm i) fe) :=
  PS.imp (ps_set hN hi hx he hs hf) fun D σ H ⟨G, ρ, rel, h⟩ => ⟨G, ρ, rel, (FnS.bind rel h).imp fun G1 H1 ρ1 d ⟨r1, s1, h1⟩ v hv => FnG.put r1 hv (FnS.tg h1 (nox_put d ρ1))⟩
def dAsgL (i : Nat) (f : En → R (List D)) : En → R Fl := fun ρ => (f ρ).bind fun ds ρ1 => (putOw i ds ρ1).bind fun _ ρ2 => .ok .nx ρ2
theorem vs_setL (i : Nat) {pos' : Pos} {fl : En → R (List D)} (hN : X.N.Nodup) (he : VN X w e fl) (hi : X.N[i]? = some x := by rfl) (hx : Loc X.env.scope x := by first | exact Or.inl rfl | exact Or.inr rfl) (hs : swapsWith e (some (.Name x pos')) pos.line X.env = pure false := by rfl)
    (hf : X.fn x = true ∨ X.env.scope.names.lookup x = some .local := by first | exact .inl rfl | exact .inr rfl | assumption) : VS X w (.Assign [.Name x pos'] e pos) (dAsgL i fl) :=
  PS.imp (ps_set hN hi hx he hs hf) fun D σ H ⟨G, ρ, rel, h⟩ => ⟨G, ρ, rel, by
    unfold dAsgL at h
    cases q : fl ρ with
    | no => rw [q] at h; exact h
    | ex c ρ' => rw [q] at h; exact fun G' H' cls dx r1 s1 x => h G' H' σ cls dx r1 s1 x
    | ok ds ρ' =>
      rw [q] at h
      intro G1 H1 r1 s1 p n
      have h' : FnS X.K w G H σ ρ ((putOw i ds ρ').bind fun _ ρ2 => .ok .nx ρ2) D := h
      unfold putOw at h'
      split at h'
      · rename_i hf
        obtain ⟨c, hc, hb, ht⟩ := free_ok hf
        exact FnS.nx (show FnS X.K w G H σ ρ (.ok .nx (ρ'.set i (some (.ow ds)))) D from h') (r1.putL hc n.g n.own n.here).1 (s1.putL r1 hc hb ht n.g n.own n.here n.new)
      · exact h'.elim⟩
/-- a, b = x, y -/
def dPar (i j : Nat) (ga : En → R (List AV)) : En → R Fl := fun ρ => (dAll ga ρ).bind fun ds ρ1 => match ds with
  | [a, b] => (putIm i a ρ1).bind fun _ ρ2 => (putIm j b ρ2).bind fun _ ρ3 => .ok .nx ρ3
  | _ => .no
theorem FnS.all {K : PySem.W.Frag} {G H : Hp} {σ : L2.St} {ρ : En} {ga : En → R (List AV)} {g : List D → En → R Fl} {Z : Ends} (rel : Rel K G H σ ρ) (h : FnS K w G H σ ρ ((dAll ga ρ).bind g) Z) :
    Fn K w G H σ ρ (ga ρ) (fun G1 H1 ρ1 as => Rel K G1 H1 σ ρ1 ∧ Stp G H σ ρ G1 H1 σ ρ1 ∧ ∃ ds, allIm as = some ds ∧ FnS K w G1 H1 σ ρ1 (g ds ρ1) Z) := by
  have h' : FnS K w G H σ ρ ((ga ρ).bind fun as ρ1 => (Dn.lift (allIm as) ρ1 : R (List D)).bind g) Z := by
    have : (dAll ga ρ).bind g = (ga ρ).bind fun as ρ1 => (Dn.lift (allIm as) ρ1 : R (List D)).bind g := by
      unfold dAll
      cases ga ρ <;> rfl
    rw [← this]; exact h
  refine (FnS.bind rel h').imp fun G1 H1 ρ1 as ⟨r1, s1, h1⟩ => ⟨r1, s1, ?_⟩
  cases q : allIm as with
  | none => rw [q] at h1; exact h1.elim
  | some ds => rw [q] at h1; exact ⟨ds, rfl, h1⟩
theorem vs_par (i j : Nat) {y : Str} {a b : Expr} {ga : En → R (List AV)} {px py pt : Pos} {kt k2 : Nat} {pt2 : Pos} (hc : X.calm = true) (hN : X.N.Nodup) (ha : VA X w [a, b] ga) (hi : X.N[i]? = some x := by rfl) (hj : X.N[j]? = some y := by rfl) (hij : i ≠ j := by decide)
    (hx : X.env.scope.names.lookup x = some .local := by rfl) (hy : X.env.scope.names.lookup y = some .local := by rfl)
    (hw : swappedStores [.Tuple [.Name x px, .Name y py] kt pt] (.Tuple [a, b] k2 pt2) X.env = pure (some [x, y]) := by rfl)
    (hs : swapsWithSole [.Tuple [.Name x px, .Name y py] kt pt] (.Tuple [a, b] k2 pt2) pos.line X.env = pure false := by rfl) :
    VS X w (.Assign [.Tuple [.Name x px, .Name y py] kt pt] (.Tuple [a, b] k2 pt2) pos) (dPar i j ga) :=
  PS.imp (ps_par hc hN hi hj hij hx hy ha hw hs) fun D σ H ⟨G, ρ, rel, h⟩ => ⟨G, ρ, rel, (FnS.all rel h).imp fun G1 H1 ρ1 as ⟨r1, s1, ds, e, h1⟩ vs hvs => by
    have hd := hvs.all e
    cases hd with
    | nil => exact h1.elim
    | @cons v vs d ds hv hvs' =>
      cases hvs' with
      | nil => exact h1.elim
      | @cons u vs d' ds hu t =>
        cases t with
        | cons _ _ => exact h1.elim
        | nil =>
          refine ⟨v, u, rfl, ?_⟩
          have h2 : FnS X.K w G1 H1 σ ρ1 ((putIm i d ρ1).bind fun _ ρ2 => (putIm j d' ρ2).bind fun _ ρ3 => .ok .nx ρ3) D := h1
          unfold putIm at h2
          split at h2
          · rename_i hf
            obtain ⟨c, hc', hb, ht⟩ := free_ok hf
            obtain ⟨r2, s2⟩ := r1.put hc' hb ht hv
            have h3 : FnS X.K w G1 H1 σ ρ1 ((if free (ρ1.set i (some (.im d)))[j]? = true then R.ok () ((ρ1.set i (some (.im d))).set j (some (.im d'))) else .no).bind fun _ ρ3 => .ok .nx ρ3) D := h2
            split at h3
            · rename_i hf2
              obtain ⟨c2, hc2, hb2, ht2⟩ := free_ok hf2
              obtain ⟨r3, s3⟩ := r2.put hc2 hb2 ht2 hu
              exact FnS.nx (show FnS X.K w G1 H1 σ ρ1 (.ok .nx _) D from h3) r3 (s2.trans r1 s3)
            · exact h3.elim
          · exact h2.elim⟩
end
end Dn
namespace Dn
open PySem PySem.Spec PyProof.Rows L2

/-! ### lists that change -/
def L.put : L → List D → L
  | .ow _, ds => .ow ds
  | .bo _, ds => .bo ds
  | l, _ => l
def L.mine : L → Option (List D)
  | .ow ds => some ds
  | .bo ds => some ds
  | _ => none
section
variable {K : PySem.W.Frag} {w : Wh} {G H : Hp} {σ : L2.St} {ρ : En}
theorem Rel.mine (r : Rel K G H σ ρ) {i : Nat} {l : L} {ds : List D} (h : ρ[i]? = some (some l)) (m : l.mine = some ds) : ∃ o vs, σ[i]? = some (some (V.ref o)) ∧ G o = none ∧ H o = some (.lst vs) ∧ DRs K G vs ds := by
  obtain ⟨v, s, c⟩ := r.cell i l h
  cases l with
  | ow es => cases m; obtain ⟨o, vs, rfl, g, q, hd⟩ := c; exact ⟨o, vs, s, g, q, hd⟩
  | bo es => cases m; obtain ⟨o, vs, rfl, g, q, hd⟩ := c; exact ⟨o, vs, s, g, q, hd⟩
  | _ => cases m
theorem L.mine_fo {l : L} {ds : List D} {v : V} {a : Addr} (m : l.mine = some ds) : Fo H l v a ↔ v = V.ref a := by
  cases l <;> first | (cases m; done) | exact Iff.rfl
theorem L.put_mu {l : L} {ds es : List D} (m : l.mine = some ds) : (l.put es).mu = true ∧ l.mu = true ∧ (l.put es).mine = some es := by
  cases l <;> first | (cases m; done) | exact ⟨rfl, rfl, rfl⟩
theorem Rel.change (r : Rel K G H σ ρ) {i : Nat} {l : L} {ds es : List D} (h : ρ[i]? = some (some l)) (m : l.mine = some ds) {o : Addr} (s : σ[i]? = some (some (V.ref o))) {vs : List V} (hd : DRs K G vs es) :
    Rel K G (upd H o (.lst vs)) σ (ρ.set i (some (l.put es))) ∧ Stp G H σ ρ G (upd H o (.lst vs)) σ (ρ.set i (some (l.put es))) := by
  obtain ⟨o', ws, s', go, ho, _⟩ := r.mine h m
  rw [s] at s'; cases s'
  obtain ⟨pm, lm, pq⟩ := L.put_mu (es := es) m
  have fo : Fo H l (V.ref o) o := (L.mine_fo m).mpr rfl
  have own_o : Own H σ ρ o := ⟨i, l, _, h, s, fo⟩
  have away : ∀ a, OwnX H σ ρ i a → a ≠ o := fun a ha z => by subst z; exact r.notX h s fo ha
  obtain ⟨r', ow⟩ := r.set1 (G' := G) (H' := upd H o (.lst vs)) (v' := V.ref o) (l' := l.put es) h (Same.refl _) (fun b x e => by rw [upd_ne (ne_of_none e go)]; exact r.sub b x e)
    (fun a ha => (r.own ha.own).1) (fun a ha => upd_ne (away a ha)) (by
      cases l with
      | ow _ => exact ⟨o, vs, rfl, go, upd_same, hd⟩
      | bo _ => exact ⟨o, vs, rfl, go, upd_same, hd⟩
      | _ => cases m) (fun a f z => by
      have : V.ref o = V.ref a := (L.mine_fo pq).mp f
      cases this; exact away _ z rfl)
  rw [set_id s] at r' ow
  refine ⟨r', ⟨Same.refl _, fun a x e n => ?_, fun a q => .inl q, fun a q => .inl ?_, tracked_upd, by rw [List.length_set], fun j bs e => ⟨rfl, ?_⟩, fun j t e => ⟨rfl, t, ?_, fun v a sv f => f.to fun b q => upd_ne ?_⟩⟩⟩
  · have ha : a ≠ o := fun z => by subst z; exact n own_o
    rw [upd_ne ha]; exact e
  · rcases ow a q with z | z
    · exact z.own
    · have : V.ref o = V.ref a := (L.mine_fo pq).mp z
      cases this; exact own_o
  · by_cases hj : j = i
    · subst hj
      rw [h] at e; cases e
      exact ⟨es, set_same h⟩
    · exact ⟨bs, by rw [List.getElem?_set_ne (Ne.symm hj)]; exact e⟩
  · have hj : j ≠ i := fun z => by subst z; rw [h] at e; cases e; cases m
    rw [List.getElem?_set_ne (Ne.symm hj)]; exact e
  · have hj : j ≠ i := fun z => by subst z; rw [h] at e; cases e; cases m
    exact away b ⟨j, _, v, hj, e, sv, q⟩
end
/-- at a list of one's own -/
def atMine {α β : Type} (i : Nat) (f : En → R β) (g : L → List D → β → En → R α) : En → R α := fun ρ => match ρ[i]? with
  | some (some l0) => match l0.mine with
    | some _ => (f ρ).bind fun y ρ1 => match ρ1[i]? with
      | some (some l) => match l.mine with
        | some ds => g l ds y ρ1
        | none => .no
      | _ => .no
    | none => .no
  | _ => .no
section
variable {X : Cx} {w : Wh} {x : Str} {p pos : Pos} {e : Expr} {fe fi : En → R D}
theorem FnS.mine {α : Type} {K : PySem.W.Frag} {G H : Hp} {σ : L2.St} {ρ : En} {i : Nat} {f : En → R α} {g : L → List D → α → En → R Fl} {Z : Ends} (rel : Rel K G H σ ρ) (h : FnS K w G H σ ρ (atMine i f g ρ) Z) :
    ∃ o, σ[i]? = some (some (V.ref o)) ∧ (∃ vs, H o = some (.lst vs)) ∧ Fn K w G H σ ρ (f ρ) (fun G1 H1 ρ1 y => ∃ l ds, ρ1[i]? = some (some l) ∧ l.mine = some ds ∧ Rel K G1 H1 σ ρ1 ∧ Stp G H σ ρ G1 H1 σ ρ1 ∧ FnS K w G1 H1 σ ρ1 (g l ds y ρ1) Z) := by
  unfold atMine at h
  split at h
  · rename_i l0 e0
    split at h
    · rename_i es m0
      obtain ⟨o, vs, s, go, ho, hd⟩ := rel.mine e0 m0
      refine ⟨o, s, ⟨vs, ho⟩, (FnS.bind rel h).imp fun G1 H1 ρ1 y ⟨r1, s1, h1⟩ => ?_⟩
      split at h1
      · rename_i l e1
        split at h1
        · rename_i ds m; exact ⟨l, ds, e1, m, r1, s1, h1⟩
        · exact h1.elim
      · exact h1.elim
    · exact h.elim
  · exact h.elim
theorem Fn.mine {α β : Type} {K : PySem.W.Frag} {G H : Hp} {σ : L2.St} {ρ : En} {i : Nat} {f : En → R α} {g : L → List D → α → En → R β} {P : Hp → Hp → En → β → Prop} (rel : Rel K G H σ ρ) (h : Fn K w G H σ ρ (atMine i f g ρ) P) :
    ∃ o, σ[i]? = some (some (V.ref o)) ∧ (∃ vs, H o = some (.lst vs)) ∧ Fn K w G H σ ρ (f ρ) (fun G1 H1 ρ1 y => ∃ l ds, ρ1[i]? = some (some l) ∧ l.mine = some ds ∧ Rel K G1 H1 σ ρ1 ∧ Stp G H σ ρ G1 H1 σ ρ1 ∧ Fn K w G1 H1 σ ρ1 (g l ds y ρ1) P) := by
  unfold atMine at h
  split at h
  · rename_i l0 e0
    split at h
    · rename_i es m0
      obtain ⟨o, vs, s, go, ho, hd⟩ := rel.mine e0 m0
      refine ⟨o, s, ⟨vs, ho⟩, (Fn.bind rel h).imp fun G1 H1 ρ1 y ⟨r1, s1, h1⟩ => ?_⟩
      split at h1
      · rename_i l e1
        split at h1
        · rename_i ds m; exact ⟨l, ds, e1, m, r1, s1, h1⟩
        · exact h1.elim
      · exact h1.elim
    · exact h.elim
  · exact h.elim
/-- x.append(e) -/
def dApp (i : Nat) (f : En → R D) : En → R Fl := atMine i f fun l ds d ρ => if ds.length < sizeLine then .ok .nx (ρ.set i (some (l.put (ds ++ [d])))) else .no
theorem vs_append (i : Nat) {apos : Pos} (he : VE X w e fe) (hN : X.N[i]? = some x := by rfl) (hv : Vis X.env.scope x := by first | exact Or.inl rfl | exact Or.inr (Or.inl rfl) | exact Or.inr (Or.inr rfl)) (hd : (x == ("__debug__" : Str)) = false := by decide) (hcd : (x == ("__classdict__" : Str)) = false := by decide)
    (hbase : attributeBase (.Name x p) "append" X.env (eval (.Name x p) X.env) = eval (.Name x p) X.env := by rfl) (hline : (apos.endLine == pos.line) = true := by rfl)
    (hfew : ((backTo pos (starEach [e] X.env)).all (fun x => !x.1) && (backToKw pos (keywordEach [] X.env)).all (fun x => x.1.isSome) && decide (([e] : List Expr).length + ([] : List Keyword).length + (if ([] : List Keyword).isEmpty then 0 else 1) < 30)) = true := by rfl)
    (hs : starEach [e] X.env = (false, eval e X.env) :: starEach [] X.env := by rfl) {pos2 : Pos} (hsw : swapsWith (.Call (.Attribute (.Name x p) "append" apos) [e] [] pos) none pos2.line X.env = pure false := by rfl) :
    VS X w (.Expr (.Call (.Attribute (.Name x p) "append" apos) [e] [] pos) pos2) (dApp i fe) :=
  PS.imp (ps_expr (pe_bm PySem.F.plainAttrs_list PySem.F.slot_list_append PySem.F.type_list_append mt_append (pe_var hN hv hd hcd) (pa_cons he pa_nil hs) hbase hfew hline hs (by rfl)) hsw) fun Z σ H ⟨G, ρ, rel, h⟩ => by
    obtain ⟨o, s, ⟨vs, ho⟩, h⟩ := FnS.mine rel h
    refine ⟨.ref o, s, .inl ⟨rfl, vs, .inl (.inl ho)⟩, G, ρ, rel, h.imp fun G1 H1 ρ1 d ⟨l, ds, e1, m, r1, s1, h1⟩ v hv => ?_⟩
    obtain ⟨o', ws, s', go, hw, hd⟩ := r1.mine e1 m
    rw [s] at s'; cases s'
    split at h1
    · obtain ⟨r2, s2⟩ := r1.change e1 m s (hd.append (.cons hv .nil))
      exact ⟨o, ws, v, rfl, rfl, hw, by rw [hd.length]; assumption, FnS.nx h1 r2 s2⟩
    · exact h1.elim
/-- x[k] = e -/
def dSetI (i : Nat) (f k : En → R D) : En → R Fl := fun ρ => (f ρ).bind fun d ρ1 => atMine i k (fun l ds y ρ2 => match asI y with
  | some z => match ixN ds.length z with
    | some j => .ok .nx (ρ2.set i (some (l.put (ds.set j d))))
    | none => .no
  | none => .no) ρ1
theorem vs_setI (i : Nat) {k : Expr} {pos2 : Pos} (he : VE X w e fe) (hk : VE X w k fi) (hN : X.N[i]? = some x := by rfl) (hv : Vis X.env.scope x := by first | exact Or.inl rfl | exact Or.inr (Or.inl rfl) | exact Or.inr (Or.inr rfl)) (hd : (x == ("__debug__" : Str)) = false := by decide) (hcd : (x == ("__classdict__" : Str)) = false := by decide)
    (ha : ∀ v, assign (.Subscript (.Name x p) k pos) X.env v = (do
      let ov ← holding [v] (eval (.Name x p) X.env)
      let iv ← holding [v, ov] (eval k X.env)
      standAt pos
      holding [v, ov, iv] (setItem ov iv v)
      release [v, ov, iv] []) := by intro _; rfl)
    (hs : swapsWithSole [.Subscript (.Name x p) k pos] e pos2.line X.env = pure false := by rfl) (hw : swappedStores [.Subscript (.Name x p) k pos] e X.env = pure none := by rfl)
    (h1 : (assignEach [.Subscript (.Name x p) k pos] X.env).map (·.2) = [assign (.Subscript (.Name x p) k pos) X.env] := by rfl) : VS X w (.Assign [.Subscript (.Name x p) k pos] e pos2) (dSetI i fe fi) :=
  PS.imp (ps_asg he (pg_sub (pe_var hN hv hd hcd) hk set_list ha) hs hw h1) fun Z σ H ⟨G, ρ, rel, h⟩ => ⟨G, ρ, rel, (FnS.bind rel h).imp fun G1 H1 ρ1 d ⟨r1, s1, h1⟩ v hv => by
    obtain ⟨o, s, ⟨vs, ho⟩, h2⟩ := FnS.mine r1 h1
    refine ⟨.ref o, s, G1, ρ1, r1, h2.imp fun G2 H2 ρ2 y ⟨l, ds, e2, m, r2, s2, h3⟩ u hu => ?_⟩
    obtain ⟨o', ws, s', go, hw, hd⟩ := r2.mine e2 m
    rw [s] at s'; cases s'
    split at h3
    · rename_i z ez
      split at h3
      · rename_i j ej
        obtain ⟨r3, s3⟩ := r2.change e2 m s (hd.set (hv.mono s2.g) j)
        cases hu with
        | int q => cases ez; exact ⟨o, ws, z, j, rfl, rfl, hw, by rw [hd.length]; exact ej, FnS.nx h3 r3 s3⟩
        | _ => cases ez
      · exact h3.elim
    · exact h3.elim⟩

/-! ### a name that is handed out -/
theorem own_drop {H : Hp} {σ : L2.St} {ρ : En} {i : Nat} (a : Addr) (h : Own H σ (ρ.set i none) a) : OwnX H σ ρ i a := by
  obtain ⟨j, l, v, e, s, f⟩ := h
  have hj : j ≠ i := fun z => by
    subst z
    by_cases hl : j < ρ.length
    · rw [List.getElem?_set_self hl] at e; cases e
    · rw [List.getElem?_eq_none (by rw [List.length_set]; omega)] at e; cases e
  rw [List.getElem?_set_ne (Ne.symm hj)] at e
  exact ⟨j, l, v, hj, e, s, f⟩
theorem Rel.drop0 {K : PySem.W.Frag} {G H : Hp} {σ : L2.St} {ρ : En} (r : Rel K G H σ ρ) (i : Nat) : Rel K G H σ (ρ.set i none) := by
  have old : ∀ (j : Nat) (l : L), (ρ.set i none)[j]? = some (some l) → ρ[j]? = some (some l) := fun j l e => by
    by_cases hj : j = i
    · subst hj
      by_cases hl : j < ρ.length
      · rw [List.getElem?_set_self hl] at e; cases e
      · rw [List.getElem?_eq_none (by rw [List.length_set]; omega)] at e; cases e
    · rw [List.getElem?_set_ne (Ne.symm hj)] at e; exact e
  exact ⟨r.sub, by rw [List.length_set]; exact r.len, fun j l e => r.cell j l (old j l e), fun j k l m v u a ej ek sj sk fj fk => r.apart j k l m v u a (old j l ej) (old k m ek) sj sk fj fk⟩
theorem Rel.drop {K : PySem.W.Frag} {G H : Hp} {σ : L2.St} {ρ : En} (r : Rel K G H σ ρ) {i : Nat} {ds : List D} (h : ρ[i]? = some (some (L.ow ds))) :
    ∃ o, σ[i]? = some (some (V.ref o)) ∧ Rel K G H σ (ρ.set i none) ∧ Stp G H σ ρ G H σ (ρ.set i none) ∧ OutL K G H σ ρ G H σ (ρ.set i none) o ds := by
  obtain ⟨o, vs, s, go, ho, hd⟩ := r.mine h rfl
  refine ⟨o, s, r.drop0 i, ⟨Same.refl _, fun _ _ h _ => h, fun _ h => .inl h, fun a q => .inl (own_drop a q).own, fun _ h => h, by rw [List.length_set], fun j es e => ⟨rfl, es, ?_⟩, fun j t e => ⟨rfl, t, ?_, fun _ _ _ f => f⟩⟩, ⟨go, fun q => ?_, ⟨vs, ho, hd⟩, .inr ⟨i, _, _, h, rfl, s, rfl⟩⟩⟩
  · have hj : j ≠ i := fun z => by subst z; rw [h] at e; cases e
    rw [List.getElem?_set_ne (Ne.symm hj)]; exact e
  · have hj : j ≠ i := fun z => by subst z; rw [h] at e; cases e
    rw [List.getElem?_set_ne (Ne.symm hj)]; exact e
  · exact r.notX h s rfl (own_drop o q)
def dRetV (i : Nat) : En → R Fl := fun ρ => match ρ[i]? with
  | some (some (.ow ds)) => .ok (.rl ds) (ρ.set i none)
  | some (some (.im d)) => .ok (.rt d) ρ
  | _ => .no
theorem vs_retV (i : Nat) (hN : X.N[i]? = some x := by rfl) (hv : Vis X.env.scope x := by first | exact Or.inl rfl | exact Or.inr (Or.inl rfl) | exact Or.inr (Or.inr rfl)) (hd : (x == ("__debug__" : Str)) = false := by decide) (hcd : (x == ("__classdict__" : Str)) = false := by decide) :
    VS X w (.Return (some (.Name x p)) pos) (dRetV i) := PS.imp (ps_ret (pe_var hN hv hd hcd)) fun Z σ H ⟨G, ρ, rel, h⟩ => by
  unfold dRetV at h
  split at h
  · rename_i ds e
    obtain ⟨o, s, r1, s1, ho⟩ := rel.drop e
    exact ⟨.ref o, s, h _ _ _ _ r1 s1 ho⟩
  · rename_i d e
    obtain ⟨v, s, c⟩ := rel.cell i _ e
    exact ⟨v, s, h _ _ _ _ rel Stp.refl c⟩
  · exact h.elim
end
end Dn
namespace Dn
open PySem PySem.Spec PyProof.Rows L2

/-! ### while -/
def isNo {α : Type} : R α → Bool
  | .no => true
  | _ => false
def whN (c : En → R Bool) (b : En → R Fl) : Nat → En → R Fl
  | 0, _ => .no
  | n + 1, ρ => (c ρ).bind fun t ρ1 => if t = true then (b ρ1).bind fun fl ρ2 => match fl with
      | .nx => whN c b n ρ2
      | .ct => whN c b n ρ2
      | .bk => .ok .nx ρ2
      | .rt d => .ok (.rt d) ρ2
      | .rl ds => .ok (.rl ds) ρ2
    else .ok .nx ρ1
open Classical in
noncomputable def dWhile (c : En → R Bool) (b : En → R Fl) : En → R Fl := fun ρ => if h : ∃ n, isNo (whN c b n ρ) = false then whN c b h.choose ρ else .no
theorem whN_succ {c : En → R Bool} {b : En → R Fl} : ∀ {n : Nat} {ρ : En}, isNo (whN c b n ρ) = false → whN c b (n + 1) ρ = whN c b n ρ
  | 0, ρ, h => by cases h
  | n + 1, ρ, h => by
    have h' := h
    show (c ρ).bind _ = (c ρ).bind _
    rw [whN] at h'
    cases q : c ρ with
    | no => rfl
    | ex e ρ1 => rfl
    | ok t ρ1 =>
      rw [q] at h'
      cases t with
      | false => rfl
      | true =>
        show (b ρ1).bind _ = (b ρ1).bind _
        have h2 : isNo ((b ρ1).bind fun fl ρ2 => match fl with | .nx => whN c b n ρ2 | .ct => whN c b n ρ2 | .bk => .ok .nx ρ2 | .rt d => .ok (.rt d) ρ2 | .rl ds => .ok (.rl ds) ρ2) = false := h'
        cases q2 : b ρ1 with
        | no => rfl
        | ex e ρ2 => rfl
        | ok fl ρ2 =>
          rw [q2] at h2
          cases fl with
          | nx => exact whN_succ (n := n) h2
          | ct => exact whN_succ (n := n) h2
          | bk => rfl
          | rt d => rfl
          | rl ds => rfl
theorem whN_le {c : En → R Bool} {b : En → R Fl} {n m : Nat} {ρ : En} (h : isNo (whN c b n ρ) = false) (l : n ≤ m) : whN c b m ρ = whN c b n ρ := by
  induction l with
  | refl => rfl
  | step _ ih => rw [whN_succ (by rw [ih]; exact h), ih]
theorem dWhile_of {c : En → R Bool} {b : En → R Fl} {n : Nat} {ρ : En} (h : isNo (whN c b n ρ) = false) : dWhile c b ρ = whN c b n ρ := by
  unfold dWhile
  have hx : ∃ n, isNo (whN c b n ρ) = false := ⟨n, h⟩
  rw [dif_pos hx]
  rcases Nat.le_total hx.choose n with l | l
  · exact (whN_le hx.choose_spec l).symm
  · exact whN_le h l
theorem dWhile_no {c : En → R Bool} {b : En → R Fl} {ρ : En} (h : isNo (dWhile c b ρ) = false) : ∃ n, whN c b n ρ = dWhile c b ρ := by
  unfold dWhile at h ⊢
  split at h
  · rename_i hx; exact ⟨hx.choose, by rw [dif_pos hx]⟩
  · cases h
/-- one turn -/
theorem dWhile_turn {c : En → R Bool} {b : En → R Fl} {ρ : En} : dWhile c b ρ = (c ρ).bind fun t ρ1 => if t = true then (b ρ1).bind fun fl ρ2 => match fl with
      | .nx => dWhile c b ρ2
      | .ct => dWhile c b ρ2
      | .bk => .ok .nx ρ2
      | .rt d => .ok (.rt d) ρ2
      | .rl ds => .ok (.rl ds) ρ2
    else .ok .nx ρ1 := by
  have key : ∀ {n : Nat}, isNo (whN c b (n + 1) ρ) = false → whN c b (n + 1) ρ = (c ρ).bind fun t ρ1 => if t = true then (b ρ1).bind fun fl ρ2 => match fl with
      | .nx => dWhile c b ρ2
      | .ct => dWhile c b ρ2
      | .bk => .ok .nx ρ2
      | .rt d => .ok (.rt d) ρ2
      | .rl ds => .ok (.rl ds) ρ2
    else .ok .nx ρ1 := fun {n} h => by
    rw [whN] at h ⊢
    cases q : c ρ with
    | no => rfl
    | ex e ρ1 => rfl
    | ok t ρ1 =>
      rw [q] at h
      cases t with
      | false => rfl
      | true =>
        show (b ρ1).bind _ = (b ρ1).bind _
        have h2 : isNo ((b ρ1).bind fun fl ρ2 => match fl with | .nx => whN c b n ρ2 | .ct => whN c b n ρ2 | .bk => .ok .nx ρ2 | .rt d => .ok (.rt d) ρ2 | .rl ds => .ok (.rl ds) ρ2) = false := h
        cases q2 : b ρ1 with
        | no => rfl
        | ex e ρ2 => rfl
        | ok fl ρ2 =>
          rw [q2] at h2
          cases fl with
          | nx => exact (dWhile_of h2).symm
          | ct => exact (dWhile_of h2).symm
          | bk => rfl
          | rt d => rfl
          | rl ds => rfl
  by_cases hx : ∃ n, isNo (whN c b n ρ) = false
  · obtain ⟨n, hn⟩ := hx
    cases n with
    | zero => cases hn
    | succ n => rw [dWhile_of hn, key hn]
  · have e1 : dWhile c b ρ = .no := by unfold dWhile; rw [dif_neg hx]
    rw [e1]
    cases q : c ρ with
    | no => rfl
    | ex e ρ1 => exact absurd ⟨1, by rw [whN, q]; rfl⟩ hx
    | ok t ρ1 =>
      cases t with
      | false => exact absurd ⟨1, by rw [whN, q]; rfl⟩ hx
      | true =>
        show R.no = (b ρ1).bind _
        cases q2 : b ρ1 with
        | no => rfl
        | ex e ρ2 => exact absurd ⟨1, by rw [whN, q]; show isNo ((b ρ1).bind _) = false; rw [q2]; rfl⟩ hx
        | ok fl ρ2 =>
          have hw : ∀ n, isNo (whN c b n ρ2) = false → (fl = .nx ∨ fl = .ct) → False := fun n hn hf => hx ⟨n + 1, by
            rw [whN, q]; show isNo ((b ρ1).bind _) = false; rw [q2]
            rcases hf with rfl | rfl <;> exact hn⟩
          cases fl with
          | nx => show R.no = dWhile c b ρ2; unfold dWhile; rw [dif_neg fun ⟨n, hn⟩ => hw n hn (.inl rfl)]
          | ct => show R.no = dWhile c b ρ2; unfold dWhile; rw [dif_neg fun ⟨n, hn⟩ => hw n hn (.inr rfl)]
          | bk => exact absurd ⟨1, by rw [whN, q]; show isNo ((b ρ1).bind _) = false; rw [q2]; rfl⟩ hx
          | rt d => exact absurd ⟨1, by rw [whN, q]; show isNo ((b ρ1).bind _) = false; rw [q2]; rfl⟩ hx
          | rl d => exact absurd ⟨1, by rw [whN, q]; show isNo ((b ρ1).bind _) = false; rw [q2]; rfl⟩ hx
section
variable {X : Cx} {w : Wh} {pos : Pos}
/-- a loop's body, then what comes -/
theorem FnS.loop {K : PySem.W.Frag} {G H : Hp} {σ : L2.St} {ρ : En} {b : En → R Fl} {k : En → R Fl} {Z : Ends} (rel : Rel K G H σ ρ)
    (h : FnS K w G H σ ρ ((b ρ).bind fun fl ρ2 => match fl with | .nx => k ρ2 | .ct => k ρ2 | .bk => .ok .nx ρ2 | .rt d => .ok (.rt d) ρ2 | .rl ds => .ok (.rl ds) ρ2) Z) {N : L2.St → Hp → Prop}
    (hN : ∀ G1 H1 σ1 ρ1, Rel K G1 H1 σ1 ρ1 → Stp G H σ ρ G1 H1 σ1 ρ1 → FnS K w G1 H1 σ1 ρ1 (k ρ1) Z → N σ1 H1) : FnS K w G H σ ρ (b ρ) { Z with nx := N, ct := N, bk := Z.nx } := by
  cases q : b ρ with
  | no => rw [q] at h; exact h
  | ex c ρ' => rw [q] at h; exact h
  | ok fl ρ' =>
    rw [q] at h
    cases fl with
    | nx => exact fun G1 H1 σ1 r1 s1 => hN _ _ _ _ r1 s1 (FnS.after rel r1 s1 (show FnS K w G H σ ρ (k ρ') Z from h))
    | ct => exact fun G1 H1 σ1 r1 s1 => hN _ _ _ _ r1 s1 (FnS.after rel r1 s1 (show FnS K w G H σ ρ (k ρ') Z from h))
    | bk => exact h
    | rt d => exact h
    | rl ds => exact h
theorem FnS.notNo {K : PySem.W.Frag} {G H : Hp} {σ : L2.St} {ρ : En} {r : R Fl} {Z : Ends} (h : FnS K w G H σ ρ r Z) : isNo r = false := by
  cases r with
  | no => exact h.elim
  | _ => rfl
theorem vs_while {c : Expr} {body : List Stmt} {gc : En → R Bool} {gb : En → R Fl} (hp : PassesOwn (model X.prog X.w) X.A X.env X.xe) (hc : VT X w c gc) (hb : VSs X w body gb) : VS X w (.While c body [] pos) (dWhile gc gb) :=
  PS.imp (ps_while hp hc hb) fun Z σ H ⟨G, ρ, rel, h⟩ => by
    obtain ⟨n, hn⟩ := dWhile_no h.notNo
    rw [← hn] at h
    refine ⟨fun m σ H => ∃ G ρ, Rel X.K G H σ ρ ∧ FnS X.K w G H σ ρ (whN gc gb m ρ) Z, ⟨n, G, ρ, rel, h⟩, ?_⟩
    rintro m σ H ⟨G, ρ, rel, h⟩
    cases m with
    | zero => exact h.elim
    | succ m =>
      rw [whN] at h
      refine ⟨G, ρ, rel, (FnS.bind rel h).imp fun G1 H1 ρ1 t ⟨r1, s1, h1⟩ => ?_⟩
      cases t with
      | false => exact iteF (FnS.nx (show FnS X.K w G1 H1 σ ρ1 (.ok .nx ρ1) Z from h1) r1 Stp.refl)
      | true =>
        refine iteT ⟨fun σ' H' => ∃ G ρ, Rel X.K G H' σ' ρ ∧ FnS X.K w G H' σ' ρ (whN gc gb m ρ) Z, fun σ' H' q => ⟨m, Nat.lt_succ_self m, q⟩, G1, ρ1, r1, ?_⟩
        exact FnS.loop r1 h1 fun G2 H2 σ2 ρ2 r2 s2 h2 => ⟨G2, ρ2, r2, h2⟩
end

/-! ### for -/
structure ItS (K : PySem.W.Frag) (G0 : Hp) (J : It) (ds : List D) : Prop where
  go : ∀ i H, i < ds.length → Same G0 H → J.go i H
  stop : ∀ H, Same G0 H → J.stop ds.length H
  yld : ∀ (i : Nat) (H : Hp) (x : V) (H' : Hp) (d : D), ds[i]? = some d → J.yld i H x H' → ∀ G σ ρ, Same G0 G → Rel K G H σ ρ → ∃ G', Rel K G' H' σ ρ ∧ Stp G H σ ρ G' H' σ ρ ∧ DR K G' x d
abbrev VI (X : Cx) (w : Wh) (tg iter : Expr) (f : En → R (List D)) : Prop := PI X tg iter (fun σ H R => ∃ G ρ, Rel X.K G H σ ρ ∧ Fn X.K w G H σ ρ (f ρ) (fun G1 H1 _ ds => ∀ J, ItS X.K G1 J ds → R J H1))
def dForL (g : D → En → R Unit) (b : En → R Fl) : List D → En → R Fl
  | [], ρ => .ok .nx ρ
  | d :: ds, ρ => (g d ρ).bind fun _ ρ1 => (b ρ1).bind fun fl ρ2 => match fl with
    | .nx => dForL g b ds ρ2
    | .ct => dForL g b ds ρ2
    | .bk => .ok .nx ρ2
    | .rt d => .ok (.rt d) ρ2
    | .rl ds => .ok (.rl ds) ρ2
def dFor (f : En → R (List D)) (g : D → En → R Unit) (b : En → R Fl) : En → R Fl := fun ρ => (f ρ).bind fun ds ρ1 => dForL g b ds ρ1
section
variable {X : Cx} {w : Wh} {pos : Pos}
theorem PI.imp {tg e : Expr} {t t' : TI} (h : PI X tg e t) (i : ∀ σ H R, t' σ H R → t σ H R) : PI X tg e t' := ⟨fun pins s σ H R I q => h.run pins s σ H R I (i _ _ _ q)⟩
theorem vs_for {tg iter : Expr} {body : List Stmt} {fi : En → R (List D)} {g : D → En → R Unit} {gb : En → R Fl} (hp : PassesOwn (model X.prog X.w) X.A X.env X.xe) (hc : X.calm = true) (hi : VI X w tg iter fi) (hg : VG X tg g) (hx : NoX g) (hb : VSs X w body gb)
    (hs : ∀ x, foldedSetIterable iter X.env x = pure x := by intro _; rfl) : VS X w (.For tg iter body [] pos) (dFor fi g gb) :=
  PS.imp (ps_for hp hc hi hg hb hs) fun Z σ H ⟨G, ρ, rel, h⟩ => ⟨G, ρ, rel, (FnS.bind rel h).imp fun G1 H1 ρ1 ds ⟨r1, s1, h1⟩ J hJ => by
    refine ⟨fun i m σ H => m = ds.length - i ∧ i ≤ ds.length ∧ ∃ G ρ, Same G1 G ∧ Rel X.K G H σ ρ ∧ FnS X.K w G H σ ρ (dForL g gb (ds.drop i) ρ) Z, ⟨ds.length, rfl, Nat.zero_le _, G1, ρ1, Same.refl _, r1, by rw [List.drop_zero]; exact h1⟩, ?_⟩
    rintro i m σ H ⟨rfl, hi, G, ρ, sG, r, h⟩
    have sH : Same G1 H := sG.trans r.sub
    by_cases hlt : i < ds.length
    · obtain ⟨d, hd⟩ : ∃ d, ds[i]? = some d := ⟨ds[i], List.getElem?_eq_getElem hlt⟩
      have hdrop : ds.drop i = d :: ds.drop (i + 1) := by
        rw [List.drop_eq_getElem_cons hlt]
        rw [List.getElem?_eq_getElem hlt] at hd; cases hd; rfl
      rw [hdrop] at h
      refine .inr ⟨hJ.go i H hlt sH, fun σ' H' => ∃ G ρ, Same G1 G ∧ Rel X.K G H' σ' ρ ∧ FnS X.K w G H' σ' ρ (dForL g gb (ds.drop (i + 1)) ρ) Z, fun σ' H' q => ⟨_, by omega, rfl, hlt, q⟩, fun x H' hy => ?_⟩
      obtain ⟨G', r', s', hx'⟩ := hJ.yld i H x H' d hd hy G σ ρ sG r
      have h' := FnS.after r r' s' h
      refine ⟨G', ρ, d, r', hx', ?_⟩
      have h2 : FnS X.K w G' H' σ ρ ((g d ρ).bind fun _ ρ1 => (gb ρ1).bind fun fl ρ2 => match fl with | .nx => dForL g gb (ds.drop (i + 1)) ρ2 | .ct => dForL g gb (ds.drop (i + 1)) ρ2 | .bk => .ok .nx ρ2 | .rt d => .ok (.rt d) ρ2 | .rl ds => .ok (.rl ds) ρ2) Z := h'
      cases q : g d ρ with
      | no => rw [q] at h2; exact h2.elim
      | ex c ρ2 => exact absurd q (hx d ρ c ρ2)
      | ok u ρ2 =>
        rw [q] at h2
        intro G2 H2 σ2 r2 s2
        refine ⟨G2, ρ2, r2, FnS.loop r2 (FnS.after r' r2 s2 h2) fun G3 H3 σ3 ρ3 r3 s3 h3 => ⟨G3, ρ3, ((sG.trans s'.g).trans s2.g).trans s3.g, r3, h3⟩⟩
    · have e : i = ds.length := by omega
      subst e
      refine .inl ⟨hJ.stop H sH, ?_⟩
      rw [List.drop_length] at h
      exact FnS.nx (show FnS X.K w G H σ ρ (.ok .nx ρ) Z from h) r Stp.refl⟩
/-! what is walked -/
def iD (f : En → R D) : En → R (List D) := fun ρ => (f ρ).bind fun d ρ1 => match d with
  | .list ds => .ok ds ρ1
  | .tuple ds => .ok ds ρ1
  | .str s => .ok (s.cps.toList.map fun c => .str ⟨#[c]⟩) ρ1
  | _ => .no
theorem its_list {K : PySem.W.Frag} {G0 : Hp} {a : Addr} {vs : List V} {ds : List D} (h : SqL K G0 a vs) (hd : DRs K G0 vs ds) : ItS K G0 (Itl K a) ds where
  go := fun i H hi s => ⟨vs, vs[i]'(by rw [hd.length]; exact hi), s.seq h, List.getElem?_eq_getElem _⟩
  stop := fun H s => ⟨vs, s.seq h, by rw [hd.length]; exact Nat.le_refl _⟩
  yld := fun i H x H' d e y G σ ρ sG r => by
    obtain ⟨rfl, f⟩ := y
    obtain ⟨v, ev, hv⟩ := hd.get e
    have := f vs ((sG.trans r.sub).seq h)
    rw [ev] at this; cases this
    exact ⟨G, r, Stp.refl, hv.mono sG⟩
theorem its_tup {K : PySem.W.Frag} {G0 : Hp} {a : Addr} {vs : List V} {ds : List D} (h : SqT K G0 a vs) (hd : DRs K G0 vs ds) : ItS K G0 (Itt K a) ds where
  go := fun i H hi s => ⟨vs, vs[i]'(by rw [hd.length]; exact hi), Same.tup s h, List.getElem?_eq_getElem _⟩
  stop := fun H s => ⟨vs, Same.tup s h, by rw [hd.length]; exact Nat.le_refl _⟩
  yld := fun i H x H' d e y G σ ρ sG r => by
    obtain ⟨rfl, f⟩ := y
    obtain ⟨v, ev, hv⟩ := hd.get e
    have := f vs (Same.tup (sG.trans r.sub) h)
    rw [ev] at this; cases this
    exact ⟨G, r, Stp.refl, hv.mono sG⟩
def rngD (lo : Int) (n : Nat) : List D := (List.range n).map fun (i : Nat) => PyData.int (lo + (i : Int))
theorem its_range {K : PySem.W.Frag} {G0 : Hp} {lo : Int} {n : Nat} : ItS K G0 (Itr lo n) (rngD lo n) where
  go := fun i H hi s => by show i < n; simpa [rngD] using hi
  stop := fun H s => by show n ≤ _; simp [rngD]
  yld := fun i H x H' d e y G σ ρ sG r => by
    obtain ⟨rfl, rfl⟩ := y
    simp only [rngD, List.getElem?_map, Option.map_eq_some_iff] at e
    obtain ⟨j, ej, rfl⟩ := e
    have hi : i < n := by have := (List.getElem?_eq_some_iff.mp ej).1; simpa using this
    rw [List.getElem?_range hi] at ej
    cases ej; exact ⟨G, r, Stp.refl, .int _⟩
def rngC (lo c : Int) (n : Nat) : List D := (List.range n).map fun (i : Nat) => PyData.int (lo + (i : Int) * c)
theorem its_rangeC {K : PySem.W.Frag} {G0 : Hp} {lo c : Int} {n : Nat} : ItS K G0 (Itc lo c n) (rngC lo c n) where
  go := fun i H hi s => by show i < n; simpa [rngC] using hi
  stop := fun H s => by show n ≤ _; simp [rngC]
  yld := fun i H x H' d e y G σ ρ sG r => by
    obtain ⟨rfl, rfl⟩ := y
    simp only [rngC, List.getElem?_map, Option.map_eq_some_iff] at e
    obtain ⟨j, ej, rfl⟩ := e
    have hi : i < n := by have := (List.getElem?_eq_some_iff.mp ej).1; simpa using this
    rw [List.getElem?_range hi] at ej
    cases ej; exact ⟨G, r, Stp.refl, .int _⟩
def strD (s : Str) : List D := s.cps.toList.map fun c => PyData.str ⟨#[c]⟩
theorem its_str {K : PySem.W.Frag} {G0 : Hp} {s : Str} : ItS K G0 (Its s) (strD s) where
  go := fun i H hi _ => by show i < s.cps.size; simpa [strD] using hi
  stop := fun H _ => by show s.cps.size ≤ _; simp [strD]
  yld := fun i H x H' d e y G σ ρ sG r => by
    obtain ⟨rfl, c, ec, rfl⟩ := y
    simp only [strD, List.getElem?_map, Option.map_eq_some_iff] at e
    obtain ⟨c', ej, rfl⟩ := e
    rw [Array.getElem?_toList, ec] at ej
    cases ej; exact ⟨G, r, Stp.refl, .str _⟩
theorem vi_val {tg e : Expr} {f : En → R D} (he : VE X w e f) : VI X w tg e (iD f) := by
  refine ⟨fun pins s σ H Rr I q => ?_⟩
  obtain ⟨G, ρ, rel, h⟩ := q
  have h0 : Fn X.K w G H σ ρ ((f ρ).bind fun d ρ1 => match d with | .list ds => R.ok ds ρ1 | .tuple ds => .ok ds ρ1 | .str s => .ok (strD s) ρ1 | _ => .no) (fun G1 H1 _ ds => ∀ J, ItS X.K G1 J ds → Rr J H1) := h
  have via : ∀ {t : TI}, PI X tg e t → t σ H Rr → wpAny (model X.prog X.w) X.A (eval e X.env) (fun v s1 => wpAny (model X.prog X.w) X.A (pyIter v) (PIE X pins σ tg Rr) X.xe s1) X.xe s := fun h t => h.run pins s σ H Rr I t
  cases q : f ρ with
  | no => rw [q] at h0; exact h0.elim
  | ex c ρ1 =>
    refine via (pi_list he) ⟨G, ρ, rel, ?_⟩
    rw [q] at h0 ⊢
    exact h0
  | ok d ρ1 =>
    rw [q] at h0
    cases d with
    | list ds =>
      refine via (pi_list he) ⟨G, ρ, rel, ?_⟩
      rw [q]
      intro G1 H1 r1 s1 v hv
      cases hv with
      | lst hr hs => exact ⟨_, rfl, ⟨_, r1.sub.seq hr⟩, h0 G1 H1 r1 s1 _ (its_list hr hs)⟩
    | tuple ds =>
      refine via (pi_tup he) ⟨G, ρ, rel, ?_⟩
      rw [q]
      intro G1 H1 r1 s1 v hv
      cases hv with
      | tup hr hs => exact ⟨_, rfl, ⟨_, Same.tup r1.sub hr⟩, h0 G1 H1 r1 s1 _ (its_tup hr hs)⟩
    | str z =>
      refine via (pi_str he) ⟨G, ρ, rel, ?_⟩
      rw [q]
      intro G1 H1 r1 s1 v hv
      cases hv
      exact ⟨z, rfl, h0 G1 H1 r1 s1 _ its_str⟩
    | _ => exact h0.elim
def inR (j : Int) : Prop := -(2 ^ 62) ≤ j ∧ j < 2 ^ 62
noncomputable instance (j : Int) : Decidable (inR j) := Classical.propDecidable _
noncomputable def iRg1 (ga : En → R (List AV)) : En → R (List D) := fun ρ => (dAll ga ρ).bind fun ds ρ1 => match ds with
  | [.int j] => if inR j then .ok (rngD 0 j.toNat) ρ1 else .no
  | _ => .no
noncomputable def iRg2 (ga : En → R (List AV)) : En → R (List D) := fun ρ => (dAll ga ρ).bind fun ds ρ1 => match ds with
  | [.int i, .int j] => if inR i ∧ inR j then .ok (rngD i (j - i).toNat) ρ1 else .no
  | _ => .no
/-- how many -/
def rgN (i j c : Int) : Nat := (Builtin.Range.rangeSize i j c).toNat
def rgOk (i j c : Int) : Bool := decide (c ≠ 0 ∧ c.natAbs < 1073741824 ∧ 0 ≤ Builtin.Range.rangeSize i j c) && Builtin.Range.small i j c
def iRg3 (ga : En → R (List AV)) : En → R (List D) := fun ρ => (dAll ga ρ).bind fun ds ρ1 => match ds with
  | [.int i, .int j, .int c] => if rgOk i j c = true then .ok (rngC i c (rgN i j c)) ρ1 else .no
  | _ => .no
variable {tg : Expr} {p : Pos} {ga : En → R (List AV)}
theorem vi_range1 {a : Expr} (hg : Gl X "range") (hm : X.mg "range" = none) (ha : VA X w [a] ga) (hs : starEach [a] X.env = [(false, eval a X.env)] := by rfl) : VI X w tg (.Call (.Name "range" p) [a] [] pos) (iRg1 ga) :=
  PI.imp (pi_range1 hg hm ha hs) fun σ H R ⟨G, ρ, rel, h⟩ => ⟨G, ρ, rel, (Fn.all rel h).imp fun G1 H1 ρ1 as ⟨r1, s1, ds, e, h1⟩ vs hvs => by
    have hd := hvs.all e
    split at h1
    · rename_i j
      split at h1
      · rename_i hj
        cases hd with
        | cons h t =>
          cases h; cases t
          exact ⟨j, rfl, hj.1, hj.2, h1.ok r1 _ its_range⟩
      · exact h1.elim
    · exact h1.elim⟩
theorem vi_range2 {a b : Expr} (hg : Gl X "range") (hm : X.mg "range" = none) (ha : VA X w [a, b] ga) (hs : starEach [a, b] X.env = [(false, eval a X.env), (false, eval b X.env)] := by rfl) (hs2 : starEach [b] X.env = [(false, eval b X.env)] := by rfl) : VI X w tg (.Call (.Name "range" p) [a, b] [] pos) (iRg2 ga) :=
  PI.imp (pi_range2 hg hm ha hs hs2) fun σ H R ⟨G, ρ, rel, h⟩ => ⟨G, ρ, rel, (Fn.all rel h).imp fun G1 H1 ρ1 as ⟨r1, s1, ds, e, h1⟩ vs hvs => by
    have hd := hvs.all e
    split at h1
    · rename_i i j
      split at h1
      · rename_i hj
        cases hd with
        | cons h t =>
          cases t with
          | cons h' t =>
            cases h; cases h'; cases t
            exact ⟨i, j, rfl, ⟨hj.1.1, hj.1.2, hj.2.1, hj.2.2⟩, h1.ok r1 _ its_range⟩
      · exact h1.elim
    · exact h1.elim⟩
theorem vi_range3 {a b c : Expr} (hg : Gl X "range") (hm : X.mg "range" = none) (ha : VA X w [a, b, c] ga) (hs : starEach [a, b, c] X.env = (false, eval a X.env) :: starEach [b, c] X.env := by rfl) (hpl : (backTo pos (starEach [b, c] X.env)).any (·.1) = false := by rfl) : VI X w tg (.Call (.Name "range" p) [a, b, c] [] pos) (iRg3 ga) :=
  PI.imp (pi_range3 hg hm ha hs hpl) fun σ H R ⟨G, ρ, rel, h⟩ => ⟨G, ρ, rel, (Fn.all rel h).imp fun G1 H1 ρ1 as ⟨r1, s1, ds, e, h1⟩ vs hvs => by
    have hd := hvs.all e
    split at h1
    · rename_i i j k
      split at h1
      · rename_i hj
        simp only [rgOk, Bool.and_eq_true, decide_eq_true_eq] at hj
        cases hd with
        | cons h t =>
          cases t with
          | cons h' t =>
            cases t with
            | cons h'' t =>
              cases h; cases h'; cases h''; cases t
              exact ⟨i, j, k, rgN i j k, rfl, ⟨hj.1.1, hj.1.2.1, hj.2, (Int.toNat_of_nonneg hj.1.2.2).symm⟩, h1.ok r1 _ its_rangeC⟩
      · exact h1.elim
    · exact h1.elim⟩
end
end Dn
namespace Dn
open PySem PySem.Spec PyProof.Rows L2

/-! ### defs -/
def wh (ca : String → Option Value) (E : XK) : Wh := ⟨ca, fun cls d _ H => E cls d H⟩
theorem ExR.to {K : PySem.W.Frag} {w w' : Wh} {G H : Hp} {c : Exn} {cls : Value} {dx : Option Addr} (h : ExR K w G H c cls dx) (e : w.ca = w'.ca) : ExR K w' G H c cls dx := ⟨by rw [← e]; exact h.hc, h.hn, h.hs⟩
def FnC (K : PySem.W.Frag) (w : Wh) (G H : Hp) (vs : List V) (ls : En) (r : R L) (Q : VK) (E : XK) : Prop :=
  match r with
  | .no => False
  | .ok (.im d) ls' => ∀ G' H' v, Rel K G' H' (vs.map some) ls' → Stp G H (vs.map some) ls G' H' (vs.map some) ls' → DR K G' v d → Q v H'
  | .ok (.ow ds) ls' => ∀ G' H' p, Rel K G' H' (vs.map some) ls' → Stp G H (vs.map some) ls G' H' (vs.map some) ls' → G' p = none → ¬ Own H' (vs.map some) ls' p → (∃ us, H' p = some (.lst us) ∧ DRs K G' us ds) → H p = none → Q (.ref p) H'
  | .ok _ _ => False
  | .ex c ls' => ∀ G' H' cls dx, Rel K G' H' (vs.map some) ls' → Stp G H (vs.map some) ls G' H' (vs.map some) ls' → ExR K w G' H' c cls dx → E cls dx H'
def noOw (ls : En) : Prop := ∀ (i : Nat) (l : L), ls[i]? = some (some l) → l.own = false
def spD (K : PySem.W.Frag) (ca : String → Option Value) (n : Nat) (den : En → R L) : Sp := fun vs H Q E =>
  ∃ G ls, Rel K G H (vs.map some) ls ∧ noOw ls ∧ vs.length = n ∧ FnC K (wh ca E) G H vs ls (den ls) Q E
def backE : En → En → En
  | some (.bo _) :: ls, c :: ρ => c :: backE ls ρ
  | some (.bt _) :: ls, c :: ρ => c :: backE ls ρ
  | l :: ls, _ :: ρ => l :: backE ls ρ
  | ls, [] => ls
  | [], _ => []
def dDef (n : Nat) (b : En → R Fl) : En → R L := fun ls => match b (ls ++ List.replicate (n - ls.length) none) with
  | .ok .nx ρ => .ok (.im .none) (backE ls ρ)
  | .ok (.rt d) ρ => .ok (.im d) (backE ls ρ)
  | .ok (.rl ds) ρ => .ok (.ow ds) (backE ls ρ)
  | .ex c ρ => .ex c (backE ls ρ)
  | _ => .no
theorem backE_length : ∀ (ls ρ : En), (backE ls ρ).length = ls.length
  | [], ρ => by cases ρ <;> rfl
  | l :: ls, [] => by cases l with
    | none => rfl
    | some l => cases l <;> rfl
  | l :: ls, c :: ρ => by cases l with
    | none => simp [backE, backE_length ls ρ]
    | some l => cases l <;> simp [backE, backE_length ls ρ]
def L.lent : L → Bool
  | .bo _ => true
  | .bt _ => true
  | _ => false
theorem backE_bo : ∀ {ls ρ : En} {i : Nat} {l : L}, l.lent = true → ls.length ≤ ρ.length → ls[i]? = some (some l) → (backE ls ρ)[i]? = ρ[i]?
  | [], _, _, _, _, _, h => by simp at h
  | l :: ls, [], _, _, _, hl, _ => by simp at hl
  | l :: ls, c :: ρ, 0, l', hm, hl, h => by
    simp at h; subst h
    cases l' <;> first | rfl | cases hm
  | l :: ls, c :: ρ, i + 1, l', hm, hl, h => by
    have h' : ls[i]? = some (some l') := by simpa using h
    have ih := backE_bo (ρ := ρ) hm (by simpa using hl) h'
    cases l with
    | none => simpa [backE] using ih
    | some l => cases l <;> simpa [backE] using ih
theorem backE_no : ∀ {ls ρ : En} {i : Nat}, (∀ l, l.lent = true → ls[i]? ≠ some (some l)) → (backE ls ρ)[i]? = ls[i]?
  | [], ρ, i, _ => by cases ρ <;> rfl
  | l :: ls, [], i, _ => by cases l with
    | none => rfl
    | some l => cases l <;> rfl
  | l :: ls, c :: ρ, 0, h => by
    cases l with
    | none => rfl
    | some l => cases l with
      | bo ds => exact absurd rfl (h _ rfl)
      | bt t => exact absurd rfl (h _ rfl)
      | _ => rfl
  | l :: ls, c :: ρ, i + 1, h => by
    have h' : ∀ l, l.lent = true → ls[i]? ≠ some (some l) := fun l hl e => h l hl (by simpa using e)
    have ih := backE_no (ρ := ρ) h'
    cases l with
    | none => simpa [backE] using ih
    | some l => cases l <;> simpa [backE] using ih
section
variable {K : PySem.W.Frag} {w : Wh} {G H G' H' : Hp} {vs : List V} {ls ρ' : En} {σ' : L2.St} {n : Nat}
/-- slots that hold nothing yet -/
theorem Rel.more (r : Rel K G H (vs.map some) ls) : Rel K G H (vs.map some ++ List.replicate (n - vs.length) none) (ls ++ List.replicate (n - ls.length) none) ∧
    (∀ a, Own H (vs.map some ++ List.replicate (n - vs.length) none) (ls ++ List.replicate (n - ls.length) none) a → Own H (vs.map some) ls a) ∧
    (∀ a, Own H (vs.map some) ls a → Own H (vs.map some ++ List.replicate (n - vs.length) none) (ls ++ List.replicate (n - ls.length) none) a) := by
  have hl : vs.length = ls.length := by have := r.len; simpa using this
  have old : ∀ (i : Nat) (l : L), (ls ++ List.replicate (n - ls.length) none)[i]? = some (some l) → i < ls.length ∧ ls[i]? = some (some l) := fun i l e => by
    by_cases hi : i < ls.length
    · rw [List.getElem?_append_left hi] at e; exact ⟨hi, e⟩
    · rw [List.getElem?_append_right (by omega), List.getElem?_replicate] at e
      split at e <;> cases e
  have at_ : ∀ (i : Nat), i < ls.length → (vs.map some ++ List.replicate (n - vs.length) none)[i]? = (vs.map some)[i]? := fun i hi => List.getElem?_append_left (by simpa [hl] using hi)
  refine ⟨⟨r.sub, by simp [hl], fun i l e => ?_, fun i j l m v u a ei ej si sj fi fj => ?_⟩, fun a ⟨i, l, v, e, s, f⟩ => ?_, fun a ⟨i, l, v, e, s, f⟩ => ?_⟩
  · obtain ⟨hi, e'⟩ := old i l e
    obtain ⟨v, s, c⟩ := r.cell i l e'
    exact ⟨v, by rw [at_ i hi]; exact s, c⟩
  · obtain ⟨hi, ei'⟩ := old i l ei
    obtain ⟨hj, ej'⟩ := old j m ej
    rw [at_ i hi] at si; rw [at_ j hj] at sj
    exact r.apart i j l m v u a ei' ej' si sj fi fj
  · obtain ⟨hi, e'⟩ := old i l e
    rw [at_ i hi] at s
    exact ⟨i, l, v, e', s, f⟩
  · have hi : i < ls.length := (List.getElem?_eq_some_iff.mp e).1
    exact ⟨i, l, v, by rw [List.getElem?_append_left hi]; exact e, by rw [at_ i hi]; exact s, f⟩
/-- at a def's end -/
theorem Rel.back (r : Rel K G H (vs.map some) ls) (no : noOw ls) (r' : Rel K G' H' σ' ρ')
    (s : Stp G H (vs.map some ++ List.replicate (n - vs.length) none) (ls ++ List.replicate (n - ls.length) none) G' H' σ' ρ') :
    Rel K G' H' (vs.map some) (backE ls ρ') ∧ Stp G H (vs.map some) ls G' H' (vs.map some) (backE ls ρ') ∧ (∀ a, Own H' (vs.map some) (backE ls ρ') a → Own H' σ' ρ' a) := by
  have hl : vs.length = ls.length := by have := r.len; simpa using this
  obtain ⟨_, o1, o2⟩ := r.more (n := n)
  have hn : ls.length ≤ ρ'.length := by rw [s.ln, List.length_append]; exact Nat.le_add_right _ _
  have bo : ∀ (i : Nat) (l : L), l.lent = true → ls[i]? = some (some l) → σ'[i]? = (vs.map some)[i]? ∧ ∃ l', l'.lent = true ∧ ρ'[i]? = some (some l') ∧ (backE ls ρ')[i]? = some (some l') := fun i l hm e => by
    have hi : i < ls.length := (List.getElem?_eq_some_iff.mp e).1
    have hb := backE_bo hm hn e
    cases l with
    | bo ds =>
      obtain ⟨e1, ds', e2⟩ := s.bo i ds (by rw [List.getElem?_append_left hi]; exact e)
      rw [List.getElem?_append_left (by simpa [hl] using hi)] at e1
      exact ⟨e1, _, rfl, e2, hb.trans e2⟩
    | bt t =>
      obtain ⟨e1, t', e2, _⟩ := s.bt i t (by rw [List.getElem?_append_left hi]; exact e)
      rw [List.getElem?_append_left (by simpa [hl] using hi)] at e1
      exact ⟨e1, _, rfl, e2, hb.trans e2⟩
    | _ => cases hm
  have cases_ : ∀ (i : Nat) (l : L), (backE ls ρ')[i]? = some (some l) → (∃ d, l = .im d ∧ ls[i]? = some (some (.im d))) ∨ (ρ'[i]? = some (some l) ∧ σ'[i]? = (vs.map some)[i]? ∧ ∃ l0, l0.lent = true ∧ ls[i]? = some (some l0)) := fun i l e => by
    by_cases hb : ∃ l0, l0.lent = true ∧ ls[i]? = some (some l0)
    · obtain ⟨l0, hm, hb⟩ := hb
      obtain ⟨e1, l', _, e2, e3⟩ := bo i l0 hm hb
      rw [e3] at e; cases e
      exact .inr ⟨e2, e1, l0, hm, hb⟩
    · rw [backE_no fun l hm z => hb ⟨l, hm, z⟩] at e
      cases l with
      | im d => exact .inl ⟨d, rfl, e⟩
      | ow ds => cases no i _ e
      | ot t => cases no i _ e
      | bo ds => exact absurd ⟨_, rfl, e⟩ hb
      | bt t => exact absurd ⟨_, rfl, e⟩ hb
  have own' : ∀ a, Own H' (vs.map some) (backE ls ρ') a → Own H' σ' ρ' a := fun a ⟨i, l, v, e, q, f⟩ => by
    rcases cases_ i l e with ⟨d, rfl, _⟩ | ⟨e2, e3, _⟩
    · exact f.elim
    · exact ⟨i, l, v, e2, e3.trans q, f⟩
  refine ⟨⟨r'.sub, by rw [backE_length]; exact r.len, fun i l e => ?_, fun i j l m v u a ei ej si sj fi fj => ?_⟩, ⟨s.g, fun a o e n' => s.h a o e fun z => n' (o1 a z), fun a e => ?_, fun a q => ?_, s.tr, backE_length _ _, fun i ds e => ⟨rfl, ?_⟩, fun i t e => ⟨rfl, ?_⟩⟩, own'⟩
  · rcases cases_ i l e with ⟨d, rfl, e1⟩ | ⟨e2, e3, _⟩
    · obtain ⟨v, q, c⟩ := r.cell i _ e1
      exact ⟨v, q, DR.mono s.g c⟩
    · obtain ⟨v, q, c⟩ := r'.cell i _ e2
      exact ⟨v, e3.symm.trans q, c⟩
  · rcases cases_ i l ei with ⟨d, rfl, _⟩ | ⟨e2, e3, _⟩
    · exact fi.elim
    · rcases cases_ j m ej with ⟨d, rfl, _⟩ | ⟨f2, f3, _⟩
      · exact fj.elim
      · exact r'.apart i j _ _ v u a e2 f2 (e3.trans si) (f3.trans sj) fi fj
  · rcases s.fr a e with z | z | z
    · exact .inl z
    · exact .inr (.inl z)
    · exact .inr (.inr (o1 a z))
  · rcases s.ow a (own' a q) with z | z
    · exact .inl (o1 a z)
    · exact .inr z
  · have hi : i < ls.length := (List.getElem?_eq_some_iff.mp e).1
    obtain ⟨_, ds', e2⟩ := s.bo i ds (by rw [List.getElem?_append_left hi]; exact e)
    exact ⟨ds', (backE_bo rfl hn e).trans e2⟩
  · have hi : i < ls.length := (List.getElem?_eq_some_iff.mp e).1
    obtain ⟨_, t', e2, f2⟩ := s.bt i t (by rw [List.getElem?_append_left hi]; exact e)
    exact ⟨t', (backE_bo rfl hn e).trans e2, fun v a q f => f2 v a (by rw [List.getElem?_append_left (by simpa [hl] using hi)]; exact q) f⟩
end
/-- what a body's derivation may lean on -/
structure Gd (X : Cx) (w : Wh) (k : Nat) : Prop where
  calm : X.calm = true
  tk : Takes X w.W
  po : PassesOwn (model X.prog X.w) X.A X.env X.xe
  hr : Room k X.A
theorem fn_den {P : Program} {wd : World} {K : PySem.W.Frag} {mg : Str → Option Value} {base : Heap} {ca : String → Option Value} {x qual : Str} {st : Stmt} {f : Addr} {fd : FuncData} {N ps : List Str} {k : Nat} {b : En → R Fl}
    (F : Fun K x qual st f fd) (S : FnScope N ps (defScope st))
    (hb : ∀ (cdv : Value) (A : Around) (outer : List Env) (s : Shared) (H : Hp) (E : XK), Gd (cxOf (L2.CX P wd) P wd K mg base N qual (defScope st) f cdv A outer s H E) (wh ca E) k →
      VSs (cxOf (L2.CX P wd) P wd K mg base N qual (defScope st) f cdv A outer s H E) (wh ca E) (defBody st) b) :
    FnOk P wd K mg base (L2.CX P wd) (k + 1) f fd ps (spD K ca ps.length (dDef N.length b)) := by
  have hpl : ps.length ≤ N.length := by have := congrArg List.length S.pre; rw [List.length_take] at this; omega
  refine F.okX S (fun vs H Q E h => ?_) (fun cdv A outer s H vs Q E hr h => ?_)
  · obtain ⟨_, _, _, _, e, _⟩ := h; exact e
  · obtain ⟨G, ls, rel, no, hl, h⟩ := h
    have hll : vs.length = ls.length := by have := rel.len; simpa using this
    refine ⟨_, hb cdv A outer s H E ⟨rfl, takes_of rfl rfl rfl rfl, passes_of rfl, hr⟩, ?_⟩
    obtain ⟨r0, o1, o2⟩ := rel.more (n := N.length)
    refine ⟨G, _, r0, ?_⟩
    unfold dDef at h
    show FnS K (wh ca E) G H (vs.map some ++ List.replicate (N.length - vs.length) none) (ls ++ List.replicate (N.length - ls.length) none) (b (ls ++ List.replicate (N.length - ls.length) none)) { nx := fun _ H' => Q .non H', rt := Q }
    cases q : b (ls ++ List.replicate (N.length - ls.length) none) with
    | no => rw [q] at h; exact h
    | ex c ρ' =>
      rw [q] at h
      intro G' H' σ' cls dx r' s' x'
      obtain ⟨r2, s2, _⟩ := rel.back no r' s'
      exact h G' H' cls dx r2 s2 x'
    | ok fl ρ' =>
      rw [q] at h
      cases fl with
      | nx =>
        intro G' H' σ' r' s'
        obtain ⟨r2, s2, _⟩ := rel.back no r' s'
        exact h G' H' .non r2 s2 .non
      | bk => exact h.elim
      | ct => exact h.elim
      | rt d =>
        intro G' H' σ' v r' s' hv
        obtain ⟨r2, s2, _⟩ := rel.back no r' s'
        exact h G' H' v r2 s2 hv
      | rl ds =>
        intro G' H' σ' p r' s' ho
        obtain ⟨r2, s2, o3⟩ := rel.back no r' s'
        refine h G' H' p r2 s2 ho.g (fun z => ho.own (o3 p z)) ho.here ?_
        rcases ho.new with z | ⟨i, l, v, e, lo, _⟩
        · exact z
        · by_cases hi : i < ls.length
          · rw [List.getElem?_append_left hi] at e
            have := no i l e
            rw [lo] at this; cases this
          · rw [List.getElem?_append_right (by omega), List.getElem?_replicate] at e
            split at e <;> cases e
end Dn
namespace Dn
open PySem PySem.Spec PyProof.Rows L2

/-! ### a call of a def -/
/-- as a callee sees a slot -/
def L.asLent : L → Option L
  | .im _ => none
  | .ow ds => some (.bo ds)
  | .bo ds => some (.bo ds)
  | .ot t => some (.bt t)
  | .bt t => some (.bt t)
/-- a slot after the call -/
def L.back : L → L → L
  | .ow _, .bo ds => .ow ds
  | .bo _, .bo ds => .bo ds
  | .ot _, .bt t => .ot t
  | .bt _, .bt t => .bt t
  | l, _ => l
@[simp] theorem asLent_im (d : D) : (L.im d).asLent = none := rfl
@[simp] theorem asLent_ow (ds : List D) : (L.ow ds).asLent = some (.bo ds) := rfl
@[simp] theorem asLent_bo (ds : List D) : (L.bo ds).asLent = some (.bo ds) := rfl
@[simp] theorem asLent_ot (t : Tr) : (L.ot t).asLent = some (.bt t) := rfl
@[simp] theorem asLent_bt (t : Tr) : (L.bt t).asLent = some (.bt t) := rfl
@[simp] theorem back_ow (a ds : List D) : (L.ow a).back (.bo ds) = .ow ds := rfl
@[simp] theorem back_bo (a ds : List D) : (L.bo a).back (.bo ds) = .bo ds := rfl
@[simp] theorem back_ot (a t : Tr) : (L.ot a).back (.bt t) = .ot t := rfl
@[simp] theorem back_bt (a t : Tr) : (L.bt a).back (.bt t) = .bt t := rfl
def slotsOf : List AV → List Nat
  | [] => []
  | .im _ :: as => slotsOf as
  | .sl i :: as => i :: slotsOf as
def lendL (ρ : En) : List AV → Option En
  | [] => some []
  | .im d :: as => (lendL ρ as).map (some (.im d) :: ·)
  | .sl i :: as => match ρ[i]? with
    | some (some l) => match l.asLent with
      | some l' => (lendL ρ as).map (some l' :: ·)
      | none => none
    | _ => none
def lend (as : List AV) (ρ : En) : Option En := if (slotsOf as).Nodup then lendL ρ as else none
def giveB : List AV → En → En → En
  | .sl i :: as, some l1 :: ls, ρ => giveB as ls (match ρ[i]? with
    | some (some l) => ρ.set i (some (l.back l1))
    | _ => ρ)
  | _ :: as, _ :: ls, ρ => giveB as ls ρ
  | _, _, ρ => ρ
theorem giveB_length : ∀ (as : List AV) (ls ρ : En), (giveB as ls ρ).length = ρ.length
  | [], ls, ρ => by cases ls <;> rfl
  | .im d :: as, [], ρ => rfl
  | .sl i :: as, [], ρ => rfl
  | .im d :: as, c :: ls, ρ => by simp [giveB, giveB_length as ls ρ]
  | .sl i :: as, none :: ls, ρ => by simp [giveB, giveB_length as ls ρ]
  | .sl i :: as, some l1 :: ls, ρ => by
    simp only [giveB]
    rw [giveB_length as ls]
    split
    · rw [List.length_set]
    · rfl
theorem giveB_out : ∀ {as : List AV} {ls ρ : En} {j : Nat}, j ∉ slotsOf as → (giveB as ls ρ)[j]? = ρ[j]?
  | [], ls, ρ, j, _ => by cases ls <;> rfl
  | .im d :: as, [], ρ, j, _ => rfl
  | .sl i :: as, [], ρ, j, _ => rfl
  | .im d :: as, c :: ls, ρ, j, h => by simp only [giveB]; exact giveB_out (as := as) h
  | .sl i :: as, none :: ls, ρ, j, h => by simp only [giveB]; exact giveB_out (as := as) fun z => h (List.mem_cons_of_mem _ z)
  | .sl i :: as, some l1 :: ls, ρ, j, h => by
    have hj : j ≠ i := fun z => h (by rw [z]; exact List.mem_cons_self ..)
    simp only [giveB]
    rw [giveB_out (as := as) fun z => h (List.mem_cons_of_mem _ z)]
    split
    · rw [List.getElem?_set_ne (Ne.symm hj)]
    · rfl
theorem giveB_in : ∀ {as : List AV} {ls ρ : En} {k j : Nat} {l1 l : L}, (slotsOf as).Nodup → as[k]? = some (.sl j) → ls[k]? = some (some l1) → ρ[j]? = some (some l) → (giveB as ls ρ)[j]? = some (some (l.back l1))
  | [], _, _, k, _, _, _, _, h, _, _ => by simp at h
  | _ :: _, [], _, k, _, _, _, _, _, h, _ => by simp at h
  | .im d :: as, c :: ls, ρ, 0, j, ds, l, _, h, _, _ => by simp at h
  | .im d :: as, c :: ls, ρ, k + 1, j, ds, l, nd, h1, h2, h3 => by simp only [giveB]; exact giveB_in (as := as) (k := k) nd (by simpa using h1) (by simpa using h2) h3
  | .sl i :: as, c :: ls, ρ, 0, j, l1, l, nd, h1, h2, h3 => by
    have e1 : i = j := by simpa using h1
    have e2 : c = some l1 := by simpa using h2
    subst e1; subst e2
    have nd' := List.nodup_cons.mp nd
    simp only [giveB]
    rw [giveB_out (as := as) nd'.1, h3]
    exact set_same h3
  | .sl i :: as, c :: ls, ρ, k + 1, j, l1, l, nd, h1, h2, h3 => by
    have nd' := List.nodup_cons.mp nd
    have h1' : as[k]? = some (.sl j) := by simpa using h1
    have h2' : ls[k]? = some (some l1) := by simpa using h2
    have hmem : ∀ {as : List AV} {k : Nat}, as[k]? = some (AV.sl j) → j ∈ slotsOf as := by
      intro as
      induction as with
      | nil => intro k h; simp at h
      | cons a as ih =>
        intro k h
        cases k with
        | zero => simp at h; subst h; exact List.mem_cons_self ..
        | succ k =>
          have := ih (k := k) (by simpa using h)
          cases a with
          | im d => exact this
          | sl i => exact List.mem_cons_of_mem _ this
    have hj : i ≠ j := fun z => nd'.1 (z ▸ hmem h1')
    cases c with
    | none => simp only [giveB]; exact giveB_in (as := as) (k := k) nd'.2 h1' h2' h3
    | some c =>
      simp only [giveB]
      refine giveB_in (as := as) (k := k) nd'.2 h1' h2' ?_
      split
      · rw [List.getElem?_set_ne hj]; exact h3
      · exact h3
theorem slot_at : ∀ {as : List AV} {j : Nat}, j ∈ slotsOf as → ∃ k : Nat, as[k]? = some (AV.sl j)
  | .im d :: as, j, h => by
    obtain ⟨k, e⟩ := slot_at (as := as) h
    exact ⟨k + 1, by simpa using e⟩
  | .sl i :: as, j, h => by
    rcases List.mem_cons.mp h with rfl | h
    · exact ⟨0, rfl⟩
    · obtain ⟨k, e⟩ := slot_at (as := as) h
      exact ⟨k + 1, by simpa using e⟩
section
variable {K : PySem.W.Frag} {w : Wh} {G H G' H' : Hp} {σ : L2.St} {ρ ρ' : En}
theorem AVs.im_at : ∀ {vs : List V} {as : List AV} {k : Nat} {d : D}, AVs K G σ vs as → as[k]? = some (.im d) → ∃ v, vs[k]? = some v ∧ DR K G v d
  | _, _, 0, _, .im h _, e => by cases e; exact ⟨_, rfl, h⟩
  | _, _, 0, _, .sl _ _, e => by cases e
  | _, _, k + 1, _, .im _ t, e => by obtain ⟨v, h1, h2⟩ := AVs.im_at (k := k) t (by simpa using e); exact ⟨v, by simpa using h1, h2⟩
  | _, _, k + 1, _, .sl _ t, e => by obtain ⟨v, h1, h2⟩ := AVs.im_at (k := k) t (by simpa using e); exact ⟨v, by simpa using h1, h2⟩
theorem AVs.sl_at : ∀ {vs : List V} {as : List AV} {k j : Nat}, AVs K G σ vs as → as[k]? = some (.sl j) → ∃ v, vs[k]? = some v ∧ σ[j]? = some (some v)
  | _, _, 0, _, .sl h _, e => by cases e; exact ⟨_, rfl, h⟩
  | _, _, 0, _, .im _ _, e => by cases e
  | _, _, k + 1, _, .im _ t, e => by obtain ⟨v, h1, h2⟩ := AVs.sl_at (k := k) t (by simpa using e); exact ⟨v, by simpa using h1, h2⟩
  | _, _, k + 1, _, .sl _ t, e => by obtain ⟨v, h1, h2⟩ := AVs.sl_at (k := k) t (by simpa using e); exact ⟨v, by simpa using h1, h2⟩
theorem AVs.length : ∀ {vs : List V} {as : List AV}, AVs K G σ vs as → vs.length = as.length
  | _, _, .nil => rfl
  | _, _, .im _ t => by simp [AVs.length t]
  | _, _, .sl _ t => by simp [AVs.length t]
theorem lendL_length : ∀ {as : List AV} {ls : En}, lendL ρ as = some ls → ls.length = as.length
  | [], _, h => by cases h; rfl
  | .im d :: as, ls, h => by
    simp only [lendL, Option.map_eq_some_iff] at h
    obtain ⟨r, e, rfl⟩ := h
    simp [lendL_length e]
  | .sl i :: as, ls, h => by
    simp only [lendL] at h
    split at h
    · split at h
      · simp only [Option.map_eq_some_iff] at h
        obtain ⟨r, e, rfl⟩ := h
        simp [lendL_length e]
      · cases h
    · cases h
theorem lendL_at : ∀ {as : List AV} {ls : En} {k : Nat} {c : Option L}, lendL ρ as = some ls → ls[k]? = some c →
    (∃ d, c = some (.im d) ∧ as[k]? = some (.im d)) ∨ ∃ j l l', c = some l' ∧ as[k]? = some (.sl j) ∧ ρ[j]? = some (some l) ∧ l.asLent = some l'
  | [], _, k, c, h, e => by cases h; simp at e
  | .im d :: as, ls, k, c, h, e => by
    simp only [lendL, Option.map_eq_some_iff] at h
    obtain ⟨r, h, rfl⟩ := h
    cases k with
    | zero => simp at e; subst e; exact .inl ⟨d, rfl, rfl⟩
    | succ k => simpa using lendL_at (k := k) (c := c) h (by simpa using e)
  | .sl i :: as, ls, k, c, h, e => by
    simp only [lendL] at h
    split at h
    · rename_i l el
      split at h
      · rename_i l' m
        simp only [Option.map_eq_some_iff] at h
        obtain ⟨r, h, rfl⟩ := h
        cases k with
        | zero => simp at e; subst e; exact .inr ⟨i, l, l', rfl, rfl, el, m⟩
        | succ k => simpa using lendL_at (k := k) (c := c) h (by simpa using e)
      · cases h
    · cases h
theorem asLent_cell {l l' : L} {v : V} (e : l.asLent = some l') : (cellR K G H v l' ↔ cellR K G H v l) ∧ (∀ a, Fo H l' v a ↔ Fo H l v a) ∧ l'.own = false ∧ l'.lent = true := by
  cases l <;> simp at e <;> subst e <;> exact ⟨Iff.rfl, fun _ => Iff.rfl, rfl, rfl⟩
/-- two of a kind -/
def L.like : L → L → Bool
  | .bo _, .bo _ => true
  | .bt _, .bt _ => true
  | _, _ => false
theorem back_cell {l l' l1 : L} {v : V} (e : l.asLent = some l') (k : l'.like l1 = true) : (cellR K G H v (l.back l1) ↔ cellR K G H v l1) ∧ ∀ a, Fo H (l.back l1) v a ↔ Fo H l1 v a := by
  cases l <;> simp at e <;> subst e <;> cases l1 <;> first | (cases k; done) | exact ⟨Iff.rfl, fun _ => Iff.rfl⟩
theorem Stp.lent {i : Nat} {l' : L} (s : Stp G H σ ρ G' H' σ ρ') (hl : l'.lent = true) (e : ρ[i]? = some (some l')) : ∃ l1, l'.like l1 = true ∧ ρ'[i]? = some (some l1) ∧ ∀ v a, σ[i]? = some (some v) → Fo H l' v a → Fo H' l1 v a := by
  cases l' with
  | bo ds =>
    obtain ⟨_, ds', e'⟩ := s.bo i ds e
    exact ⟨_, rfl, e', fun v a _ f => f⟩
  | bt t =>
    obtain ⟨_, t', e', f'⟩ := s.bt i t e
    exact ⟨_, rfl, e', f'⟩
  | _ => cases hl
theorem nodup_sl : ∀ {as : List AV} {i k j : Nat}, (slotsOf as).Nodup → as[i]? = some (.sl j) → as[k]? = some (.sl j) → i = k
  | [], i, k, j, _, h, _ => by simp at h
  | a :: as, 0, 0, j, _, _, _ => rfl
  | a :: as, i + 1, k + 1, j, nd, h1, h2 => by
    have nd' : (slotsOf as).Nodup := by cases a with
      | im d => exact nd
      | sl i => exact (List.nodup_cons.mp nd).2
    exact congrArg (· + 1) (nodup_sl (as := as) nd' (by simpa using h1) (by simpa using h2))
  | a :: as, 0, k + 1, j, nd, h1, h2 => by
    simp at h1; subst h1
    exact absurd (mem_sl (as := as) (k := k) (by simpa using h2)) (List.nodup_cons.mp nd).1
  | a :: as, i + 1, 0, j, nd, h1, h2 => by
    simp at h2; subst h2
    exact absurd (mem_sl (as := as) (k := i) (by simpa using h1)) (List.nodup_cons.mp nd).1
where mem_sl : ∀ {as : List AV} {k j : Nat}, as[k]? = some (AV.sl j) → j ∈ slotsOf as
  | [], k, _, h => by simp at h
  | a :: as, 0, j, h => by simp at h; subst h; exact List.mem_cons_self ..
  | .im d :: as, k + 1, j, h => mem_sl (as := as) (k := k) (by simpa using h)
  | .sl i :: as, k + 1, j, h => List.mem_cons_of_mem _ (mem_sl (as := as) (k := k) (by simpa using h))
/-- the callee's view -/
theorem Rel.lent (r : Rel K G H σ ρ) {vs : List V} {as : List AV} {ls : En} (h : AVs K G σ vs as) (e : lend as ρ = some ls) :
    Rel K G H (vs.map some) ls ∧ noOw ls ∧ ∀ a, Own H (vs.map some) ls a → Own H σ ρ a := by
  unfold Dn.lend at e
  split at e
  · rename_i nd
    have own : ∀ a (k : Nat) (l : L) (v : V), ls[k]? = some (some l) → (vs.map some)[k]? = some (some v) → Fo H l v a → ∃ j l', as[k]? = some (.sl j) ∧ ρ[j]? = some (some l') ∧ σ[j]? = some (some v) ∧ Fo H l' v a := fun a k l v ek q f => by
      rcases lendL_at e ek with ⟨d, ed, _⟩ | ⟨j, l', l0, ed, e1, e2, e3⟩
      · cases ed; exact f.elim
      · cases ed
        obtain ⟨v', h1, h2⟩ := h.sl_at e1
        rw [List.getElem?_map, h1] at q
        cases q
        exact ⟨j, l', e1, e2, h2, ((asLent_cell (K := K) (G := G) e3).2.1 a).mp f⟩
    refine ⟨⟨r.sub, by simp [h.length, lendL_length e], fun k l ek => ?_, fun i k l m v u a ei ek si sk fi fk => ?_⟩, fun k l ek => ?_, fun a ⟨k, l, v, ek, q, f⟩ => ?_⟩
    · rcases lendL_at e ek with ⟨d, ed, e1⟩ | ⟨j, l', l0, ed, e1, e2, e3⟩
      · cases ed
        obtain ⟨v, h1, h2⟩ := h.im_at e1
        exact ⟨v, by rw [List.getElem?_map, h1]; rfl, h2⟩
      · cases ed
        obtain ⟨v, h1, h2⟩ := h.sl_at e1
        exact ⟨v, by rw [List.getElem?_map, h1]; rfl, (asLent_cell (H := H) e3).1.mpr (r.at_ e2 h2)⟩
    · obtain ⟨j1, l1, a1, b1, s1, f1⟩ := own a i l v ei si fi
      obtain ⟨j2, l2, a2, b2, s2, f2⟩ := own a k m u ek sk fk
      have := r.apart j1 j2 l1 l2 v u a b1 b2 s1 s2 f1 f2
      subst this
      exact nodup_sl nd a1 a2
    · rcases lendL_at e ek with ⟨d, ed, _⟩ | ⟨j, l', l0, ed, e1, e2, e3⟩
      · cases ed; rfl
      · cases ed; exact (asLent_cell (K := K) (G := G) (H := H) (v := V.non) e3).2.2.1
    · obtain ⟨j1, l1, a1, b1, s1, f1⟩ := own a k l v ek q f
      exact ⟨j1, l1, v, b1, s1, f1⟩
  · cases e
theorem Rel.give (r : Rel K G H σ ρ) {vs : List V} {as : List AV} {ls ls' : En} (h : AVs K G σ vs as) (e : lend as ρ = some ls) (r' : Rel K G' H' (vs.map some) ls') (s : Stp G H (vs.map some) ls G' H' (vs.map some) ls') :
    Rel K G' H' σ (giveB as ls' ρ) ∧ Stp G H σ ρ G' H' σ (giveB as ls' ρ) ∧ ∀ a, Own H' σ (giveB as ls' ρ) a → Own H σ ρ a ∨ Own H' (vs.map some) ls' a := by
  obtain ⟨r0, no, own⟩ := r.lent h e
  have nd : (slotsOf as).Nodup := by
    unfold Dn.lend at e
    split at e
    · assumption
    · cases e
  have e0 : lendL ρ as = some ls := by unfold Dn.lend at e; rw [if_pos nd] at e; exact e
  -- at a slot lent
  have lent : ∀ (j : Nat), j ∈ slotsOf as → ∃ (k : Nat) (l0 l' l1 : L) (v : V), as[k]? = some (.sl j) ∧ ρ[j]? = some (some l0) ∧ l0.asLent = some l' ∧ l'.like l1 = true ∧ ls'[k]? = some (some l1) ∧ σ[j]? = some (some v) ∧ (vs.map some)[k]? = some (some v) ∧
      (giveB as ls' ρ)[j]? = some (some (l0.back l1)) ∧ ∀ a, Fo H l0 v a → Fo H' l1 v a := fun j hj => by
    obtain ⟨k, ek⟩ := slot_at hj
    have hk : k < ls.length := by rw [lendL_length e0]; exact (List.getElem?_eq_some_iff.mp ek).1
    rcases lendL_at e0 (List.getElem?_eq_getElem hk) with ⟨d, _, e1⟩ | ⟨j', l0, l', ec, e1, e2, e3⟩
    · rw [ek] at e1; cases e1
    · rw [ek] at e1; cases e1
      obtain ⟨v, h1, h2⟩ := h.sl_at ek
      have hv : (vs.map some)[k]? = some (some v) := by rw [List.getElem?_map, h1]; rfl
      obtain ⟨l1, lk, e4, fo⟩ := s.lent (asLent_cell (K := K) (G := G) (H := H) (v := V.non) e3).2.2.2 (show ls[k]? = some (some l') by rw [List.getElem?_eq_getElem hk, ec])
      exact ⟨k, l0, l', l1, v, ek, e2, e3, lk, e4, h2, hv, giveB_in nd ek e4 e2, fun a f => fo v a hv (((asLent_cell (K := K) (G := G) e3).2.1 a).mpr f)⟩
  -- what stands at a place behind
  have look : ∀ (j : Nat) (l : L) (v : V), (giveB as ls' ρ)[j]? = some (some l) → σ[j]? = some (some v) → (j ∉ slotsOf as ∧ ρ[j]? = some (some l)) ∨ ∃ (k : Nat) (l1 : L), as[k]? = some (.sl j) ∧ ls'[k]? = some (some l1) ∧ (vs.map some)[k]? = some (some v) ∧ (cellR K G' H' v l ↔ cellR K G' H' v l1) ∧ ∀ a, Fo H' l v a ↔ Fo H' l1 v a := fun j l v ej sj => by
    by_cases hj : j ∈ slotsOf as
    · obtain ⟨k, l0, l', l1, v', ek, e2, e3, lk, e4, s1, s2, e5, _⟩ := lent j hj
      rw [e5] at ej; cases ej
      rw [s1] at sj; cases sj
      have := back_cell (K := K) (G := G') (H := H') (v := v) e3 lk
      exact .inr ⟨k, l1, ek, e4, s2, this.1, this.2⟩
    · rw [giveB_out hj] at ej; exact .inl ⟨hj, ej⟩
  -- what no callee had stays
  have away : ∀ (j : Nat) (l : L) (v : V) (a : Addr), j ∉ slotsOf as → ρ[j]? = some (some l) → σ[j]? = some (some v) → Fo H l v a → ¬ Own H (vs.map some) ls a := fun j l v a hj ej sj f ⟨k, l2, v2, ek2, q2, f2⟩ => by
    rcases lendL_at e0 ek2 with ⟨d, ed, _⟩ | ⟨j', l', l0, ed, g1, g2, g3⟩
    · cases ed; exact f2.elim
    · cases ed
      obtain ⟨v', h1, h2⟩ := h.sl_at g1
      rw [List.getElem?_map, h1] at q2; cases q2
      have := r.apart j j' l l' v _ a ej g2 sj h2 f (((asLent_cell (K := K) (G := G) g3).2.1 a).mp f2)
      subst this
      exact hj (nodup_sl.mem_sl g1)
  have same : ∀ (j : Nat) (l : L) (v : V), j ∉ slotsOf as → ρ[j]? = some (some l) → σ[j]? = some (some v) → ∀ a, Fo H l v a → H' a = H a := fun j l v hj ej sj a f => by
    obtain ⟨_, us, q⟩ := Fo.some (r.at_ ej sj) f
    rw [q]; exact s.h a _ q (away j l v a hj ej sj f)
  have none_ : ∀ (j : Nat) (l : L) (v : V), j ∉ slotsOf as → ρ[j]? = some (some l) → σ[j]? = some (some v) → ∀ a, Fo H l v a → G' a = none := fun j l v hj ej sj a f => by
    obtain ⟨g, us, q⟩ := Fo.some (r.at_ ej sj) f
    cases z : G' a with
    | none => rfl
    | some u =>
      rcases s.fr a (by rw [z]; exact fun z => nomatch z) with y | y | y
      · exact absurd g y
      · rw [q] at y; cases y
      · exact absurd y (away j l v a hj ej sj f)
  have ownb : ∀ a, Own H' σ (giveB as ls' ρ) a → Own H σ ρ a ∨ Own H' (vs.map some) ls' a := fun a ⟨j, l, v, ej, sj, f⟩ => by
    rcases look j l v ej sj with ⟨hj, e1⟩ | ⟨k, l1, ek, e4, s2, _, f2⟩
    · exact .inl ⟨j, l, v, e1, sj, f.from (same j l v hj e1 sj)⟩
    · exact .inr ⟨k, l1, v, e4, s2, (f2 a).mp f⟩
  have ownc : ∀ a, Own H' σ (giveB as ls' ρ) a → Own H σ ρ a ∨ H a = none := fun a z => by
    rcases ownb a z with z | z
    · exact .inl z
    · rcases s.ow a z with z | z
      · exact .inl (own a z)
      · exact .inr z
  have mix : ∀ (i j k : Nat) (l l1 : L) (v u : V) (a : Addr), i ∉ slotsOf as → ρ[i]? = some (some l) → σ[i]? = some (some v) → Fo H' l v a → ls'[k]? = some (some l1) → (vs.map some)[k]? = some (some u) → ¬ Fo H' l1 u a := fun i j k l l1 v u a hi ei si fi ek sk fk => by
    have fi' := fi.from (same i l v hi ei si)
    rcases s.ow a ⟨k, l1, u, ek, sk, fk⟩ with z | z
    · exact away i l v a hi ei si fi' z
    · obtain ⟨_, us, q⟩ := Fo.some (r.at_ ei si) fi'
      rw [z] at q; cases q
  refine ⟨⟨r'.sub, by rw [giveB_length]; exact r.len, fun j l ej => ?_, fun i j l m v u a ei ej si sj fi fj => ?_⟩, ⟨s.g, fun a o q n => s.h a o q fun z => n (own a z), fun a q => ?_, ownc, s.tr, giveB_length _ _ _, fun j ds ej => ⟨rfl, ?_⟩, fun j t ej => ⟨rfl, ?_⟩⟩, ownb⟩
  · by_cases hj : j ∈ slotsOf as
    · obtain ⟨k, l0, l', l1, v, ek, e2, e3, lk, e4, s1, s2, e5, _⟩ := lent j hj
      rw [e5] at ej; cases ej
      exact ⟨v, s1, (back_cell e3 lk).1.mpr (r'.at_ e4 s2)⟩
    · rw [giveB_out hj] at ej
      obtain ⟨v, q, c⟩ := r.cell j l ej
      exact ⟨v, q, cell_keep c s.g (none_ j l v hj ej q) (same j l v hj ej q)⟩
  · rcases look i l v ei si with ⟨hi, e1⟩ | ⟨k, l1, ek, e4, s2, _, f2⟩
    · rcases look j m u ej sj with ⟨hj, g1⟩ | ⟨k', m1, gk, g4, t2, _, h2⟩
      · exact r.apart i j l m v u a e1 g1 si sj (fi.from (same i l v hi e1 si)) (fj.from (same j m u hj g1 sj))
      · exact absurd ((h2 a).mp fj) (mix i j k' l m1 v u a hi e1 si fi g4 t2)
    · rcases look j m u ej sj with ⟨hj, g1⟩ | ⟨k', m1, gk, g4, t2, _, h2⟩
      · exact absurd ((f2 a).mp fi) (mix j i k m l1 u v a hj g1 sj fj e4 s2)
      · have := r'.apart k k' l1 m1 v u a e4 g4 s2 t2 ((f2 a).mp fi) ((h2 a).mp fj)
        subst this
        rw [ek] at gk; cases gk; rfl
  · rcases s.fr a q with z | z | z
    · exact .inl z
    · exact .inr (.inl z)
    · exact .inr (.inr (own a z))
  · by_cases hj : j ∈ slotsOf as
    · obtain ⟨k, l0, l', l1, v, ek, e2, e3, lk, e4, s1, s2, e5, _⟩ := lent j hj
      rw [ej] at e2; cases e2
      cases e3
      cases l1 <;> first | (cases lk; done) | exact ⟨_, e5⟩
    · exact ⟨ds, by rw [giveB_out hj]; exact ej⟩
  · by_cases hj : j ∈ slotsOf as
    · obtain ⟨k, l0, l', l1, v, ek, e2, e3, lk, e4, s1, s2, e5, f5⟩ := lent j hj
      rw [ej] at e2; cases e2
      cases e3
      cases l1 <;> first | (cases lk; done) | exact ⟨_, e5, fun v' a q f => by rw [s1] at q; cases q; exact f5 a f⟩
    · exact ⟨t, by rw [giveB_out hj]; exact ej, fun v a q f => Foot.to f (fun b y => same j _ v hj ej q b y)⟩
end
/-- the callee's result in the caller: a datum -/
def dFn (n : Nat) (den : En → R L) (ga : En → R (List AV)) : En → R D := fun ρ => (ga ρ).bind fun as ρ1 => if as.length = n then match lend as ρ1 with
  | none => .no
  | some ls => match den ls with
    | .ok (.im d) ls' => .ok d (giveB as ls' ρ1)
    | .ok (.ow ds) ls' => .ok (.list ds) (giveB as ls' ρ1)
    | .ok _ _ => .no
    | .ex c ls' => .ex c (giveB as ls' ρ1)
    | .no => .no
  else .no
/-- a new list -/
def nFn (n : Nat) (den : En → R L) (ga : En → R (List AV)) : En → R (List D) := fun ρ => (ga ρ).bind fun as ρ1 => if as.length = n then match lend as ρ1 with
  | none => .no
  | some ls => match den ls with
    | .ok (.ow ds) ls' => .ok ds (giveB as ls' ρ1)
    | .ex c ls' => .ex c (giveB as ls' ρ1)
    | _ => .no
  else .no
section
variable {K : PySem.W.Frag} {G H : Hp} {σ : L2.St} {ρ : En}
/-- a new mutable list becomes immutable -/
theorem Rel.settle (r : Rel K G H σ ρ) {p : Addr} {us : List V} {ds : List D} (hg : G p = none) (ho : ¬ Own H σ ρ p) (hp : H p = some (.lst us)) (hd : DRs K G us ds) :
    Rel K (upd G p (.lst us)) H σ ρ ∧ Same G (upd G p (.lst us)) ∧ DR K (upd G p (.lst us)) (.ref p) (.list ds) ∧ ∀ a, upd G p (.lst us) a ≠ none → G a ≠ none ∨ a = p := by
  have sg : Same G (upd G p (.lst us)) := fun b x e => by rw [upd_ne (ne_of_none e hg)]; exact e
  refine ⟨(r.keep (G' := upd G p (.lst us)) (H' := H) sg (fun b x e => ?_) (fun a h => ?_) (fun _ _ => rfl)).1, sg, .lst (.inl (.inl upd_same)) (hd.mono sg), fun a h => ?_⟩
  · by_cases hb : b = p
    · subst hb; rw [upd_same] at e; cases e; exact hp
    · rw [upd_ne hb] at e; exact r.sub b x e
  · have : a ≠ p := fun z => by subst z; exact ho h
    rw [upd_ne this]; exact (r.own h).1
  · by_cases ha : a = p
    · exact .inr ha
    · rw [upd_ne ha] at h; exact .inl h
end
section
variable {X : Cx} {w : Wh} {k n : Nat} {f : Addr} {fd : FuncData} {ps : List Str} {den : En → R L} {ca : String → Option Value} {x : Str} {p pos : Pos} {e : Expr} {es : List Expr} {ga : En → R (List AV)}
theorem call_ok (hca : w.ca = ca) {σ : L2.St} {H : Hp} {Q : VK} {G : Hp} {ρ : En} {vs : List V} {as : List AV} {ls : En} (r : Rel X.K G H σ ρ) (hvs : AVs X.K G σ vs as) (hl : as.length = n) (e : lend as ρ = some ls)
    (h1 : ∀ d ls', den ls = .ok (.im d) ls' → ∀ G' H', Rel X.K G' H' σ (giveB as ls' ρ) → Stp G H σ ρ G' H' σ (giveB as ls' ρ) → ∀ v, DR X.K G' v d → Q v H')
    (h2 : ∀ ds ls', den ls = .ok (.ow ds) ls' → ∀ G' H', Rel X.K G' H' σ (giveB as ls' ρ) → Stp G H σ ρ G' H' σ (giveB as ls' ρ) → ∀ p, G' p = none → ¬ Own H' σ (giveB as ls' ρ) p → (∃ us, H' p = some (.lst us) ∧ DRs X.K G' us ds) → H p = none → Q (.ref p) H')
    (h3 : ∀ c ls', den ls = .ex c ls' → ∀ G' H' cls dx, Rel X.K G' H' σ (giveB as ls' ρ) → Stp G H σ ρ G' H' σ (giveB as ls' ρ) → ExR X.K w G' H' c cls dx → w.W cls dx σ H')
    (h4 : den ls ≠ .no) (h5 : ∀ l ls', den ls = .ok l ls' → (∃ d, l = .im d) ∨ ∃ ds, l = .ow ds) : spD X.K ca n den vs H Q (WE w.W σ) := by
  obtain ⟨r0, no, own⟩ := r.lent hvs e
  refine ⟨G, ls, r0, no, hvs.length.trans hl, ?_⟩
  cases q : den ls with
  | no => exact absurd q h4
  | ex c ls' =>
    intro G' H' cls dx r' s' x'
    obtain ⟨r2, s2, ob⟩ := r.give hvs e r' s'
    exact h3 c ls' q G' H' cls dx r2 s2 (x'.to hca.symm)
  | ok l ls' =>
    cases l with
    | bo ds => rcases h5 _ _ q with ⟨_, e⟩ | ⟨_, e⟩ <;> cases e
    | ot t => rcases h5 _ _ q with ⟨_, e⟩ | ⟨_, e⟩ <;> cases e
    | bt t => rcases h5 _ _ q with ⟨_, e⟩ | ⟨_, e⟩ <;> cases e
    | im d =>
      intro G' H' v r' s' hv
      obtain ⟨r2, s2, ob⟩ := r.give hvs e r' s'
      exact h1 d ls' q G' H' r2 s2 v hv
    | ow ds =>
      intro G' H' p r' s' hg ho hu hn
      obtain ⟨r2, s2, ob⟩ := r.give hvs e r' s'
      refine h2 ds ls' q G' H' r2 s2 p hg (fun z => ?_) hu hn
      rcases ob p z with y | y
      · obtain ⟨_, us, y'⟩ := r.own y
        rw [hn] at y'; cases y'
      · exact ho y
theorem ve_call (F : FnOk X.prog X.w X.K X.mg X.base (L2.CX X.prog X.w) k f fd ps (spD X.K ca n den)) (hr : Room k X.A) (tk : Takes X w.W) (hca : w.ca = ca) (hg : Gl X x) (hm : X.mg x = some (.ref f)) (hk : PySem.W.keepIn X.K (.ref f) = true) (hb : Binds X.K fd ps [])
    (ha : VA X w (e :: es) ga) (hdb : (x == ("__debug__" : Str)) = false := by decide) (he : starEach (e :: es) X.env = (false, eval e X.env) :: starEach es X.env := by rfl) (hpl : (backTo pos (starEach es X.env)).any (·.1) = false := by rfl) :
    VE X w (.Call (.Name x p) (e :: es) [] pos) (dFn n den ga) :=
  PE.imp (pe_callS F hr hg hm hk hb (passAt tk) ha hdb he hpl) fun σ H Q ⟨G, ρ, rel, h⟩ => ⟨G, ρ, rel, (Fn.bind rel h).imp fun G1 H1 ρ1 as ⟨r1, s1, h1⟩ vs hvs => by
    split at h1
    · rename_i hl
      cases q : lend as ρ1 with
      | none => rw [q] at h1; exact h1.elim
      | some ls =>
        rw [q] at h1
        have h1' : Fn X.K w G1 H1 σ ρ1 (match den ls with | .ok (.im d) ls' => R.ok d (giveB as ls' ρ1) | .ok (.ow ds) ls' => .ok (.list ds) (giveB as ls' ρ1) | .ok _ _ => .no | .ex c ls' => .ex c (giveB as ls' ρ1) | .no => .no) (QD X.K Q) := h1
        refine call_ok hca r1 hvs hl q (fun d ls' e => ?_) (fun ds ls' e => ?_) (fun c ls' e => ?_) (fun e => ?_) (fun l ls' e => ?_)
        · rw [e] at h1'; exact fun G' H' r' s' v hv => h1' G' H' r' s' v hv
        · rw [e] at h1'
          intro G' H' r' s' p hg ho ⟨us, hp, hd⟩ hn
          obtain ⟨r2, sg, hdr, hfr⟩ := r'.settle hg ho hp hd
          refine h1' _ H' r2 ⟨s'.g.trans sg, s'.h, fun a z => ?_, s'.ow, s'.tr, s'.ln, s'.bo, s'.bt⟩ _ hdr
          rcases hfr a z with y | rfl
          · exact s'.fr a y
          · exact .inr (.inl hn)
        · rw [e] at h1'; exact fun G' H' cls dx r' s' x' => h1' G' H' cls dx r' s' x'
        · rw [e] at h1'; exact h1'
        · rw [e] at h1'
          cases l <;> first | exact .inl ⟨_, rfl⟩ | exact .inr ⟨_, rfl⟩ | exact h1'.elim
    · exact h1.elim⟩
theorem vn_call (F : FnOk X.prog X.w X.K X.mg X.base (L2.CX X.prog X.w) k f fd ps (spD X.K ca n den)) (hr : Room k X.A) (tk : Takes X w.W) (hca : w.ca = ca) (hg : Gl X x) (hm : X.mg x = some (.ref f)) (hk : PySem.W.keepIn X.K (.ref f) = true) (hb : Binds X.K fd ps [])
    (ha : VA X w (e :: es) ga) (hdb : (x == ("__debug__" : Str)) = false := by decide) (he : starEach (e :: es) X.env = (false, eval e X.env) :: starEach es X.env := by rfl) (hpl : (backTo pos (starEach es X.env)).any (·.1) = false := by rfl) :
    VN X w (.Call (.Name x p) (e :: es) [] pos) (nFn n den ga) :=
  PE.imp (pe_callS F hr hg hm hk hb (passAt tk) ha hdb he hpl) fun σ H Q ⟨G, ρ, rel, h⟩ => ⟨G, ρ, rel, (Fn.bind rel h).imp fun G1 H1 ρ1 as ⟨r1, s1, h1⟩ vs hvs => by
    split at h1
    · rename_i hl
      cases q : lend as ρ1 with
      | none => rw [q] at h1; exact h1.elim
      | some ls =>
        rw [q] at h1
        have h1' : Fn X.K w G1 H1 σ ρ1 (match den ls with | .ok (.ow ds) ls' => R.ok ds (giveB as ls' ρ1) | .ex c ls' => .ex c (giveB as ls' ρ1) | _ => .no) (QN X.K H σ Q) := h1
        refine call_ok hca r1 hvs hl q (fun d ls' e => ?_) (fun ds ls' e => ?_) (fun c ls' e => ?_) (fun e => ?_) (fun l ls' e => ?_)
        · rw [e] at h1'; exact h1'.elim
        · rw [e] at h1'
          intro G' H' r' s' p hg ho hu hn
          refine h1' _ H' r' s' p ⟨hg, ho, hu, ?_⟩
          cases z : H p with
          | none => rfl
          | some o => exact absurd hn (s1.tr p (by rw [z]; exact fun z => nomatch z))
        · rw [e] at h1'; exact fun G' H' cls dx r' s' x' => h1' G' H' cls dx r' s' x'
        · rw [e] at h1'; exact h1'
        · rw [e] at h1'
          cases l <;> first | exact .inl ⟨_, rfl⟩ | exact .inr ⟨_, rfl⟩ | exact h1'.elim
    · exact h1.elim⟩
end
end Dn
namespace Dn
open PySem PySem.Spec PyProof.Rows L2

/-! ### constants -/
section
variable {X : Cx} {w : Wh}
theorem ve_bl {b : Bool} {j : Nat} {pos : Pos} : VE X w (.Constant (.bool b) j pos) (dC (.bool b)) := PE.imp pe_bl fun _ _ _ ⟨_, _, r, h⟩ => h.ok r _ (.bl b)
theorem ve_non {j : Nat} {pos : Pos} : VE X w (.Constant .none j pos) (dC .none) := PE.imp pe_non fun _ _ _ ⟨_, _, r, h⟩ => h.ok r _ .non
theorem ve_str {x : Str} {j : Nat} {pos : Pos} : VE X w (.Constant (.str x) j pos) (dC (.str x)) := PE.imp pe_str fun _ _ _ ⟨_, _, r, h⟩ => h.ok r _ (.str x)
theorem ve_glS {x : Str} {z : Str} {pos : Pos} (hg : Gl X x) (hm : ∃ t, X.mg x = some (.str z t)) (hd : (x == ("__debug__" : Str)) = false := by decide) : VE X w (.Name x pos) (dC (.str z)) := by
  obtain ⟨t, hm⟩ := hm
  exact PE.imp (pe_glob (v := .str z) hg hm ⟨_, rfl⟩ hd) fun _ _ _ ⟨_, _, r, h⟩ => h.ok r _ (.str z)
theorem ve_glI {x : Str} {z : Int} {pos : Pos} (hg : Gl X x) (hm : ∃ t, X.mg x = some (.int z t)) (hd : (x == ("__debug__" : Str)) = false := by decide) : VE X w (.Name x pos) (dC (.int z)) := by
  obtain ⟨t, hm⟩ := hm
  exact PE.imp (pe_glob (v := .int z) hg hm ⟨_, rfl⟩ hd) fun _ _ _ ⟨_, _, r, h⟩ => h.ok r _ (.int z)
/-- a constant table of the top -/
theorem ve_glO {x : Str} {a : Addr} {d : D} {pos : Pos} (hg : Gl X x) (hm : X.mg x = some (.ref a)) (hd' : ∀ G, DR X.K G (.ref a) d) (hd : (x == ("__debug__" : Str)) = false := by decide) : VE X w (.Name x pos) (dC d) :=
  PE.imp (pe_glob (v := .ref a) hg hm rfl hd) fun _ _ _ ⟨_, _, r, h⟩ => h.ok r _ (hd' _)
end
/-! ### defs by names -/
theorem fn_denD {P : Program} {wd : World} {K : PySem.W.Frag} {mg : Str → Option Value} {base : Heap} {ca : String → Option Value} {x qual : Str} {params : Arguments} {body : List Stmt} {scope : Scope} {dvs : List V} {kws : List (Str × V)} {f : Addr} {fd : FuncData} {N ps : List Str} {k : Nat} {b : En → R Fl}
    (F : FunD K x qual params body scope dvs kws f fd) (S : FnScope N ps scope)
    (hb : ∀ (cdv : Value) (A : Around) (outer : List Env) (s : Shared) (H : Hp) (E : XK), Gd (cxOf (L2.CX P wd) P wd K mg base N qual scope f cdv A outer s H E) (wh ca E) k →
      VSs (cxOf (L2.CX P wd) P wd K mg base N qual scope f cdv A outer s H E) (wh ca E) body b) :
    FnOk P wd K mg base (L2.CX P wd) (k + 1) f fd ps (spD K ca ps.length (dDef N.length b)) := by
  refine F.ok S (fun vs H Q E h => ?_) (fun cdv A outer s H vs Q E hr h => ?_)
  · obtain ⟨_, _, _, _, e, _⟩ := h; exact e
  · obtain ⟨G, ls, rel, no, hl, h⟩ := h
    refine ⟨_, hb cdv A outer s H E ⟨rfl, takes_of rfl rfl rfl rfl, passes_of rfl, hr⟩, ?_⟩
    obtain ⟨r0, o1, o2⟩ := rel.more (n := N.length)
    refine ⟨G, _, r0, ?_⟩
    unfold dDef at h
    show FnS K (wh ca E) G H (vs.map some ++ List.replicate (N.length - vs.length) none) (ls ++ List.replicate (N.length - ls.length) none) (b (ls ++ List.replicate (N.length - ls.length) none)) { nx := fun _ H' => Q .non H', rt := Q }
    cases q : b (ls ++ List.replicate (N.length - ls.length) none) with
    | no => rw [q] at h; exact h
    | ex c ρ' =>
      rw [q] at h
      intro G' H' σ' cls dx r' s' x'
      obtain ⟨r2, s2, _⟩ := rel.back no r' s'
      exact h G' H' cls dx r2 s2 x'
    | ok fl ρ' =>
      rw [q] at h
      cases fl with
      | nx =>
        intro G' H' σ' r' s'
        obtain ⟨r2, s2, _⟩ := rel.back no r' s'
        exact h G' H' .non r2 s2 .non
      | bk => exact h.elim
      | ct => exact h.elim
      | rt d =>
        intro G' H' σ' v r' s' hv
        obtain ⟨r2, s2, _⟩ := rel.back no r' s'
        exact h G' H' v r2 s2 hv
      | rl ds =>
        intro G' H' σ' p r' s' ho
        obtain ⟨r2, s2, o3⟩ := rel.back no r' s'
        refine h G' H' p r2 s2 ho.g (fun z => ho.own (o3 p z)) ho.here ?_
        rcases ho.new with z | ⟨i, l, v, e, lo, _⟩
        · exact z
        · by_cases hi : i < ls.length
          · rw [List.getElem?_append_left hi] at e
            have := no i l e
            rw [lo] at this; cases this
          · rw [List.getElem?_append_right (by omega), List.getElem?_replicate] at e
            split at e <;> cases e
/-- a class's value, by its name -/
def caK (bi : List String) (K : PySem.W.Frag) : String → Option Value := fun s => if bi.contains s = true then some (.type s) else some (.ref (He.ga K (Str.ofString s)))
/-! ### the end of a law's row -/
theorem walk_ofEB {l : PySem.W.OpenLaw} {n k : Nat} {q : Program} {loose : List Str} {XP : (Str → Option Value) → Heap → Prop} {YP : World → Heap → Prop} {d : DefRec} {CX : World → CXT} {x : Str}
    (hn : l.most = some n) (hn2 : n ≤ sizeLine) (hdf : d.params.defaults = []) (hr : Room k callerA)
    (F : ∀ (w : World) (mg : Str → Option Value) (fa : Addr) (h : Heap), YP w h → h.Ns mainGlobals mg → mg d.name = some (.ref fa) →
      ∃ (K : PySem.W.Frag) (fd : FuncData) (sp : Sp), K.In h ∧ (∀ (s : Shared) (u : Value), BindsTo s fd ⟨[u], []⟩ [(x, u)]) ∧
        (∀ (H : Hp) (a : Addr) (ns : List Int), ns.length ≤ n → (∀ z ∈ ns, Builtin.Int.intBits z ≤ 1048576) → SqL K H a (ns.map V.int) → sp [.ref a] H (fun v _ => v = .bl true) fun _ _ _ => False) ∧
        ∀ base : Heap, K.In base → base.Ns mainGlobals mg → FnOk l.prog w K mg base (CX w) k fa fd [x] sp)
    (hCX : ∀ (w : World) (H : Hp) (s : Shared) (e : Value) (s' : Shared), CX w [] H s (fun _ _ _ => False) e s' → False) :
    PySem.W.WalkO q loose XP YP l.row.toRowW d [] (fun f vs => PySem.call f vs) := by
  refine Att.attach_callB hn hdf fun w s₀ s₁ mg mb fa o pm cd doc a vs ns G Y ho hd hcd hmg hobj hints hlen hbits hg => ?_
  obtain ⟨K, fd, sp, KX, hb, hsp, hF⟩ := F w mg fa _ Y G.T.g hmg
  exact law_call KX G.T.g G.T.b G.T.builtins G.T.nolimit hg hobj hints (Nat.le_trans hlen hn2) hr hF hb (fun H hO hS => hsp H a ns hlen hbits hS) fun H e s' => hCX w H s₁ e s'
/-- a script's cell has few bits -/
theorem bits_lt {z : Int} (h : Builtin.Int.intBits z ≤ 1048576) : z.natAbs < 2 ^ 1048576 := by
  unfold Builtin.Int.intBits at h
  split at h
  · rename_i e
    have : z = 0 := by simpa using e
    subst this
    exact Nat.pow_pos (by decide)
  · rename_i e
    have hz : z.natAbs ≠ 0 := by intro q; apply e; simp [Int.natAbs_eq_zero.mp q]
    refine (Nat.log2_lt hz).mp ?_
    omega
def scriptD (ns : List Int) : D := .list (ns.map PyData.int)
/-- the law's def gives True: what the row asks -/
theorem law_sp {K : PySem.W.Frag} {ca : String → Option Value} {den : En → R L} {H : Hp} {a : Addr} {ns : List Int} (hS : SqL K H a (ns.map V.int)) {ls' : En} (h : den [some (.im (scriptD ns))] = .ok (.im (.bool true)) ls') :
    spD K ca 1 den [.ref a] H (fun v _ => v = .bl true) fun _ _ _ => False := by
  have hd : DR K H (.ref a) (scriptD ns) := .lst hS (DRs.ofInts ns)
  refine ⟨H, [some (.im (scriptD ns))], ⟨Same.refl _, rfl, fun i l e => ?_, fun i j l m v u b ei ej si sj fi fj => ?_⟩, fun i l e => ?_, rfl, ?_⟩
  · cases i with
    | zero => cases e; exact ⟨_, rfl, hd⟩
    | succ i => simp at e
  · cases i with
    | zero => cases ei; exact fi.elim
    | succ i => simp at ei
  · cases i with
    | zero => cases e; rfl
    | succ i => simp at e
  · rw [h]
    intro G' H' v r s hv
    cases hv
    rfl
end Dn
namespace Dn
open PySem PySem.Spec PyProof.Rows L2
theorem boot_ty_int : bootBuiltins "int" = some (.type "int") := by decide +kernel
theorem boot_ty_bool : bootBuiltins "bool" = some (.type "bool") := by decide +kernel
theorem boot_ty_str : bootBuiltins "str" = some (.type "str") := by decide +kernel
theorem boot_ty_list : bootBuiltins "list" = some (.type "list") := by decide +kernel
theorem boot_ty_tuple : bootBuiltins "tuple" = some (.type "tuple") := by decide +kernel
theorem boot_ty_dict : bootBuiltins "dict" = some (.type "dict") := by decide +kernel
theorem boot_B_abs : bootBuiltins "abs" = some (.builtin "abs") := by decide +kernel
theorem boot_B_max : bootBuiltins "max" = some (.builtin "max") := by decide +kernel
theorem boot_B_min : bootBuiltins "min" = some (.builtin "min") := by decide +kernel
theorem boot_B_sum : bootBuiltins "sum" = some (.builtin "sum") := by decide +kernel
theorem boot_B_all : bootBuiltins "all" = some (.builtin "all") := by decide +kernel
theorem boot_B_any : bootBuiltins "any" = some (.builtin "any") := by decide +kernel
theorem boot_B_sorted : bootBuiltins "sorted" = some (.builtin "sorted") := by decide +kernel
theorem Gd.u65 {X : Cx} {w : Wh} {k : Nat} (g : Gd X w k) : X.A.units + 65 < cLine := by have := g.hr.un; omega
theorem nox_nil : ∀ (d : List D) (ρ : En) (c : Exn) (ρ' : En), gsNil d ρ ≠ .ex c ρ' := fun d ρ c ρ' => by
  cases d <;> exact fun z => nomatch z
theorem nox_cons {g : D → En → R Unit} {h : List D → En → R Unit} (hg : NoX g) (hh : ∀ (d : List D) (ρ : En) (c : Exn) (ρ' : En), h d ρ ≠ .ex c ρ') : ∀ (d : List D) (ρ : En) (c : Exn) (ρ' : En), gsCons g h d ρ ≠ .ex c ρ' := fun d ρ c ρ' => by
  cases d with
  | nil => exact fun z => nomatch z
  | cons a r =>
    show (g a ρ).bind _ ≠ _
    cases q : g a ρ with
    | no => exact fun z => nomatch z
    | ex c1 ρ1 => exact absurd q (hg a ρ c1 ρ1)
    | ok u ρ1 => exact hh r ρ1 c ρ'
theorem nox_tup {n : Nat} {h : List D → En → R Unit} (hh : ∀ (d : List D) (ρ : En) (c : Exn) (ρ' : En), h d ρ ≠ .ex c ρ') : NoX (gTupD n h) := fun d ρ c ρ' => by
  unfold gTupD
  split
  · split
    · exact hh _ _ _ _
    · exact fun z => nomatch z
  · split
    · exact hh _ _ _ _
    · exact fun z => nomatch z
  · exact fun z => nomatch z
section
variable {X : Cx} {w : Wh} {a b c : Expr} {fa fb fc : En → R D} {ga : En → R Bool} {pos : Pos}
/-- a truth's value as a test -/
theorem vt_b (ha : VE X w a (dB ga)) (he : ∀ whole, isTrue a X.env whole = (do let v ← whole; standAt a.pos; holding [v] (truthy v)) := by intro _; rfl) : VT X w a ga :=
  PT.imp (pt_truth ha he) fun σ H Q ⟨G, ρ, rel, h⟩ => ⟨G, ρ, rel, Fn.toB rel (h.imp fun G1 H1 ρ1 b q v hv => by
    cases hv
    exact ⟨b, rfl, q⟩)⟩
/-- a < b < c -/
def dChain (g g' : D → D → Option Bool) (fa fb fc : En → R D) : En → R Bool := fun ρ => (fa ρ).bind fun x ρ1 => (fb ρ1).bind fun y ρ2 => (lift (g x y) ρ2).bind fun t ρ3 => if t = true then (fc ρ3).bind fun z ρ4 => lift (g' y z) ρ4 else .ok false ρ3
theorem chain_core {K : PySem.W.Frag} {r r' : R2} {g g' : D → D → Option Bool} (h1 : OpB K r g) (h2 : OpB K r' g') {G H : Hp} {σ : L2.St} {ρ : En} {P : Bool → Hp → Prop} (rel : Rel K G H σ ρ) (h : Fn K w G H σ ρ (dChain g g' fa fb fc ρ) (QB P)) :
    tChain r r' (teD K w fa) (teD K w fb) (teD K w fc) σ H (fun v H1 => ∃ k, v = .bl k ∧ P k H1) :=
  ⟨G, ρ, rel, (Fn.bind rel h).imp fun G1 H1 ρ1 dx ⟨r1, s1, h1'⟩ x hx => ⟨G1, ρ1, r1, (Fn.bind r1 h1').imp fun G2 H2 ρ2 dy ⟨r2, s2, h2'⟩ y hy => by
    obtain ⟨t, e, q⟩ := Fn.lift (Fn.bind r2 h2')
    obtain ⟨r3, s3, h3⟩ := q _ _ r2 Stp.refl
    refine h1 x y dx dy t H2 _ ((hx.mono s2.g).mono r2.sub) (hy.mono r2.sub) e ⟨t, rfl, ?_⟩
    cases t with
    | false => exact iteF ⟨false, rfl, Fn.ok (show Fn K w G2 H2 σ ρ2 (.ok false ρ2) (QB P) from h3) r2⟩
    | true =>
      refine iteT ⟨G2, ρ2, r2, (Fn.bind r2 (show Fn K w G2 H2 σ ρ2 ((fc ρ2).bind fun z ρ4 => lift (g' dy z) ρ4) (QB P) from h3)).imp fun G4 H4 ρ4 dz ⟨r4, s4, h4⟩ z hz => ?_⟩
      obtain ⟨b, e', q'⟩ := Fn.lift h4
      exact h2 y z dy dz b H4 _ ((hy.mono s4.g).mono r4.sub) (hz.mono r4.sub) e' ⟨b, rfl, q' _ _ r4 Stp.refl⟩⟩⟩
theorem vt_chain {op op' : CmpOp} {r r' : R2} {g g' : D → D → Option Bool} (ho : OpR X (compareOp op) r) (hs : OpB X.K r g) (ho' : OpR X (compareOp op') r') (hs' : OpB X.K r' g') (ha : VE X w a fa) (hb : VE X w b fb) (hc : VE X w c fc)
    (hm : lastMarks [op, op'] [b, c] = false := by with_unfolding_all rfl) : VT X w (.Compare a [op, op'] [b, c] pos) (dChain g g' fa fb fc) :=
  PT.imp (pt_chain ho ho' ha hb hc hm) fun σ H Q ⟨G, ρ, rel, h⟩ => chain_core hs hs' rel h
theorem tChain_imp {r r' : R2} {ta tb tc : TE} {σ : L2.St} {H : Hp} {Q : VK} (h : tChain r r' ta tb tc σ H Q) : tChain r r' ta tb tc σ H Q := h
theorem ve_chain {op op' : CmpOp} {r r' : R2} {g g' : D → D → Option Bool} (ho : OpR X (compareOp op) r) (hs : OpB X.K r g) (ho' : OpR X (compareOp op') r') (hs' : OpB X.K r' g') (ha : VE X w a fa) (hb : VE X w b fb) (hc : VE X w c fc)
    (hm : lastMarks [op, op'] [b, c] = false := by with_unfolding_all rfl) : VE X w (.Compare a [op, op'] [b, c] pos) (dB (dChain g g' fa fb fc)) := by
  refine ⟨fun pins s σ H Q I q => ?_⟩
  obtain ⟨G, ρ, rel, h⟩ := q
  refine thn ((pe_chain ho ho' ha hb hc hm).run pins s σ H _ I (chain_core (P := fun b H1 => Q (.bl b) H1) hs hs' rel ((Fn.dB rel h).imp fun G1 H1 ρ1 b q => q.2.2))) fun u s1 ⟨v, H1, I1, rv, k, e, q⟩ => ?_
  subst e
  exact ⟨_, H1, I1, rv, q⟩
end
end Dn
namespace Dn
open PySem PySem.Spec PyProof.Rows L2
/-! ### reckoning with denotations -/
section
variable {α β : Type}
@[simp] theorem bind_ok (a : α) (ρ : En) (g : α → En → R β) : (R.ok a ρ).bind g = g a ρ := rfl
@[simp] theorem bind_ex (c : Exn) (ρ : En) (g : α → En → R β) : (R.ex c ρ : R α).bind g = .ex c ρ := rfl
@[simp] theorem bind_no (g : α → En → R β) : (R.no : R α).bind g = .no := rfl
@[simp] theorem bind_ite (c : Prop) [Decidable c] (x y : R α) (g : α → En → R β) : (if c then x else y).bind g = if c then x.bind g else y.bind g := by split <;> rfl
@[simp] theorem lift_some (a : α) (ρ : En) : lift (some a) ρ = .ok a ρ := rfl
@[simp] theorem lift_none (ρ : En) : (lift none ρ : R α) = .no := rfl
@[simp] theorem lift_ite (c : Prop) [Decidable c] (x y : Option α) (ρ : En) : lift (if c then x else y) ρ = if c then lift x ρ else lift y ρ := by split <;> rfl
end
/-- a block goes on -/
def thn' (r : R Fl) (g : En → R Fl) : R Fl := match r with
  | .ok .nx ρ => g ρ
  | .ok fl ρ => .ok fl ρ
  | .ex c ρ => .ex c ρ
  | .no => .no
@[simp] theorem thn_nx (ρ : En) (g : En → R Fl) : thn' (.ok .nx ρ) g = g ρ := rfl
@[simp] theorem thn_rt (d : D) (ρ : En) (g : En → R Fl) : thn' (.ok (.rt d) ρ) g = .ok (.rt d) ρ := rfl
@[simp] theorem thn_rl (d : List D) (ρ : En) (g : En → R Fl) : thn' (.ok (.rl d) ρ) g = .ok (.rl d) ρ := rfl
@[simp] theorem thn_bk (ρ : En) (g : En → R Fl) : thn' (.ok .bk ρ) g = .ok .bk ρ := rfl
@[simp] theorem thn_ct (ρ : En) (g : En → R Fl) : thn' (.ok .ct ρ) g = .ok .ct ρ := rfl
@[simp] theorem thn_ex (c : Exn) (ρ : En) (g : En → R Fl) : thn' (.ex c ρ) g = .ex c ρ := rfl
@[simp] theorem thn_no (g : En → R Fl) : thn' .no g = .no := rfl
@[simp] theorem thn_ite (c : Prop) [Decidable c] (x y : R Fl) (g : En → R Fl) : thn' (if c then x else y) g = if c then thn' x g else thn' y g := by split <;> rfl
/-- a def ends -/
def finD (ls : En) (r : R Fl) : R L := match r with
  | .ok .nx ρ => .ok (.im .none) (backE ls ρ)
  | .ok (.rt d) ρ => .ok (.im d) (backE ls ρ)
  | .ok (.rl ds) ρ => .ok (.ow ds) (backE ls ρ)
  | .ex c ρ => .ex c (backE ls ρ)
  | _ => .no
@[simp] theorem fin_nx (ls ρ : En) : finD ls (.ok .nx ρ) = .ok (.im .none) (backE ls ρ) := rfl
@[simp] theorem fin_rt (ls ρ : En) (d : D) : finD ls (.ok (.rt d) ρ) = .ok (.im d) (backE ls ρ) := rfl
@[simp] theorem fin_rl (ls ρ : En) (d : List D) : finD ls (.ok (.rl d) ρ) = .ok (.ow d) (backE ls ρ) := rfl
@[simp] theorem fin_ex (ls ρ : En) (c : Exn) : finD ls (.ex c ρ) = .ex c (backE ls ρ) := rfl
@[simp] theorem fin_ite (c : Prop) [Decidable c] (ls : En) (x y : R Fl) : finD ls (if c then x else y) = if c then finD ls x else finD ls y := by split <;> rfl
@[simp] theorem dDef_eq (n : Nat) (b : En → R Fl) (ls : En) : dDef n b ls = finD ls (b (ls ++ List.replicate (n - ls.length) none)) := rfl
@[simp] theorem dSeq_eq (f g : En → R Fl) (ρ : En) : dSeq f g ρ = thn' (f ρ) g := by
  unfold dSeq thn'
  cases q : f ρ with
  | ok fl ρ1 => cases fl <;> rfl
  | _ => rfl
section
variable (f g : En → R D) (p q : En → R Bool) (s t : En → R Fl) (ga : En → R (List AV)) (ρ : En) (i j : Nat) (d : D)
@[simp] theorem dNx_eq : dNx ρ = .ok .nx ρ := rfl
@[simp] theorem dBk_eq : dBk ρ = .ok .bk ρ := rfl
@[simp] theorem dCt_eq : dCt ρ = .ok .ct ρ := rfl
@[simp] theorem dRet_eq : dRet f ρ = (f ρ).bind fun d ρ1 => .ok (.rt d) ρ1 := rfl
@[simp] theorem dDrop_eq : dDrop f ρ = (f ρ).bind fun _ ρ1 => .ok .nx ρ1 := rfl
@[simp] theorem dIf_eq : dIf p s t ρ = (p ρ).bind fun b ρ1 => if b = true then s ρ1 else t ρ1 := rfl
@[simp] theorem dC_eq : dC d ρ = .ok d ρ := rfl
@[simp] theorem dOp_eq (h : D → D → Option D) : dOp h f g ρ = (f ρ).bind fun x ρ1 => (g ρ1).bind fun y ρ2 => lift (h x y) ρ2 := rfl
@[simp] theorem d1_eq (h : D → Option D) : d1 h f ρ = (f ρ).bind fun x ρ1 => lift (h x) ρ1 := rfl
@[simp] theorem dCmp_eq (h : D → D → Option Bool) : dCmp h f g ρ = (f ρ).bind fun x ρ1 => (g ρ1).bind fun y ρ2 => lift (h x y) ρ2 := rfl
@[simp] theorem dB_eq : dB p ρ = (p ρ).bind fun b ρ1 => .ok (.bool b) ρ1 := rfl
@[simp] theorem dNot_eq : dNot p ρ = (p ρ).bind fun b ρ1 => .ok (!b) ρ1 := rfl
@[simp] theorem dAnd_eq : dAnd p q ρ = (p ρ).bind fun b ρ1 => if b = true then q ρ1 else .ok false ρ1 := rfl
@[simp] theorem dOr_eq : dOr p q ρ = (p ρ).bind fun b ρ1 => if b = true then .ok true ρ1 else q ρ1 := rfl
@[simp] theorem dAndV_eq : dAndV p f ρ = (p ρ).bind fun b ρ1 => if b = true then f ρ1 else .ok (.bool false) ρ1 := rfl
@[simp] theorem dOrV_eq : dOrV p f ρ = (p ρ).bind fun b ρ1 => if b = true then .ok (.bool true) ρ1 else f ρ1 := rfl
@[simp] theorem dIfE_eq : dIfE p f g ρ = (p ρ).bind fun b ρ1 => if b = true then f ρ1 else g ρ1 := rfl
@[simp] theorem dIsi_eq (t : String) : dIsi t f ρ = (f ρ).bind fun d ρ1 => .ok (isTy t d) ρ1 := rfl
@[simp] theorem dUB_eq : dUB f ρ = (f ρ).bind fun d ρ1 => lift (asB d) ρ1 := rfl
@[simp] theorem dTru_eq : dTru f ρ = (f ρ).bind fun d ρ1 => lift (truD d) ρ1 := rfl
@[simp] theorem dChain_eq (h h' : D → D → Option Bool) (k : En → R D) : dChain h h' f g k ρ = (f ρ).bind fun x ρ1 => (g ρ1).bind fun y ρ2 => (lift (h x y) ρ2).bind fun t ρ3 => if t = true then (k ρ3).bind fun z ρ4 => lift (h' y z) ρ4 else .ok false ρ3 := rfl
@[simp] theorem aNil_eq : aNil ρ = .ok [] ρ := rfl
@[simp] theorem aIm_eq : aIm f ga ρ = (f ρ).bind fun d ρ1 => (ga ρ1).bind fun as ρ2 => .ok (.im d :: as) ρ2 := rfl
@[simp] theorem dAll_eq : dAll ga ρ = (ga ρ).bind fun as ρ1 => lift (allIm as) ρ1 := rfl
@[simp] theorem dTup_eq : dTup ga ρ = (dAll ga ρ).bind fun ds ρ1 => if ds.length ≤ sizeLine then .ok (.tuple ds) ρ1 else .no := rfl
@[simp] theorem dLst_eq : dLst ga ρ = (dAll ga ρ).bind fun ds ρ1 => if ds.length ≤ sizeLine then .ok (.list ds) ρ1 else .no := rfl
@[simp] theorem nLst_eq : nLst ga ρ = (dAll ga ρ).bind fun ds ρ1 => if ds.length ≤ sizeLine then .ok ds ρ1 else .no := rfl
@[simp] theorem dCall_eq (h : List D → Option D) : dCall h ga ρ = (dAll ga ρ).bind fun ds ρ1 => lift (h ds) ρ1 := rfl
@[simp] theorem dAsg_eq (h : D → En → R Unit) : dAsg h f ρ = (f ρ).bind fun d ρ1 => (h d ρ1).bind fun _ ρ2 => .ok .nx ρ2 := rfl
@[simp] theorem putIm_eq : putIm i d ρ = if free ρ[i]? = true then .ok () (ρ.set i (some (.im d))) else .no := rfl
@[simp] theorem putOw_eq (ds : List D) : putOw i ds ρ = if free ρ[i]? = true then .ok () (ρ.set i (some (.ow ds))) else .no := rfl
@[simp] theorem dSl_eq (l u : En → R (Option Int)) : dSl f l u ρ = (f ρ).bind fun x ρ1 => (l ρ1).bind fun lo ρ2 => (u ρ2).bind fun hi ρ3 => lift (gSl x lo hi) ρ3 := rfl
@[simp] theorem oN_eq : oN ρ = .ok none ρ := rfl
@[simp] theorem oI_eq : oI f ρ = (f ρ).bind fun d ρ1 => lift ((asI d).map some) ρ1 := rfl
@[simp] theorem dPair_eq {α β : Type} (f : En → R α) (g : En → R β) : dPair f g ρ = (f ρ).bind fun a ρ1 => (g ρ1).bind fun b ρ2 => .ok (a, b) ρ2 := rfl
@[simp] theorem dPar_eq : dPar i j ga ρ = (dAll ga ρ).bind fun ds ρ1 => match ds with
  | [a, b] => (putIm i a ρ1).bind fun _ ρ2 => (putIm j b ρ2).bind fun _ ρ3 => .ok .nx ρ3
  | _ => .no := rfl
end
/-- a slot read -/
def rdSlot (c : Option (Option L)) (i : Nat) (ρ : En) : R D := match c with
  | some (some (.im d)) => .ok d ρ
  | some (some (.ow ds)) => .ok (.list ds) (frz i ds ρ)
  | _ => .no
@[simp] theorem dVar_eq (i : Nat) (ρ : En) : dVar i ρ = rdSlot ρ[i]? i ρ := by
  unfold dVar rdSlot
  split <;> simp_all
@[simp] theorem rdSlot_im (d : D) (i : Nat) (ρ : En) : rdSlot (some (some (.im d))) i ρ = .ok d ρ := rfl
@[simp] theorem rdSlot_ow (ds : List D) (i : Nat) (ρ : En) : rdSlot (some (some (.ow ds))) i ρ = .ok (.list ds) (frz i ds ρ) := rfl
/-- at a slot, what follows -/
def slotK {α : Type} (c : Option (Option L)) (k : L → R α) : R α := match c with
  | some (some l) => k l
  | _ => .no
@[simp] theorem slotK_some {α : Type} (l : L) (k : L → R α) : slotK (some (some l)) k = k l := rfl
@[simp] theorem tree_im (d : D) : (L.im d).tree = false := rfl
@[simp] theorem tree_ow (d : List D) : (L.ow d).tree = false := rfl
@[simp] theorem tree_bo (d : List D) : (L.bo d).tree = false := rfl
@[simp] theorem tree_ot (d : Tr) : (L.ot d).tree = true := rfl
@[simp] theorem tree_bt (d : Tr) : (L.bt d).tree = true := rfl
@[simp] theorem atSlot_eq {α β : Type} (i : Nat) (f : En → R β) (g : L → β → En → R α) (ρ : En) : atSlot i f g ρ = slotK ρ[i]? fun _ => (f ρ).bind fun y ρ1 => slotK ρ1[i]? fun l => if l.tree = true then .no else g l y ρ1 := by
  unfold atSlot slotK
  cases ρ[i]? with
  | none => rfl
  | some o =>
    cases o with
    | none => rfl
    | some l =>
      show (f ρ).bind _ = (f ρ).bind _
      cases f ρ with
      | ok y ρ1 =>
        show (match ρ1[i]? with | some (some l) => if l.tree = true then R.no else g l y ρ1 | _ => R.no) = _
        show _ = (match ρ1[i]? with | some (some l) => if l.tree = true then R.no else g l y ρ1 | _ => R.no)
        rfl
      | _ => rfl
@[simp] theorem toD_im (d : D) : (L.im d).toD = d := rfl
@[simp] theorem toD_ow (d : List D) : (L.ow d).toD = .list d := rfl
@[simp] theorem toD_bo (d : List D) : (L.bo d).toD = .list d := rfl
@[simp] theorem dIxN_eq (i : Nat) (f : En → R D) (ρ : En) : dIxN i f ρ = atSlot i f (fun l y ρ => lift (gIx l.toD y) ρ) ρ := rfl
@[simp] theorem dSlN_eq (i : Nat) (l u : En → R (Option Int)) (ρ : En) : dSlN i l u ρ = atSlot i (dPair l u) (fun x p ρ => lift (gSl x.toD p.1 p.2) ρ) ρ := rfl
@[simp] theorem dLenN_eq (i : Nat) (ρ : En) : dLenN i ρ = atSlot i (fun ρ => .ok () ρ) (fun l _ ρ => lift (gLen1 l.toD) ρ) ρ := rfl
/-! calls -/
def resD (as : List AV) (ρ : En) (r : R L) : R D := match r with
  | .ok (.im d) ls' => .ok d (giveB as ls' ρ)
  | .ok (.ow ds) ls' => .ok (.list ds) (giveB as ls' ρ)
  | .ok _ _ => .no
  | .ex c ls' => .ex c (giveB as ls' ρ)
  | .no => .no
@[simp] theorem resD_im (as : List AV) (ρ ls : En) (d : D) : resD as ρ (.ok (.im d) ls) = .ok d (giveB as ls ρ) := rfl
@[simp] theorem resD_ow (as : List AV) (ρ ls : En) (d : List D) : resD as ρ (.ok (.ow d) ls) = .ok (.list d) (giveB as ls ρ) := rfl
@[simp] theorem resD_ex (as : List AV) (ρ ls : En) (c : Exn) : resD as ρ (.ex c ls) = .ex c (giveB as ls ρ) := rfl
def lentK {α : Type} (o : Option En) (k : En → R α) : R α := match o with
  | some ls => k ls
  | none => .no
@[simp] theorem lentK_some {α : Type} (ls : En) (k : En → R α) : lentK (some ls) k = k ls := rfl
@[simp] theorem dFn_eq (n : Nat) (den : En → R L) (ga : En → R (List AV)) (ρ : En) : dFn n den ga ρ = (ga ρ).bind fun as ρ1 => if as.length = n then lentK (lend as ρ1) fun ls => resD as ρ1 (den ls) else .no := by
  unfold dFn
  congr 1
  funext as ρ1
  split
  · unfold lentK resD
    cases lend as ρ1 with
    | none => rfl
    | some ls =>
      cases den ls with
      | ok l ls' => cases l <;> rfl
      | _ => rfl
  · rfl
/-- arguments that are data -/
theorem lend_im : ∀ (ds : List D) (ρ : En), lend (ds.map AV.im) ρ = some (ds.map fun d => some (L.im d)) := fun ds ρ => by
  have h1 : ∀ ds : List D, slotsOf (ds.map AV.im) = [] := fun ds => by
    induction ds with
    | nil => rfl
    | cons d r ih => exact ih
  have h2 : ∀ ds : List D, lendL ρ (ds.map AV.im) = some (ds.map fun d => some (L.im d)) := fun ds => by
    induction ds with
    | nil => rfl
    | cons d r ih =>
      show (lendL ρ (r.map AV.im)).map _ = _
      rw [ih]; rfl
  unfold lend
  rw [h1, if_pos List.nodup_nil, h2]
@[simp] theorem lend1 (a : D) (ρ : En) : lend [.im a] ρ = some [some (.im a)] := lend_im [a] ρ
@[simp] theorem lend2 (a b : D) (ρ : En) : lend [.im a, .im b] ρ = some [some (.im a), some (.im b)] := lend_im [a, b] ρ
@[simp] theorem lend3 (a b c : D) (ρ : En) : lend [.im a, .im b, .im c] ρ = some [some (.im a), some (.im b), some (.im c)] := lend_im [a, b, c] ρ
@[simp] theorem lend4 (a b c d : D) (ρ : En) : lend [.im a, .im b, .im c, .im d] ρ = some [some (.im a), some (.im b), some (.im c), some (.im d)] := lend_im [a, b, c, d] ρ
@[simp] theorem lend5 (a b c d e : D) (ρ : En) : lend [.im a, .im b, .im c, .im d, .im e] ρ = some [some (.im a), some (.im b), some (.im c), some (.im d), some (.im e)] := lend_im [a, b, c, d, e] ρ
@[simp] theorem give_nil (ls ρ : En) : giveB [] ls ρ = ρ := by cases ls <;> rfl
@[simp] theorem give_im (d : D) (as : List AV) (c : Option L) (ls ρ : En) : giveB (.im d :: as) (c :: ls) ρ = giveB as ls ρ := rfl
@[simp] theorem give_e (as : List AV) (ρ : En) : giveB as [] ρ = ρ := by
  cases as with
  | nil => rfl
  | cons a as => cases a <;> rfl
@[simp] theorem backE_im (d : D) (ls : En) (c : Option L) (ρ : En) : backE (some (.im d) :: ls) (c :: ρ) = some (.im d) :: backE ls ρ := rfl
@[simp] theorem backE_bo' (d : List D) (ls : En) (c : Option L) (ρ : En) : backE (some (.bo d) :: ls) (c :: ρ) = c :: backE ls ρ := rfl
@[simp] theorem backE_nil (ρ : En) : backE [] ρ = [] := by cases ρ <;> rfl
@[simp] theorem allIm_nil : allIm [] = some [] := rfl
@[simp] theorem allIm_cons (d : D) (as : List AV) : allIm (.im d :: as) = (allIm as).map (d :: ·) := rfl
@[simp] theorem free_none : free (some none) = true := rfl
@[simp] theorem free_im (d : D) : free (some (some (.im d))) = true := rfl
@[simp] theorem free_ow (d : List D) : free (some (some (.ow d))) = true := rfl
/-! operators -/
section
variable (i j : Int) (a b : Str)
@[simp] theorem gAdd_int : gAdd (.int i) (.int j) = some (.int (i + j)) := rfl
@[simp] theorem gSub_int : gSub (.int i) (.int j) = some (.int (i - j)) := rfl
@[simp] theorem gNeg_int : gNeg (.int i) = some (.int (-i)) := rfl
@[simp] theorem gLt_int : gLt (.int i) (.int j) = some (decide (i < j)) := rfl
@[simp] theorem gLe_int : gLe (.int i) (.int j) = some (decide (i ≤ j)) := rfl
@[simp] theorem gGt_int : gGt (.int i) (.int j) = some (decide (j < i)) := rfl
@[simp] theorem gGe_int : gGe (.int i) (.int j) = some (decide (j ≤ i)) := rfl
@[simp] theorem gAbs_int : gAbs [.int i] = some (.int (if i < 0 then -i else i)) := rfl
@[simp] theorem gInt_int : gInt [.int i] = some (.int i) := rfl
@[simp] theorem gInt_bool (k : Bool) : gInt [.bool k] = some (.int (if k then 1 else 0)) := rfl
@[simp] theorem gMax2_int : gMax2 [.int i, .int j] = some (.int (if j > i then j else i)) := rfl
@[simp] theorem gMin2_int : gMin2 [.int i, .int j] = some (.int (if j < i then j else i)) := rfl
@[simp] theorem truD_bool (k : Bool) : truD (.bool k) = some k := rfl
@[simp] theorem truD_none : truD .none = some false := rfl
@[simp] theorem truD_int : truD (.int i) = some (i != 0) := rfl
@[simp] theorem truD_list (l : List D) : truD (.list l) = some (!l.isEmpty) := rfl
@[simp] theorem truD_tuple (l : List D) : truD (.tuple l) = some (!l.isEmpty) := rfl
@[simp] theorem asB_bool (k : Bool) : asB (.bool k) = some k := rfl
@[simp] theorem asI_int : asI (.int i) = some i := rfl
theorem shp_int : shp (.int i) = true := rfl
theorem shp_bool (k : Bool) : shp (.bool k) = true := rfl
theorem shp_none : shp .none = true := rfl
@[simp] theorem gEq_int : gEq (.int i) (.int j) = some (decide (i = j)) := by
  show some (PyData.eqv (.int i) (.int j)) = _
  simp [PyData.eqv, Bool.beq_eq_decide_eq]
@[simp] theorem gNe_int : gNe (.int i) (.int j) = some (!decide (i = j)) := by
  show (gEq (.int i) (.int j)).map _ = _
  rw [gEq_int]; rfl
@[simp] theorem gIs_none (d : D) : gIs d .none = some (match d with | .none => true | _ => false) := by cases d <;> rfl
@[simp] theorem gIsNot_none (d : D) : gIsNot d .none = some (match d with | .none => false | _ => true) := by cases d <;> rfl
@[simp] theorem gEq_bool (k l : Bool) : gEq (.bool k) (.bool l) = some (k == l) := by
  show some (PyData.eqv (.bool k) (.bool l)) = _
  simp only [PyData.eqv]
@[simp] theorem gNe_bool (k l : Bool) : gNe (.bool k) (.bool l) = some (!(k == l)) := by
  show (gEq (.bool k) (.bool l)).map _ = _
  rw [gEq_bool]; rfl
theorem eqv_ii (a b : Int) : PyData.eqv (.int a) (.int b) = decide (a = b) := by simp only [PyData.eqv, Bool.beq_eq_decide_eq]
theorem eqv_ss (a b : Str) : PyData.eqv (.str a) (.str b) = decide (a = b) := by simp only [PyData.eqv, Bool.beq_eq_decide_eq]
theorem eqv_bb (a b : Bool) : PyData.eqv (.bool a) (.bool b) = decide (a = b) := by simp only [PyData.eqv, Bool.beq_eq_decide_eq]
theorem eqv_tt (a b : List D) : PyData.eqv (.tuple a) (.tuple b) = PyData.eqvAll a b := by simp only [PyData.eqv]
theorem eqv_ll (a b : List D) : PyData.eqv (.list a) (.list b) = PyData.eqvAll a b := by simp only [PyData.eqv]
theorem eqv_cc (x y : D) (a b : List D) : PyData.eqvAll (x :: a) (y :: b) = (PyData.eqv x y && PyData.eqvAll a b) := by simp only [PyData.eqvAll]
theorem eqv_nn : PyData.eqvAll [] [] = true := by simp only [PyData.eqvAll]
theorem eqv_nc (y : D) (b : List D) : PyData.eqvAll [] (y :: b) = false := by simp only [PyData.eqvAll]
theorem eqv_cn (y : D) (b : List D) : PyData.eqvAll (y :: b) [] = false := by simp only [PyData.eqvAll]
theorem gEq_of {a b : D} (ha : shp a = true) (hb : shp b = true) : gEq a b = some (PyData.eqv a b) := if_pos ⟨ha, hb⟩
theorem gNe_of {a b : D} (ha : shp a = true) (hb : shp b = true) : gNe a b = some (!PyData.eqv a b) := by
  show (gEq a b).map _ = _
  rw [gEq_of ha hb]; rfl
theorem gMul_of {i j : Int} {m n : Nat} (hi : i.natAbs < 2 ^ m) (hj : j.natAbs < 2 ^ n) (hm : 0 < m) (hn : 0 < n) (h : m + n ≤ 1000000) : gMul (.int i) (.int j) = some (.int (i * j)) := by
  have h1 : i.natAbs.log2 + j.natAbs.log2 < 1000000 := wide_mul hi hj hm hn h
  exact if_pos (show i.natAbs.log2 + j.natAbs.log2 < 100000000 by omega)
theorem gMul_big {i j : Int} {m n : Nat} (hi : i.natAbs < 2 ^ m) (hj : j.natAbs < 2 ^ n) (hm : 0 < m) (hn : 0 < n) (h : m + n ≤ 100000000) : gMul (.int i) (.int j) = some (.int (i * j)) := by
  have h1 := PySem.Flt.log2_lt_of hm hi
  have h2 := PySem.Flt.log2_lt_of hn hj
  exact if_pos (show i.natAbs.log2 + j.natAbs.log2 < 100000000 by omega)
theorem gFdiv_of {i j : Int} {n : Nat} (h : j ≠ 0) (hj : j.natAbs < 2 ^ n) (hn : 0 < n) (h9 : n ≤ 9000) : gFdiv (.int i) (.int j) = some (.int (i.fdiv j)) := by
  have h1 : j ≠ 0 ∧ j.natAbs.log2 < 9000 := ⟨h, Nat.lt_of_lt_of_le (PySem.Flt.log2_lt_of hn hj) h9⟩
  exact if_pos h1
theorem gFdiv_pos {i j : Int} {n : Nat} (h : 0 < j) (hj : j.natAbs < 2 ^ n) (hn : 0 < n) (h9 : n ≤ 9000) : gFdiv (.int i) (.int j) = some (.int (i / j)) := by
  rw [gFdiv_of (by omega) hj hn h9, Int.fdiv_eq_ediv_of_nonneg i (by omega)]
theorem gMod_pos {i j : Int} (h : 0 < j) : gMod (.int i) (.int j) = some (.int (i % j)) := by
  rw [← Int.fmod_eq_emod_of_nonneg i (by omega : 0 ≤ j)]
  have h1 : j ≠ 0 := by omega
  exact if_pos h1
theorem gMod_of {i j : Int} (h : j ≠ 0) : gMod (.int i) (.int j) = some (.int (i.fmod j)) := by
  exact if_pos h
theorem gPow_of {i j : Int} (h0 : 0 ≤ j) (h1 : j ≤ 1000000) (h2 : i.natAbs < 2 ^ 64) : gPow (.int i) (.int j) = some (.int (i ^ j.toNat)) := by
  exact if_pos ⟨h0, bits_mul_le h2 h0 h1⟩
theorem intBits_le {i : Int} {n : Nat} (h : i.natAbs < 2 ^ n) (hn : 0 < n) : Builtin.Int.intBits i ≤ n := by
  unfold Builtin.Int.intBits
  split
  · omega
  · rename_i e
    have hz : i.natAbs ≠ 0 := by intro q; apply e; simp [Int.natAbs_eq_zero.mp q]
    have := (Nat.log2_lt hz).mpr h
    omega
theorem gPow_big {i j : Int} {n : Nat} (h0 : 0 ≤ j) (h : i.natAbs < 2 ^ n) (hn : 0 < n) (h1 : (n : Int) * j ≤ 2 ^ 27) : gPow (.int i) (.int j) = some (.int (i ^ j.toNat)) := by
  refine if_pos ⟨h0, Int.le_trans ?_ h1⟩
  exact Int.mul_le_mul_of_nonneg_right (by have := intBits_le h hn; omega) h0
end
/-! places -/
@[simp] theorem gIx_tup (l : List D) (i : Int) : gIx (.tuple l) (.int i) = L2.atI l i := rfl
@[simp] theorem gIx_lst (l : List D) (i : Int) : gIx (.list l) (.int i) = L2.atI l i := rfl
@[simp] theorem atI_0 (a : D) (l : List D) : L2.atI (a :: l) 0 = some a := by
  unfold L2.atI L2.ixN
  rw [if_pos (by decide), if_pos (by rw [List.length_cons]; omega)]; rfl
@[simp] theorem atI_1 (a b : D) (l : List D) : L2.atI (a :: b :: l) 1 = some b := by
  unfold L2.atI L2.ixN
  rw [if_pos (by decide), if_pos (by rw [List.length_cons, List.length_cons]; omega)]; rfl
@[simp] theorem atI_2 (a b c : D) (l : List D) : L2.atI (a :: b :: c :: l) 2 = some c := by
  unfold L2.atI L2.ixN
  rw [if_pos (by decide), if_pos (by rw [List.length_cons, List.length_cons, List.length_cons]; omega)]; rfl
theorem atI_of {l : List D} {i : Nat} {d : D} (h : l[i]? = some d) : L2.atI l (i : Int) = some d := atI_nat h
@[simp] theorem sizeLine_ge (n : Nat) (h : n ≤ 1000) : n ≤ sizeLine := Nat.le_of_lt (small1000 h)
theorem gSl_take (ds : List D) (k : Nat) : gSl (.list ds) none (some (k : Int)) = some (.list (ds.take k)) := by
  show some (PyData.list _) = _
  rw [HT.sIx_none, HT.sIx_nat, List.drop_zero, Nat.sub_zero]
  congr 2
  by_cases h : k ≤ ds.length
  · rw [Nat.min_eq_left h]
  · rw [Nat.min_eq_right (by omega), List.take_of_length_le (by omega), List.take_of_length_le (by omega)]
theorem gSl_drop (ds : List D) (k : Nat) : gSl (.list ds) (some (k : Int)) none = some (.list (ds.drop k)) := by
  show some (PyData.list _) = _
  rw [HT.sIx_none, HT.sIx_nat]
  congr 2
  by_cases h : k ≤ ds.length
  · rw [Nat.min_eq_left h, List.take_of_length_le (by rw [List.length_drop]; omega)]
  · rw [Nat.min_eq_right (by omega), Nat.sub_self, List.take_zero, List.drop_eq_nil_of_le (by omega)]
theorem rgOk_up {i j c : Int} (hc : 0 < c) (hc2 : c < 1000000) (h1 : -1000000000000 < i) (h2 : i < 1000000000000) (h3 : -1000000000000 < j) (h4 : j < 1000000000000) : rgOk i j c = true := by
  have hr : 0 ≤ Builtin.Range.rangeSize i j c ∧ Builtin.Range.rangeSize i j c ≤ 2000000000001 := by
    unfold Builtin.Range.rangeSize
    rw [if_pos hc]
    split
    · have h5 : (j - i - 1) / c ≤ j - i - 1 := Int.ediv_le_self _ (by omega)
      have h6 : 0 ≤ (j - i - 1) / c := Int.ediv_nonneg (by omega) (by omega)
      omega
    · omega
  unfold rgOk Builtin.Range.small
  simp only [Builtin.Range.rangeFitsLong, Bool.and_eq_true, Bool.or_eq_true, decide_eq_true_eq, beq_iff_eq]
  refine ⟨⟨by omega, by omega, hr.1⟩, ?_⟩
  generalize Builtin.Range.rangeSize i j c = n at hr
  simp [hc]
  omega
noncomputable def rg1 (ds : List D) (ρ1 : En) : R (List D) := match ds with
  | [.int j] => if inR j then .ok (rngD 0 j.toNat) ρ1 else .no
  | _ => .no
noncomputable def rg2 (ds : List D) (ρ1 : En) : R (List D) := match ds with
  | [.int i, .int j] => if inR i ∧ inR j then .ok (rngD i (j - i).toNat) ρ1 else .no
  | _ => .no
@[simp] theorem iRg1_eq (ga : En → R (List AV)) (ρ : En) : iRg1 ga ρ = (dAll ga ρ).bind fun ds ρ1 => rg1 ds ρ1 := rfl
@[simp] theorem iRg2_eq (ga : En → R (List AV)) (ρ : En) : iRg2 ga ρ = (dAll ga ρ).bind fun ds ρ1 => rg2 ds ρ1 := rfl
@[simp] theorem rg1_ok {j : Int} {ρ : En} (h : inR j) : rg1 [.int j] ρ = .ok (rngD 0 j.toNat) ρ := if_pos h
@[simp] theorem rg2_ok {i j : Int} {ρ : En} (h : inR i) (h2 : inR j) : rg2 [.int i, .int j] ρ = .ok (rngD i (j - i).toNat) ρ := if_pos ⟨h, h2⟩
theorem inR_of {j : Int} (h : -1000000 ≤ j) (h2 : j ≤ 1000000) : inR j := ⟨by omega, by omega⟩
@[simp] theorem iRg3_eq (ga : En → R (List AV)) (ρ : En) : iRg3 ga ρ = (dAll ga ρ).bind fun ds ρ1 => match ds with
  | [.int i, .int j, .int c] => if rgOk i j c = true then .ok (rngC i c (rgN i j c)) ρ1 else .no
  | _ => .no := rfl
@[simp] theorem dFor_eq (f : En → R (List D)) (g : D → En → R Unit) (b : En → R Fl) (ρ : En) : dFor f g b ρ = (f ρ).bind fun ds ρ1 => dForL g b ds ρ1 := rfl
@[simp] theorem iD_eq (f : En → R D) (ρ : En) : iD f ρ = (f ρ).bind fun d ρ1 => match d with
  | .list ds => .ok ds ρ1
  | .tuple ds => .ok ds ρ1
  | .str s => .ok (strD s) ρ1
  | _ => .no := rfl
theorem mem_rngC {lo c : Int} {n : Nat} {d : D} (h : d ∈ rngC lo c n) : ∃ i : Nat, i < n ∧ d = .int (lo + i * c) := by
  unfold rngC at h
  obtain ⟨i, hi, rfl⟩ := List.mem_map.mp h
  exact ⟨i, by simpa using hi, rfl⟩
theorem mem_rngD {lo : Int} {n : Nat} {d : D} (h : d ∈ rngD lo n) : ∃ i : Nat, i < n ∧ d = .int (lo + i) := by
  unfold rngD at h
  obtain ⟨i, hi, rfl⟩ := List.mem_map.mp h
  exact ⟨i, by simpa using hi, rfl⟩
/-! loops -/
theorem forL_all {g : D → En → R Unit} {b : En → R Fl} {P : En → Prop} : ∀ {ds : List D}, (∀ d ∈ ds, ∀ ρ, P ρ → ∃ ρ1 ρ2, g d ρ = .ok () ρ1 ∧ (b ρ1 = .ok .nx ρ2 ∨ b ρ1 = .ok .ct ρ2) ∧ P ρ2) → ∀ ρ, P ρ → ∃ ρ', dForL g b ds ρ = .ok .nx ρ' ∧ P ρ'
  | [], _, ρ, hp => ⟨ρ, rfl, hp⟩
  | d :: ds, h, ρ, hp => by
    obtain ⟨ρ1, ρ2, e1, e2, p2⟩ := h d (List.mem_cons_self ..) ρ hp
    obtain ⟨ρ', e3, p3⟩ := forL_all (ds := ds) (fun d hd => h d (List.mem_cons_of_mem _ hd)) ρ2 p2
    refine ⟨ρ', ?_, p3⟩
    show (g d ρ).bind _ = _
    rw [e1]
    show (b ρ1).bind _ = _
    rcases e2 with e2 | e2
    · rw [e2]; exact e3
    · rw [e2]; exact e3
end Dn
namespace Dn
open PySem PySem.Spec PyProof.Rows L2
/-! ### raise and try -/
def noX {α : Type} : R α → R α
  | .ex _ _ => .no
  | r => r
def dRaise (c : String) : En → R Fl := fun ρ => .ex ⟨c, none⟩ ρ
/-- cat: whether the clause takes an exception of that class -/
def dTry (b : En → R Fl) (cat : String → Option Bool) (s : En → R Fl) : En → R Fl := fun ρ => match b ρ with
  | .ex e ρ1 => match cat e.cls with
    | some true => noX (s ρ1)
    | some false => .ex e ρ1
    | none => .no
  | r => r
section
variable {X : Cx} {w : Wh} {x : Str} {p p2 pos np pos' : Pos} {C : Addr} {B newId initId : String} {bmB : List Value}
theorem vs_raise {nm : String} {m : Str} {j : Nat} (hc : X.calm = true) (tk : Takes X w.W) (hca : w.ca nm = some (.ref C)) (F : ExcBaseFacts B newId initId bmB) (q : PySem.W.excIn X.K C bmB newId = true) (gC : X.mg x = some (.ref C)) (kC : PySem.W.keepIn X.K (.ref C) = true) (r : Raises X (.ref C)) (hg : Gl X x)
    (hdb : (x == ("__debug__" : Str)) = false := by decide) : VS X w (.Raise (some (.Call (.Name x p) [.Constant (.str m) j p2] [] pos)) none pos') (dRaise nm) :=
  PS.imp (ps_raise hc tk (pmk_own F q gC kC r hg hdb)) fun Z σ H ⟨G, ρ, rel, h⟩ => by
    have h' : FnS X.K w G H σ ρ (.ex ⟨nm, none⟩ ρ) Z := h
    exact h' G H σ _ none rel Stp.refl ⟨hca, fun _ => .inl rfl, fun f d e => nomatch e⟩
theorem FnS.noX {K : PySem.W.Frag} {w0 : Wh} {G H : Hp} {σ : L2.St} {ρ : En} {r : R Fl} {Z : Ends} (h : FnS K w G H σ ρ (Dn.noX r) Z) : FnS K w0 G H σ ρ r Z := by
  cases r with
  | no => exact h
  | ex c ρ' => exact h.elim
  | ok f ρ' => cases f <;> exact h
abbrev w0 (w : Wh) : Wh := ⟨w.ca, fun _ _ _ _ => False⟩
theorem vs_try {c : Value} {b₀ : Stmt} {body suite : List Stmt} {fb fs : En → R Fl} {cat : String → Option Bool} (hs : X.stack = X.env :: X.outer) (hf : X.env.frame = some X.env.locals) (hc : Names X x c) (tk : Takes X w.W) (hcalm : X.calm = true) {k : Nat} (hr : Room k X.A)
    (hcat : ∀ e b cls, cat e = some b → w.ca e = some cls → PySem.W.exmOne X.K cls c = some b)
    (hb : ∀ (W : WX) (pn : List (Addr × Obj)) (xe : Value → Shared → Prop), Gd (X.tr pn xe) ⟨w.ca, W⟩ k → VSs (X.tr pn xe) ⟨w.ca, W⟩ body fb)
    (hsu : ∀ (a : Addr) (oe : Obj) (pn : List (Addr × Obj)), VSs (X.suite a ((a, oe) :: pn)) (w0 w) (b₀ :: suite) fs) :
    VS X w (.Try body [.ExceptHandler (some (.Name x np)) none (b₀ :: suite) pos'] [] [] pos) (dTry fb cat fs) :=
  PS.imp (ps_try_only (tb := fun W => tsS X.K ⟨w.ca, W⟩ fb) (ts := fun _ _ _ => tsS X.K (w0 w) fs) hs hf hc tk (fun W pn xe t po => hb W pn xe ⟨hcalm, t, po, hr⟩) (fun a oe cls d pn _ _ => hsu a oe pn)) fun Z σ H ⟨G, ρ, rel, h⟩ => by
    refine ⟨G, ρ, rel, ?_⟩
    unfold dTry at h
    cases q : fb ρ with
    | no => rw [q] at h; exact h
    | ok f ρ1 => rw [q] at h; cases f <;> exact h
    | ex e ρ1 =>
      rw [q] at h
      have h2 : FnS X.K w G H σ ρ (match cat e.cls with | some true => noX (fs ρ1) | some false => .ex e ρ1 | none => .no) Z := h
      intro G' H' σ' cls dx r' s' x'
      cases q2 : cat e.cls with
      | none => rw [q2] at h2; exact h2.elim
      | some b =>
        rw [q2] at h2
        refine ⟨b, hcat e.cls b cls q2 x'.hc, fun hb a ha => ?_, fun hb => ?_⟩
        · subst hb
          exact ⟨G', ρ1, r', FnS.noX (FnS.after rel r' s' h2)⟩
        · subst hb
          exact h2 G' H' σ' cls dx r' s' (x'.to rfl)
@[simp] theorem dRaise_eq (c : String) (ρ : En) : dRaise c ρ = .ex ⟨c, none⟩ ρ := rfl
def tryK (r : R Fl) (cat : String → Option Bool) (s : En → R Fl) : R Fl := match r with
  | .ex e ρ1 => match cat e.cls with
    | some true => noX (s ρ1)
    | some false => .ex e ρ1
    | none => .no
  | r => r
@[simp] theorem dTry_eq (b : En → R Fl) (cat : String → Option Bool) (s : En → R Fl) (ρ : En) : dTry b cat s ρ = tryK (b ρ) cat s := rfl
@[simp] theorem tryK_ok (f : Fl) (ρ : En) (cat : String → Option Bool) (s : En → R Fl) : tryK (.ok f ρ) cat s = .ok f ρ := rfl
theorem tryK_ex {e : Exn} {ρ : En} {cat : String → Option Bool} {s : En → R Fl} (h : cat e.cls = some true) : tryK (.ex e ρ) cat s = noX (s ρ) := by
  show (match cat e.cls with | some true => noX (s ρ) | some false => R.ex e ρ | none => .no) = _
  rw [h]
@[simp] theorem noX_ok {α : Type} (a : α) (ρ : En) : noX (.ok a ρ) = .ok a ρ := rfl
end
end Dn
namespace Dn
open PySem PySem.Spec PyProof.Rows L2
/-! ### list comprehensions -/
def wipeE (ρ : En) : List Nat → En
  | [] => ρ
  | v :: vs => (wipeE ρ vs).set v none
def restE (ρ ρ2 : En) : List Nat → En
  | [] => ρ2
  | v :: vs => (restE ρ ρ2 vs).set v (ρ[v]?.getD none)
def immE (ρ : En) (vs : List Nat) : Bool := vs.all fun i => match ρ[i]? with
  | some (some (.im _)) => true
  | some none => true
  | _ => false
theorem wipeE_length (ρ : En) : ∀ vs, (wipeE ρ vs).length = ρ.length
  | [] => rfl
  | v :: vs => by unfold wipeE; rw [List.length_set, wipeE_length ρ vs]
theorem wipeE_some {ρ : En} {i : Nat} {x : L} : ∀ {vs : List Nat}, (wipeE ρ vs)[i]? = some (some x) → ρ[i]? = some (some x) ∧ i ∉ vs
  | [], h => ⟨h, by simp⟩
  | v :: vs, h => by
    unfold wipeE at h
    by_cases hi : v = i
    · subst hi
      by_cases hv : v < (wipeE ρ vs).length
      · rw [List.getElem?_set_self hv] at h; cases h
      · rw [List.getElem?_eq_none (by simpa using hv)] at h; cases h
    · rw [List.getElem?_set_ne hi] at h
      obtain ⟨h1, h2⟩ := wipeE_some h
      exact ⟨h1, by simp only [List.mem_cons, not_or]; exact ⟨fun e => hi e.symm, h2⟩⟩
theorem wipeE_out {ρ : En} {i : Nat} : ∀ {vs : List Nat}, i ∉ vs → (wipeE ρ vs)[i]? = ρ[i]?
  | [], _ => rfl
  | v :: vs, h => by
    simp only [List.mem_cons, not_or] at h
    unfold wipeE
    rw [List.getElem?_set_ne (fun e => h.1 e.symm)]
    exact wipeE_out h.2
theorem restE_length (ρ ρ2 : En) : ∀ vs, (restE ρ ρ2 vs).length = ρ2.length
  | [] => rfl
  | v :: vs => by unfold restE; rw [List.length_set, restE_length ρ ρ2 vs]
theorem restE_out {ρ ρ2 : En} {i : Nat} : ∀ {vs : List Nat}, i ∉ vs → (restE ρ ρ2 vs)[i]? = ρ2[i]?
  | [], _ => rfl
  | v :: vs, h => by
    simp only [List.mem_cons, not_or] at h
    unfold restE
    rw [List.getElem?_set_ne (fun e => h.1 e.symm)]
    exact restE_out h.2
theorem restE_in {ρ ρ2 : En} {i : Nat} (hl : ρ2.length = ρ.length) : ∀ {vs : List Nat}, i ∈ vs → (restE ρ ρ2 vs)[i]? = ρ[i]?
  | [], h => by simp at h
  | v :: vs, h => by
    unfold restE
    by_cases hi : v = i
    · subst hi
      by_cases hv : v < (restE ρ ρ2 vs).length
      · rw [List.getElem?_set_self hv]
        rw [restE_length, hl] at hv
        rw [List.getElem?_eq_getElem hv]; rfl
      · rw [List.getElem?_eq_none (by simpa using hv)]
        rw [restE_length, hl] at hv
        rw [List.getElem?_eq_none (by omega)]
    · rw [List.getElem?_set_ne hi]
      rcases List.mem_cons.mp h with e | e
      · exact absurd e.symm hi
      · exact restE_in hl e
theorem wipe_outS {σ : L2.St} {i : Nat} : ∀ {vs : List Nat}, i ∉ vs → (L2.wipe σ vs)[i]? = σ[i]?
  | [], _ => rfl
  | v :: vs, h => by
    simp only [List.mem_cons, not_or] at h
    unfold L2.wipe
    rw [List.getElem?_set_ne (fun e => h.1 e.symm)]
    exact wipe_outS h.2
theorem wipe_in {σ : L2.St} {i : Nat} : ∀ {vs : List Nat}, i ∈ vs → i < σ.length → (L2.wipe σ vs)[i]? = some none
  | [], h, _ => by simp at h
  | v :: vs, h, hl => by
    unfold L2.wipe
    by_cases hi : v = i
    · subst hi
      rw [List.getElem?_set_self (by rw [L2.wipe_length]; exact hl)]
    · rw [List.getElem?_set_ne hi]
      rcases List.mem_cons.mp h with e | e
      · exact absurd e.symm hi
      · exact wipe_in e hl
theorem wipe_ext {σ σ' : L2.St} {vs : List Nat} (hl : σ.length = σ'.length) (h : ∀ i, i ∉ vs → σ[i]? = σ'[i]?) : L2.wipe σ vs = L2.wipe σ' vs := by
  apply List.ext_getElem?
  intro i
  by_cases hi : i ∈ vs
  · by_cases hb : i < σ.length
    · rw [wipe_in hi hb, wipe_in hi (by omega)]
    · rw [List.getElem?_eq_none (by rw [L2.wipe_length]; omega), List.getElem?_eq_none (by rw [L2.wipe_length]; omega)]
  · rw [wipe_outS hi, wipe_outS hi, h i hi]
theorem wipe_wipe (σ : L2.St) (vs : List Nat) : L2.wipe (L2.wipe σ vs) vs = L2.wipe σ vs := wipe_ext (L2.wipe_length _ _) fun i hi => wipe_outS hi
theorem wipe_back {σ σ2 : L2.St} {vs : List Nat} {i : Nat} (h : L2.wipe σ2 vs = L2.wipe σ vs) (hi : i ∉ vs) : σ2[i]? = σ[i]? := by
  rw [← wipe_outS (σ := σ2) hi, h, wipe_outS hi]
section
variable {K : PySem.W.Frag} {G H G1 H1 G' H' : Hp} {σ σ2 : L2.St} {ρ ρ1 ρ2 : En} {vs : List Nat}
theorem immE_at (h : immE ρ vs = true) {i : Nat} (hi : i ∈ vs) : ρ[i]? = some none ∨ ∃ d, ρ[i]? = some (some (L.im d)) := by
  unfold immE at h
  have := List.all_eq_true.mp h i hi
  split at this
  · exact .inr ⟨_, by assumption⟩
  · exact .inl (by assumption)
  · cases this
theorem Rel.wipe (r : Rel K G H σ ρ) : Rel K G H (L2.wipe σ vs) (wipeE ρ vs) ∧ ∀ a, Own H (L2.wipe σ vs) (wipeE ρ vs) a → Own H σ ρ a := by
  refine ⟨⟨r.sub, by rw [L2.wipe_length, wipeE_length]; exact r.len, fun i l e => ?_, fun i j l m v u a ei ej si sj fi fj => ?_⟩, fun a ⟨i, l, v, e, s, f⟩ => ?_⟩
  · obtain ⟨e', hi⟩ := wipeE_some e
    obtain ⟨v, s, c⟩ := r.cell i l e'
    exact ⟨v, by rw [wipe_outS hi]; exact s, c⟩
  · exact r.apart i j l m v u a (wipeE_some ei).1 (wipeE_some ej).1 (L2.wipe_some si).1 (L2.wipe_some sj).1 fi fj
  · exact ⟨i, l, v, (wipeE_some e).1, (L2.wipe_some s).1, f⟩
/-- at a turn's end -/
theorem Rel.unwipe (r : Rel K G H σ ρ) (im : immE ρ vs = true) (hw : L2.wipe σ2 vs = L2.wipe σ vs) (r2 : Rel K G' H' σ2 ρ2) (s : Stp G H (L2.wipe σ vs) (wipeE ρ vs) G' H' σ2 ρ2) :
    Rel K G' H' σ (restE ρ ρ2 vs) ∧ Stp G H σ ρ G' H' σ (restE ρ ρ2 vs) ∧ immE (restE ρ ρ2 vs) vs = true := by
  have hl : ρ2.length = ρ.length := by rw [s.ln, wipeE_length]
  obtain ⟨rw_, ow_⟩ := r.wipe (vs := vs)
  have own' : ∀ (i : Nat) (l : L) (v : V) (a : Addr), (restE ρ ρ2 vs)[i]? = some (some l) → Fo H' l v a → i ∉ vs ∧ ρ2[i]? = some (some l) := fun i l v a e f => by
    by_cases hi : i ∈ vs
    · rw [restE_in hl hi] at e
      rcases immE_at im hi with z | ⟨d, z⟩
      · rw [z] at e; cases e
      · rw [z] at e; cases e; exact f.elim
    · rw [restE_out hi] at e; exact ⟨hi, e⟩
  have out : ∀ (i : Nat) (l : L), l.mu = true → ρ[i]? = some (some l) → i ∉ vs := fun i l m e hi => by
    rcases immE_at im hi with z | ⟨d, z⟩
    · rw [z] at e; cases e
    · rw [z] at e; cases e; cases m
  refine ⟨⟨r2.sub, by rw [restE_length, hl]; exact r.len, fun i l e => ?_, fun i j l m v u a ei ej si sj fi fj => ?_⟩, ⟨s.g, fun a o e n => s.h a o e fun z => n (ow_ a z), fun a e => ?_, fun a ⟨i, l, v, e, q, f⟩ => ?_, s.tr, by rw [restE_length]; exact hl, fun i ds e => ?_, fun i t e => ?_⟩, ?_⟩
  · by_cases hi : i ∈ vs
    · rw [restE_in hl hi] at e
      rcases immE_at im hi with z | ⟨d, z⟩
      · rw [z] at e; cases e
      · rw [z] at e; cases e
        obtain ⟨v, q, c⟩ := r.cell i _ z
        exact ⟨v, q, DR.mono s.g c⟩
    · rw [restE_out hi] at e
      obtain ⟨v, q, c⟩ := r2.cell i l e
      exact ⟨v, by rw [← wipe_back hw hi]; exact q, c⟩
  · obtain ⟨hi, ei'⟩ := own' i l v a ei fi
    obtain ⟨hj, ej'⟩ := own' j m u a ej fj
    exact r2.apart i j l m v u a ei' ej' (by rw [wipe_back hw hi]; exact si) (by rw [wipe_back hw hj]; exact sj) fi fj
  · rcases s.fr a e with z | z | z
    · exact .inl z
    · exact .inr (.inl z)
    · exact .inr (.inr (ow_ a z))
  · obtain ⟨hi, e'⟩ := own' i l v a e f
    rcases s.ow a ⟨i, l, v, e', by rw [wipe_back hw hi]; exact q, f⟩ with z | z
    · exact .inl (ow_ a z)
    · exact .inr z
  · have hi := out i _ rfl e
    obtain ⟨_, ds', e2⟩ := s.bo i ds (by rw [wipeE_out hi]; exact e)
    exact ⟨rfl, ds', by rw [restE_out hi]; exact e2⟩
  · have hi := out i _ rfl e
    obtain ⟨_, t', e2, f2⟩ := s.bt i t (by rw [wipeE_out hi]; exact e)
    exact ⟨rfl, t', by rw [restE_out hi]; exact e2, fun v a q f => f2 v a (by rw [wipe_outS hi]; exact q) f⟩
  · unfold immE
    rw [List.all_eq_true]
    intro i hi
    rw [restE_in hl hi]
    exact List.all_eq_true.mp im i hi
/-- a list that is nobody's yet -/
structure NewAt (K : PySem.W.Frag) (G H : Hp) (σ : L2.St) (ρ : En) (p : Addr) (ds : List D) : Prop where
  g : G p = none
  own : ¬ Own H σ ρ p
  here : ∃ us, H p = some (.lst us) ∧ DRs K G us ds
theorem NewAt.step {p : Addr} {ds : List D} (n : NewAt K G H σ ρ p ds) (s : Stp G H σ ρ G' H' σ2 ρ2) : NewAt K G' H' σ2 ρ2 p ds := by
  obtain ⟨us, h1, h2⟩ := n.here
  refine ⟨?_, fun z => ?_, us, s.h p _ h1 n.own, h2.mono s.g⟩
  · cases q : G' p with
    | none => rfl
    | some o =>
      rcases s.fr p (by rw [q]; exact fun z => nomatch z) with z | z | z
      · exact absurd n.g z
      · rw [h1] at z; cases z
      · exact absurd z n.own
  · rcases s.ow p z with z | z
    · exact n.own z
    · rw [h1] at z; cases z
theorem Rel.updN' (r : Rel K G H σ ρ) {p : Addr} {o : HO} (hg : G p = none) (ho : ¬ Own H σ ρ p) : Rel K G (upd H p o) σ ρ ∧ ∀ a, Own (upd H p o) σ ρ a ↔ Own H σ ρ a :=
  r.keep (G' := G) (H' := upd H p o) (Same.refl _) (fun b x e => by rw [upd_ne (ne_of_none e hg)]; exact r.sub b x e) (fun a h => (r.own h).1) (fun a h => upd_ne fun z => by subst z; exact ho h)
theorem Rel.updN (r : Rel K G H σ ρ) {p : Addr} {o : HO} (hg : G p = none) (ho : ¬ Own H σ ρ p) : Rel K G (upd H p o) σ ρ := (r.updN' hg ho).1
theorem Rel.updO (r : Rel K G H σ ρ) {p : Addr} {o : HO} (hg : G p = none) (ho : ¬ Own H σ ρ p) : ¬ Own (upd H p o) σ ρ p := fun z => ho (((r.updN' hg ho).2 p).mp z)
theorem Stp.updN (s : Stp G1 H1 σ ρ1 G H σ ρ) (r : Rel K G H σ ρ) {p : Addr} {o : HO} (hg : G p = none) (ho : ¬ Own H σ ρ p) (hp : H1 p = none) : Stp G1 H1 σ ρ1 G (upd H p o) σ ρ :=
  ⟨s.g, fun a x e n => by rw [upd_ne fun z => by subst z; rw [hp] at e; cases e]; exact s.h a x e n, s.fr, fun a h => s.ow a (((r.updN' hg ho).2 a).mp h), fun a h => tracked_upd a (s.tr a h), s.ln, s.bo, fun i t e => by
    obtain ⟨e1, t', e2, f2⟩ := s.bt i t e
    exact ⟨e1, t', e2, fun v a q f => Foot.to (f2 v a q f) fun b y => upd_ne fun z => by subst z; exact ho ⟨i, _, v, e2, q, y⟩⟩⟩
end
/-! targets that stay within the block's own names -/
def FnGC (vs : List Nat) (K : PySem.W.Frag) (G H : Hp) (σ : L2.St) (ρ : En) (r : R Unit) (Q : L2.St → Hp → Prop) : Prop :=
  match r with
  | .ok _ ρ' => ∀ G' H' σ', Rel K G' H' σ' ρ' → Stp G H σ ρ G' H' σ' ρ' → L2.wipe σ' vs = L2.wipe σ vs → Q σ' H'
  | _ => False
abbrev VGc (X : Cx) (vs : List Nat) (tg : Expr) (g : D → En → R Unit) : Prop := PG X tg (fun v σ H Q => ∃ G ρ d, Rel X.K G H σ ρ ∧ DR X.K G v d ∧ FnGC vs X.K G H σ ρ (g d ρ) Q)
abbrev VGcs (X : Cx) (vs : List Nat) (tgs : List Expr) (g : List D → En → R Unit) : Prop := PGs X tgs (fun us σ H Q => ∃ G ρ ds, Rel X.K G H σ ρ ∧ DRs X.K G us ds ∧ FnGC vs X.K G H σ ρ (g ds ρ) Q)
section
variable {X : Cx} {w : Wh} {x : Str} {pos : Pos} {e : Expr} {es : List Expr} {g : D → En → R Unit} {h : List D → En → R Unit} {vs : List Nat}
theorem wipe_set {σ : L2.St} {i : Nat} {v : Option V} (hi : i ∈ vs) : L2.wipe (σ.set i v) vs = L2.wipe σ vs := wipe_ext (by simp) fun j hj => List.getElem?_set_ne (fun z => by subst z; exact hj hi)
theorem vgc_name (i : Nat) (hv : i ∈ vs) (hN : X.N.Nodup) (hi : X.N[i]? = some x := by rfl) (hx : Loc X.env.scope x := by first | exact Or.inl rfl | exact Or.inr rfl) (hf : X.fn x = true ∨ X.env.scope.names.lookup x = some .local := by first | exact .inl rfl | exact .inr rfl | assumption) : VGc X vs (.Name x pos) (putIm i) :=
  PG.imp (pg_name hN hi hx hf) fun v σ H Q ⟨G, ρ, d, rel, hvd, q⟩ => by
    unfold putIm at q
    split at q
    · rename_i hf
      obtain ⟨c, hc, hb, ht⟩ := free_ok hf
      obtain ⟨r1, s1⟩ := rel.put hc hb ht hvd
      exact q _ _ _ r1 s1 (wipe_set hv)
    · exact q.elim
theorem vgcs_nil : VGcs X vs [] gsNil := PGs.imp pgs_nil fun us σ H Q ⟨G, ρ, ds, rel, hv, q⟩ => by
  cases hv with
  | nil => exact ⟨rfl, q _ _ _ rel Stp.refl rfl⟩
  | cons _ _ => exact q.elim
theorem vgcs_cons (h1 : VGc X vs e g) (h2 : VGcs X vs es h) (hs : (assignEach (e :: es) X.env).map (·.2) = assign e X.env :: (assignEach es X.env).map (·.2) := by rfl) : VGcs X vs (e :: es) (gsCons g h) :=
  PGs.imp (pgs_cons h1 h2 hs) fun us σ H Q ⟨G, ρ, ds, rel, hv, q⟩ => by
    cases hv with
    | nil => exact q.elim
    | @cons v us d ds hv1 hvs =>
      have q' : FnGC vs X.K G H σ ρ ((g d ρ).bind fun _ ρ1 => h ds ρ1) Q := q
      refine ⟨v, us, rfl, G, ρ, d, rel, hv1, ?_⟩
      cases e1 : g d ρ with
      | no => rw [e1] at q'; exact q'
      | ex c ρ' => rw [e1] at q'; exact q'
      | ok u ρ' =>
        rw [e1] at q'
        intro G1 H1 σ1 r1 s1 w1
        refine ⟨G1, ρ', ds, r1, hvs.mono s1.g, ?_⟩
        have q2 : FnGC vs X.K G H σ ρ (h ds ρ') Q := q'
        cases e2 : h ds ρ' with
        | no => rw [e2] at q2; exact q2
        | ex c ρ'' => rw [e2] at q2; exact q2
        | ok u' ρ'' => rw [e2] at q2; exact fun G2 H2 σ2 r2 s2 w2 => q2 G2 H2 σ2 r2 (s1.trans rel s2) (w2.trans w1)
theorem vgc_tup {k : Nat} {n : Nat} (hc : X.calm = true) (hs : VGcs X vs es h) (hn : (assignEach es X.env).length = n := by rfl) (hst : (assignEach es X.env).findIdx? (·.1) = none := by rfl) : VGc X vs (.Tuple es k pos) (gTupD n h) :=
  PG.imp (pgOr (pg_tup hc hs hn hst) (pg_unl hc hs hn hst)) fun v σ H Q ⟨G, ρ, d, rel, hv, q⟩ => by
    cases hv with
    | @lst a xs ds hq hds =>
      have q' : FnGC vs X.K G H σ ρ (if ds.length = n then h ds ρ else .no) Q := q
      split at q'
      · rename_i hl
        exact .inr ⟨a, xs, rfl, rel.sub.seq hq, by rw [hds.length]; exact hl, G, ρ, ds, rel, hds, q'⟩
      · exact q'.elim
    | @tup a xs ds hq hds =>
      have q' : FnGC vs X.K G H σ ρ (if ds.length = n then h ds ρ else .no) Q := q
      split at q'
      · rename_i hl
        exact .inl ⟨a, xs, rfl, Same.tup rel.sub hq, by rw [hds.length]; exact hl, G, ρ, ds, rel, hds, q'⟩
      · exact q'.elim
    | _ => exact q.elim
/-- one turn -/
def lcT (g : D → En → R Unit) (ft : En → R Bool) (fe : En → R D) : D → En → R (Option D) := fun d ρ =>
  (g d ρ).bind fun _ ρ1 => (ft ρ1).bind fun b ρ2 => if b = true then (fe ρ2).bind fun y ρ3 => .ok (some y) ρ3 else .ok none ρ2
def lcL (t : D → En → R (Option D)) (vs : List Nat) : List D → List D → En → R (List D)
  | [], acc, ρ => .ok acc ρ
  | d :: ds, acc, ρ => match t d (wipeE ρ vs) with
    | .ok (some y) ρ3 => if acc.length < sizeLine then lcL t vs ds (acc ++ [y]) (restE ρ ρ3 vs) else .no
    | .ok none ρ3 => lcL t vs ds acc (restE ρ ρ3 vs)
    | _ => .no
def nLc (fi : En → R (List D)) (t : D → En → R (Option D)) (vs : List Nat) : En → R (List D) := fun ρ => (fi ρ).bind fun ds ρ1 => if immE ρ1 vs = true then lcL t vs ds [] ρ1 else .no
def tT : En → R Bool := fun ρ => .ok true ρ
theorem PTs.imp {X : Cx} {e : List Expr} {t t' : TT} (h : PTs X e t) (i : ∀ σ H Q, t' σ H Q → t σ H Q) : PTs X e t' := ⟨fun pins s σ H Q I q => h.run pins s σ H Q I (i _ _ _ q)⟩
theorem vts_nil : PTs X [] (teB X.K w tT) := PTs.imp pts_nil fun σ H Q ⟨G, ρ, rel, h⟩ => h G H rel Stp.refl
theorem vts_one {c : Expr} {f : En → R Bool} (h : VT X w c f) : PTs X [c] (teB X.K w f) := pts_one h
/-- the rule's main step -/
theorem lc_go {fi : En → R (List D)} {g : D → En → R Unit} {ft : En → R Bool} {fe : En → R D} {Kf : PySem.W.Frag} {σ : L2.St} {H0 G1 H1 : Hp} {ρ1 : En} {ds : List D} {J : It} {Q : VK} (hJ : ItS Kf G1 J ds) (r1 : Rel Kf G1 H1 σ ρ1) (hH : ∀ p, H1 p = none → H0 p = none)
    (h1 : Fn Kf w G1 H1 σ ρ1 (if immE ρ1 vs = true then lcL (lcT g ft fe) vs ds [] ρ1 else .no) (QN Kf H0 σ Q)) (D0 : Addr) (hD : H1 D0 = none) :
    ∃ W : Nat → Nat → Hp → Prop, (∃ m, W 0 m (upd H1 D0 (.lst []))) ∧ ∀ i m H, W i m H →
      (J.stop i H ∧ Q (.ref D0) H) ∨ (J.go i H ∧ ∃ Nx : Hp → Prop, (∀ H', Nx H' → ∃ m', m' < m ∧ W (i + 1) m' H') ∧ ∀ x H', J.yld i H x H' →
        (fun v σ H Q => ∃ G ρ d, Rel Kf G H σ ρ ∧ DR Kf G v d ∧ FnGC vs Kf G H σ ρ (g d ρ) Q) x (L2.wipe σ vs) H' fun σ2 H2 => L2.wipe σ2 vs = L2.wipe σ vs ∧ teB Kf (w0 w) ft σ2 H2 fun b H3 =>
        if b = true then teD Kf (w0 w) fe σ2 H3 fun y H4 => ∃ acc, H4 D0 = some (.lst acc) ∧ acc.length < sizeLine ∧ Nx (upd H4 D0 (.lst (acc ++ [y]))) else Nx H3) := by
  have im : immE ρ1 vs = true := by
    cases q : immE ρ1 vs with
    | true => rfl
    | false => rw [q, if_neg (by decide)] at h1; exact h1.elim
  rw [if_pos im] at h1
  have gD : G1 D0 = none := Same.free r1.sub hD
  have oD : ¬ Own H1 σ ρ1 D0 := fun z => by obtain ⟨_, us, e⟩ := r1.own z; rw [hD] at e; cases e
  refine ⟨fun i m H => m = ds.length - i ∧ i ≤ ds.length ∧ ∃ G ρ acc, Rel Kf G H σ ρ ∧ Stp G1 H1 σ ρ1 G H σ ρ ∧ immE ρ vs = true ∧ NewAt Kf G H σ ρ D0 acc ∧ Fn Kf w G1 H1 σ ρ1 (lcL (lcT g ft fe) vs (ds.drop i) acc ρ) (QN Kf H0 σ Q),
    ⟨ds.length, rfl, Nat.zero_le _, G1, ρ1, [], r1.updN gD oD, Stp.refl.updN r1 gD oD hD, im, ⟨gD, r1.updO gD oD, [], upd_same, .nil⟩, by rw [List.drop_zero]; exact h1⟩, ?_⟩
  rintro i m H ⟨rfl, hi, G, ρ, acc, r, s, im, na, h⟩
  have sH : Same G1 H := s.g.trans r.sub
  by_cases hlt : i < ds.length
  · obtain ⟨d, hd⟩ : ∃ d, ds[i]? = some d := ⟨ds[i], List.getElem?_eq_getElem hlt⟩
    have hdrop : ds.drop i = d :: ds.drop (i + 1) := by
      rw [List.drop_eq_getElem_cons hlt]
      rw [List.getElem?_eq_getElem hlt] at hd; cases hd; rfl
    rw [hdrop] at h
    refine .inr ⟨hJ.go i H hlt sH, fun H' => ∃ G ρ acc, Rel Kf G H' σ ρ ∧ Stp G1 H1 σ ρ1 G H' σ ρ ∧ immE ρ vs = true ∧ NewAt Kf G H' σ ρ D0 acc ∧ Fn Kf w G1 H1 σ ρ1 (lcL (lcT g ft fe) vs (ds.drop (i + 1)) acc ρ) (QN Kf H0 σ Q), fun H' q => ⟨_, by omega, rfl, hlt, q⟩, fun x H' hy => ?_⟩
    obtain ⟨G', r', s', hx'⟩ := hJ.yld i H x H' d hd hy G σ ρ s.g r
    have na' := na.step s'
    obtain ⟨rw_, ow_⟩ := r'.wipe (vs := vs)
    have naw : NewAt Kf G' H' (L2.wipe σ vs) (wipeE ρ vs) D0 acc := ⟨na'.g, fun z => na'.own (ow_ _ z), na'.here⟩
    have h' : Fn Kf w G1 H1 σ ρ1 (match lcT g ft fe d (wipeE ρ vs) with
      | .ok (some y) ρ3 => if acc.length < sizeLine then lcL (lcT g ft fe) vs (ds.drop (i + 1)) (acc ++ [y]) (restE ρ ρ3 vs) else .no
      | .ok none ρ3 => lcL (lcT g ft fe) vs (ds.drop (i + 1)) acc (restE ρ ρ3 vs)
      | _ => .no) (QN Kf H0 σ Q) := h
    refine ⟨G', wipeE ρ vs, d, rw_, hx', ?_⟩
    unfold lcT at h'
    cases q1 : g d (wipeE ρ vs) with
    | no => rw [q1] at h'; exact h'.elim
    | ex c ρ' => rw [q1] at h'; exact h'.elim
    | ok u ρa =>
      rw [q1] at h'
      intro G2 H2 σ2 r2 s2 w2
      have w2' : L2.wipe σ2 vs = L2.wipe σ vs := w2.trans (wipe_wipe _ _)
      refine ⟨w2', G2, ρa, r2, ?_⟩
      have h2 : Fn Kf w G1 H1 σ ρ1 (match (ft ρa).bind fun b ρ2 => if b = true then (fe ρ2).bind fun y ρ3 => R.ok (some y) ρ3 else R.ok none ρ2 with
        | .ok (some y) ρ3 => if acc.length < sizeLine then lcL (lcT g ft fe) vs (ds.drop (i + 1)) (acc ++ [y]) (restE ρ ρ3 vs) else .no
        | .ok none ρ3 => lcL (lcT g ft fe) vs (ds.drop (i + 1)) acc (restE ρ ρ3 vs)
        | _ => .no) (QN Kf H0 σ Q) := h'
      cases q2 : ft ρa with
      | no => rw [q2] at h2; exact h2.elim
      | ex c ρ' => rw [q2] at h2; exact h2.elim
      | ok b ρb =>
        rw [q2] at h2
        intro G3 H3 r3 s3
        cases b with
        | false =>
          have S := s2.trans rw_ s3
          obtain ⟨rb, sb, ib⟩ := Rel.unwipe r' im w2' r3 S
          exact iteF ⟨G3, restE ρ ρb vs, acc, rb, (s.trans r1 s').trans r1 sb, ib, na'.step sb, h2⟩
        | true =>
          refine iteT ⟨G3, ρb, r3, ?_⟩
          have h3 : Fn Kf w G1 H1 σ ρ1 (match (fe ρb).bind fun y ρ3 => R.ok (some y) ρ3 with
            | .ok (some y) ρ3 => if acc.length < sizeLine then lcL (lcT g ft fe) vs (ds.drop (i + 1)) (acc ++ [y]) (restE ρ ρ3 vs) else .no
            | .ok none ρ3 => lcL (lcT g ft fe) vs (ds.drop (i + 1)) acc (restE ρ ρ3 vs)
            | _ => .no) (QN Kf H0 σ Q) := h2
          cases q3 : fe ρb with
          | no => rw [q3] at h3; exact h3.elim
          | ex c ρ' => rw [q3] at h3; exact h3.elim
          | ok y ρc =>
            rw [q3] at h3
            intro G4 H4 r4 s4 v hv
            have h4 : Fn Kf w G1 H1 σ ρ1 (if acc.length < sizeLine then lcL (lcT g ft fe) vs (ds.drop (i + 1)) (acc ++ [y]) (restE ρ ρc vs) else .no) (QN Kf H0 σ Q) := h3
            by_cases hz : acc.length < sizeLine
            · rw [if_pos hz] at h4
              have S := s2.trans rw_ (s3.trans r2 s4)
              obtain ⟨rb, sb, ib⟩ := Rel.unwipe r' im w2' r4 S
              have nb := na'.step sb
              obtain ⟨us, hu, hds⟩ := nb.here
              have sN : Stp G1 H1 σ ρ1 G4 H4 σ (restE ρ ρc vs) := (s.trans r1 s').trans r1 sb
              exact ⟨us, hu, by rw [hds.length]; exact hz, G4, restE ρ ρc vs, acc ++ [y], rb.updN nb.g nb.own, sN.updN rb nb.g nb.own hD, ib, ⟨nb.g, rb.updO nb.g nb.own, us ++ [v], upd_same, hds.append (.cons hv .nil)⟩, h4⟩
            · rw [if_neg hz] at h4; exact h4.elim
  · have e : i = ds.length := by omega
    subst e
    refine .inl ⟨hJ.stop H sH, ?_⟩
    rw [List.drop_length] at h
    exact h G H r s D0 ⟨na.g, na.own, na.here, hH D0 hD⟩
theorem lc_imp {fi : En → R (List D)} {g : D → En → R Unit} {ft : En → R Bool} {fe : En → R D} {K : PySem.W.Frag} {σ : L2.St} {H : Hp} {Q : VK} (h : teN K w (nLc fi (lcT g ft fe) vs) σ H Q) :
    tLc (fun σ H R => ∃ G ρ, Rel K G H σ ρ ∧ Fn K w G H σ ρ (fi ρ) (fun G1 H1 _ ds => ∀ J, ItS K G1 J ds → R J H1)) (fun v σ H Q => ∃ G ρ d, Rel K G H σ ρ ∧ DR K G v d ∧ FnGC vs K G H σ ρ (g d ρ) Q) (teB K (w0 w) ft) (teD K (w0 w) fe) vs σ H Q := by
  obtain ⟨G, ρ, rel, h⟩ := h
  exact ⟨G, ρ, rel, (Fn.bind rel h).imp fun G1 H1 ρ1 ds ⟨r1, s1, h1⟩ J hJ D0 hD =>
    lc_go (fi := fi) hJ r1 (fun p hp => by cases q : H p with | none => rfl | some o => exact absurd hp (s1.tr p (by rw [q]; exact fun z => nomatch z))) h1 D0 hD⟩
theorem vn_lc {tg iter elt : Expr} {ifs : List Expr} {scope : Scope} {own : List (Str × Nat)} {fi : En → R (List D)} {g : D → En → R Unit} {ft : En → R Bool} {fe : En → R D} (hc : X.calm = true) (hN : X.N.Nodup) (hi : VI X w tg iter fi) (ok : blkC X.N X.env.scope scope own = true)
    (hg : ∀ (s : Shared) (H : Hp) (C : Addr) (cl : List (Str × Addr)) (fp : List Addr), VGc (X.blk s H scope (compEnvC scope cl C X.env) fp) (own.map (·.2)) tg g) (ht : ∀ (s : Shared) (H : Hp) (C : Addr) (cl : List (Str × Addr)) (fp : List Addr), PTs (X.blk s H scope (compEnvC scope cl C X.env) fp) ifs (teB X.K (w0 w) ft))
    (he : ∀ (s : Shared) (H : Hp) (C : Addr) (cl : List (Str × Addr)) (fp : List Addr), VE (X.blk s H scope (compEnvC scope cl C X.env) fp) (w0 w) elt fe) (hs : ∀ x, foldedSetIterable iter X.env x = pure x := by intro _; rfl) :
    VN X w (.ListComp elt [⟨tg, iter, ifs, 0⟩] scope pos) (nLc fi (lcT g ft fe) (own.map (·.2))) :=
  PE.imp (pe_lc hc hN hi (blkOk_by ok) hg ht he hs) fun σ H Q h => lc_imp h
theorem setL_fn {K : PySem.W.Frag} {G H : Hp} {σ : L2.St} {ρ : En} {fl : En → R (List D)} {i : Nat} {Z : Ends} (rel : Rel K G H σ ρ) (h : FnS K w G H σ ρ (dAsgL i fl ρ) Z) : Fn K w G H σ ρ (fl ρ) (QN K H σ fun x H1 => gName i x σ H1 Z.nx) := by
  unfold dAsgL at h
  cases q : fl ρ with
  | no => rw [q] at h; exact h
  | ex c ρ' => rw [q] at h; exact fun G' H' cls dx r1 s1 x => h G' H' σ cls dx r1 s1 x
  | ok ds ρ' =>
    rw [q] at h
    intro G1 H1 r1 s1 p n
    have h' : FnS K w G H σ ρ ((putOw i ds ρ').bind fun _ ρ2 => .ok .nx ρ2) Z := h
    unfold putOw at h'
    split at h'
    · rename_i hf
      obtain ⟨c, hc, hb, ht⟩ := free_ok hf
      exact FnS.nx (show FnS K w G H σ ρ (.ok .nx (ρ'.set i (some (.ow ds)))) Z from h') (r1.putL hc n.g n.own n.here).1 (s1.putL r1 hc hb ht n.g n.own n.here n.new)
    · exact h'.elim
def dFz (f : En → R (List D)) : En → R D := fun ρ => (f ρ).bind fun ds ρ1 => .ok (.list ds) ρ1
theorem Rel.fixN {K : PySem.W.Frag} {G0 H0 G H : Hp} {σ : L2.St} {ρ0 ρ : En} {p : Addr} {us : List V} {ds : List D} (r : Rel K G H σ ρ) (s : Stp G0 H0 σ ρ0 G H σ ρ) (hg : G p = none) (ho : ¬ Own H σ ρ p) (hu : H p = some (.lst us)) (hd : DRs K G us ds) (hp : H0 p = none) :
    Rel K (upd G p (.lst us)) H σ ρ ∧ Stp G0 H0 σ ρ0 (upd G p (.lst us)) H σ ρ ∧ DR K (upd G p (.lst us)) (.ref p) (.list ds) := by
  obtain ⟨r', sg, hv, fr⟩ := r.settle hg ho hu hd
  refine ⟨r', ⟨s.g.trans sg, s.h, fun a e => ?_, s.ow, s.tr, s.ln, s.bo, s.bt⟩, hv⟩
  rcases fr a e with z | rfl
  · exact s.fr a z
  · exact .inr (.inl hp)
theorem ve_fz {f : En → R (List D)} (h : VN X w e f) : VE X w e (dFz f) := PE.imp h fun σ H Q ⟨G, ρ, rel, h⟩ => ⟨G, ρ, rel, by
  unfold dFz at h
  cases q : f ρ with
  | no => rw [q] at h; exact h
  | ex c ρ' => rw [q] at h; exact h
  | ok ds ρ' =>
    rw [q] at h
    have h' : Fn X.K w G H σ ρ (.ok (.list ds) ρ') (QD X.K Q) := h
    intro G1 H1 r1 s1 p n
    obtain ⟨us, hu, hd⟩ := n.here
    obtain ⟨r2, s2, hv⟩ := r1.fixN s1 n.g n.own hu hd n.new
    exact h' _ _ r2 s2 _ hv⟩
/-- a new list, a datum at once -/
theorem setI_fn {K : PySem.W.Frag} {G H : Hp} {σ : L2.St} {ρ : En} {fl : En → R (List D)} {i : Nat} {Z : Ends} (rel : Rel K G H σ ρ) (h : FnS K w G H σ ρ (dAsg (putIm i) (dFz fl) ρ) Z) : Fn K w G H σ ρ (fl ρ) (QN K H σ fun x H1 => gName i x σ H1 Z.nx) := by
  unfold dAsg dFz at h
  cases q : fl ρ with
  | no => rw [q] at h; exact h
  | ex c ρ' => rw [q] at h; exact fun G' H' cls dx r1 s1 x => h G' H' σ cls dx r1 s1 x
  | ok ds ρ' =>
    rw [q] at h
    intro G1 H1 r1 s1 p n
    have h' : FnS K w G H σ ρ ((putIm i (.list ds) ρ').bind fun _ ρ2 => .ok .nx ρ2) Z := h
    unfold putIm at h'
    split at h'
    · rename_i hf
      obtain ⟨c, hc, hb, ht⟩ := free_ok hf
      have hi : i < ρ'.length := (List.getElem?_eq_some_iff.mp hc).1
      have r2 := (r1.putL hc n.g n.own n.here).1
      have s2 := s1.putL (ds := ds) r1 hc hb ht n.g n.own n.here n.new
      obtain ⟨G3, o, sv, r3, s3, _⟩ := r2.freeze (i := i) (ds := ds) (List.getElem?_set_self hi)
      have e : frz i ds (ρ'.set i (some (.ow ds))) = ρ'.set i (some (.im (.list ds))) := by unfold frz; rw [List.set_set]
      rw [e] at r3 s3
      exact FnS.nx (show FnS K w G H σ ρ (.ok .nx (ρ'.set i (some (.im (.list ds))))) Z from h') r3 (s2.trans rel s3)
    · exact h'.elim
section
variable {tg iter elt : Expr} {ifs : List Expr} {scope : Scope} {own : List (Str × Nat)} {fi : En → R (List D)} {gt : D → En → R Unit} {ft : En → R Bool} {fe : En → R D} {py spos : Pos}
/-- name = [..] on one line -/
theorem vs_setLc (i : Nat) (hc : X.calm = true) (hN : X.N.Nodup) (hsw : swapsWith (.ListComp elt [⟨tg, iter, ifs, 0⟩] scope pos) (some (.Name x py)) spos.line X.env = pure true) (hi : VI X w tg iter fi) (ok : blkC X.N X.env.scope scope own = true)
    (hg : ∀ (s : Shared) (H : Hp) (C : Addr) (cl : List (Str × Addr)) (fp : List Addr), VGc (X.blk s H scope (compEnvC scope cl C X.env) fp) (own.map (·.2)) tg gt) (ht : ∀ (s : Shared) (H : Hp) (C : Addr) (cl : List (Str × Addr)) (fp : List Addr), PTs (X.blk s H scope (compEnvC scope cl C X.env) fp) ifs (teB X.K (w0 w) ft))
    (he : ∀ (s : Shared) (H : Hp) (C : Addr) (cl : List (Str × Addr)) (fp : List Addr), VE (X.blk s H scope (compEnvC scope cl C X.env) fp) (w0 w) elt fe) (hy : X.N[i]? = some x := by rfl) (hyl : X.env.scope.names.lookup x = some .local := by rfl) (hs : ∀ x, foldedSetIterable iter X.env x = pure x := by intro _; rfl) :
    VS X w (.Assign [.Name x py] (.ListComp elt [⟨tg, iter, ifs, 0⟩] scope pos) spos) (dAsgL i (nLc fi (lcT gt ft fe) (own.map (·.2)))) :=
  PS.imp (ps_setLc hc hN hy hyl hsw hi (blkOk_by ok) hg ht he hs) fun Z σ H ⟨G, ρ, rel, h⟩ => lc_imp ⟨G, ρ, rel, setL_fn rel h⟩
theorem vs_setLi (i : Nat) (hc : X.calm = true) (hN : X.N.Nodup) (hsw : swapsWith (.ListComp elt [⟨tg, iter, ifs, 0⟩] scope pos) (some (.Name x py)) spos.line X.env = pure true) (hi : VI X w tg iter fi) (ok : blkC X.N X.env.scope scope own = true)
    (hg : ∀ (s : Shared) (H : Hp) (C : Addr) (cl : List (Str × Addr)) (fp : List Addr), VGc (X.blk s H scope (compEnvC scope cl C X.env) fp) (own.map (·.2)) tg gt) (ht : ∀ (s : Shared) (H : Hp) (C : Addr) (cl : List (Str × Addr)) (fp : List Addr), PTs (X.blk s H scope (compEnvC scope cl C X.env) fp) ifs (teB X.K (w0 w) ft))
    (he : ∀ (s : Shared) (H : Hp) (C : Addr) (cl : List (Str × Addr)) (fp : List Addr), VE (X.blk s H scope (compEnvC scope cl C X.env) fp) (w0 w) elt fe) (hy : X.N[i]? = some x := by rfl) (hyl : X.env.scope.names.lookup x = some .local := by rfl) (hs : ∀ x, foldedSetIterable iter X.env x = pure x := by intro _; rfl) :
    VS X w (.Assign [.Name x py] (.ListComp elt [⟨tg, iter, ifs, 0⟩] scope pos) spos) (dAsg (putIm i) (dFz (nLc fi (lcT gt ft fe) (own.map (·.2))))) :=
  PS.imp (ps_setLc hc hN hy hyl hsw hi (blkOk_by ok) hg ht he hs) fun Z σ H ⟨G, ρ, rel, h⟩ => lc_imp ⟨G, ρ, rel, setI_fn rel h⟩
end
/-! reckoning -/
theorem lcL_fm {t : D → En → R (Option D)} {vs : List Nat} {f : D → Option D} {ρ : En} : ∀ {ds acc : List D}, (∀ d ∈ ds, ∃ ρ3, t d (wipeE ρ vs) = .ok (f d) ρ3 ∧ restE ρ ρ3 vs = ρ) → acc.length + ds.length ≤ sizeLine → lcL t vs ds acc ρ = .ok (acc ++ ds.filterMap f) ρ
  | [], acc, _, _ => by rw [lcL, List.filterMap_nil, List.append_nil]
  | d :: ds, acc, h, hl => by
    obtain ⟨ρ3, e1, e2⟩ := h d List.mem_cons_self
    rw [lcL, e1]
    have hl' : acc.length + (ds.length + 1) ≤ sizeLine := hl
    cases q : f d with
    | none =>
      show lcL t vs ds acc (restE ρ ρ3 vs) = _
      rw [e2, lcL_fm (fun d hd => h d (List.mem_cons_of_mem _ hd)) (by omega), List.filterMap_cons, q]
    | some y =>
      show (if acc.length < sizeLine then lcL t vs ds (acc ++ [y]) (restE ρ ρ3 vs) else .no) = _
      rw [if_pos (by omega), e2, lcL_fm (fun d hd => h d (List.mem_cons_of_mem _ hd)) (by rw [List.length_append]; simp; omega), List.filterMap_cons, q]
      simp
theorem lcL_map {t : D → En → R (Option D)} {vs : List Nat} {f : D → D} {ρ : En} {ds : List D} (h : ∀ d ∈ ds, ∃ ρ3, t d (wipeE ρ vs) = .ok (some (f d)) ρ3 ∧ restE ρ ρ3 vs = ρ) (hl : ds.length ≤ sizeLine) : lcL t vs ds [] ρ = .ok (ds.map f) ρ := by
  rw [lcL_fm (f := fun d => some (f d)) h (by simpa using hl), List.nil_append, List.filterMap_eq_map']
@[simp] theorem nLc_eq (fi : En → R (List D)) (t : D → En → R (Option D)) (vs : List Nat) (ρ : En) : nLc fi t vs ρ = (fi ρ).bind fun ds ρ1 => if immE ρ1 vs = true then lcL t vs ds [] ρ1 else .no := rfl
@[simp] theorem dFz_eq (f : En → R (List D)) (ρ : En) : dFz f ρ = (f ρ).bind fun ds ρ1 => .ok (.list ds) ρ1 := rfl
@[simp] theorem lcT_eq (g : D → En → R Unit) (ft : En → R Bool) (fe : En → R D) (d : D) (ρ : En) : lcT g ft fe d ρ = (g d ρ).bind fun _ ρ1 => (ft ρ1).bind fun b ρ2 => if b = true then (fe ρ2).bind fun y ρ3 => .ok (some y) ρ3 else .ok none ρ2 := rfl
@[simp] theorem tT_eq (ρ : En) : tT ρ = .ok true ρ := rfl
end
end Dn
namespace Dn
open PySem PySem.Spec PyProof.Rows L2
/-! ### calls over lists -/
def asInt : D → Option Int
  | .int i => some i
  | _ => none
def asBool : D → Option Bool
  | .bool i => some i
  | _ => none
def asStr : D → Option Str
  | .str i => some i
  | _ => none
def allOf {α : Type} (f : D → Option α) : List D → Option (List α)
  | [] => some []
  | d :: r => (f d).bind fun a => (allOf f r).map (a :: ·)
theorem allOf_eq {α : Type} {f : D → Option α} {g : α → D} (hg : ∀ d a, f d = some a → d = g a) : ∀ {ds : List D} {ns : List α}, allOf f ds = some ns → ds = ns.map g
  | [], ns, h => by cases h; rfl
  | d :: ds, ns, h => by
    simp only [allOf, Option.bind_eq_some_iff, Option.map_eq_some_iff] at h
    obtain ⟨a, h1, r, h2, rfl⟩ := h
    rw [hg d a h1, allOf_eq hg h2]; rfl
theorem allOf_map {α : Type} {f : D → Option α} {g : α → D} (hg : ∀ a, f (g a) = some a) : ∀ l : List α, allOf f (l.map g) = some l
  | [] => rfl
  | a :: l => by rw [List.map_cons, allOf, hg, allOf_map hg l]; rfl
theorem mapM_ints {ds : List D} {ns : List Int} (h : allOf asInt ds = some ns) : ds = ns.map .int := allOf_eq (fun d a e => by cases d <;> cases e; rfl) h
theorem mapM_bools {ds : List D} {ns : List Bool} (h : allOf asBool ds = some ns) : ds = ns.map .bool := allOf_eq (fun d a e => by cases d <;> cases e; rfl) h
theorem mapM_strs {ds : List D} {ns : List Str} (h : allOf asStr ds = some ns) : ds = ns.map .str := allOf_eq (fun d a e => by cases d <;> cases e; rfl) h
@[simp] theorem ints_map (l : List Int) : allOf asInt (l.map PyData.int) = some l := allOf_map (g := PyData.int) (fun _ => rfl) l
@[simp] theorem ints_map' {α : Type} (f : α → Int) (l : List α) : allOf asInt (l.map fun x => PyData.int (f x)) = some (l.map f) := by
  have : (l.map fun x => PyData.int (f x)) = (l.map f).map PyData.int := by rw [List.map_map]; rfl
  rw [this, ints_map]
@[simp] theorem bools_map (l : List Bool) : allOf asBool (l.map PyData.bool) = some l := allOf_map (g := PyData.bool) (fun _ => rfl) l
@[simp] theorem bools_map' {α : Type} (f : α → Bool) (l : List α) : allOf asBool (l.map fun x => PyData.bool (f x)) = some (l.map f) := by
  have : (l.map fun x => PyData.bool (f x)) = (l.map f).map PyData.bool := by rw [List.map_map]; rfl
  rw [this, bools_map]
@[simp] theorem strs_map (l : List Str) : allOf asStr (l.map PyData.str) = some l := allOf_map (g := PyData.str) (fun _ => rfl) l
@[simp] theorem strs_map' {α : Type} (f : α → Str) (l : List α) : allOf asStr (l.map fun x => PyData.str (f x)) = some (l.map f) := by
  have : (l.map fun x => PyData.str (f x)) = (l.map f).map PyData.str := by rw [List.map_map]; rfl
  rw [this, strs_map]
@[simp] theorem ints_comp {α : Type} (f : α → Int) (l : List α) : allOf asInt (l.map (PyData.int ∘ f)) = some (l.map f) := ints_map' f l
@[simp] theorem bools_comp {α : Type} (f : α → Bool) (l : List α) : allOf asBool (l.map (PyData.bool ∘ f)) = some (l.map f) := bools_map' f l
@[simp] theorem strs_comp {α : Type} (f : α → Str) (l : List α) : allOf asStr (l.map (PyData.str ∘ f)) = some (l.map f) := strs_map' f l
def gSum : List D → Option D
  | [.list ds] => (allOf asInt ds).map fun ns => .int ns.sum
  | _ => none
def gMaxL : List D → Option D
  | [.list ds] => (allOf asInt ds).bind fun ns => ns.max?.map .int
  | _ => none
def gMinL : List D → Option D
  | [.list ds] => (allOf asInt ds).bind fun ns => ns.min?.map .int
  | _ => none
def gAll : List D → Option D
  | [.list ds] => (allOf asBool ds).map fun bs => .bool (bs.all id)
  | _ => none
def gAny : List D → Option D
  | [.list ds] => (allOf asBool ds).map fun bs => .bool (bs.any id)
  | _ => none
def gList : List D → Option D
  | [.list ds] => some (.list ds)
  | [.tuple ds] => some (.list ds)
  | _ => none
def gTuple : List D → Option D
  | [.list ds] => some (.tuple ds)
  | [.tuple ds] => some (.tuple ds)
  | _ => none
section
variable {K : PySem.W.Frag}
theorem DR.lst' {G : Hp} {v : V} {ds : List D} (h : DR K G v (.list ds)) : ∃ a vs, v = .ref a ∧ SqL K G a vs ∧ DRs K G vs ds := by
  cases h with
  | lst h hs => exact ⟨_, _, rfl, h, hs⟩
theorem DR.tup' {G : Hp} {v : V} {ds : List D} (h : DR K G v (.tuple ds)) : ∃ a vs, v = .ref a ∧ SqT K G a vs ∧ DRs K G vs ds := by
  cases h with
  | tup h hs => exact ⟨_, _, rfl, h, hs⟩
theorem one_of {α : Type} {g : List D → Option α} {ds : List D} {d : α} (h : ∀ a b t, g (a :: b :: t) = none) (h0 : g [] = none) (e : g ds = some d) : ∃ x, ds = [x] := by
  rcases ds with _ | ⟨x, _ | ⟨y, t⟩⟩
  · rw [h0] at e; cases e
  · exact ⟨x, rfl⟩
  · rw [h] at e; cases e
theorem cs_sum : CallS K (rSum K) gSum := cs1 (fun ds d e => one_of (fun a b t => by cases a <;> rfl) rfl e) fun v x d G H σ ρ Q rel h e q => by
  cases x with
  | list ds =>
    simp only [gSum, Option.map_eq_some_iff] at e
    obtain ⟨ns, e, rfl⟩ := e
    obtain ⟨a, vs, rfl, h, hs⟩ := h.lst'
    rw [mapM_ints e] at hs
    rw [hs.ints] at h
    exact ⟨a, ns, rfl, rel.sub.seq h, q _ (.int _)⟩
  | _ => cases e
theorem cs_maxL : CallS K (rMax K) gMaxL := cs1 (fun ds d e => one_of (fun a b t => by cases a <;> rfl) rfl e) fun v x d G H σ ρ Q rel h e q => by
  cases x with
  | list ds =>
    simp only [gMaxL, Option.bind_eq_some_iff, Option.map_eq_some_iff] at e
    obtain ⟨ns, e, m, hm, rfl⟩ := e
    obtain ⟨a, vs, rfl, h, hs⟩ := h.lst'
    rw [mapM_ints e] at hs
    rw [hs.ints] at h
    have hne : ns ≠ [] := by intro z; subst z; cases hm
    refine ⟨a, ns, rfl, rel.sub.seq h, List.length_pos_iff.mpr hne, fun k hk hle => ?_⟩
    have : k = m := by
      rw [List.max?_eq_some_iff] at hm
      have h1 := hle m hm.1
      have h2 := hm.2 k hk
      omega
    subst this
    exact q _ (.int _)
  | _ => cases e
theorem cs_minL : CallS K (rMin K) gMinL := cs1 (fun ds d e => one_of (fun a b t => by cases a <;> rfl) rfl e) fun v x d G H σ ρ Q rel h e q => by
  cases x with
  | list ds =>
    simp only [gMinL, Option.bind_eq_some_iff, Option.map_eq_some_iff] at e
    obtain ⟨ns, e, m, hm, rfl⟩ := e
    obtain ⟨a, vs, rfl, h, hs⟩ := h.lst'
    rw [mapM_ints e] at hs
    rw [hs.ints] at h
    have hne : ns ≠ [] := by intro z; subst z; cases hm
    refine ⟨a, ns, rfl, rel.sub.seq h, List.length_pos_iff.mpr hne, fun k hk hle => ?_⟩
    have : k = m := by
      rw [List.min?_eq_some_iff] at hm
      have h1 := hle m hm.1
      have h2 := hm.2 k hk
      omega
    subst this
    exact q _ (.int _)
  | _ => cases e
theorem cs_all : CallS K (rAll K) gAll := cs1 (fun ds d e => one_of (fun a b t => by cases a <;> rfl) rfl e) fun v x d G H σ ρ Q rel h e q => by
  cases x with
  | list ds =>
    simp only [gAll, Option.map_eq_some_iff] at e
    obtain ⟨ns, e, rfl⟩ := e
    obtain ⟨a, vs, rfl, h, hs⟩ := h.lst'
    rw [mapM_bools e] at hs
    rw [hs.bools] at h
    exact ⟨a, ns, rfl, rel.sub.seq h, q _ (.bl _)⟩
  | _ => cases e
theorem cs_any : CallS K (rAny K) gAny := cs1 (fun ds d e => one_of (fun a b t => by cases a <;> rfl) rfl e) fun v x d G H σ ρ Q rel h e q => by
  cases x with
  | list ds =>
    simp only [gAny, Option.map_eq_some_iff] at e
    obtain ⟨ns, e, rfl⟩ := e
    obtain ⟨a, vs, rfl, h, hs⟩ := h.lst'
    rw [mapM_bools e] at hs
    rw [hs.bools] at h
    exact ⟨a, ns, rfl, rel.sub.seq h, q _ (.bl _)⟩
  | _ => cases e
abbrev rListOf (K : PySem.W.Frag) : List V → Hp → VK → Prop := fun xs H Q => ∃ p ys, xs = [.ref p] ∧ (SqL K H p ys ∨ SqT K H p ys) ∧ ∀ l, H l = none → Q (.ref l) (upd H l (.lst ys))
theorem cs_list : CallS K (rListOf K) gList := fun vs ds d G H σ ρ Q rel h e q => by
  obtain ⟨x, rfl⟩ := one_of (fun a b t => by cases a <;> rfl) rfl e
  cases h with
  | cons h t =>
    cases t
    cases x with
    | list ds =>
      cases e
      obtain ⟨a, vs, rfl, h, hs⟩ := h.lst'
      exact ⟨a, vs, rfl, .inl (rel.sub.seq h), hand_new rel q (DR.newL rel hs)⟩
    | tuple ds =>
      cases e
      obtain ⟨a, vs, rfl, h, hs⟩ := h.tup'
      exact ⟨a, vs, rfl, .inr (Same.tup rel.sub h), hand_new rel q (DR.newL rel hs)⟩
    | _ => cases e
abbrev rTupleOf (K : PySem.W.Frag) : List V → Hp → VK → Prop := fun xs H Q => ∃ p ys, xs = [.ref p] ∧ ((SqL K H p ys ∧ ∀ l, H l = none → Q (.ref l) (upd H l (.tup ys))) ∨ (SqT K H p ys ∧ Q (.ref p) H))
theorem cs_tuple : CallS K (rTupleOf K) gTuple := fun vs ds d G H σ ρ Q rel h e q => by
  obtain ⟨x, rfl⟩ := one_of (fun a b t => by cases a <;> rfl) rfl e
  cases h with
  | cons h t =>
    cases t
    cases x with
    | list ds =>
      cases e
      obtain ⟨a, vs, rfl, h, hs⟩ := h.lst'
      exact ⟨a, vs, rfl, .inl ⟨rel.sub.seq h, hand_new rel q (DR.newT rel hs)⟩⟩
    | tuple ds =>
      cases e
      obtain ⟨a, vs, rfl, h, hs⟩ := h.tup'
      exact ⟨a, vs, rfl, .inr ⟨Same.tup rel.sub h, q _ _ rel Stp.refl _ (.tup h hs)⟩⟩
    | _ => cases e
end
/-! list(..) as a new list of one's own -/
def asL : D → Option (List D)
  | .list ds => some ds
  | .tuple ds => some ds
  | _ => none
def nList (f : En → R D) : En → R (List D) := fun ρ => (f ρ).bind fun d ρ1 => lift (asL d) ρ1
section
variable {X : Cx} {w : Wh} {p pos : Pos} {e o : Expr} {fe fo : En → R D}
theorem vn_list (hg : Gl X "list") (hm : X.mg "list" = none) (ha : VE X w e fe) (he : starEach [e] X.env = (false, eval e X.env) :: starEach [] X.env := by rfl) (hpl : (backTo pos (starEach [] X.env)).any (·.1) = false := by rfl) : VN X w (.Call (.Name "list" p) [e] [] pos) (nList fe) :=
  PE.imp (pe_callTy call_list_of hg hm boot_ty_list (pa_cons ha pa_nil he) (by decide) (by decide) he hpl) fun σ H Q ⟨G, ρ, rel, h⟩ => ⟨G, ρ, rel, (Fn.bind rel h).imp fun G1 H1 ρ1 d ⟨r1, s1, h1⟩ v hv => by
    obtain ⟨ds, e, q⟩ := Fn.lift h1
    have fin : ∀ us, DRs X.K G1 us ds → ∀ l, H1 l = none → Q (.ref l) (upd H1 l (.lst us)) := fun us hd l hl => by
      obtain ⟨r2, s2⟩ := r1.laidM (o := .lst us) hl
      exact q _ _ r2 s2 l (NewL.of rel r1 s1 hl hd)
    cases d with
    | list ds' =>
      cases e
      obtain ⟨a, vs, rfl, h, hs⟩ := hv.lst'
      exact ⟨a, vs, rfl, .inl (r1.sub.seq h), fin _ hs⟩
    | tuple ds' =>
      cases e
      obtain ⟨a, vs, rfl, h, hs⟩ := hv.tup'
      exact ⟨a, vs, rfl, .inr (Same.tup r1.sub h), fin _ hs⟩
    | _ => cases e⟩
/-! ### a text's methods -/
def MS0 (K : PySem.W.Frag) (r : V → List V → Hp → VK → Prop) (g : Str → Option D) : Prop :=
  ∀ (a : Str) (d : D) (G H : Hp) (σ : L2.St) (ρ : En) (Q : VK), Rel K G H σ ρ → g a = some d → (∀ G' H', Rel K G' H' σ ρ → Stp G H σ ρ G' H' σ ρ → ∀ v, DR K G' v d → Q v H') → r (.str a) [] H Q
def MS1 (K : PySem.W.Frag) (r : V → List V → Hp → VK → Prop) (g : Str → D → Option D) : Prop :=
  ∀ (a : Str) (v : V) (y d : D) (G H : Hp) (σ : L2.St) (ρ : En) (Q : VK), Rel K G H σ ρ → DR K G v y → g a y = some d → (∀ G' H', Rel K G' H' σ ρ → Stp G H σ ρ G' H' σ ρ → ∀ v, DR K G' v d → Q v H') → r (.str a) [v] H Q
def dM0 (g : Str → Option D) (fo : En → R D) : En → R D := fun ρ => (fo ρ).bind fun x ρ1 => (lift (asStr x) ρ1).bind fun a ρ2 => lift (g a) ρ2
def dM1 (g : Str → D → Option D) (fo fe : En → R D) : En → R D := fun ρ => (fo ρ).bind fun x ρ1 => (lift (asStr x) ρ1).bind fun a ρ2 => (fe ρ2).bind fun y ρ3 => lift (g a y) ρ3
theorem DR.str' {K : PySem.W.Frag} {G : Hp} {v : V} {d : D} {a : Str} (h : DR K G v d) (e : asStr d = some a) : v = .str a := by
  cases h with
  | str x => cases e; rfl
  | _ => cases e
theorem ve_m0 {id : String} {name : Str} {apos : Pos} {r : V → List V → Hp → VK → Prop} {g : Str → Option D} (slot : Slot "str" name id) (ty : typeOf (.builtin id) = pure (.type "method_descriptor")) (rule : MtR X id r) (sp : MS0 X.K r g) (ho : VE X w o fo)
    (hbase : attributeBase o name X.env (eval o X.env) = eval o X.env := by rfl) (hline : (apos.endLine == pos.line) = true := by rfl) : VE X w (.Call (.Attribute o name apos) [] [] pos) (dM0 g fo) :=
  PE.imp (pe_m0 slot ty rule ho hbase hline) fun σ H Q ⟨G, ρ, rel, h⟩ => ⟨G, ρ, rel, (Fn.bind rel h).imp fun G1 H1 ρ1 x ⟨r1, s1, h1⟩ v hv => by
    obtain ⟨a, e1, h3⟩ : ∃ a, asStr x = some a ∧ Fn X.K w G1 H1 σ ρ1 (lift (g a) ρ1) (QD X.K Q) := by
      cases q : asStr x with
      | none => rw [q] at h1; exact h1.elim
      | some a => rw [q] at h1; exact ⟨a, rfl, h1⟩

    have := hv.str' e1
    subst this
    obtain ⟨d, e, q⟩ := Fn.lift h3
    exact ⟨⟨_, rfl⟩, sp _ d G1 H1 σ ρ1 Q r1 e q⟩⟩
theorem ve_m1 {id : String} {name : Str} {apos : Pos} {r : V → List V → Hp → VK → Prop} {g : Str → D → Option D} (slot : Slot "str" name id) (ty : typeOf (.builtin id) = pure (.type "method_descriptor")) (rule : MtR X id r) (sp : MS1 X.K r g) (ho : VE X w o fo) (he : VE X w e fe)
    (hs : starEach [e] X.env = [(false, eval e X.env)] := by rfl) (hbase : attributeBase o name X.env (eval o X.env) = eval o X.env := by rfl) (hline : (apos.endLine == pos.line) = true := by rfl) : VE X w (.Call (.Attribute o name apos) [e] [] pos) (dM1 g fo fe) :=
  PE.imp (pe_m1 slot ty rule ho he hs hbase hline) fun σ H Q ⟨G, ρ, rel, h⟩ => ⟨G, ρ, rel, (Fn.bind rel h).imp fun G1 H1 ρ1 x ⟨r1, s1, h1⟩ v hv => by
    obtain ⟨a, e1, h2⟩ : ∃ a, asStr x = some a ∧ Fn X.K w G1 H1 σ ρ1 ((fe ρ1).bind fun y ρ3 => lift (g a y) ρ3) (QD X.K Q) := by
      cases q : asStr x with
      | none => rw [q] at h1; exact h1.elim
      | some a => rw [q] at h1; exact ⟨a, rfl, h1⟩
    have := hv.str' e1
    subst this
    refine ⟨⟨_, rfl⟩, G1, ρ1, r1, (Fn.bind r1 h2).imp fun G2 H2 ρ2 y ⟨r2, s2, h3⟩ u hu => ?_⟩
    obtain ⟨d, e, q⟩ := Fn.lift h3
    exact sp a u y d G2 H2 σ ρ2 Q r2 hu e q⟩
end
section
variable {K : PySem.W.Frag}
theorem newStrs {G H : Hp} {σ : L2.St} {ρ : En} {Q : VK} {ys : List Str} (rel : Rel K G H σ ρ) (q : ∀ G' H', Rel K G' H' σ ρ → Stp G H σ ρ G' H' σ ρ → ∀ v, DR K G' v (.list (ys.map .str)) → Q v H') : rNewStrs ys H Q := hand_new rel q (DR.newL rel (DRs.ofStrs ys))
def gPart (a : Str) : D → Option D
  | .str b => if (b.length == 0) = false ∧ a.length ≤ sizeLine then some (.tuple [.str (Txt.partition a b).1, .str (Txt.partition a b).2.1, .str (Txt.partition a b).2.2]) else none
  | _ => none
theorem ms_part : MS1 K (fun x xs H Q => ∃ a b, x = .str a ∧ xs = [.str b] ∧ (b.length == 0) = false ∧ a.length ≤ sizeLine ∧
    ∀ p, H p = none → Q (.ref p) (upd H p (.tup [.str (Txt.partition a b).1, .str (Txt.partition a b).2.1, .str (Txt.partition a b).2.2]))) gPart := fun a v y d G H σ ρ Q rel hv e q => by
  cases hv with
  | str b =>
    simp only [gPart] at e
    split at e
    · rename_i h; cases e
      exact ⟨a, b, rfl, rfl, h.1, h.2, hand_new rel q (DR.newT rel (.cons (.str _) (.cons (.str _) (.cons (.str _) .nil))))⟩
    · cases e
  | _ => cases e
def gJoinL (a : Str) (ds : List D) : Option D := (allOf asStr ds).bind fun ys => if (ys.map (·.length)).sum + ys.length * a.length ≤ 16777216 then some (.str (Txt.join a ys)) else none
def gJoin (a : Str) : D → Option D
  | .list ds => gJoinL a ds
  | .tuple ds => gJoinL a ds
  | _ => none
theorem gJoinL_ok {a : Str} {ds : List D} {d : D} (e : gJoinL a ds = some d) : ∃ ys : List Str, ds = ys.map .str ∧ (ys.map (·.length)).sum + ys.length * a.length ≤ 16777216 ∧ d = .str (Txt.join a ys) := by
  simp only [gJoinL, Option.bind_eq_some_iff] at e
  obtain ⟨ys, e1, e⟩ := e
  split at e
  · cases e; exact ⟨ys, mapM_strs e1, ‹_›, rfl⟩
  · cases e
theorem ms_join : MS1 K (fun x xs H Q => ∃ a p, ∃ ys : List Str, x = .str a ∧ xs = [.ref p] ∧ (SqL K H p (ys.map V.str) ∨ SqT K H p (ys.map V.str)) ∧
    (ys.map (·.length)).sum + ys.length * a.length ≤ 16777216 ∧ Q (.str (Txt.join a ys)) H) gJoin := fun a v y d G H σ ρ Q rel hv e q => by
  cases y with
  | list ds =>
    obtain ⟨ys, rfl, hz, rfl⟩ := gJoinL_ok e
    obtain ⟨p, vs, rfl, h, hs⟩ := hv.lst'
    rw [hs.strs] at h
    exact ⟨a, p, ys, rfl, rfl, .inl (rel.sub.seq h), hz, q _ _ rel Stp.refl _ (.str _)⟩
  | tuple ds =>
    obtain ⟨ys, rfl, hz, rfl⟩ := gJoinL_ok e
    obtain ⟨p, vs, rfl, h, hs⟩ := hv.tup'
    rw [hs.strs] at h
    exact ⟨a, p, ys, rfl, rfl, .inr (Same.tup rel.sub h), hz, q _ _ rel Stp.refl _ (.str _)⟩
  | _ => cases e
def gZfill (a : Str) : D → Option D
  | .int i => if PadOk i = true then some (.str (Txt.zfill a i)) else none
  | _ => none
theorem ms_zfill : MS1 K (fun x xs H Q => ∃ (a : Str) (i : Int), x = .str a ∧ xs = [.int i] ∧ PadOk i = true ∧ Q (.str (Txt.zfill a i)) H) gZfill := fun a v y d G H σ ρ Q rel hv e q => by
  cases hv with
  | int i =>
    simp only [gZfill] at e
    split at e
    · cases e; exact ⟨a, i, rfl, rfl, ‹_›, q _ _ rel Stp.refl _ (.str _)⟩
    · cases e
  | _ => cases e
def gSplit (a : Str) : D → Option D
  | .str b => if (b.length == 0) = false ∧ a.length + 2 ≤ sizeLine then some (.list ((Txt.split a b).map .str)) else none
  | _ => none
theorem ms_split : MS1 K (fun x xs H Q => ∃ a b, x = .str a ∧ xs = [.str b] ∧ (b.length == 0) = false ∧ a.length + 2 ≤ sizeLine ∧ rNewStrs (Txt.split a b) H Q) gSplit := fun a v y d G H σ ρ Q rel hv e q => by
  cases hv with
  | str b =>
    simp only [gSplit] at e
    split at e
    · rename_i h; cases e
      exact ⟨a, b, rfl, rfl, h.1, h.2, newStrs rel q⟩
    · cases e
  | _ => cases e
def gCountS (a : Str) : D → Option D
  | .str b => some (.int (Txt.count a b))
  | _ => none
theorem ms_count : MS1 K (fun x xs H Q => ∃ a b, x = .str a ∧ xs = [.str b] ∧ Q (.int (Txt.count a b)) H) gCountS := fun a v y d G H σ ρ Q rel hv e q => by
  cases hv with
  | str b => cases e; exact ⟨a, b, rfl, rfl, q _ _ rel Stp.refl _ (.int _)⟩
  | _ => cases e
def gStarts (a : Str) : D → Option D
  | .str b => some (.bool (Txt.startswith a b))
  | _ => none
theorem ms_starts : MS1 K (fun x xs H Q => ∃ a b, x = .str a ∧ xs = [.str b] ∧ Q (.bl (Txt.startswith a b)) H) gStarts := fun a v y d G H σ ρ Q rel hv e q => by
  cases hv with
  | str b => cases e; exact ⟨a, b, rfl, rfl, q _ _ rel Stp.refl _ (.bl _)⟩
  | _ => cases e
def gUpper (a : Str) : Option D := if a.length ≤ 5592405 then some (.str (Txt.upper a)) else none
theorem ms_upper : MS0 K (fun x xs H Q => ∃ a, x = .str a ∧ xs = [] ∧ a.length ≤ 5592405 ∧ Q (.str (Txt.upper a)) H) gUpper := fun a d G H σ ρ Q rel e q => by
  simp only [gUpper] at e
  split at e
  · cases e; exact ⟨a, rfl, rfl, ‹_›, q _ _ rel Stp.refl _ (.str _)⟩
  · cases e
end
@[simp] theorem dM0_eq (g : Str → Option D) (fo : En → R D) (ρ : En) : dM0 g fo ρ = (fo ρ).bind fun x ρ1 => (lift (asStr x) ρ1).bind fun a ρ2 => lift (g a) ρ2 := rfl
@[simp] theorem dM1_eq (g : Str → D → Option D) (fo fe : En → R D) (ρ : En) : dM1 g fo fe ρ = (fo ρ).bind fun x ρ1 => (lift (asStr x) ρ1).bind fun a ρ2 => (fe ρ2).bind fun y ρ3 => lift (g a y) ρ3 := rfl
@[simp] theorem asStr_str (a : Str) : asStr (.str a) = some a := rfl
@[simp] theorem nList_eq (f : En → R D) (ρ : En) : nList f ρ = (f ρ).bind fun d ρ1 => lift (asL d) ρ1 := rfl
@[simp] theorem asL_list (ds : List D) : asL (.list ds) = some ds := rfl
@[simp] theorem asL_tuple (ds : List D) : asL (.tuple ds) = some ds := rfl
@[simp] theorem gSum_list (ds : List D) : gSum [.list ds] = (allOf asInt ds).map fun ns => .int ns.sum := rfl
@[simp] theorem gMaxL_list (ds : List D) : gMaxL [.list ds] = (allOf asInt ds).bind fun ns => ns.max?.map .int := rfl
@[simp] theorem gMinL_list (ds : List D) : gMinL [.list ds] = (allOf asInt ds).bind fun ns => ns.min?.map .int := rfl
@[simp] theorem gAll_list (ds : List D) : gAll [.list ds] = (allOf asBool ds).map fun bs => .bool (bs.all id) := rfl
@[simp] theorem gAny_list (ds : List D) : gAny [.list ds] = (allOf asBool ds).map fun bs => .bool (bs.any id) := rfl
@[simp] theorem gList_list (ds : List D) : gList [.list ds] = some (.list ds) := rfl
@[simp] theorem gList_tuple (ds : List D) : gList [.tuple ds] = some (.list ds) := rfl
@[simp] theorem gTuple_list (ds : List D) : gTuple [.list ds] = some (.tuple ds) := rfl
@[simp] theorem gTuple_tuple (ds : List D) : gTuple [.tuple ds] = some (.tuple ds) := rfl
end Dn
namespace Dn
open PySem PySem.Spec PyProof.Rows L2
section
variable {X : Cx} {w : Wh} {x : Str} {pos py spos : Pos} {k : Nat} {tg iter elt : Expr} {ifs : List Expr} {scope : Scope} {own : List (Str × Nat)} {fi : En → R (List D)} {gt : D → En → R Unit} {ft : En → R Bool} {fe : En → R D}
theorem Gd.blk (g : Gd X w k) {s : Shared} {H : Hp} {C : Addr} {cl : List (Str × Addr)} {fp : List Addr} : Gd (X.blk s H scope (compEnvC scope cl C X.env) fp) (w0 w) k :=
  ⟨g.calm, fun u s' x => by obtain ⟨a, B, sI, pins, σ, H, cls, d, e, I, nb, up, sky, na, os, ag, w⟩ := x; exact w.elim, PassesOwn.never, g.hr⟩
theorem vn_lcG (own : List (Str × Nat)) (g : Gd X w k) (hN : X.N.Nodup) (hi : VI X w tg iter fi) (ok : blkC X.N X.env.scope scope own = true)
    (hg : ∀ (s : Shared) (H : Hp) (C : Addr) (cl : List (Str × Addr)) (fp : List Addr), Gd (X.blk s H scope (compEnvC scope cl C X.env) fp) (w0 w) k → VGc (X.blk s H scope (compEnvC scope cl C X.env) fp) (own.map (·.2)) tg gt)
    (ht : ∀ (s : Shared) (H : Hp) (C : Addr) (cl : List (Str × Addr)) (fp : List Addr), Gd (X.blk s H scope (compEnvC scope cl C X.env) fp) (w0 w) k → PTs (X.blk s H scope (compEnvC scope cl C X.env) fp) ifs (teB X.K (w0 w) ft))
    (he : ∀ (s : Shared) (H : Hp) (C : Addr) (cl : List (Str × Addr)) (fp : List Addr), Gd (X.blk s H scope (compEnvC scope cl C X.env) fp) (w0 w) k → VE (X.blk s H scope (compEnvC scope cl C X.env) fp) (w0 w) elt fe) (hs : ∀ x, foldedSetIterable iter X.env x = pure x := by intro _; rfl) :
    VN X w (.ListComp elt [⟨tg, iter, ifs, 0⟩] scope pos) (nLc fi (lcT gt ft fe) (own.map (·.2))) :=
  vn_lc g.calm hN hi ok (fun s H C cl fp => hg s H C cl fp g.blk) (fun s H C cl fp => ht s H C cl fp g.blk) (fun s H C cl fp => he s H C cl fp g.blk) hs
theorem vs_setLcG (i : Nat) (own : List (Str × Nat)) (g : Gd X w k) (hN : X.N.Nodup) (hi : VI X w tg iter fi) (ok : blkC X.N X.env.scope scope own = true)
    (hg : ∀ (s : Shared) (H : Hp) (C : Addr) (cl : List (Str × Addr)) (fp : List Addr), Gd (X.blk s H scope (compEnvC scope cl C X.env) fp) (w0 w) k → VGc (X.blk s H scope (compEnvC scope cl C X.env) fp) (own.map (·.2)) tg gt)
    (ht : ∀ (s : Shared) (H : Hp) (C : Addr) (cl : List (Str × Addr)) (fp : List Addr), Gd (X.blk s H scope (compEnvC scope cl C X.env) fp) (w0 w) k → PTs (X.blk s H scope (compEnvC scope cl C X.env) fp) ifs (teB X.K (w0 w) ft))
    (he : ∀ (s : Shared) (H : Hp) (C : Addr) (cl : List (Str × Addr)) (fp : List Addr), Gd (X.blk s H scope (compEnvC scope cl C X.env) fp) (w0 w) k → VE (X.blk s H scope (compEnvC scope cl C X.env) fp) (w0 w) elt fe)
    (hsw : swapsWith (.ListComp elt [⟨tg, iter, ifs, 0⟩] scope pos) (some (.Name x py)) spos.line X.env = pure true := by exact sw_true (by rfl) (by rfl) (by rfl) (by rfl))
    (hy : X.N[i]? = some x := by rfl) (hyl : X.env.scope.names.lookup x = some .local := by rfl) (hs : ∀ x, foldedSetIterable iter X.env x = pure x := by intro _; rfl) :
    VS X w (.Assign [.Name x py] (.ListComp elt [⟨tg, iter, ifs, 0⟩] scope pos) spos) (dAsgL i (nLc fi (lcT gt ft fe) (own.map (·.2)))) :=
  vs_setLc i g.calm hN hsw hi ok (fun s H C cl fp => hg s H C cl fp g.blk) (fun s H C cl fp => ht s H C cl fp g.blk) (fun s H C cl fp => he s H C cl fp g.blk) hy hyl hs
theorem vs_setLiG (i : Nat) (own : List (Str × Nat)) (g : Gd X w k) (hN : X.N.Nodup) (hi : VI X w tg iter fi) (ok : blkC X.N X.env.scope scope own = true)
    (hg : ∀ (s : Shared) (H : Hp) (C : Addr) (cl : List (Str × Addr)) (fp : List Addr), Gd (X.blk s H scope (compEnvC scope cl C X.env) fp) (w0 w) k → VGc (X.blk s H scope (compEnvC scope cl C X.env) fp) (own.map (·.2)) tg gt)
    (ht : ∀ (s : Shared) (H : Hp) (C : Addr) (cl : List (Str × Addr)) (fp : List Addr), Gd (X.blk s H scope (compEnvC scope cl C X.env) fp) (w0 w) k → PTs (X.blk s H scope (compEnvC scope cl C X.env) fp) ifs (teB X.K (w0 w) ft))
    (he : ∀ (s : Shared) (H : Hp) (C : Addr) (cl : List (Str × Addr)) (fp : List Addr), Gd (X.blk s H scope (compEnvC scope cl C X.env) fp) (w0 w) k → VE (X.blk s H scope (compEnvC scope cl C X.env) fp) (w0 w) elt fe)
    (hsw : swapsWith (.ListComp elt [⟨tg, iter, ifs, 0⟩] scope pos) (some (.Name x py)) spos.line X.env = pure true := by exact sw_true (by rfl) (by rfl) (by rfl) (by rfl))
    (hy : X.N[i]? = some x := by rfl) (hyl : X.env.scope.names.lookup x = some .local := by rfl) (hs : ∀ x, foldedSetIterable iter X.env x = pure x := by intro _; rfl) :
    VS X w (.Assign [.Name x py] (.ListComp elt [⟨tg, iter, ifs, 0⟩] scope pos) spos) (dAsg (putIm i) (dFz (nLc fi (lcT gt ft fe) (own.map (·.2))))) :=
  vs_setLi i g.calm hN hsw hi ok (fun s H C cl fp => hg s H C cl fp g.blk) (fun s H C cl fp => ht s H C cl fp g.blk) (fun s H C cl fp => he s H C cl fp g.blk) hy hyl hs
end
end Dn
namespace Dn
open PySem PySem.Spec PyProof.Rows L2
def asLi : D → Option (List D)
  | .list ds => some ds
  | _ => none
/-- l.index(x) -/
def gIndex (ds : List D) (d : D) : Option D := if shp (.list ds) = true ∧ shp d = true then (ds.findIdx? fun z => PyData.eqv z d).map fun (j : Nat) => .int j else none
def dLM1 (g : List D → D → Option D) (fo fe : En → R D) : En → R D := fun ρ => (fo ρ).bind fun x ρ1 => (lift (asLi x) ρ1).bind fun ds ρ2 => (fe ρ2).bind fun y ρ3 => lift (g ds y) ρ3
@[simp] theorem dLM1_eq (g : List D → D → Option D) (fo fe : En → R D) (ρ : En) : dLM1 g fo fe ρ = (fo ρ).bind fun x ρ1 => (lift (asLi x) ρ1).bind fun ds ρ2 => (fe ρ2).bind fun y ρ3 => lift (g ds y) ρ3 := rfl
@[simp] theorem asLi_list (ds : List D) : asLi (.list ds) = some ds := rfl
section
variable {X : Cx} {w : Wh} {pos : Pos} {e o : Expr} {fe fo : En → R D}
theorem ve_index {apos : Pos} (hu : X.A.units + 65 < cLine) (ho : VE X w o fo) (he : VE X w e fe)
    (hbase : attributeBase o "index" X.env (eval o X.env) = eval o X.env := by rfl)
    (hfew : ((backTo pos (starEach [e] X.env)).all (fun x => !x.1) && (backToKw pos (keywordEach [] X.env)).all (fun x => x.1.isSome) && decide (([e] : List Expr).length + ([] : List Keyword).length + (if ([] : List Keyword).isEmpty then 0 else 1) < 30)) = true := by rfl)
    (hline : (apos.endLine == pos.line) = true := by rfl) (hs : starEach [e] X.env = (false, eval e X.env) :: starEach [] X.env := by rfl) (hplain : (backTo pos (starEach [] X.env)).any (·.1) = false := by rfl) :
    VE X w (.Call (.Attribute o "index" apos) [e] [] pos) (dLM1 gIndex fo fe) :=
  PE.imp (pe_bm PySem.F.plainAttrs_list PySem.F.slot_list_index PySem.F.type_list_index (mt_indexD hu) ho (pa_cons he pa_nil hs) hbase hfew hline hs hplain) fun σ H Q ⟨G, ρ, rel, h⟩ => ⟨G, ρ, rel, (Fn.bind rel h).imp fun G1 H1 ρ1 x ⟨r1, s1, h1⟩ v hv => by
    cases x with
    | list ds =>
      have h2 : Fn X.K w G1 H1 σ ρ1 ((fe ρ1).bind fun y ρ3 => lift (gIndex ds y) ρ3) (QD X.K Q) := h1
      obtain ⟨a, vs, rfl, hl, hds⟩ := hv.lst'
      refine ⟨.inl ⟨rfl, vs, r1.sub.seq hl⟩, G1, ρ1, r1, (Fn.bind r1 h2).imp fun G2 H2 ρ2 y ⟨r2, s2, h3⟩ u hu2 => ?_⟩
      obtain ⟨d, e, q⟩ := Fn.lift h3
      simp only [gIndex] at e
      split at e
      · rename_i hsh
        simp only [Option.map_eq_some_iff] at e
        obtain ⟨j, ej, rfl⟩ := e
        rw [List.findIdx?_eq_some_iff_getElem] at ej
        obtain ⟨hj, e1, e2⟩ := ej
        have D1 : DR X.K H2 (.ref a) (.list ds) := ((DR.lst hl hds).mono s2.g).mono r2.sub
        refine ⟨a, u, y, ds, j, ds[j], rfl, rfl, D1.dp (SeqAt.canLay_of_shaped hsh.1), (hu2.mono r2.sub).dp (SeqAt.canLay_of_shaped hsh.2), hsh.1, hsh.2, List.getElem?_eq_getElem hj, e1, fun m z hm hz => ?_, q _ _ r2 Stp.refl _ (.int _)⟩
        have hml : m < ds.length := by omega
        rw [List.getElem?_eq_getElem hml] at hz
        cases hz
        have := e2 m hm
        simpa using this
      · cases e
    | _ => exact h1.elim⟩
end
end Dn
namespace Dn
open PySem PySem.Spec PyProof.Rows L2
/-! ### one's own lists, looked at for a while -/
section
variable {K : PySem.W.Frag} {G H G' H' : Hp} {σ : L2.St} {ρ : En}
theorem DV.dr (r : Rel K G H σ ρ) {v : V} {d : D} (h : DV K G H v d) : DR K H v d := by
  cases h with
  | im h => exact h.mono r.sub
  | mu e h => exact .lst (.inl (.inl e)) (h.mono r.sub)
end
/-- compared: the left one a name -/
def dCmpL (g : D → D → Option Bool) (i : Nat) (fb : En → R D) : En → R Bool := atSlot i fb fun l y ρ => lift (g l.toD y) ρ
/-- compared: the right one a name -/
def dCmpR (g : D → D → Option Bool) (fa : En → R D) (i : Nat) : En → R Bool := fun ρ => (fa ρ).bind fun x ρ1 => atSlot i (fun ρ => .ok () ρ) (fun l _ ρ => lift (g x l.toD) ρ) ρ1
@[simp] theorem dCmpL_eq (g : D → D → Option Bool) (i : Nat) (fb : En → R D) (ρ : En) : dCmpL g i fb ρ = slotK ρ[i]? fun _ => (fb ρ).bind fun y ρ1 => slotK ρ1[i]? fun l => if l.tree = true then .no else lift (g l.toD y) ρ1 := by unfold dCmpL; rw [atSlot_eq]
@[simp] theorem dCmpR_eq (g : D → D → Option Bool) (fa : En → R D) (i : Nat) (ρ : En) : dCmpR g fa i ρ = (fa ρ).bind fun x ρ1 => slotK ρ1[i]? fun l => if l.tree = true then .no else lift (g x l.toD) ρ1 := by
  unfold dCmpR
  cases fa ρ with
  | ok x ρ1 =>
    show atSlot i _ _ ρ1 = slotK ρ1[i]? _
    rw [atSlot_eq]
    show (slotK ρ1[i]? fun _ => slotK ρ1[i]? fun l => if l.tree = true then R.no else lift (g x l.toD) ρ1) = _
    generalize ρ1[i]? = o
    cases o with
    | none => rfl
    | some o => cases o <;> rfl
  | _ => rfl
section
variable {X : Cx} {w : Wh} {op : CmpOp} {r : R2} {g : D → D → Option Bool} {a b : Expr} {fa fb : En → R D} {pos p : Pos} {x : Str}
theorem vt_cmpL (i : Nat) (ho : OpR X (compareOp op) r) (hs : OpB X.K r g) (hb : VE X w b fb) (hm : behindInMarks op b = false) (hN : X.N[i]? = some x := by rfl) (hv : Vis X.env.scope x := by first | exact Or.inl rfl | exact Or.inr (Or.inl rfl) | exact Or.inr (Or.inr rfl))
    (hd : (x == ("__debug__" : Str)) = false := by decide) (hcd : (x == ("__classdict__" : Str)) = false := by decide) : VT X w (.Compare (.Name x p) [op] [b] pos) (dCmpL g i fb) :=
  PT.imp (pt_cmpR ho (pe_var hN hv hd hcd) hb hm) fun σ H Q ⟨G, ρ, rel, h⟩ => by
    obtain ⟨v, s, h⟩ := Fn.slot rel h
    refine ⟨v, s, G, ρ, rel, h.imp fun G1 H1 ρ1 y ⟨l, e, dv, r1, s1, h1⟩ u hu => ?_⟩
    obtain ⟨d, e', q⟩ := Fn.lift h1
    exact hs v u l.toD y d H1 _ (dv.dr r1) (hu.mono r1.sub) e' ⟨d, rfl, q _ _ r1 Stp.refl⟩
theorem vt_cmpRN (i : Nat) (ho : OpR X (compareOp op) r) (hs : OpB X.K r g) (ha : VE X w a fa) (hm : behindInMarks op (.Name x p) = false) (hN : X.N[i]? = some x := by rfl) (hv : Vis X.env.scope x := by first | exact Or.inl rfl | exact Or.inr (Or.inl rfl) | exact Or.inr (Or.inr rfl))
    (hd : (x == ("__debug__" : Str)) = false := by decide) (hcd : (x == ("__classdict__" : Str)) = false := by decide) : VT X w (.Compare a [op] [.Name x p] pos) (dCmpR g fa i) :=
  PT.imp (pt_cmpR ho ha (pe_var hN hv hd hcd) hm) fun σ H Q ⟨G, ρ, rel, h⟩ => ⟨G, ρ, rel, (Fn.bind rel h).imp fun G1 H1 ρ1 dx ⟨r1, s1, h1⟩ u hu => by
    obtain ⟨v, s, h⟩ := Fn.slot r1 h1
    obtain ⟨l, e, dv, r2, s2, h2⟩ := h.ok r1
    obtain ⟨d, e', q⟩ := Fn.lift h2
    exact ⟨v, s, hs u v dx l.toD d H1 _ (hu.mono r1.sub) (dv.dr r2) e' ⟨d, rfl, q _ _ r2 Stp.refl⟩⟩⟩
theorem ve_cmpL (i : Nat) (ho : OpR X (compareOp op) r) (hs : OpB X.K r g) (hb : VE X w b fb) (hm : behindInMarks op b = false) (hN : X.N[i]? = some x := by rfl) (hv : Vis X.env.scope x := by first | exact Or.inl rfl | exact Or.inr (Or.inl rfl) | exact Or.inr (Or.inr rfl))
    (hd : (x == ("__debug__" : Str)) = false := by decide) (hcd : (x == ("__classdict__" : Str)) = false := by decide) : VE X w (.Compare (.Name x p) [op] [b] pos) (dB (dCmpL g i fb)) :=
  PE.imp (pe_cmpR ho (pe_var hN hv hd hcd) hb hm) fun σ H Q ⟨G, ρ, rel, h⟩ => by
    obtain ⟨v, s, h⟩ := Fn.slot rel (Fn.dB rel h)
    refine ⟨v, s, G, ρ, rel, h.imp fun G1 H1 ρ1 y ⟨l, e, dv, r1, s1, h1⟩ u hu => ?_⟩
    obtain ⟨d, e', q⟩ := Fn.lift h1
    exact hs v u l.toD y d H1 _ (dv.dr r1) (hu.mono r1.sub) e' (q _ _ r1 Stp.refl).2.2
theorem ve_cmpRN (i : Nat) (ho : OpR X (compareOp op) r) (hs : OpB X.K r g) (ha : VE X w a fa) (hm : behindInMarks op (.Name x p) = false) (hN : X.N[i]? = some x := by rfl) (hv : Vis X.env.scope x := by first | exact Or.inl rfl | exact Or.inr (Or.inl rfl) | exact Or.inr (Or.inr rfl))
    (hd : (x == ("__debug__" : Str)) = false := by decide) (hcd : (x == ("__classdict__" : Str)) = false := by decide) : VE X w (.Compare a [op] [.Name x p] pos) (dB (dCmpR g fa i)) :=
  PE.imp (pe_cmpR ho ha (pe_var hN hv hd hcd) hm) fun σ H Q ⟨G, ρ, rel, h⟩ => ⟨G, ρ, rel, (Fn.bind rel (Fn.dB rel h)).imp fun G1 H1 ρ1 dx ⟨r1, s1, h1⟩ u hu => by
    obtain ⟨v, s, h⟩ := Fn.slot r1 h1
    obtain ⟨l, e, dv, r2, s2, h2⟩ := h.ok r1
    obtain ⟨d, e', q⟩ := Fn.lift h2
    exact ⟨v, s, hs u v dx l.toD d H1 _ (hu.mono r1.sub) (dv.dr r2) e' (q _ _ r2 Stp.refl).2.2⟩⟩
end
/-! #### a call that only looks -/
mutual
def trD : Tr → D
  | .im d => d
  | .ls ts => .list (trDs ts)
def trDs : List Tr → List D
  | [] => []
  | t :: ts => trD t :: trDs ts
end
theorem trDs_map : ∀ (ts : List Tr), trDs ts = ts.map trD
  | [] => rfl
  | t :: ts => by rw [trDs, trDs_map ts]; rfl
@[simp] theorem trD_im (d : D) : trD (.im d) = d := by rw [trD]
@[simp] theorem trD_ls (ts : List Tr) : trD (.ls ts) = .list (ts.map trD) := by rw [trD, trDs_map]
/-- all of a slot -/
@[simp] def L.all : L → D
  | .im d => d
  | .ow ds => .list ds
  | .bo ds => .list ds
  | .ot t => trD t
  | .bt t => trD t
theorem DRs.ofAt {K : PySem.W.Frag} {G : Hp} : ∀ {vs : List V} {ds : List D}, vs.length = ds.length → (∀ (k : Nat) (v : V) (d : D), vs[k]? = some v → ds[k]? = some d → DR K G v d) → DRs K G vs ds
  | [], [], _, _ => .nil
  | v :: vs, d :: ds, hl, h => .cons (h 0 v d rfl rfl) (DRs.ofAt (by simpa using hl) fun k v d e1 e2 => h (k + 1) v d (by simpa using e1) (by simpa using e2))
theorem TR.dr {K : PySem.W.Frag} {G G' H : Hp} {v : V} {t : Tr} (r : TR K G H v t) (sg : Same G G') : (∀ a, Foot H v t a → G' a = H a) → DR K G' v (trD t) := by
  induction r with
  | im h => intro _; rw [trD_im]; exact h.mono sg
  | @ls o vs ts g h l c n d ih =>
    intro k
    rw [trD_ls]
    refine .lst (.inl (.inl (by rw [k _ .here]; exact h))) (DRs.ofAt (by rw [List.length_map]; exact l) fun j v d e1 e2 => ?_)
    rw [List.getElem?_map, Option.map_eq_some_iff] at e2
    obtain ⟨t, e2, rfl⟩ := e2
    exact ih j v t e1 e2 fun a f => k a (.sub h e1 e2 f)
def lendT (ρ : En) : List AV → Option En
  | [] => some []
  | .im d :: as => (lendT ρ as).map (some (.im d) :: ·)
  | .sl i :: as => match ρ[i]? with
    | some (some l) => (lendT ρ as).map (some (.im l.all) :: ·)
    | _ => none
def flat : D → Bool
  | .none => true
  | .bool _ => true
  | .int _ => true
  | .str _ => true
  | _ => false
/-- the callee's view, then the caller as ahead -/
def dFnT (n : Nat) (den : En → R L) (ga : En → R (List AV)) : En → R D := fun ρ => (ga ρ).bind fun as ρ1 => if as.length = n then match lendT ρ1 as with
  | none => .no
  | some ls => match den ls with
    | .ok (.im d) _ => if flat d = true then .ok d ρ1 else .no
    | .ex c _ => if c.arg.isNone = true then .ex c ρ1 else .no
    | _ => .no
  else .no
open Classical in
noncomputable def Gt (G H : Hp) (σ : L2.St) (ρ : En) : Hp := fun a => if G a = none ∧ Own H σ ρ a then H a else G a
section
variable {K : PySem.W.Frag} {G H G' H' : Hp} {σ : L2.St} {ρ : En}
theorem Gt_g : Same G (Gt G H σ ρ) := fun a x e => by
  unfold Gt
  rw [if_neg (fun z => by rw [e] at z; cases z.1)]; exact e
theorem Gt_h (r : Rel K G H σ ρ) : Same (Gt G H σ ρ) H := fun a x e => by
  unfold Gt at e
  split at e
  · exact e
  · exact r.sub a x e
theorem lendT_ok (r : Rel K G H σ ρ) : ∀ {vs : List V} {as : List AV} {ls : En}, AVs K G σ vs as → lendT ρ as = some ls → ls.length = vs.length ∧ ∀ (k : Nat) (l : L), ls[k]? = some (some l) → ∃ d v, l = .im d ∧ (vs.map some)[k]? = some (some v) ∧ DR K (Gt G H σ ρ) v d
  | _, _, _, .nil, e => by cases e; exact ⟨rfl, fun k l h => by simp at h⟩
  | _, _, _, .im h t, e => by
    simp only [lendT, Option.map_eq_some_iff] at e
    obtain ⟨ls, e, rfl⟩ := e
    obtain ⟨h1, h2⟩ := lendT_ok r t e
    refine ⟨by simp [h1], fun k l hk => ?_⟩
    cases k with
    | zero => simp at hk; subst hk; exact ⟨_, _, rfl, rfl, h.mono Gt_g⟩
    | succ k => simpa using h2 k l (by simpa using hk)
  | _, _, _, .sl (v := v) (i := i) h t, e => by
    simp only [lendT] at e
    split at e
    · rename_i l0 e0
      simp only [Option.map_eq_some_iff] at e
      obtain ⟨ls, e, rfl⟩ := e
      obtain ⟨h1, h2⟩ := lendT_ok r t e
      refine ⟨by simp [h1], fun k l hk => ?_⟩
      cases k with
      | zero =>
        simp at hk; subst hk
        obtain ⟨v', s, c⟩ := r.cell i l0 e0
        rw [h] at s; cases s
        refine ⟨_, v, rfl, rfl, ?_⟩
        have here : ∀ o us ds, Fo H l0 v o → v = V.ref o → G o = none → H o = some (.lst us) → DRs K G us ds → DR K (Gt G H σ ρ) v (.list ds) := fun o us ds f ev g hq hd => by
          subst ev
          refine .lst (.inl (.inl ?_)) (hd.mono Gt_g)
          unfold Gt
          rw [if_pos ⟨g, i, l0, _, e0, h, f⟩]; exact hq
        have tree : ∀ t, TR K G H v t → (∀ a, Foot H v t a → Fo H l0 v a) → DR K (Gt G H σ ρ) v (trD t) := fun t c f => c.dr Gt_g fun a fa => by
          unfold Gt
          rw [if_pos ⟨(c.foot fa).1, i, l0, _, e0, h, f a fa⟩]
        cases l0 with
        | im d => exact DR.mono Gt_g c
        | ow ds => obtain ⟨o, us, ev, g, hq, hd⟩ := c; exact here o us ds ev ev g hq hd
        | bo ds => obtain ⟨o, us, ev, g, hq, hd⟩ := c; exact here o us ds ev ev g hq hd
        | ot t => exact tree t c fun _ f => f
        | bt t => exact tree t c fun _ f => f
      | succ k => simpa using h2 k l (by simpa using hk)
    · cases e
theorem flat_dr {v : V} {d : D} (h : DR K G v d) (hf : flat d = true) : DR K G' v d := by
  cases h with
  | non => exact .non
  | bl b => exact .bl b
  | int i => exact .int i
  | str s => exact .str s
  | _ => cases hf
/-- nothing old was changed -/
theorem Rel.still (r : Rel K G H σ ρ) (h : Same H H') : Rel K G H' σ ρ ∧ Stp G H σ ρ G H' σ ρ := by
  have hk : ∀ a, Own H σ ρ a → H' a = H a := fun a z => by
    obtain ⟨_, us, q⟩ := r.own z
    rw [q]; exact h _ _ q
  obtain ⟨r', ow⟩ := r.keep (G' := G) (H' := H') (Same.refl _) (r.sub.trans h) (fun a z => (r.own z).1) hk
  refine ⟨r', ⟨Same.refl _, fun a x e _ => h a x e, fun a z => .inl z, fun a z => .inl ((ow a).mp z), fun a z => ?_, rfl, fun i ds e => ⟨rfl, ds, e⟩, fun i t e => ⟨rfl, t, e, fun v a q f => Foot.to f fun b y => hk b ⟨i, _, v, e, q, y⟩⟩⟩⟩
  cases q : H a with
  | none => exact absurd q z
  | some x => rw [h a x q]; exact fun z => nomatch z
end
section
variable {X : Cx} {w : Wh} {k n : Nat} {f : Addr} {fd : FuncData} {ps : List Str} {den : En → R L} {ca : String → Option Value} {x : Str} {p pos : Pos} {e : Expr} {es : List Expr} {ga : En → R (List AV)}
theorem ve_callT (F : FnOk X.prog X.w X.K X.mg X.base (L2.CX X.prog X.w) k f fd ps (spD X.K ca n den)) (hr : Room k X.A) (tk : Takes X w.W) (hca : w.ca = ca) (hg : Gl X x) (hm : X.mg x = some (.ref f)) (hk : PySem.W.keepIn X.K (.ref f) = true) (hb : Binds X.K fd ps [])
    (ha : VA X w (e :: es) ga) (hdb : (x == ("__debug__" : Str)) = false := by decide) (he : starEach (e :: es) X.env = (false, eval e X.env) :: starEach es X.env := by rfl) (hpl : (backTo pos (starEach es X.env)).any (·.1) = false := by rfl) :
    VE X w (.Call (.Name x p) (e :: es) [] pos) (dFnT n den ga) :=
  PE.imp (pe_callS F hr hg hm hk hb (passAt tk) ha hdb he hpl) fun σ H Q ⟨G, ρ, rel, h⟩ => ⟨G, ρ, rel, (Fn.bind rel h).imp fun G1 H1 ρ1 as ⟨r1, s1, h1⟩ vs hvs => by
    split at h1
    · rename_i hl
      cases q : lendT ρ1 as with
      | none => rw [q] at h1; exact h1.elim
      | some ls =>
        rw [q] at h1
        have h1' : Fn X.K w G1 H1 σ ρ1 (match den ls with | .ok (.im d) _ => if flat d = true then R.ok d ρ1 else .no | .ex c _ => if c.arg.isNone = true then .ex c ρ1 else .no | _ => .no) (QD X.K Q) := h1
        obtain ⟨l1, l2⟩ := lendT_ok r1 hvs q
        have r0 : Rel X.K (Gt G1 H1 σ ρ1) H1 (vs.map some) ls := ⟨Gt_h r1, by simp [l1], fun i l ei => by
          obtain ⟨d, v, rfl, hv, hd⟩ := l2 i l ei
          exact ⟨v, hv, hd⟩, fun i j l m v u a ei ej si sj fi fj => by
          obtain ⟨d, v, rfl, _⟩ := l2 i l ei; exact fi.elim⟩
        have no : ∀ a, ¬ Own H1 (vs.map some) ls a := fun a ⟨i, l, v, ei, _, f⟩ => by
          obtain ⟨d, v, rfl, _⟩ := l2 i l ei; exact f.elim
        refine ⟨Gt G1 H1 σ ρ1, ls, r0, fun i l ei => (by obtain ⟨d, v, rfl, _⟩ := l2 i _ ei; rfl), hvs.length.trans hl, ?_⟩
        cases q2 : den ls with
        | no => rw [q2] at h1'; exact h1'.elim
        | ex c ls' =>
          rw [q2] at h1'
          intro G' H' cls dx r' s' x'
          have sH : Same H1 H' := fun a o ea => s'.h a o ea (no a)
          obtain ⟨r2, s2⟩ := r1.still sH
          have h2 : Fn X.K w G1 H1 σ ρ1 (if c.arg.isNone = true then .ex c ρ1 else .no) (QD X.K Q) := h1'
          split at h2
          · rename_i hn
            exact h2 G1 H' cls dx r2 s2 ⟨by rw [hca]; exact x'.hc, x'.hn, fun f d ea => by rw [ea] at hn; cases hn⟩
          · exact h2.elim
        | ok l ls' =>
          rw [q2] at h1'
          cases l with
          | bo ds => exact h1'.elim
          | ow ds => exact h1'.elim
          | ot t => exact h1'.elim
          | bt t => exact h1'.elim
          | im d =>
            intro G' H' v r' s' hv
            have sH : Same H1 H' := fun a o ea => s'.h a o ea (no a)
            obtain ⟨r2, s2⟩ := r1.still sH
            have h2 : Fn X.K w G1 H1 σ ρ1 (if flat d = true then R.ok d ρ1 else .no) (QD X.K Q) := h1'
            split at h2
            · rename_i hf
              exact h2 G1 H' r2 s2 v (flat_dr hv hf)
            · exact h2.elim
    · exact h1.elim⟩
end
/-! reckoning -/
def lookK (o : Option En) (k : En → R D) : R D := match o with
  | some ls => k ls
  | none => .no
def resT (r : R L) (ρ : En) : R D := match r with
  | .ok (.im d) _ => if flat d = true then .ok d ρ else .no
  | .ex c _ => if c.arg.isNone = true then .ex c ρ else .no
  | _ => .no
@[simp] theorem dFnT_eq (n : Nat) (den : En → R L) (ga : En → R (List AV)) (ρ : En) : dFnT n den ga ρ = (ga ρ).bind fun as ρ1 => if as.length = n then lookK (lendT ρ1 as) fun ls => resT (den ls) ρ1 else .no := by
  unfold dFnT
  cases ga ρ with
  | ok as ρ1 =>
    show (if as.length = n then _ else _) = (if as.length = n then _ else _)
    split
    · cases lendT ρ1 as with
      | none => rfl
      | some ls => rfl
    · rfl
  | _ => rfl
@[simp] theorem lookK_some (ls : En) (k : En → R D) : lookK (some ls) k = k ls := rfl
@[simp] theorem resT_im (d : D) (ls ρ : En) (h : flat d = true) : resT (.ok (.im d) ls) ρ = .ok d ρ := if_pos h
@[simp] theorem resT_ex (c : String) (ls ρ : En) : resT (.ex ⟨c, none⟩ ls) ρ = .ex ⟨c, none⟩ ρ := rfl
@[simp] theorem lendT_nil (ρ : En) : lendT ρ [] = some [] := rfl
@[simp] theorem lendT_im (ρ : En) (d : D) (as : List AV) : lendT ρ (.im d :: as) = (lendT ρ as).map (some (.im d) :: ·) := rfl
theorem lendT_sl {ρ : En} {i : Nat} {as : List AV} {l : L} (h : ρ[i]? = some (some l)) : lendT ρ (.sl i :: as) = (lendT ρ as).map (some (.im l.all) :: ·) := by
  simp only [lendT, h]
@[simp] theorem flat_bool (b : Bool) : flat (.bool b) = true := rfl
@[simp] theorem flat_int (b : Int) : flat (.int b) = true := rfl
@[simp] theorem flat_str (b : Str) : flat (.str b) = true := rfl
@[simp] theorem flat_none : flat .none = true := rfl
/-- at one's own list -/
def mineK {α : Type} (c : Option (Option L)) (k : L → List D → R α) : R α := match c with
  | some (some (.ow ds)) => k (.ow ds) ds
  | some (some (.bo ds)) => k (.bo ds) ds
  | _ => .no
@[simp] theorem mineK_ow {α : Type} (ds : List D) (k : L → List D → R α) : mineK (some (some (.ow ds))) k = k (.ow ds) ds := rfl
@[simp] theorem mineK_bo {α : Type} (ds : List D) (k : L → List D → R α) : mineK (some (some (.bo ds))) k = k (.bo ds) ds := rfl
@[simp] theorem put_ow (ds es : List D) : (L.ow ds).put es = .ow es := rfl
@[simp] theorem put_bo (ds es : List D) : (L.bo ds).put es = .bo es := rfl
theorem atMine_eq {α β : Type} (i : Nat) (f : En → R β) (g : L → List D → β → En → R α) (ρ : En) : atMine i f g ρ = mineK ρ[i]? fun _ _ => (f ρ).bind fun y ρ1 => mineK ρ1[i]? fun l ds => g l ds y ρ1 := by
  unfold atMine
  have inner : ∀ (y : β) (ρ1 : En), (match ρ1[i]? with
      | some (some l) => match l.mine with
        | some ds => g l ds y ρ1
        | none => .no
      | _ => .no) = mineK ρ1[i]? fun l ds => g l ds y ρ1 := fun y ρ1 => by
    generalize ρ1[i]? = o
    cases o with
    | none => rfl
    | some o => cases o with
      | none => rfl
      | some l => cases l <;> rfl
  generalize ρ[i]? = o
  cases o with
  | none => rfl
  | some o => cases o with
    | none => rfl
    | some l =>
      cases l with
      | im d => rfl
      | ot d => rfl
      | bt d => rfl
      | ow ds => exact congrArg ((f ρ).bind) (funext fun y => funext fun ρ1 => inner y ρ1)
      | bo ds => exact congrArg ((f ρ).bind) (funext fun y => funext fun ρ1 => inner y ρ1)
@[simp] theorem dApp_eq (i : Nat) (f : En → R D) (ρ : En) : dApp i f ρ = mineK ρ[i]? fun _ _ => (f ρ).bind fun d ρ1 => mineK ρ1[i]? fun l ds => if ds.length < sizeLine then .ok .nx (ρ1.set i (some (l.put (ds ++ [d])))) else .no := atMine_eq i f _ ρ
def setK (z : Option Int) (l : L) (ds : List D) (d : D) (i : Nat) (ρ : En) : R Fl := match z with
  | some z => match ixN ds.length z with
    | some j => .ok .nx (ρ.set i (some (l.put (ds.set j d))))
    | none => .no
  | none => .no
@[simp] theorem dSetI_eq (i : Nat) (f k : En → R D) (ρ : En) : dSetI i f k ρ = (f ρ).bind fun d ρ0 => mineK ρ0[i]? fun _ _ => (k ρ0).bind fun y ρ1 => mineK ρ1[i]? fun l ds => setK (asI y) l ds d i ρ1 := by
  unfold dSetI
  cases f ρ with
  | ok d ρ0 => exact atMine_eq i k _ ρ0
  | _ => rfl
@[simp] theorem dAsgL_eq (i : Nat) (f : En → R (List D)) (ρ : En) : dAsgL i f ρ = (f ρ).bind fun ds ρ1 => (putOw i ds ρ1).bind fun _ ρ2 => .ok .nx ρ2 := rfl
@[simp] theorem dRetL_eq (f : En → R (List D)) (ρ : En) : dRetL f ρ = (f ρ).bind fun d ρ1 => .ok (.rl d) ρ1 := rfl
def retK (c : Option (Option L)) (i : Nat) (ρ : En) : R Fl := match c with
  | some (some (.ow ds)) => .ok (.rl ds) (ρ.set i none)
  | some (some (.im d)) => .ok (.rt d) ρ
  | _ => .no
@[simp] theorem dRetV_eq (i : Nat) (ρ : En) : dRetV i ρ = retK ρ[i]? i ρ := by
  unfold dRetV retK
  generalize ρ[i]? = o
  cases o with
  | none => rfl
  | some o => cases o with
    | none => rfl
    | some l => cases l <;> rfl
@[simp] theorem retK_ow (ds : List D) (i : Nat) (ρ : En) : retK (some (some (.ow ds))) i ρ = .ok (.rl ds) (ρ.set i none) := rfl
@[simp] theorem retK_im (d : D) (i : Nat) (ρ : En) : retK (some (some (.im d))) i ρ = .ok (.rt d) ρ := rfl
def resN (as : List AV) (ρ : En) (r : R L) : R (List D) := match r with
  | .ok (.ow ds) ls' => .ok ds (giveB as ls' ρ)
  | .ex c ls' => .ex c (giveB as ls' ρ)
  | _ => .no
@[simp] theorem resN_ow (as : List AV) (ρ ls : En) (d : List D) : resN as ρ (.ok (.ow d) ls) = .ok d (giveB as ls ρ) := rfl
@[simp] theorem resN_ex (as : List AV) (ρ ls : En) (c : Exn) : resN as ρ (.ex c ls) = .ex c (giveB as ls ρ) := rfl
@[simp] theorem nFn_eq (n : Nat) (den : En → R L) (ga : En → R (List AV)) (ρ : En) : nFn n den ga ρ = (ga ρ).bind fun as ρ1 => if as.length = n then lentK (lend as ρ1) fun ls => resN as ρ1 (den ls) else .no := by
  unfold nFn
  congr 1
  funext as ρ1
  split
  · unfold lentK resN
    cases lend as ρ1 with
    | none => rfl
    | some ls =>
      cases den ls with
      | ok l ls' => cases l <;> rfl
      | _ => rfl
  · rfl
def slA (c : Option (Option L)) (i : Nat) (r : R (List AV)) : R (List AV) := match c with
  | some (some _) => r.bind fun as ρ2 => .ok (.sl i :: as) ρ2
  | _ => .no
@[simp] theorem aSl_eq (i : Nat) (g : En → R (List AV)) (ρ : En) : aSl i g ρ = slA ρ[i]? i (g ρ) := by
  unfold aSl slA
  generalize ρ[i]? = o
  cases o with
  | none => rfl
  | some o => cases o <;> rfl
@[simp] theorem slA_some (l : L) (i : Nat) (r : R (List AV)) : slA (some (some l)) i r = r.bind fun as ρ2 => .ok (.sl i :: as) ρ2 := rfl
def lookL (c : Option (Option L)) (r : Option En) : Option En := match c with
  | some (some l) => r.map (some (.im l.all) :: ·)
  | _ => none
@[simp] theorem lendT_slK (ρ : En) (i : Nat) (as : List AV) : lendT ρ (.sl i :: as) = lookL ρ[i]? (lendT ρ as) := by
  simp only [lendT, lookL]
@[simp] theorem lookL_some (l : L) (r : Option En) : lookL (some (some l)) r = r.map (some (.im l.all) :: ·) := rfl
@[simp] theorem resT_bool (b : Bool) (ls ρ : En) : resT (.ok (.im (.bool b)) ls) ρ = .ok (.bool b) ρ := rfl
@[simp] theorem resT_int (b : Int) (ls ρ : En) : resT (.ok (.im (.int b)) ls) ρ = .ok (.int b) ρ := rfl
@[simp] theorem resT_str (b : Str) (ls ρ : En) : resT (.ok (.im (.str b)) ls) ρ = .ok (.str b) ρ := rfl
@[simp] theorem resT_non (ls ρ : En) : resT (.ok (.im .none) ls) ρ = .ok .none ρ := rfl
end Dn
namespace Dn
open PySem PySem.Spec PyProof.Rows L2
/-! ### more of lists of one's own -/
section
variable {X : Cx} {w : Wh} {x : Str} {p pos : Pos} {e e2 : Expr} {fe fi : En → R D} {apos pos2 : Pos}
/-- x.insert(i, e) -/
def dIns (i : Nat) (fi fe : En → R D) : En → R Fl := atMine i (fun ρ => (fi ρ).bind fun a ρ1 => (fe ρ1).bind fun b ρ2 => .ok (a, b) ρ2) fun l ds y ρ => match y.1 with
  | .int k => if ds.length < sizeLine ∧ 0 ≤ k ∧ k < 2 ^ 62 then .ok .nx (ρ.set i (some (l.put (ds.take k.toNat ++ [y.2] ++ ds.drop k.toNat)))) else .no
  | _ => .no
theorem vs_insert (i : Nat) (hi : VE X w e2 fi) (he : VE X w e fe) (hN : X.N[i]? = some x := by rfl) (hv : Vis X.env.scope x := by first | exact Or.inl rfl | exact Or.inr (Or.inl rfl) | exact Or.inr (Or.inr rfl)) (hd : (x == ("__debug__" : Str)) = false := by decide) (hcd : (x == ("__classdict__" : Str)) = false := by decide)
    (hbase : attributeBase (.Name x p) "insert" X.env (eval (.Name x p) X.env) = eval (.Name x p) X.env := by rfl) (hline : (apos.endLine == pos.line) = true := by rfl)
    (hfew : ((backTo pos (starEach [e2, e] X.env)).all (fun x => !x.1) && (backToKw pos (keywordEach [] X.env)).all (fun x => x.1.isSome) && decide (([e2, e] : List Expr).length + ([] : List Keyword).length + (if ([] : List Keyword).isEmpty then 0 else 1) < 30)) = true := by rfl)
    (hs : starEach [e2, e] X.env = (false, eval e2 X.env) :: starEach [e] X.env := by rfl) (hs2 : starEach [e] X.env = (false, eval e X.env) :: starEach [] X.env := by rfl) (hpl : (backTo pos (starEach [e] X.env)).any (·.1) = false := by rfl)
    (hsw : swapsWith (.Call (.Attribute (.Name x p) "insert" apos) [e2, e] [] pos) none pos2.line X.env = pure false := by rfl) :
    VS X w (.Expr (.Call (.Attribute (.Name x p) "insert" apos) [e2, e] [] pos) pos2) (dIns i fi fe) :=
  PS.imp (ps_expr (pe_bm PySem.F.plainAttrs_list PySem.F.slot_list_insert PySem.F.type_list_insert mt_insert (pe_var hN hv hd hcd) (pa_cons hi (pa_cons he pa_nil hs2) hs) hbase hfew hline hs hpl) hsw) fun Z σ H ⟨G, ρ, rel, h⟩ => by
    obtain ⟨o, s, ⟨vs, ho⟩, h⟩ := FnS.mine rel h
    refine ⟨.ref o, s, .inl ⟨rfl, vs, .inl (.inl ho)⟩, G, ρ, rel, (Fn.bind rel h).imp fun G1 H1 ρ1 a ⟨r1, s1, h1⟩ va hva => ⟨G1, ρ1, r1, (Fn.bind r1 h1).imp fun G2 H2 ρ2 b ⟨r2, s2, h2⟩ vb hvb => ?_⟩⟩
    obtain ⟨l, ds, e1, m, r3, s3, h3⟩ := h2.ok r2
    obtain ⟨o', ws, s', go, hw, hd⟩ := r3.mine e1 m
    rw [s] at s'; cases s'
    cases hva with
    | int k =>
      have h4 : FnS X.K w G2 H2 σ ρ2 (if ds.length < sizeLine ∧ 0 ≤ k ∧ k < 2 ^ 62 then .ok .nx (ρ2.set i (some (l.put (ds.take k.toNat ++ [b] ++ ds.drop k.toNat)))) else .no) Z := h3
      split at h4
      · rename_i hc
        obtain ⟨r4, s4⟩ := r3.change e1 m s (((hd.take k.toNat).append (.cons hvb .nil)).append (hd.drop k.toNat))
        exact ⟨o, ws, k, vb, rfl, rfl, hw, by rw [hd.length]; exact hc.1, hc.2.1, by omega, FnS.nx h4 r4 s4⟩
      · exact h4.elim
    | _ => exact h3.elim
/-- x.pop() -/
def dPop (i : Nat) : En → R D := atMine i (fun ρ => .ok () ρ) fun l ds _ ρ => match ds[ds.length - 1]? with
  | some d => .ok d (ρ.set i (some (l.put ds.dropLast)))
  | none => .no
theorem ve_pop (i : Nat) (hN : X.N[i]? = some x := by rfl) (hv : Vis X.env.scope x := by first | exact Or.inl rfl | exact Or.inr (Or.inl rfl) | exact Or.inr (Or.inr rfl)) (hd : (x == ("__debug__" : Str)) = false := by decide) (hcd : (x == ("__classdict__" : Str)) = false := by decide)
    (hbase : attributeBase (.Name x p) "pop" X.env (eval (.Name x p) X.env) = eval (.Name x p) X.env := by rfl) (hline : (apos.endLine == pos.line) = true := by rfl) :
    VE X w (.Call (.Attribute (.Name x p) "pop" apos) [] [] pos) (dPop i) :=
  PE.imp (pe_bm0 PySem.F.plainAttrs_list PySem.F.slot_list_pop PySem.F.type_list_pop mt_pop (pe_var hN hv hd hcd) hbase hline) fun σ H Q ⟨G, ρ, rel, h⟩ => by
    obtain ⟨o, s, ⟨vs, ho⟩, h⟩ := Fn.mine rel h
    obtain ⟨l, ds, e1, m, r3, s3, h3⟩ := h.ok rel
    obtain ⟨o', ws, s', go, hw, hd⟩ := r3.mine e1 m
    rw [s] at s'; cases s'
    refine ⟨.ref o, s, .inl ⟨rfl, vs, .inl (.inl ho)⟩, ?_⟩
    have h4 : Fn X.K w G H σ ρ (match ds[ds.length - 1]? with | some d => R.ok d (ρ.set i (some (l.put ds.dropLast))) | none => .no) (QD X.K Q) := h3
    cases q : ds[ds.length - 1]? with
    | none => rw [q] at h4; exact h4.elim
    | some d =>
      rw [q] at h4
      obtain ⟨y, ey, hy⟩ := hd.get q
      obtain ⟨r4, s4⟩ := r3.change e1 m s hd.dropLast
      exact ⟨o, ws, y, rfl, rfl, hw, by rw [hd.length]; exact ey, h4 _ _ r4 s4 y hy⟩
/-- x.pop(k) -/
def dPopAt (i : Nat) (fk : En → R D) : En → R D := atMine i fk fun l ds y ρ => match y with
  | .int k => if -(2 ^ 62) ≤ k ∧ k < 2 ^ 62 then match ixN ds.length k with
    | some j => match ds[j]? with
      | some d => .ok d (ρ.set i (some (l.put (ds.eraseIdx j))))
      | none => .no
    | none => .no
    else .no
  | _ => .no
theorem ve_popAt (i : Nat) (hk : VE X w e fi) (hN : X.N[i]? = some x := by rfl) (hv : Vis X.env.scope x := by first | exact Or.inl rfl | exact Or.inr (Or.inl rfl) | exact Or.inr (Or.inr rfl)) (hd : (x == ("__debug__" : Str)) = false := by decide) (hcd : (x == ("__classdict__" : Str)) = false := by decide)
    (hbase : attributeBase (.Name x p) "pop" X.env (eval (.Name x p) X.env) = eval (.Name x p) X.env := by rfl) (hline : (apos.endLine == pos.line) = true := by rfl)
    (hfew : ((backTo pos (starEach [e] X.env)).all (fun x => !x.1) && (backToKw pos (keywordEach [] X.env)).all (fun x => x.1.isSome) && decide (([e] : List Expr).length + ([] : List Keyword).length + (if ([] : List Keyword).isEmpty then 0 else 1) < 30)) = true := by rfl)
    (hs : starEach [e] X.env = (false, eval e X.env) :: starEach [] X.env := by rfl) :
    VE X w (.Call (.Attribute (.Name x p) "pop" apos) [e] [] pos) (dPopAt i fi) :=
  PE.imp (pe_bm PySem.F.plainAttrs_list PySem.F.slot_list_pop PySem.F.type_list_pop mt_popAt (pe_var hN hv hd hcd) (pa_cons hk pa_nil hs) hbase hfew hline hs (by rfl)) fun σ H Q ⟨G, ρ, rel, h⟩ => by
    obtain ⟨o, s, ⟨vs, ho⟩, h⟩ := Fn.mine rel h
    refine ⟨.ref o, s, .inl ⟨rfl, vs, .inl (.inl ho)⟩, G, ρ, rel, h.imp fun G1 H1 ρ1 y ⟨l, ds, e1, m, r3, s3, h3⟩ v hv => ?_⟩
    obtain ⟨o', ws, s', go, hw, hd⟩ := r3.mine e1 m
    rw [s] at s'; cases s'
    cases hv with
    | int k =>
      have h4 : Fn X.K w G1 H1 σ ρ1 (if -(2 ^ 62) ≤ k ∧ k < 2 ^ 62 then match ixN ds.length k with
        | some j => match ds[j]? with
          | some d => R.ok d (ρ1.set i (some (l.put (ds.eraseIdx j))))
          | none => .no
        | none => .no
        else .no) (QD X.K Q) := h3
      split at h4
      · rename_i hc
        cases q : ixN ds.length k with
        | none => rw [q] at h4; exact h4.elim
        | some j =>
          rw [q] at h4
          have h5 : Fn X.K w G1 H1 σ ρ1 (match ds[j]? with | some d => R.ok d (ρ1.set i (some (l.put (ds.eraseIdx j)))) | none => .no) (QD X.K Q) := h4
          cases q2 : ds[j]? with
          | none => rw [q2] at h5; exact h5.elim
          | some d =>
            rw [q2] at h5
            obtain ⟨z, ez, hz⟩ := hd.get q2
            obtain ⟨r4, s4⟩ := r3.change e1 m s (hd.erase j)
            have hq := (ixN_seq q).1
            exact ⟨o, ws, k, j, z, rfl, rfl, hw, by omega, by omega, by rw [hd.length]; exact hq, ez, h5 _ _ r4 s4 z hz⟩
      · exact h4.elim
    | _ => exact h3.elim
/-- x.clear() -/
def dClear (i : Nat) : En → R Fl := atMine i (fun ρ => .ok () ρ) fun l _ _ ρ => .ok .nx (ρ.set i (some (l.put [])))
theorem vs_clear (i : Nat) (hN : X.N[i]? = some x := by rfl) (hv : Vis X.env.scope x := by first | exact Or.inl rfl | exact Or.inr (Or.inl rfl) | exact Or.inr (Or.inr rfl)) (hd : (x == ("__debug__" : Str)) = false := by decide) (hcd : (x == ("__classdict__" : Str)) = false := by decide)
    (hbase : attributeBase (.Name x p) "clear" X.env (eval (.Name x p) X.env) = eval (.Name x p) X.env := by rfl) (hline : (apos.endLine == pos.line) = true := by rfl)
    (hsw : swapsWith (.Call (.Attribute (.Name x p) "clear" apos) [] [] pos) none pos2.line X.env = pure false := by rfl) :
    VS X w (.Expr (.Call (.Attribute (.Name x p) "clear" apos) [] [] pos) pos2) (dClear i) :=
  PS.imp (ps_expr (pe_bm0 PySem.F.plainAttrs_list PySem.F.slot_list_clear PySem.F.type_list_clear mt_clear (pe_var hN hv hd hcd) hbase hline) hsw) fun Z σ H ⟨G, ρ, rel, h⟩ => by
    obtain ⟨o, s, ⟨vs, ho⟩, h⟩ := FnS.mine rel h
    obtain ⟨l, ds, e1, m, r3, s3, h3⟩ := h.ok rel
    obtain ⟨o', ws, s', go, hw, hd⟩ := r3.mine e1 m
    rw [s] at s'; cases s'
    obtain ⟨r4, s4⟩ := r3.change (es := []) e1 m s (vs := []) .nil
    exact ⟨.ref o, s, .inl ⟨rfl, vs, .inl (.inl ho)⟩, o, ws, rfl, rfl, hw, FnS.nx (show FnS X.K w G H σ ρ (.ok .nx (ρ.set i (some (l.put [])))) Z from h3) r4 s4⟩
end
/-! reckoning -/
def insK (k : D) (l : L) (ds : List D) (d : D) (i : Nat) (ρ : En) : R Fl := match k with
  | .int k => if ds.length < sizeLine ∧ 0 ≤ k ∧ k < 2 ^ 62 then .ok .nx (ρ.set i (some (l.put (ds.take k.toNat ++ [d] ++ ds.drop k.toNat)))) else .no
  | _ => .no
theorem insK_of {k : Nat} {l : L} {ds : List D} {d : D} {i : Nat} {ρ : En} (h : ds.length < sizeLine) (hk : k ≤ 1000000) : insK (.int (k : Int)) l ds d i ρ = .ok .nx (ρ.set i (some (l.put (ds.take k ++ [d] ++ ds.drop k)))) := by
  unfold insK
  show (if _ then _ else _) = _
  rw [if_pos ⟨h, by omega, by omega⟩, Int.toNat_natCast]
@[simp] theorem dIns_eq (i : Nat) (fi fe : En → R D) (ρ : En) : dIns i fi fe ρ = mineK ρ[i]? fun _ _ => (fi ρ).bind fun a ρ1 => (fe ρ1).bind fun b ρ2 => mineK ρ2[i]? fun l ds => insK a l ds b i ρ2 := by
  unfold dIns
  rw [atMine_eq]
  congr 1
  funext _ _
  cases fi ρ with
  | ok a ρ1 =>
    show ((fe ρ1).bind fun b ρ2 => R.ok (a, b) ρ2).bind _ = (fe ρ1).bind _
    cases fe ρ1 with
    | ok b ρ2 => rfl
    | _ => rfl
  | _ => rfl
def popK (o : Option D) (l : L) (es : List D) (i : Nat) (ρ : En) : R D := match o with
  | some d => .ok d (ρ.set i (some (l.put es)))
  | none => .no
@[simp] theorem popK_some (d : D) (l : L) (es : List D) (i : Nat) (ρ : En) : popK (some d) l es i ρ = .ok d (ρ.set i (some (l.put es))) := rfl
@[simp] theorem dPop_eq (i : Nat) (ρ : En) : dPop i ρ = mineK ρ[i]? fun _ _ => mineK ρ[i]? fun l ds => popK ds[ds.length - 1]? l ds.dropLast i ρ := by
  unfold dPop
  rw [atMine_eq]
  rfl
@[simp] theorem dClear_eq (i : Nat) (ρ : En) : dClear i ρ = mineK ρ[i]? fun _ _ => mineK ρ[i]? fun l _ => .ok .nx (ρ.set i (some (l.put []))) := by
  unfold dClear
  rw [atMine_eq]
  rfl
end Dn
/-! max(xs, default=d): the kit's walk of max, turned to the call with that keyword -/
namespace DnMax
open PySem PySem.Spec
open Sem (wp)
section
variable {prog : Program} {w : World} {A : Around} {R : Result → Shared → Prop} {I : Addr} {fp wr : List Addr} {n : Nat} {P : Nat → Value → Prop} {St : Nat → Heap → Prop} {dv : Value}
abbrev kwD (dv : Value) : List (Str × Value) := [(Str.ofString "default", dv)]
theorem loop (W : Walks prog w A.in1 I fp wr n P St) (bt : Nat → Nat → Bool) (hcmp : CmpOf prog w A.in1 .Gt P bt) (S : Addr) (hSf : S ∉ fp) :
    ∀ (k j : Nat) (s : Shared) (vb : Value) (c : Nat), n - (j + 1) = k → j + 1 ≤ n → St (j + 1) s.heap → P (argBest bt j) vb →
    s.heap.get? S = some { cls := .type "list", dict := none, data := .seq #[vb, vb] c, slots := #[] } →
    (∀ v h' tk, P (argBest bt (n - 1)) v → (∀ b o, b ∉ wr → b ≠ S → s.heap.get? b = some o → h'.get? b = some o) → R (.ok (.ret v)) { s with heap := h', toks := tk }) →
    codeAny (model prog w) A (.builtin "max.loop" ⟨[.ref I, .none, .ref S], kwD dv⟩) R s := by
  have hSw : S ∉ wr := fun h => hSf (W.sub _ h)
  have hname : (toString "max" ++ toString ".loop" : String) = "max.loop" := by decide
  intro k
  induction k with
  | zero =>
    intro j s vb c hk hj hst hPb hS hR
    have hin : j + 1 = n := by omega
    refine codeAny_builtin F.entry_max_loop ?_
    rw [Around.under_plainId F.plain_max_loop _]
    show wpAny _ A.in1 (seqItems? (.ref S) >>= _) _ _ s
    refine wpAny_bind (wpAny_seqItems hS rfl ?_)
    show wpAny _ A.in1 (tryCatch (pyNext (.ref I)) _ >>= _) _ _ s
    refine wpAny_bind (wpAny_tryCatch (W.done s _ _ (hin ▸ hst) fun h' tk hk' => ?_))
    have hS' := hk' S _ hSw hS
    show wpAny _ A.in1 (updateSeq S (fun _ => #[]) >>= _) _ _ _
    refine wpAny_bind ?_
    refine wpAny_updateSeq hS' rfl (wpAny_bind (wpAny_letGo (wpAny_pure ?_)))
    refine hR vb _ tk (by rw [← hin]; exact hPb) fun b o hbw hbS e => (Heap.get?_update_other _ _ (Ne.symm hbS)).trans (hk' b o hbw e)
  | succ k ih =>
    intro j s vb c hk hj hst hPb hS hR
    have hlt : j + 1 < n := by omega
    refine codeAny_builtin F.entry_max_loop ?_
    rw [Around.under_plainId F.plain_max_loop _]
    show wpAny _ A.in1 (seqItems? (.ref S) >>= _) _ _ s
    refine wpAny_bind (wpAny_seqItems hS rfl ?_)
    show wpAny _ A.in1 (tryCatch (pyNext (.ref I)) _ >>= _) _ _ s
    refine wpAny_bind (wpAny_tryCatch (W.item (j + 1) s _ _ hlt hst fun v h' tk hP hst' hk' => ?_))
    have hS' := hk' S _ hSw hS
    show wpAny _ A.in1 (tryCatch (holding [v, v] (richCompare .Gt v vb >>= _)) _ >>= _) _ _ _
    refine wpAny_bind (wpAny_tryCatch (wpAny_holding (wpAny_bind (hcmp (j + 1) (argBest bt j) v vb _ _ _ hP hPb ?_))))
    refine wpAny_bind (wpAny_holding (wpAny_truthy_bool ?_))
    refine wpAny_bind (wpAny_letGo (wpAny_pure ?_))
    cases hb : bt (j + 1) (argBest bt j) with
    | true =>
      simp only [if_true]
      refine wpAny_bind ?_
      refine wpAny_updateSeq hS' rfl (wpAny_bind (wpAny_letGo ?_))
      rw [hname]
      refine wpAny_pure ⟨plainId_quiet F.plain_max_loop _, ih (j + 1) _ v _ (by omega) hlt (W.frame _ _ _ hst' fun b hbf o e => ?_) (by simp only [argBest, hb, if_true]; exact hP) (Heap.get?_update_self _ hS' rfl)
        fun v' h'' tk'' hP' hk'' => ?_⟩
      · exact (Heap.get?_update_other _ _ (fun h : S = b => hSf (by rw [h]; exact hbf))).trans e
      · exact hR v' h'' tk'' hP' fun b o hbw hbS e => hk'' b o hbw hbS ((Heap.get?_update_other _ _ (Ne.symm hbS)).trans (hk' b o hbw e))
    | false =>
      simp only [Bool.false_eq_true, if_false]
      refine wpAny_bind (wpAny_letGo ?_)
      rw [hname]
      refine wpAny_pure ⟨plainId_quiet F.plain_max_loop _, ih (j + 1) _ vb c (by omega) hlt hst' (by simp only [argBest, hb, Bool.false_eq_true, if_false]; exact hPb) hS' fun v' h'' tk'' hP' hk'' => ?_⟩
      exact hR v' h'' tk'' hP' fun b o hbw hbS e => hk'' b o hbw hbS (hk' b o hbw e)
theorem first (W : Walks prog w A.in1 I fp wr n P St) (bt : Nat → Nat → Bool) (hcmp : CmpOf prog w A.in1 .Gt P bt) (S : Addr) (hSf : S ∉ fp) {s : Shared} {c : Nat} (hst : St 0 s.heap)
    (hS : s.heap.get? S = some { cls := .type "list", dict := none, data := .seq #[] c, slots := #[] })
    (h0 : n = 0 → ∀ h' tk, (∀ b o, b ∉ wr → b ≠ S → s.heap.get? b = some o → h'.get? b = some o) → R (.ok (.ret dv)) { s with heap := h', toks := tk })
    (hR : 0 < n → ∀ v h' tk, P (argBest bt (n - 1)) v → (∀ b o, b ∉ wr → b ≠ S → s.heap.get? b = some o → h'.get? b = some o) → R (.ok (.ret v)) { s with heap := h', toks := tk }) :
    codeAny (model prog w) A (.builtin "max.loop" ⟨[.ref I, .none, .ref S], kwD dv⟩) R s := by
  have hSw : S ∉ wr := fun h => hSf (W.sub _ h)
  have hname : (toString "max" ++ toString ".loop" : String) = "max.loop" := by decide
  refine codeAny_builtin F.entry_max_loop ?_
  rw [Around.under_plainId F.plain_max_loop _]
  show wpAny _ A.in1 (seqItems? (.ref S) >>= _) _ _ s
  refine wpAny_bind (wpAny_seqItems hS rfl ?_)
  show wpAny _ A.in1 (tryCatch (pyNext (.ref I)) _ >>= _) _ _ s
  by_cases hn : 0 < n
  · refine wpAny_bind (wpAny_tryCatch (W.item 0 s _ _ hn hst fun v h' tk hP hst' hk' => ?_))
    have hS' := hk' S _ hSw hS
    show wpAny _ A.in1 (updateSeq S (fun _ => #[v, v]) >>= _) _ _ _
    refine wpAny_bind ?_
    refine wpAny_updateSeq hS' rfl ?_
    rw [hname]
    refine wpAny_pure ⟨plainId_quiet F.plain_max_loop _, loop W bt hcmp S hSf _ 0 _ v _ rfl hn (W.frame _ _ _ hst' fun b hbf o e => ?_) hP (Heap.get?_update_self _ hS' rfl) fun v' h'' tk'' hP' hk'' => ?_⟩
    · exact (Heap.get?_update_other _ _ (fun h : S = b => hSf (by rw [h]; exact hbf))).trans e
    · exact hR hn v' h'' tk'' hP' fun b o hbw hbS e => hk'' b o hbw hbS ((Heap.get?_update_other _ _ (Ne.symm hbS)).trans (hk' b o hbw e))
  · have hz : 0 = n := by omega
    refine wpAny_bind (wpAny_tryCatch (W.done s _ _ (hz ▸ hst) fun h' tk hk' => ?_))
    show wpAny _ A.in1 (rule _ >>= _) _ _ _
    refine wpAny_bind (wpAny_rule (wpAny_pure ?_))
    exact h0 hz.symm h' tk fun b o hbw _ e => hk' b o hbw e
end
end DnMax
namespace DnMax
open PySem PySem.Spec
open Sem (wp)
theorem args_maxD (a d : Value) : argsOk "max" ⟨[a], kwD d⟩ := by unfold argsOk; kernel_rfl
section
variable {prog : Program} {w : World} {A : Around} {E : Value → Shared → Prop} {s : Shared} {dv : Value}
theorem call_walk {x : Value} {Q : Value → Shared → Prop}
    (h : wpAny (model prog w) A.in1 (pyIter x) (fun it s₂ => ∃ I fp wr n P St bt, it = .ref I ∧ Walks prog w A.in1 I fp wr n P St ∧ St 0 s₂.heap ∧ (∀ b ∈ fp, b < s₂.heap.objs.size) ∧ CmpOf prog w A.in1 .Gt P bt ∧
      (n = 0 → ∀ h' tk, (∀ b o, b ∉ wr → s₂.heap.get? b = some o → h'.get? b = some o) → Q dv { s₂ with heap := h', toks := tk }) ∧
      (0 < n → ∀ v h' tk, P (argBest bt (n - 1)) v → (∀ b o, b ∉ wr → s₂.heap.get? b = some o → h'.get? b = some o) → Q v { s₂ with heap := h', toks := tk })) E s) :
    wpAny (model prog w) A (call (.builtin "max") [x] (kwD dv)) Q E s := by
  have hname : (toString "max" ++ toString ".loop" : String) = "max.loop" := by decide
  have hc : wpAny (model prog w) A.in1 (Builtin.«max» ⟨[x], kwD dv⟩) (fun fin s' => match fin with
      | .done f => (match (Except.ok f : Result) with | .ok (.ret v) => Q v s' | .ok _ => False | .error e => E e s')
      | .again c' => c'.quiet = true ∧ codeAny (model prog w) A c' (fun r s' => match r with | .ok (.ret v) => Q v s' | .ok _ => False | .error e => E e s') s') E s := by
    show wpAny _ A.in1 (Builtin.Builtins.bindParams "max" ["key", "default"] 0 ⟨[], kwD dv⟩ >>= _) _ _ s
    refine wpAny_bind (wpAny_of_eq (show Builtin.Builtins.bindParams "max" ["key", "default"] 0 ⟨[], kwD dv⟩ = pure [none, some dv] from rfl) ?_)
    refine wpAny_bind (wpAny_pure ?_)
    refine wpAny_bind (wpAny_mono h (fun it s₂ h₂ => ?_) fun _ _ e => e)
    obtain ⟨I, fp, wr, n, P, St, bt, rfl, W, hst, hfp, hcmp, hQ0, hQ⟩ := h₂
    refine wpAny_bind (wpAny_newObj_type ?_)
    have hSf : s₂.heap.objs.size ∉ fp := fun hm => Nat.lt_irrefl _ (hfp _ hm)
    rw [hname]
    refine wpAny_pure ⟨plainId_quiet F.plain_max_loop _, first W bt hcmp s₂.heap.objs.size hSf (W.frame _ _ _ hst fun b _ o e => Heap.get?_push_of_some _ e) (Heap.get?_push_size _ rfl) (fun hn h' tk hk => ?_) (fun hn v h' tk hP hk => ?_)⟩
    · exact hQ0 hn h' tk fun b o hbw e => hk b o hbw (Nat.ne_of_lt (Heap.lt_size e)) (Heap.get?_push_of_some _ e)
    · exact hQ hn v h' tk hP fun b o hbw e => hk b o hbw (Nat.ne_of_lt (Heap.lt_size e)) (Heap.get?_push_of_some _ e)
  have ha := args_maxD x dv
  refine wpAny_call (codeAny_call_builtin F.plain_max F.entry_max ?_)
  simp only [checkBuiltinCall, F.kind_max]
  cases hsig : Manifest.signature? "max" with
  | none => exact wpAny_pure hc
  | some sig =>
    simp only [argsOk, hsig] at ha
    have h2 : Bind.checkArgs "max" sig ⟨[x], kwD dv⟩ = pure () := ha
    show wpAny _ A.in1 (Bind.checkArgs "max" sig ⟨[x], kwD dv⟩) _ _ s
    rw [h2]; exact wpAny_pure hc
end
end DnMax
namespace Dn
open PySem PySem.Spec PyProof.Rows L2
/-- max(xs, default=d) of a list of ints -/
def rMaxDf (K : PySem.W.Frag) : List V → List V → Hp → VK → Prop := fun vs zs H Q => ∃ (a : Addr) (ns : List Int) (z : V), vs = [V.ref a] ∧ zs = [z] ∧ SqL K H a (ns.map V.int) ∧ (ns = [] → Q z H) ∧ ∀ m, m ∈ ns → (∀ y, y ∈ ns → y ≤ m) → Q (.int m) H
theorem cr_maxDf {X : Cx} (hc : X.calm = true) : CallRK X (.builtin "max") [Str.ofString "default"] (rMaxDf X.K) := by
  intro pins s σ H vs zs us ws Q I r rz h
  obtain ⟨a, ns, z, rfl, rfl, hs, q0, q⟩ := h
  obtain ⟨its, rv, hl, _⟩ := I.list hs
  rw [Vals.ref1 r]
  obtain ⟨dv, rfl, rd⟩ := vals1 rz
  have hi := rv.ints
  obtain ⟨xs, e⟩ := hi.allInts.items
  have hn : numsOf (intItems xs).toList = ns := by rw [← e]; exact hi.numsOf
  rw [nums_intItems] at hn
  subst hn
  have hl' := hl.isList
  rw [e] at hl'
  show wpAny _ _ (call (.builtin "max") [.ref a] (DnMax.kwD dv)) _ _ s
  refine DnMax.call_walk (iter_intList hl' fun s₂ e2 st hfp hlI => ?_)
  subst e2
  refine ⟨_, _, _, _, _, _, _, rfl, Walks.list (A := X.A.in1) (I.ok.hd hc) _ a hlI (intItems xs), st, hfp, CmpOf.ints_gt (numAt xs) (fun _ _ => intItems_at), fun h0 h' tk hk => ?_, fun hn0 v h' tk hP hk => ?_⟩
  · have hz : xs.size = 0 := by simpa [intItems] using h0
    refine ⟨z, H, I.kept (old_kept hk), rd, q0 ?_⟩
    apply List.eq_nil_of_length_eq_zero
    rw [List.length_map, Array.length_toList, hz]
  · have hz : 0 < xs.size := by simpa [intItems] using hn0
    have hP' : (intItems xs)[argBest (fun i j => decide (numAt xs i > numAt xs j)) (xs.size - 1)]? = some v := by simpa [intItems] using hP
    obtain ⟨t, rfl⟩ := intItems_at hP'
    obtain ⟨h1, h2⟩ := argBest_gt (numAt xs) (xs.size - 1)
    refine ⟨.int _, H, I.kept (old_kept hk), ⟨_, rfl⟩, q _ ?_ fun y hy => ?_⟩
    · rw [numAt_eq]; exact PySem.getD_mem (by rw [List.length_map, Array.length_toList]; omega)
    · obtain ⟨j, hj, rfl⟩ := mem_getD hy
      rw [List.length_map, Array.length_toList] at hj
      rw [← numAt_eq]; exact h2 j (by omega)
def gMaxDf : D → D → Option D
  | .list ds, z => (allOf asInt ds).bind fun ns => some (match ns.max? with | some m => .int m | none => z)
  | _, _ => none
section
variable {X : Cx} {w : Wh} {p pos kpos : Pos} {e d : Expr} {fe fd : En → R D}
theorem ve_maxDf (hc : X.calm = true) (hg : Gl X "max") (hm : X.mg "max" = none) (he : VE X w e fe) (hd : VE X w d fd)
    (hs : starEach [e] X.env = (false, eval e X.env) :: starEach [] X.env := by rfl) (hpl : (backTo pos (starEach [e] X.env)).any (·.1) = false := by rfl) (hb : backTo pos (starEach [e] X.env) = (false, eval e X.env) :: backTo pos (starEach [] X.env) := by rfl)
    (hall : (backToKw pos (keywordEach [⟨some (Str.ofString "default"), d, kpos⟩] X.env)).all (·.1.isSome) = true := by rfl) (hnone : (backToKw pos (keywordEach [⟨some (Str.ofString "default"), d, kpos⟩] X.env)).any (·.1.isNone) = false := by rfl) (hks : (backToKw pos (keywordEach [⟨some (Str.ofString "default"), d, kpos⟩] X.env)).filterMap (·.1) = [Str.ofString "default"] := by rfl) :
    VE X w (.Call (.Name "max" p) [e] [⟨some (Str.ofString "default"), d, kpos⟩] pos) (dOp gMaxDf fe fd) :=
  PE.imp (pe_callBK (cr_maxDf hc) hg hm boot_B_max (pa_cons he pa_nil hs) (pk_cons hd pk_nil) (by decide) (by decide) hb hpl hall hnone hks) fun σ H Q ⟨G, ρ, rel, h⟩ => ⟨G, ρ, rel, (Fn.bind rel h).imp fun G1 H1 ρ1 dx ⟨r1, s1, h1⟩ x hx => ⟨G1, ρ1, r1, (Fn.bind r1 h1).imp fun G2 H2 ρ2 dz ⟨r2, s2, h2⟩ z hz => by
    obtain ⟨dd, e1, q⟩ := Fn.lift h2
    cases dx with
    | list ds =>
      simp only [gMaxDf, Option.bind_eq_some_iff] at e1
      obtain ⟨ns, e1, e2⟩ := e1
      cases e2
      obtain ⟨a, vs, rfl, hl, hds⟩ := (hx.mono s2.g).lst'
      rw [mapM_ints e1] at hds
      rw [hds.ints] at hl
      refine ⟨a, ns, z, rfl, rfl, r2.sub.seq hl, fun hn => ?_, fun k hk hle => ?_⟩
      · subst hn
        exact q _ _ r2 Stp.refl _ hz
      · have hm : ns.max? = some k := by
          rw [List.max?_eq_some_iff]
          exact ⟨hk, fun b hb => hle b hb⟩
        rw [hm] at q
        exact q _ _ r2 Stp.refl _ (.int _)
    | _ => cases e1⟩⟩
end
@[simp] theorem gMaxDf_list (ds : List D) (z : D) : gMaxDf (.list ds) z = (allOf asInt ds).bind fun ns => some (match ns.max? with | some m => .int m | none => z) := rfl
end Dn
namespace Dn
open PySem PySem.Spec PyProof.Rows L2
section
variable {X : Cx} {w : Wh} {pos p p2 : Pos} {e a b : Expr} {fe fa fb : En → R D}
/-! {} -/
theorem ve_dict0 : VE X w (.Dict [] [] pos) (dC (.dict [])) := PE.imp pe_dnewK fun σ H Q ⟨G, ρ, rel, h⟩ =>
  hand_new rel (fun G' H' r s v hv => h G' H' r s v hv) fun q hq => by
    have := DR.dic (K := X.K) (H := upd G q (.dK [])) (a := q) (kvs := []) (ds := []) upd_same .nil
    exact this
/-! == () of a tuple of any things -/
def gEqT (a b : D) : Option Bool := match gEq a b with
  | some r => some r
  | none => match a, b with
    | .tuple xs, .tuple [] => some xs.isEmpty
    | _, _ => none
def gNeT (a b : D) : Option Bool := (gEqT a b).map (!·)
def rEqT0 (K : PySem.W.Frag) : R2 := fun x y H Q => ∃ l m xs, x = .ref l ∧ y = .ref m ∧ SqT K H l xs ∧ SqT K H m [] ∧ Q (.bl xs.isEmpty) H
theorem op_eqT0 (hu : X.A.units + 64 < cLine) : OpR X (compareOp .Eq) (rEqT0 X.K) := by
  intro pins s σ H x y v u Q I rx ry h
  obtain ⟨l, m, xs, rfl, rfl, h1, h2, q⟩ := h
  cases rx
  cases ry
  obtain ⟨its, r, pl, _⟩ := I.tuple h1
  obtain ⟨its2, r2, pl2, _⟩ := I.tuple h2
  cases r2
  refine SeqAt.eq_tupleAt (e := fun _ => true) pl pl2 (by omega) (fun j _ h2 => by simp at h2) ⟨.bl xs.isEmpty, H, I, ?_, q⟩
  have : xs.length = its.length := r.length
  show Value.bool _ = Value.bool _
  congr 1
  cases xs with
  | nil => cases its with
    | nil => rfl
    | cons _ _ => cases this
  | cons _ _ => cases its with
    | nil => cases this
    | cons _ _ => rfl
theorem op_eqT (hu : X.A.units + 64 < cLine) : OpR X (compareOp .Eq) (fun x y H Q => rEqD X.K x y H Q ∨ rEqT0 X.K x y H Q) := (op_eqD hu).or (op_eqT0 hu)
theorem ob_eqT : OpB X.K (fun x y H Q => rEqD X.K x y H Q ∨ rEqT0 X.K x y H Q) gEqT := fun x y dx dy b H Q hx hy e q => by
  unfold gEqT at e
  cases q1 : gEq dx dy with
  | some r =>
    rw [q1] at e; cases e
    exact .inl (ob_eq x y dx dy b H Q hx hy q1 q)
  | none =>
    rw [q1] at e
    cases dx with
    | tuple xs =>
      cases dy with
      | tuple ys =>
        cases ys with
        | nil =>
          cases e
          cases hx with
          | tup hq hs =>
            cases hy with
            | tup hq2 hs2 =>
              cases hs2
              refine .inr ⟨_, _, _, rfl, rfl, hq, hq2, ?_⟩
              rw [hs.emp]; exact q
        | cons _ _ => cases e
      | _ => cases e
    | _ => cases dy <;> cases e
@[simp] theorem gEqT_nil (xs : List D) : gEqT (.tuple xs) (.tuple []) = some xs.isEmpty := by
  unfold gEqT
  cases q : gEq (.tuple xs) (.tuple []) with
  | none => rfl
  | some r =>
    unfold gEq at q
    split at q
    · cases q
      cases xs <;> simp [PyData.eqv, PyData.eqvAll]
    · cases q
/-! xs[::-1] -/
def gRev : D → Option D
  | .list ds => some (.list ds.reverse)
  | _ => none
theorem ve_rev {k : Nat} {p1 p2 p3 : Pos} (he : VE X w e fe) : VE X w (.Subscript e (.Slice none none (some (.UnaryOp .USub (.Constant (.int 1) k p1) p2)) p3) pos) (d1 gRev fe) :=
  PE.imp (pe_revL he) fun σ H Q ⟨G, ρ, rel, h⟩ => ⟨G, ρ, rel, (Fn.bind rel h).imp fun G1 H1 ρ1 dx ⟨r1, s1, h1⟩ x hx => by
    obtain ⟨d, e, q⟩ := Fn.lift h1
    cases hx with
    | @lst a xs ds hq hds =>
      cases e
      exact ⟨a, xs, rfl, r1.sub.seq hq, hand_new r1 q (DR.newL r1 hds.reverse)⟩
    | _ => cases e⟩
/-! text * int -/
def repS (a : Str) (n : Int) : Str := if n < 1 then Str.empty else if (n == 1 || a.length == 0) = true then a else ⟨(List.replicate n.toNat a.cps).foldl (· ++ ·) #[]⟩
def gMulS : D → D → Option D
  | .str a, .int n => if 0 ≤ n ∧ n ≤ 10000 ∧ a.length ≤ 1000 then some (.str (repS a n)) else none
  | _, _ => none
def rMulS : R2 := fun x y H Q => ∃ a n, x = .str a ∧ y = .int n ∧ (0 ≤ n ∧ n ≤ 10000 ∧ a.length ≤ 1000) ∧ Q (.str (repS a n)) H
theorem rep_fold {α : Type} (c : Array α) : ∀ (k : Nat) (z : Array α), (List.replicate k c).foldl (· ++ ·) z = z ++ (List.replicate k c.toList).flatten.toArray
  | 0, z => by simp
  | k + 1, z => by
    rw [List.replicate_succ, List.foldl_cons, rep_fold c k, List.replicate_succ, List.flatten_cons]
    apply Array.ext'
    simp
theorem rep_size {α : Type} (c : Array α) (k : Nat) : ((List.replicate k c).foldl (· ++ ·) #[]).size = k * c.size := by
  rw [rep_fold]
  simp
theorem op_mulS : OpR X (binaryOp .Mult) rMulS := by
  intro pins s σ H x y v u Q I rx ry h
  obtain ⟨a, n, rfl, rfl, ⟨h0, h1, h2⟩, q⟩ := h
  obtain ⟨t, rfl⟩ := rx
  obtain ⟨t', rfl⟩ := ry
  have hm : a.length * n.toNat ≤ 10000000 := by
    have : a.length * n.toNat ≤ 1000 * 10000 := Nat.mul_le_mul h2 (by omega)
    omega
  have tl : ∀ m : Nat, m ≤ 10000000 → Builtin.Str.tooLong m = false := fun m hm => by
    unfold Builtin.Str.tooLong
    exact decide_eq_false (by have := PySem.sizeLine_eq; omega)
  refine P.mul_str (by simp; omega) (fun h3 _ => ?_) (fun _ _ => tl _ hm) ?_
  · have : (a.length : Int) ≤ (2 ^ 63 - 1) / n := by
      rw [Int.le_ediv_iff_mul_le (by omega)]
      have : (a.length : Int) * n ≤ 1000 * 10000 := Int.mul_le_mul (by omega) h1 h0 (by decide)
      omega
    omega
  · unfold repS at q
    split
    · rw [if_pos (by assumption)] at q
      exact ⟨Nat.zero_le _, .str Str.empty, H, I.tok _, ⟨_, rfl⟩, q⟩
    · rw [if_neg (by assumption)] at q
      split
      · rw [if_pos (by assumption)] at q
        exact ⟨.str a, H, I, ⟨_, rfl⟩, q⟩
      · rw [if_neg (by assumption)] at q
        refine ⟨?_, .str _, H, I.tok _, ⟨_, rfl⟩, q⟩
        have := PySem.sizeLine_eq
        show Array.size _ ≤ _
        rw [rep_size]
        have e : a.cps.size = a.length := rfl
        rw [e, Nat.mul_comm]
        simp
        omega
theorem gMulS_S {a : List Nat} {n : Nat} (h : n ≤ 10000) (h2 : a.length ≤ 1000) : gMulS (.str (SX.S a)) (.int (n : Int)) = some (.str (SX.S (List.replicate n a).flatten)) := by
  show (if _ then _ else _) = _
  rw [if_pos ⟨by omega, by omega, by rw [SX.S_len]; exact h2⟩]
  congr 2
  unfold repS
  by_cases h0 : n = 0
  · subst h0; rfl
  · rw [if_neg (by omega)]
    split
    · rename_i h1
      simp only [Bool.or_eq_true, beq_iff_eq] at h1
      rcases h1 with h1 | h1
      · have : n = 1 := by omega
        subst this; simp
      · rw [SX.S_len] at h1
        have : a = [] := List.length_eq_zero_iff.mp h1
        subst this
        congr 1
        induction n with
        | zero => rfl
        | succ n ih => simp
    · rw [Int.toNat_natCast]
      show (⟨_⟩ : Str) = _
      rw [rep_fold]
      apply congrArg Str.mk
      apply Array.ext'
      simp [SX.S]
theorem os_mulS {K : PySem.W.Frag} : OpS K rMulS gMulS := by
  intro w x y dx dy d G H σ ρ Q r hx hy e q
  cases dx with
  | str a =>
    cases dy with
    | int n =>
      simp only [gMulS] at e
      split at e
      · cases e; cases hx; cases hy
        exact ⟨a, n, rfl, rfl, by assumption, q _ _ r Stp.refl _ (.str _)⟩
      · cases e
    | _ => cases e
  | _ => cases dy <;> cases e
theorem ve_mulS (ha : VE X w a fa) (hb : VE X w b fb) : VE X w (.BinOp a .Mult b pos) (dOp gMulS fa fb) := ve_op op_mulS os_mulS ha hb
end
end Dn
namespace Dn
open PySem PySem.Spec PyProof.Rows L2
/-! ### dicts that are written -/
section
variable {K : PySem.W.Frag} {G H G0 H0 : Hp} {σ : L2.St} {ρ ρ0 : En}
/-- what stands and is nobody's becomes data -/
theorem Rel.fixO (r : Rel K G H σ ρ) {p : Addr} {o : HO} (hg : G p = none) (ho : ¬ Own H σ ρ p) (hp : H p = some o) : Rel K (upd G p o) H σ ρ :=
  (r.keep (G' := upd G p o) (H' := H) (fun b x e => by rw [upd_ne (ne_of_none e hg)]; exact e) (fun b x e => by
    by_cases hb : b = p
    · subst hb; rw [upd_same] at e; cases e; exact hp
    · rw [upd_ne hb] at e; exact r.sub b x e) (fun a h => by
    have : a ≠ p := fun z => by subst z; exact ho h
    rw [upd_ne this]; exact (r.own h).1) (fun _ _ => rfl)).1
theorem Stp.fixO (s : Stp G0 H0 σ ρ0 G H σ ρ) {p : Addr} {o : HO} (hg : G p = none) (hp : H0 p = none) : Stp G0 H0 σ ρ0 (upd G p o) H σ ρ := by
  have sg : Same G (upd G p o) := fun b x e => by rw [upd_ne (ne_of_none e hg)]; exact e
  refine ⟨s.g.trans sg, s.h, fun a h => ?_, s.ow, s.tr, s.ln, s.bo, s.bt⟩
  by_cases ha : a = p
  · subst ha; exact .inr (.inl hp)
  · rw [upd_ne ha] at h; exact s.fr a h
/-! keys and data -/
inductive KDs (K : PySem.W.Frag) (G : Hp) : List (Key × V) → List (Key × D) → Prop
  | nil : KDs K G [] []
  | cons {k : Key} {v : V} {d : D} {a : List (Key × V)} {b : List (Key × D)} : DR K G v d → KDs K G a b → KDs K G ((k, v) :: a) ((k, d) :: b)
theorem KDs.mono {G G' : Hp} (s : Same G G') : ∀ {a : List (Key × V)} {b : List (Key × D)}, KDs K G a b → KDs K G' a b
  | _, _, .nil => .nil
  | _, _, .cons h t => .cons (h.mono s) (KDs.mono s t)
def putKD (kds : List (Key × D)) (k : Key) (d : D) : List (Key × D) :=
  if (kds.any fun p => decide (p.1 = k)) = true then kds.map (fun p => if p.1 = k then (p.1, d) else p) else kds ++ [(k, d)]
def mergeKD (kds more : List (Key × D)) : List (Key × D) := more.foldl (fun acc p => putKD acc p.1 p.2) kds
theorem KDs.any {k : Key} : ∀ {a : List (Key × V)} {b : List (Key × D)}, KDs K G a b → (a.any fun p => decide (p.1 = k)) = b.any fun p => decide (p.1 = k)
  | _, _, .nil => rfl
  | _, _, .cons h t => by rw [List.any_cons, List.any_cons, KDs.any t]
theorem KDs.repl {k : Key} {v : V} {d : D} (hv : DR K G v d) : ∀ {a : List (Key × V)} {b : List (Key × D)}, KDs K G a b → KDs K G (a.map fun p => if p.1 = k then (p.1, v) else p) (b.map fun p => if p.1 = k then (p.1, d) else p)
  | _, _, .nil => .nil
  | _, _, @KDs.cons _ _ k' v' d' a b h t => by
    rw [List.map_cons, List.map_cons]
    by_cases e : k' = k
    · rw [if_pos e, if_pos e]; exact .cons hv (KDs.repl hv t)
    · rw [if_neg e, if_neg e]; exact .cons h (KDs.repl hv t)
theorem KDs.app {k : Key} {v : V} {d : D} (hv : DR K G v d) : ∀ {a : List (Key × V)} {b : List (Key × D)}, KDs K G a b → KDs K G (a ++ [(k, v)]) (b ++ [(k, d)])
  | _, _, .nil => .cons hv .nil
  | _, _, .cons h t => .cons h (KDs.app hv t)
theorem KDs.put {k : Key} {v : V} {d : D} (hv : DR K G v d) {a : List (Key × V)} {b : List (Key × D)} (h : KDs K G a b) : KDs K G (putK a k v) (putKD b k d) := by
  unfold putK putKD
  rw [h.any]
  split
  · exact h.repl hv
  · exact h.app hv
theorem KDs.merge : ∀ {m : List (Key × V)} {n : List (Key × D)}, KDs K G m n → ∀ {a : List (Key × V)} {b : List (Key × D)}, KDs K G a b → KDs K G (mergeK a m) (mergeKD b n)
  | _, _, .nil, _, _, h => h
  | _, _, .cons hv t, _, _, h => KDs.merge t (h.put hv)
theorem KDs.drs : ∀ {a : List (Key × V)} {b : List (Key × D)}, KDs K G a b → DRs K G (a.map (·.2)) (b.map (·.2)) ∧ ((a.map fun p => kD p.1).zip (b.map (·.2))) = b.map fun p => (kD p.1, p.2)
  | _, _, .nil => ⟨.nil, rfl⟩
  | _, _, .cons h t => ⟨.cons h (KDs.drs t).1, by simp [(KDs.drs t).2]⟩
def dictD (kds : List (Key × D)) : D := .dict (kds.map fun p => (kD p.1, p.2))
theorem DR.dictD {a : Addr} {kvs : List (Key × V)} {kds : List (Key × D)} (h : H a = some (.dK kvs)) (k : KDs K H kvs kds) : DR K H (.ref a) (dictD kds) := by
  have := DR.dic h (KDs.drs k).1
  rw [(KDs.drs k).2] at this
  exact this
end
def asKey : D → Option Key
  | .int i => some (.inl i)
  | .str s => some (.inr s)
  | _ => none
def dPairs : List ((En → R D) × (En → R D)) → En → R (List (Key × D))
  | [], ρ => .ok [] ρ
  | (fk, fv) :: r, ρ => (fk ρ).bind fun k ρ1 => (fv ρ1).bind fun v ρ2 => (lift (asKey k) ρ2).bind fun k' ρ3 => (dPairs r ρ3).bind fun ps ρ4 => .ok ((k', v) :: ps) ρ4
def dDisp (fs : List ((En → R D) × (En → R D))) : En → R D := fun ρ => (dPairs fs ρ).bind fun ps ρ1 => if ps.length ≤ 15 then .ok (dictD (mergeKD [] ps)) ρ1 else .no
section
variable {X : Cx} {w : Wh} {pos : Pos}
abbrev VPs (X : Cx) (w : Wh) (pos : Pos) (keys : List (Option Expr)) (values : List Expr) (fs : List ((En → R D) × (En → R D))) : Prop := PPs X pos keys values (fs.map fun p => (teD X.K w p.1, teD X.K w p.2))
theorem vps_nil : VPs X w pos [] [] [] := pps_nil
theorem vps_cons {k v : Expr} {ks : List (Option Expr)} {vs : List Expr} {fk fv : En → R D} {fs : List ((En → R D) × (En → R D))} (hk : VE X w k fk) (hv : VE X w v fv) (hr : VPs X w pos ks vs fs) : VPs X w pos (some k :: ks) (v :: vs) ((fk, fv) :: fs) := pps_cons hk hv hr
theorem tPairs_of : ∀ (fs : List ((En → R D) × (En → R D))) {G H : Hp} {σ : L2.St} {ρ : En} {Q : List (V × V) → Hp → Prop}, Rel X.K G H σ ρ → Fn X.K w G H σ ρ (dPairs fs ρ) (fun G1 H1 ρ1 ps => Rel X.K G1 H1 σ ρ1 → Stp G H σ ρ G1 H1 σ ρ1 → ∀ kvs, KDs X.K G1 kvs ps → Q (kvs.map fun p => (kV p.1, p.2)) H1) →
    tPairs (fs.map fun p => (teD X.K w p.1, teD X.K w p.2)) σ H Q
  | [], G, H, σ, ρ, Q, rel, h => by
    have := h G H rel Stp.refl rel Stp.refl [] .nil
    exact this
  | (fk, fv) :: r, G, H, σ, ρ, Q, rel, h => by
    refine ⟨G, ρ, rel, (Fn.bind rel h).imp fun G1 H1 ρ1 k ⟨r1, s1, h1⟩ x hx => ⟨G1, ρ1, r1, (Fn.bind r1 h1).imp fun G2 H2 ρ2 v ⟨r2, s2, h2⟩ y hy => ?_⟩⟩
    have h3 := Fn.bind r2 h2
    obtain ⟨k', ek, h4⟩ := Fn.lift h3
    obtain ⟨_, _, h4⟩ := h4 G2 H2 r2 Stp.refl
    refine tPairs_of r r2 ((Fn.bind r2 h4).imp fun G3 H3 ρ3 ps ⟨r3, s3, h5⟩ _ _ kvs hk => ?_)
    have h6 := h5 G3 H3 r3 Stp.refl
    have ex : x = kV k' := by
      cases hx with
      | int i => cases ek; rfl
      | str s => cases ek; rfl
      | _ => cases ek
    have := h6 r3 ((s1.trans rel s2).trans rel s3) ((k', y) :: kvs) (.cons (hy.mono s3.g) hk)
    rw [ex]
    exact this
theorem ve_disp {keys : List (Option Expr)} {values : List Expr} {fs : List ((En → R D) × (En → R D))} (h : VPs X w pos keys values fs) (hall : keys.all (·.isSome) = true := by rfl) (hl : keys.length = values.length := by rfl) (h0 : keys ≠ [] := by exact fun z => nomatch z) (h15 : keys.length ≤ 15 := by decide) : VE X w (.Dict keys values pos) (dDisp fs) :=
  PE.imp (pe_disp h hall hl h0 h15) fun σ H Q ⟨G, ρ, rel, hh⟩ => fun p hp => by
    obtain ⟨r0, s0⟩ := rel.laidM (o := .dK []) hp
    refine tPairs_of fs r0 ?_
    have gp : G p = none := Same.free rel.sub hp
    have h1 : Fn X.K w G H σ ρ ((dPairs fs ρ).bind fun ps ρ1 => if ps.length ≤ 15 then R.ok (dictD (mergeKD [] ps)) ρ1 else .no) (QD X.K Q) := hh
    cases q : dPairs fs ρ with
    | no => rw [q] at h1; exact h1.elim
    | ex c ρ1 => rw [q] at h1; exact fun G' H' cls dx r1 s1 => h1 G' H' cls dx r1 (s0.trans rel s1)
    | ok ps ρ1 =>
      rw [q] at h1
      have h2 : Fn X.K w G H σ ρ (if ps.length ≤ 15 then R.ok (dictD (mergeKD [] ps)) ρ1 else .no) (QD X.K Q) := h1
      intro G1 H1 r1 s1 _ _ kvs hk
      have own0 : ¬ Own (upd H p (.dK [])) σ ρ p := fun z => not_own rel hp ((own_upd rel hp p).mp z)
      have s01 := s0.trans rel s1
      have hp1 : H1 p = some (.dK []) := s1.h p _ upd_same own0
      have gp1 : G1 p = none := by
        cases e : G1 p with
        | none => rfl
        | some o =>
          rcases s1.fr p (by rw [e]; exact fun z => nomatch z) with z | z | z
          · exact absurd gp z
          · rw [upd_same] at z; cases z
          · exact absurd z own0
      have own1 : ¬ Own H1 σ ρ1 p := fun z => by
        rcases s1.ow p z with z | z
        · exact own0 z
        · rw [upd_same] at z; cases z
      split at h2
      · rename_i hl15
        refine ⟨hp1, kvs, rfl, ?_, ?_⟩
        · have : ∀ {a : List (Key × V)} {b : List (Key × D)}, KDs X.K G1 a b → a.length = b.length := fun h => by
            have := (KDs.drs h).1.length
            simpa using this
          rw [this hk]; exact hl15
        · have hm := hk.merge (a := []) (b := []) .nil
          have rU := r1.updN (o := .dK (mergeK [] kvs)) gp1 own1
          have sU : Stp G H σ ρ G1 (upd H1 p (.dK (mergeK [] kvs))) σ ρ1 := s01.updN r1 gp1 own1 hp
          have rF := rU.fixO gp1 (r1.updO gp1 own1) upd_same
          have sF := sU.fixO (o := .dK (mergeK [] kvs)) gp1 hp
          refine h2 _ _ rF sF (.ref p) (DR.dictD upd_same (hm.mono fun b x e => by rw [upd_ne (ne_of_none e gp1)]; exact e))
      · exact h2.elim
/-! d[k] -/
def isKey : Key → D → Bool
  | .inl i, .int j => decide (j = i)
  | .inr s, .str t => decide (t = s)
  | _, _ => false
def gIxK (d k : D) : Option D := match d with
  | .dict ps => (asKey k).bind fun q => (ps.find? fun p => isKey q p.1).map (·.2)
  | _ => none
theorem isKey_kD (q k : Key) : isKey q (kD k) = decide (k = q) := by
  cases q <;> cases k <;> simp [isKey, kD]
theorem find_kds {K : PySem.W.Frag} {G : Hp} {q : Key} {d : D} : ∀ {kvs : List (Key × V)} {ds : List D}, DRs K G (kvs.map (·.2)) ds → (((kvs.map fun p => kD p.1).zip ds).find? fun p => isKey q p.1).map (·.2) = some d → ∃ v, valV kvs q = some v ∧ DR K G v d
  | [], _, _, e => by simp at e
  | (k, v) :: kvs, _, .cons h t, e => by
    by_cases hk : k = q
    · subst hk
      simp [List.find?_cons, isKey_kD] at e
      subst e
      exact ⟨v, by simp [valV], h⟩
    · have hf : (isKey q (kD k)) = false := by rw [isKey_kD]; exact decide_eq_false hk
      simp only [List.map_cons, List.zip_cons_cons, List.find?_cons, hf] at e
      obtain ⟨u, e1, e2⟩ := find_kds t e
      exact ⟨u, by simp only [valV, List.find?_cons, decide_eq_false hk]; exact e1, e2⟩
theorem ve_ixK {a b : Expr} {fa fb : En → R D} (hu : X.A.units + 1 < cLine) (ha : VE X w a fa) (hb : VE X w b fb) (hs : NoSl b := by exact fun _ _ => rfl) : VE X w (.Subscript a b pos) (dOp gIxK fa fb) :=
  PE.imp (pe_dget hu ha hb hs) fun σ H Q ⟨G, ρ, rel, h⟩ => ⟨G, ρ, rel, (Fn.bind rel h).imp fun G1 H1 ρ1 dx ⟨r1, s1, h1⟩ x hx => ⟨G1, ρ1, r1, (Fn.bind r1 h1).imp fun G2 H2 ρ2 dy ⟨r2, s2, h2⟩ y hy => by
    obtain ⟨d, e, q⟩ := Fn.lift h2
    cases hx with
    | @dic a kvs ds hq hds =>
      simp only [gIxK, Option.bind_eq_some_iff] at e
      obtain ⟨k, ek, e⟩ := e
      obtain ⟨v, ev, hv⟩ := find_kds (hds.mono s2.g) e
      have ey : y = kV k := by
        cases hy with
        | int i => cases ek; rfl
        | str s => cases ek; rfl
        | _ => cases ek
      subst ey
      refine ⟨a, v, rfl, ?_, q _ _ r2 Stp.refl v hv⟩
      rw [← ev]
      exact DGet.k (r2.sub _ _ (s2.g _ _ hq))
    | _ => cases e⟩⟩
end
@[simp] theorem dPairs_nil (ρ : En) : dPairs [] ρ = .ok [] ρ := rfl
@[simp] theorem dPairs_cons (fk fv : En → R D) (r : List ((En → R D) × (En → R D))) (ρ : En) : dPairs ((fk, fv) :: r) ρ = (fk ρ).bind fun k ρ1 => (fv ρ1).bind fun v ρ2 => (lift (asKey k) ρ2).bind fun k' ρ3 => (dPairs r ρ3).bind fun ps ρ4 => .ok ((k', v) :: ps) ρ4 := rfl
@[simp] theorem dDisp_eq (fs : List ((En → R D) × (En → R D))) (ρ : En) : dDisp fs ρ = (dPairs fs ρ).bind fun ps ρ1 => if ps.length ≤ 15 then .ok (dictD (mergeKD [] ps)) ρ1 else .no := rfl
@[simp] theorem asKey_str (s : Str) : asKey (.str s) = some (.inr s) := rfl
@[simp] theorem asKey_int (s : Int) : asKey (.int s) = some (.inl s) := rfl
end Dn
namespace Dn
open PySem PySem.Spec PyProof.Rows L2
/-! ### lists within lists that change -/
def subT : Tr → List Nat → Option Tr
  | t, [] => some t
  | .im _, _ :: _ => none
  | .ls ts, k :: p => match ts[k]? with
    | some t => subT t p
    | none => none
def updT : Tr → List Nat → Tr → Tr
  | _, [], x => x
  | .im d, _ :: _, _ => .im d
  | .ls ts, k :: p, x => match ts[k]? with
    | some t => .ls (ts.set k (updT t p x))
    | none => .ls ts
def L.tr : L → Option Tr
  | .ot t => some t
  | .bt t => some t
  | _ => none
def L.putT : L → Tr → L
  | .ot _, t => .ot t
  | .bt _, t => .bt t
  | l, _ => l
@[simp] theorem tr_ot (t : Tr) : (L.ot t).tr = some t := rfl
@[simp] theorem tr_bt (t : Tr) : (L.bt t).tr = some t := rfl
@[simp] theorem putT_ot (t u : Tr) : (L.ot t).putT u = .ot u := rfl
@[simp] theorem putT_bt (t u : Tr) : (L.bt t).putT u = .bt u := rfl
inductive NodeAt (H : Hp) : V → Tr → List Nat → V → Tr → Prop
  | nil {v : V} {t : Tr} : NodeAt H v t [] v t
  | cons {o : Addr} {vs : List V} {ts : List Tr} {k : Nat} {v : V} {t : Tr} {p : List Nat} {v' : V} {t' : Tr} : H o = some (.lst vs) → vs[k]? = some v → ts[k]? = some t → NodeAt H v t p v' t' → NodeAt H (.ref o) (.ls ts) (k :: p) v' t'
section
variable {K : PySem.W.Frag} {G H G' H' : Hp} {σ : L2.St} {ρ : En}
theorem NodeAt.sub {v v' : V} {t t' : Tr} {p : List Nat} (n : NodeAt H v t p v' t') : subT t p = some t' := by
  induction n with
  | nil => unfold subT; rfl
  | cons _ _ e _ ih => unfold subT; rw [e]; exact ih
theorem NodeAt.tr {v v' : V} {t t' : Tr} {p : List Nat} (n : NodeAt H v t p v' t') : TR K G H v t → TR K G H v' t' := by
  induction n with
  | nil => exact fun r => r
  | cons h e1 e2 _ ih =>
    intro r
    cases r with
    | ls g h' l c n d => rw [h] at h'; cases h'; exact ih (c _ _ _ e1 e2)
theorem NodeAt.foot {v v' : V} {t t' : Tr} {p : List Nat} {a : Addr} (n : NodeAt H v t p v' t') (f : Foot H v' t' a) : Foot H v t a := by
  induction n with
  | nil => exact f
  | cons h e1 e2 _ ih => exact .sub h e1 e2 (ih f)
theorem NodeAt.snoc {v : V} {t : Tr} {p : List Nat} {o : Addr} {ts : List Tr} {vs : List V} {k : Nat} {v2 : V} {t2 : Tr} (n : NodeAt H v t p (.ref o) (.ls ts)) (h : H o = some (.lst vs)) (e1 : vs[k]? = some v2) (e2 : ts[k]? = some t2) : NodeAt H v t (p ++ [k]) v2 t2 := by
  generalize hv : V.ref o = w at n
  generalize ht : Tr.ls ts = u at n
  induction n with
  | nil => subst hv; subst ht; exact .cons h e1 e2 .nil
  | cons h' e1' e2' _ ih => exact .cons h' e1' e2' (ih hv ht)
theorem TR.list {v : V} {ts : List Tr} (r : TR K G H v (.ls ts)) : ∃ o vs, v = .ref o ∧ G o = none ∧ H o = some (.lst vs) ∧ vs.length = ts.length := by
  cases r with
  | ls g h l _ _ _ => exact ⟨_, _, rfl, g, h, l⟩
/-- one list within is changed -/
structure Chg (K : PySem.W.Frag) (G : Hp) (vs : List V) (ts : List Tr) (vs' : List V) (ts' : List Tr) : Prop where
  len : vs'.length = ts'.length
  new : ∀ (k : Nat) (v : V) (t : Tr), vs'[k]? = some v → ts'[k]? = some t → (vs[k]? = some v ∧ ts[k]? = some t) ∨ ∃ d, t = .im d ∧ DR K G v d
  old : ∀ (k : Nat) (v : V) (t : Tr), vs[k]? = some v → ts[k]? = some t → (vs'[k]? = some v ∧ ts'[k]? = some t) ∨ ∃ d, t = .im d
theorem TR.updAt {v v' : V} {t t' : Tr} {p : List Nat} {o : Addr} {vs vs' : List V} {ts ts' : List Tr} (n : NodeAt H v t p v' t') (ev : v' = .ref o) (et : t' = .ls ts) (ho : H o = some (.lst vs)) (c : Chg K G vs ts vs' ts') : TR K G H v t →
    TR K G (upd H o (.lst vs')) v (updT t p (.ls ts')) ∧ ∀ a, Foot (upd H o (.lst vs')) v (updT t p (.ls ts')) a ↔ Foot H v t a := by
  induction n with
  | nil =>
    subst ev; subst et
    intro r
    cases r with
    | @ls _ vs0 _ g h l ch nf dj =>
      rw [ho] at h; cases h
      have same : ∀ (k : Nat) (v : V) (t : Tr), vs[k]? = some v → ts[k]? = some t → ∀ a, Foot H v t a → upd H o (.lst vs') a = H a := fun k v t e1 e2 a f => upd_ne fun z => by subst z; exact nf k v t e1 e2 f
      have back : ∀ (k : Nat) (v : V) (t : Tr) (a : Addr), vs'[k]? = some v → ts'[k]? = some t → Foot (upd H o (.lst vs')) v t a → vs[k]? = some v ∧ ts[k]? = some t ∧ Foot H v t a := fun k v t a e1 e2 f => by
        rcases c.new k v t e1 e2 with ⟨f1, f2⟩ | ⟨d, rfl, _⟩
        · exact ⟨f1, f2, f.from (same k v t f1 f2)⟩
        · cases f
      unfold updT
      refine ⟨.ls g upd_same c.len (fun k v t e1 e2 => ?_) (fun k v t e1 e2 f => ?_) (fun j k v u t s a e1 e2 e3 e4 f1 f2 => ?_), fun a => ⟨fun f => ?_, fun f => ?_⟩⟩
      · rcases c.new k v t e1 e2 with ⟨f1, f2⟩ | ⟨d, rfl, hd⟩
        · exact (ch k v t f1 f2).keep (Same.refl _) (fun a f => ((ch k v t f1 f2).foot f).1) (same k v t f1 f2)
        · exact .im hd
      · obtain ⟨f1, f2, f3⟩ := back k v t o e1 e2 f
        exact nf k v t f1 f2 f3
      · obtain ⟨a1, a2, a3⟩ := back j v t a e1 e2 f1
        obtain ⟨b1, b2, b3⟩ := back k u s a e3 e4 f2
        exact dj j k v u t s a a1 a2 b1 b2 a3 b3
      · cases f with
        | here => exact .here
        | sub h e1 e2 f =>
          rw [upd_same] at h; cases h
          obtain ⟨f1, f2, f3⟩ := back _ _ _ _ e1 e2 f
          exact .sub ho f1 f2 f3
      · cases f with
        | here => exact .here
        | sub h e1 e2 f =>
          rw [ho] at h; cases h
          rcases c.old _ _ _ e1 e2 with ⟨f1, f2⟩ | ⟨d, rfl⟩
          · exact .sub upd_same f1 f2 (f.to (same _ _ _ e1 e2))
          · cases f
  | @cons q us ts0 k v t p v' t' h e1 e2 nd ih =>
    subst ev; subst et
    intro r
    cases r with
    | ls g h' l ch nf dj =>
      rw [h] at h'; cases h'
      obtain ⟨r1, f1⟩ := ih rfl rfl (ch k v t e1 e2)
      have fo : Foot H v t o := nd.foot .here
      have hq : o ≠ q := fun z => by subst z; exact nf k v t e1 e2 fo
      have hq' : upd H o (.lst vs') q = some (.lst us) := by rw [upd_ne (Ne.symm hq)]; exact h
      have same : ∀ (j : Nat) (u : V) (s : Tr), j ≠ k → us[j]? = some u → ts0[j]? = some s → ∀ a, Foot H u s a → upd H o (.lst vs') a = H a := fun j u s hj e3 e4 a f => upd_ne fun z => by subst z; exact hj (dj j k u v s t _ e3 e4 e1 e2 f fo)
      have hk : k < ts0.length := (List.getElem?_eq_some_iff.mp e2).1
      unfold updT
      rw [e2]
      have at_ : ∀ (j : Nat) (u : V) (s : Tr), us[j]? = some u → (ts0.set k (updT t p (.ls ts')))[j]? = some s → (j = k ∧ u = v ∧ s = updT t p (.ls ts')) ∨ (j ≠ k ∧ ts0[j]? = some s) := fun j u s e3 e4 => by
        by_cases hj : j = k
        · subst hj
          rw [List.getElem?_set_self hk] at e4; cases e4
          rw [e1] at e3; cases e3
          exact .inl ⟨rfl, rfl, rfl⟩
        · rw [List.getElem?_set_ne (Ne.symm hj)] at e4
          exact .inr ⟨hj, e4⟩
      have back : ∀ (j : Nat) (u : V) (s : Tr) (a : Addr), us[j]? = some u → (ts0.set k (updT t p (.ls ts')))[j]? = some s → Foot (upd H o (.lst vs')) u s a → ∃ s', ts0[j]? = some s' ∧ Foot H u s' a := fun j u s a e3 e4 f => by
        rcases at_ j u s e3 e4 with ⟨rfl, rfl, rfl⟩ | ⟨hj, e5⟩
        · exact ⟨t, e2, (f1 a).mp f⟩
        · exact ⟨s, e5, f.from (same j u s hj e3 e5)⟩
      refine ⟨.ls g hq' (by rw [List.length_set]; exact l) (fun j u s e3 e4 => ?_) (fun j u s e3 e4 f => ?_) (fun i j u w s x a e3 e4 e5 e6 g1 g2 => ?_), fun a => ⟨fun f => ?_, fun f => ?_⟩⟩
      · rcases at_ j u s e3 e4 with ⟨rfl, rfl, rfl⟩ | ⟨hj, e5⟩
        · exact r1
        · exact (ch j u s e3 e5).keep (Same.refl _) (fun a f => ((ch j u s e3 e5).foot f).1) (same j u s hj e3 e5)
      · obtain ⟨s', e5, f'⟩ := back j u s q e3 e4 f
        exact nf j u s' e3 e5 f'
      · obtain ⟨s', e7, f7⟩ := back i u s a e3 e4 g1
        obtain ⟨x', e8, f8⟩ := back j w x a e5 e6 g2
        exact dj i j u w s' x' a e3 e7 e5 e8 f7 f8
      · cases f with
        | here => exact .here
        | sub h2 e3 e4 f =>
          rw [hq'] at h2; cases h2
          obtain ⟨s', e5, f'⟩ := back _ _ _ _ e3 e4 f
          exact .sub h e3 e5 f'
      · cases f with
        | here => exact .here
        | @sub _ _ _ j u s _ h2 e3 e4 f =>
          rw [h] at h2; cases h2
          by_cases hj : j = k
          · subst hj
            rw [e1] at e3; cases e3
            rw [e2] at e4; cases e4
            exact .sub hq' e1 (List.getElem?_set_self hk) ((f1 a).mpr f)
          · exact .sub hq' e3 (by rw [List.getElem?_set_ne (Ne.symm hj)]; exact e4) (f.to (same j u s hj e3 e4))
theorem tr_fo {l : L} {t : Tr} {v : V} (e : l.tr = some t) : (cellR K G H v l ↔ TR K G H v t) ∧ ∀ a, Fo H l v a ↔ Foot H v t a := by
  cases l <;> cases e <;> exact ⟨Iff.rfl, fun _ => Iff.rfl⟩
theorem putT_tr {l : L} {t u : Tr} (e : l.tr = some t) : (l.putT u).tr = some u := by cases l <;> cases e <;> rfl
theorem Rel.changeT (r : Rel K G H σ ρ) {i : Nat} {l : L} {t0 : Tr} {v0 : V} (e : ρ[i]? = some (some l)) (m : l.tr = some t0) (s : σ[i]? = some (some v0)) {p : List Nat} {o : Addr} {vs vs' : List V} {ts ts' : List Tr} (n : NodeAt H v0 t0 p (.ref o) (.ls ts)) (ho : H o = some (.lst vs)) (c : Chg K G vs ts vs' ts') :
    Rel K G (upd H o (.lst vs')) σ (ρ.set i (some (l.putT (updT t0 p (.ls ts'))))) ∧ Stp G H σ ρ G (upd H o (.lst vs')) σ (ρ.set i (some (l.putT (updT t0 p (.ls ts'))))) := by
  have c0 := (tr_fo (K := K) (G := G) (H := H) m).1.mp (r.at_ e s)
  obtain ⟨c1, f1⟩ := TR.updAt n rfl rfl ho c c0
  have fo : Fo H l v0 o := ((tr_fo (K := K) (G := G) m).2 o).mpr (n.foot .here)
  have go : G o = none := (r.own ⟨i, l, v0, e, s, fo⟩).1
  have away : ∀ a, OwnX H σ ρ i a → a ≠ o := fun a ha z => by subst z; exact r.notX e s fo ha
  have m' := putT_tr (u := updT t0 p (.ls ts')) m
  obtain ⟨r', ow⟩ := r.set1 (G' := G) (H' := upd H o (.lst vs')) (v' := v0) (l' := l.putT (updT t0 p (.ls ts'))) e (Same.refl _) (fun b x q => by rw [upd_ne (ne_of_none q go)]; exact r.sub b x q)
    (fun a ha => (r.own ha.own).1) (fun a ha => upd_ne (away a ha)) ((tr_fo m').1.mpr c1) (fun a f z => by
      have f' := (f1 a).mp (((tr_fo (K := K) (G := G) m').2 a).mp f)
      exact r.notX e s (((tr_fo (K := K) (G := G) m).2 a).mpr f') z)
  rw [set_id s] at r' ow
  refine ⟨r', ⟨Same.refl _, fun a x q n' => ?_, fun a q => .inl q, fun a q => .inl ?_, tracked_upd, by rw [List.length_set], fun j ds q => ⟨rfl, ?_⟩, fun j t q => ⟨rfl, ?_⟩⟩⟩
  · have ha : a ≠ o := fun z => by subst z; exact n' ⟨i, l, v0, e, s, fo⟩
    rw [upd_ne ha]; exact q
  · rcases ow a q with z | z
    · exact z.own
    · exact ⟨i, l, v0, e, s, ((tr_fo (K := K) (G := G) m).2 a).mpr ((f1 a).mp (((tr_fo (K := K) (G := G) m').2 a).mp z))⟩
  · have hj : j ≠ i := fun z => by subst z; rw [e] at q; cases q; cases m
    exact ⟨ds, by rw [List.getElem?_set_ne (Ne.symm hj)]; exact q⟩
  · by_cases hj : j = i
    · subst hj
      rw [e] at q; cases q
      cases m
      exact ⟨_, set_same e, fun v a q f => by rw [s] at q; cases q; exact (f1 a).mpr f⟩
    · exact ⟨t, by rw [List.getElem?_set_ne (Ne.symm hj)]; exact q, fun v a sv f => f.to fun b y => upd_ne (away b ⟨j, _, v, hj, q, sv, y⟩)⟩
end
end Dn
namespace Dn
open PySem PySem.Spec PyProof.Rows L2
/-! ### what is looked at and changes nothing -/
abbrev teQ (K : PySem.W.Frag) (f : En → Option D) : TE := fun σ H Q => ∃ G ρ d, Rel K G H σ ρ ∧ f ρ = some d ∧ ∀ v, DR K G v d → Q v H
abbrev VQ (X : Cx) (e : Expr) (f : En → Option D) : Prop := PE X e (teQ X.K f)
def qVar (i : Nat) : En → Option D := fun ρ => match ρ[i]? with
  | some (some (.im d)) => some d
  | _ => none
def qC (d : D) : En → Option D := fun _ => some d
def qOp (g : D → D → Option D) (fa fb : En → Option D) : En → Option D := fun ρ => (fa ρ).bind fun x => (fb ρ).bind fun y => g x y
def q1 (g : D → Option D) (fa : En → Option D) : En → Option D := fun ρ => (fa ρ).bind g
def dQ (f : En → Option D) : En → R D := fun ρ => lift (f ρ) ρ
section
variable {X : Cx} {w : Wh} {a b e : Expr} {fa fb f : En → Option D} {pos p : Pos} {x : Str}
theorem ve_q (h : VQ X e f) : VE X w e (dQ f) := PE.imp h fun σ H Q ⟨G, ρ, rel, h⟩ => by
  obtain ⟨d, e, q⟩ := Fn.lift h
  exact ⟨G, ρ, d, rel, e, fun v hv => q _ _ rel Stp.refl v hv⟩
theorem vq_var (i : Nat) (hN : X.N[i]? = some x := by rfl) (hv : Vis X.env.scope x := by first | exact Or.inl rfl | exact Or.inr (Or.inl rfl) | exact Or.inr (Or.inr rfl)) (hd : (x == ("__debug__" : Str)) = false := by decide)
    (hcd : (x == ("__classdict__" : Str)) = false := by decide) : VQ X (.Name x pos) (qVar i) :=
  PE.imp (pe_var hN hv hd hcd) fun σ H Q ⟨G, ρ, d, rel, e, q⟩ => by
    unfold qVar at e
    split at e
    · rename_i d' e'
      cases e
      obtain ⟨v, s, c⟩ := rel.cell i _ e'
      exact ⟨v, s, q v c⟩
    · cases e
theorem vq_int {i : Int} {j : Nat} : VQ X (.Constant (.int i) j pos) (qC (.int i)) := PE.imp pe_int fun σ H Q ⟨G, ρ, d, rel, e, q⟩ => by cases e; exact q _ (.int i)
theorem vq_neg (ha : VQ X a fa) : VQ X (.UnaryOp .USub a pos) (q1 gNeg fa) :=
  PE.imp (pe_un un_neg ha) fun σ H Q ⟨G, ρ, d, rel, e, q⟩ => by
    simp only [q1, Option.bind_eq_some_iff] at e
    obtain ⟨y, e1, e2⟩ := e
    refine ⟨G, ρ, y, rel, e1, fun v hv => ?_⟩
    cases hv with
    | int i => cases e2; exact ⟨i, rfl, q _ (.int _)⟩
    | _ => cases e2
theorem vq_opI {op : Operator} {C : Int → Int → Prop} {k : Int → Int → Int} {g : D → D → Option D} (ho : OpR X (binaryOp op) (rI C fun i j => .int (k i j))) (hg : ∀ y z d, g y z = some d → ∃ i j, y = .int i ∧ z = .int j ∧ C i j ∧ d = .int (k i j)) (ha : VQ X a fa) (hb : VQ X b fb) : VQ X (.BinOp a op b pos) (qOp g fa fb) :=
  PE.imp (pe_op ho ha hb) fun σ H Q ⟨G, ρ, d, rel, e, q⟩ => by
    simp only [qOp, Option.bind_eq_some_iff] at e
    obtain ⟨y, e1, z, e2, e3⟩ := e
    obtain ⟨i, j, rfl, rfl, hc, rfl⟩ := hg _ _ _ e3
    refine ⟨G, ρ, _, rel, e1, fun u hu => ⟨G, ρ, _, rel, e2, fun v hv => ?_⟩⟩
    cases hu; cases hv
    exact ⟨i, j, rfl, rfl, hc, q _ (.int _)⟩
theorem vq_fdiv (ha : VQ X a fa) (hb : VQ X b fb) : VQ X (.BinOp a .FloorDiv b pos) (qOp gFdiv fa fb) := vq_opI op_fdivX (fun y z d e => by
  cases y <;> cases z <;> first | (cases e; done) | (simp only [gFdiv] at e; split at e <;> cases e; exact ⟨_, _, rfl, rfl, ‹_›, rfl⟩)) ha hb
theorem vq_mod (ha : VQ X a fa) (hb : VQ X b fb) : VQ X (.BinOp a .Mod b pos) (qOp gMod fa fb) := vq_opI op_modN (fun y z d e => by
  cases y <;> cases z <;> first | (cases e; done) | (simp only [gMod] at e; split at e <;> cases e; exact ⟨_, _, rfl, rfl, ‹_›, rfl⟩)) ha hb
def gAddI : D → D → Option D
  | .int i, .int j => some (.int (i + j))
  | _, _ => none
theorem vq_add (ha : VQ X a fa) (hb : VQ X b fb) : VQ X (.BinOp a .Add b pos) (qOp gAddI fa fb) := PE.imp (pe_op op_add ha hb) fun σ H Q ⟨G, ρ, d, rel, e, q⟩ => by
  simp only [qOp, Option.bind_eq_some_iff] at e
  obtain ⟨y, e1, z, e2, e3⟩ := e
  refine ⟨G, ρ, _, rel, e1, fun u hu => ⟨G, ρ, _, rel, e2, fun v hv => ?_⟩⟩
  cases y <;> cases z <;> first | (cases e3; done) | skip
  cases e3; cases hu; cases hv
  exact ⟨_, _, rfl, rfl, q _ (.int _)⟩
theorem vq_sub (ha : VQ X a fa) (hb : VQ X b fb) : VQ X (.BinOp a .Sub b pos) (qOp gSub fa fb) := PE.imp (pe_op op_sub ha hb) fun σ H Q ⟨G, ρ, d, rel, e, q⟩ => by
  simp only [qOp, Option.bind_eq_some_iff] at e
  obtain ⟨y, e1, z, e2, e3⟩ := e
  refine ⟨G, ρ, _, rel, e1, fun u hu => ⟨G, ρ, _, rel, e2, fun v hv => ?_⟩⟩
  cases y <;> cases z <;> first | (cases e3; done) | skip
  cases e3; cases hu; cases hv
  exact ⟨_, _, rfl, rfl, q _ (.int _)⟩
theorem vq_ix (ha : VQ X a fa) (hb : VQ X b fb) (hp : PlainIx b := by exact fun _ _ => rfl) : VQ X (.Subscript a b pos) (qOp gIx fa fb) :=
  PE.imp (pe_ix ix_seq ha hb hp) fun σ H Q ⟨G, ρ, d, rel, e, q⟩ => by
    simp only [qOp, Option.bind_eq_some_iff] at e
    obtain ⟨y, e1, z, e2, e3⟩ := e
    exact ⟨G, ρ, y, rel, e1, fun u hu => ⟨G, ρ, z, rel, e2, fun v hv => gIx_ok rel (.im hu) hv e3 q⟩⟩
/-! #### places in a tree -/
def tePl (K : PySem.W.Frag) (i : Nat) (fp : En → Option (List Nat)) : TE := fun σ H Q => ∃ G ρ l v0 t0 p t, Rel K G H σ ρ ∧ ρ[i]? = some (some l) ∧ l.tr = some t0 ∧ σ[i]? = some (some v0) ∧ fp ρ = some p ∧ subT t0 p = some t ∧ ∀ v, NodeAt H v0 t0 p v t → Q v H
abbrev VPl (X : Cx) (e : Expr) (i : Nat) (fp : En → Option (List Nat)) : Prop := PE X e (tePl X.K i fp)
def rootT (c : Option (Option L)) : Option Tr := match c with
  | some (some l) => l.tr
  | _ => none
/-- what stands at a place -/
def nodeQ (i : Nat) (fp : En → Option (List Nat)) (ρ : En) : Option Tr := (rootT ρ[i]?).bind fun t0 => (fp ρ).bind fun p => subT t0 p
def pVar : En → Option (List Nat) := fun _ => some []
def ixT (t : Option Tr) (p : Option (List Nat)) (k : Option D) : Option (List Nat) := match t, p, k with
  | some (.ls ts), some p, some (.int z) => (ixN ts.length z).map fun j => p ++ [j]
  | _, _, _ => none
def pIx (i : Nat) (fp : En → Option (List Nat)) (fk : En → Option D) : En → Option (List Nat) := fun ρ => ixT (nodeQ i fp ρ) (fp ρ) (fk ρ)
def itT (t : Option Tr) (k : Option D) : Option D := match t, k with
  | some (.ls ts), some (.int z) => match L2.atI ts z with
    | some (.im d) => some d
    | _ => none
  | _, _ => none
def qItem (i : Nat) (fp : En → Option (List Nat)) (fk : En → Option D) : En → Option D := fun ρ => itT (nodeQ i fp ρ) (fk ρ)
def lenT (t : Option Tr) : Option D := match t with
  | some (.ls ts) => some (.int ts.length)
  | _ => none
def qLenT (i : Nat) (fp : En → Option (List Nat)) : En → Option D := fun ρ => lenT (nodeQ i fp ρ)
theorem subT_snoc : ∀ {t : Tr} {p : List Nat} {ts : List Tr} {j : Nat} {u : Tr}, subT t p = some (.ls ts) → ts[j]? = some u → subT t (p ++ [j]) = some u
  | t, [], ts, j, u, h, e => by
    unfold subT at h; cases h
    show subT (.ls ts) [j] = some u
    unfold subT; rw [e]; unfold subT; rfl
  | .im d, k :: p, ts, j, u, h, e => by unfold subT at h; cases h
  | .ls us, k :: p, ts, j, u, h, e => by
    unfold subT at h
    split at h
    · rename_i t e1
      show subT (.ls us) (k :: (p ++ [j])) = some u
      unfold subT; rw [e1]
      exact subT_snoc h e
    · cases h
theorem vpl_var (i : Nat) (hN : X.N[i]? = some x := by rfl) (hv : Vis X.env.scope x := by first | exact Or.inl rfl | exact Or.inr (Or.inl rfl) | exact Or.inr (Or.inr rfl)) (hd : (x == ("__debug__" : Str)) = false := by decide)
    (hcd : (x == ("__classdict__" : Str)) = false := by decide) : VPl X (.Name x pos) i pVar :=
  PE.imp (pe_var hN hv hd hcd) fun σ H Q ⟨G, ρ, l, v0, t0, p, t, rel, e, m, s, ep, es, q⟩ => by
    cases ep
    unfold subT at es; cases es
    exact ⟨v0, s, q v0 .nil⟩
/-- the node's list, and its items -/
theorem node_at {K : PySem.W.Frag} {G H : Hp} {σ : L2.St} {ρ : En} {i : Nat} {l : L} {v0 v : V} {t0 : Tr} {p : List Nat} {ts : List Tr} (rel : Rel K G H σ ρ) (e : ρ[i]? = some (some l)) (m : l.tr = some t0) (s : σ[i]? = some (some v0)) (n : NodeAt H v0 t0 p v (.ls ts)) :
    ∃ o vs, v = .ref o ∧ H o = some (.lst vs) ∧ vs.length = ts.length ∧ TR K G H v (.ls ts) := by
  have r := n.tr ((tr_fo m).1.mp (rel.at_ e s))
  obtain ⟨o, vs, ev, _, ho, hl⟩ := r.list
  exact ⟨o, vs, ev, ho, hl, r⟩
theorem atI_two {vs : List V} {ts : List Tr} {z : Int} {t : Tr} (hl : vs.length = ts.length) (e : L2.atI ts z = some t) : ∃ (j : Nat) (v : V), ixN ts.length z = some j ∧ ts[j]? = some t ∧ vs[j]? = some v ∧ L2.atI vs z = some v := by
  unfold L2.atI at e ⊢
  rw [hl]
  cases q : ixN ts.length z with
  | none => rw [q] at e; cases e
  | some j =>
    rw [q] at e
    have ht : ts[j]? = some t := e
    have hj : j < vs.length := by rw [hl]; exact (List.getElem?_eq_some_iff.mp ht).1
    exact ⟨j, vs[j], rfl, ht, List.getElem?_eq_getElem hj, List.getElem?_eq_getElem hj⟩
theorem atI_ix {ts : List Tr} {z : Int} {j : Nat} (h : ixN ts.length z = some j) : L2.atI ts z = ts[j]? := by
  unfold L2.atI; rw [h]; rfl
theorem vpl_ix {i : Nat} {fp : En → Option (List Nat)} (ha : VPl X a i fp) (hb : VQ X b fb) (hp : PlainIx b := by exact fun _ _ => rfl) : VPl X (.Subscript a b pos) i (pIx i fp fb) :=
  PE.imp (pe_ix ix_seq ha hb hp) fun σ H Q ⟨G, ρ, l, v0, t0, p, t, rel, e, m, s, ep, es, q⟩ => by
    unfold pIx ixT at ep
    split at ep
    · rename_i ts p1 z e1 e2 e3
      simp only [Option.map_eq_some_iff] at ep
      obtain ⟨j, ej, rfl⟩ := ep
      have es1 : subT t0 p1 = some (.ls ts) := by
        unfold nodeQ rootT at e1
        rw [e] at e1
        simp only [m, e2, Option.bind_some] at e1
        exact e1
      refine ⟨G, ρ, l, v0, t0, p1, .ls ts, rel, e, m, s, e2, es1, fun u nd => ⟨G, ρ, _, rel, e3, fun w' hw => ?_⟩⟩
      obtain ⟨o, vs, rfl, ho, hl, tr⟩ := node_at rel e m s nd
      have hj : j < ts.length := (ixN_seq ej).2.1
      have et : ts[j]? = some t := by
        have := subT_snoc es1 (List.getElem?_eq_getElem hj)
        rw [es] at this; cases this; exact List.getElem?_eq_getElem hj
      obtain ⟨j', v, ej', et', ev, ea⟩ := atI_two (z := z) hl (by rw [atI_ix ej]; exact et)
      rw [ej] at ej'; cases ej'
      cases hw
      exact .inl ⟨o, vs, z, v, rfl, rfl, .inl (.inl ho), ea, q v (nd.snoc ho ev et)⟩
    · cases ep
theorem vq_item {i : Nat} {fp : En → Option (List Nat)} (ha : VPl X a i fp) (hb : VQ X b fb) (hp : PlainIx b := by exact fun _ _ => rfl) : VQ X (.Subscript a b pos) (qItem i fp fb) :=
  PE.imp (pe_ix ix_seq ha hb hp) fun σ H Q ⟨G, ρ, d, rel, ed, q⟩ => by
    unfold qItem itT at ed
    split at ed
    · rename_i ts z e1 e3
      split at ed
      · rename_i d' ea
        cases ed
        unfold nodeQ rootT at e1
        simp only [Option.bind_eq_some_iff] at e1
        obtain ⟨t0, e0, p1, e2, es1⟩ := e1
        split at e0
        · rename_i l el
          obtain ⟨v0, s, _⟩ := rel.cell i l el
          refine ⟨G, ρ, l, v0, t0, p1, .ls ts, rel, el, e0, s, e2, es1, fun u nd => ⟨G, ρ, _, rel, e3, fun w' hw => ?_⟩⟩
          obtain ⟨o, vs, rfl, ho, hl, tr⟩ := node_at rel el e0 s nd
          obtain ⟨j, v, ej, et, ev, ea'⟩ := atI_two (z := z) hl ea
          cases hw
          have hv : DR X.K G v d := by
            cases tr with
            | ls g h l c n dj => rw [ho] at h; cases h; cases c j v _ ev et with | im h => exact h
          exact .inl ⟨o, vs, z, v, rfl, rfl, .inl (.inl ho), ea', q v hv⟩
        · cases e0
      · cases ed
    · cases ed
theorem vq_lenT {i : Nat} {fp : En → Option (List Nat)} (hg : Gl X "len") (hm : X.mg "len" = none) (ha : VPl X a i fp) (he : starEach [a] X.env = [(false, eval a X.env)] := by rfl) : VQ X (.Call (.Name "len" p) [a] [] pos) (qLenT i fp) :=
  PE.imp (pe_callB call_len hg hm PySem.boot_len (pa_cons ha pa_nil (by rw [he]; rfl)) (by decide) (by decide) (by rw [he]; rfl) (by rfl)) fun σ H Q ⟨G, ρ, d, rel, ed, q⟩ => by
    unfold qLenT lenT at ed
    split at ed
    · rename_i ts e1
      cases ed
      unfold nodeQ rootT at e1
      simp only [Option.bind_eq_some_iff] at e1
      obtain ⟨t0, e0, p1, e2, es1⟩ := e1
      split at e0
      · rename_i l el
        obtain ⟨v0, s, _⟩ := rel.cell i l el
        refine ⟨G, ρ, l, v0, t0, p1, .ls ts, rel, el, e0, s, e2, es1, fun u nd => ?_⟩
        obtain ⟨o, vs, rfl, ho, hl, tr⟩ := node_at rel el e0 s nd
        exact ⟨_, ts.length, rfl, .inl ⟨vs, .inl (.inl ho), hl.symm⟩, q _ (.int _)⟩
      · cases e0
    · cases ed
/-! #### changes -/
def appT (t : Option Tr) (p : Option (List Nat)) (d : Option D) (i : Nat) (ρ : En) : R Fl := match t, p, d with
  | some (.ls ts), some p, some d => if ts.length < sizeLine then (match ρ[i]? with
    | some (some l) => (match l.tr with
      | some t0 => .ok .nx (ρ.set i (some (l.putT (updT t0 p (.ls (ts ++ [.im d]))))))
      | none => .no)
    | _ => .no) else .no
  | _, _, _ => .no
def dAppT (i : Nat) (fp : En → Option (List Nat)) (fa : En → Option D) : En → R Fl := fun ρ => appT (nodeQ i fp ρ) (fp ρ) (fa ρ) i ρ
theorem Chg.app {K : PySem.W.Frag} {G : Hp} {vs : List V} {ts : List Tr} {v : V} {d : D} (hl : vs.length = ts.length) (hv : DR K G v d) : Chg K G vs ts (vs ++ [v]) (ts ++ [.im d]) where
  len := by simp [hl]
  new := fun k u t e1 e2 => by
    by_cases h : k < vs.length
    · rw [List.getElem?_append_left h] at e1
      rw [List.getElem?_append_left (by omega)] at e2
      exact .inl ⟨e1, e2⟩
    · rw [List.getElem?_append_right (by omega)] at e1
      rw [List.getElem?_append_right (by omega)] at e2
      have : k - vs.length = 0 := by
        have := (List.getElem?_eq_some_iff.mp e1).1
        simpa using this
      rw [this] at e1; rw [← hl, this] at e2
      cases e1; cases e2
      exact .inr ⟨d, rfl, hv⟩
  old := fun k u t e1 e2 => .inl ⟨by rw [List.getElem?_append_left (List.getElem?_eq_some_iff.mp e1).1]; exact e1, by rw [List.getElem?_append_left (List.getElem?_eq_some_iff.mp e2).1]; exact e2⟩
theorem Chg.set {K : PySem.W.Frag} {G : Hp} {vs : List V} {ts : List Tr} {v : V} {d d0 : D} {j : Nat} (hl : vs.length = ts.length) (h0 : ts[j]? = some (.im d0)) (hv : DR K G v d) : Chg K G vs ts (vs.set j v) (ts.set j (.im d)) where
  len := by simp [hl]
  new := fun k u t e1 e2 => by
    have hj : j < ts.length := (List.getElem?_eq_some_iff.mp h0).1
    by_cases h : k = j
    · subst h
      rw [List.getElem?_set_self (by omega)] at e1
      rw [List.getElem?_set_self hj] at e2
      cases e1; cases e2
      exact .inr ⟨d, rfl, hv⟩
    · rw [List.getElem?_set_ne (Ne.symm h)] at e1 e2
      exact .inl ⟨e1, e2⟩
  old := fun k u t e1 e2 => by
    by_cases h : k = j
    · subst h; rw [h0] at e2; cases e2; exact .inr ⟨d0, rfl⟩
    · exact .inl ⟨by rw [List.getElem?_set_ne (Ne.symm h)]; exact e1, by rw [List.getElem?_set_ne (Ne.symm h)]; exact e2⟩
theorem vs_appT {i : Nat} {fp : En → Option (List Nat)} {apos pos2 : Pos} (ha : VPl X a i fp) (he : VQ X e f)
    (hbase : attributeBase a "append" X.env (eval a X.env) = eval a X.env := by rfl) (hline : (apos.endLine == pos.line) = true := by rfl)
    (hfew : ((backTo pos (starEach [e] X.env)).all (fun x => !x.1) && (backToKw pos (keywordEach [] X.env)).all (fun x => x.1.isSome) && decide (([e] : List Expr).length + ([] : List Keyword).length + (if ([] : List Keyword).isEmpty then 0 else 1) < 30)) = true := by rfl)
    (hs : starEach [e] X.env = (false, eval e X.env) :: starEach [] X.env := by rfl) (hsw : swapsWith (.Call (.Attribute a "append" apos) [e] [] pos) none pos2.line X.env = pure false := by rfl) :
    VS X w (.Expr (.Call (.Attribute a "append" apos) [e] [] pos) pos2) (dAppT i fp f) :=
  PS.imp (ps_expr (pe_bm PySem.F.plainAttrs_list PySem.F.slot_list_append PySem.F.type_list_append mt_append ha (pa_cons he pa_nil hs) hbase hfew hline hs (by rfl)) hsw) fun Z σ H ⟨G, ρ, rel, h⟩ => by
    unfold dAppT appT at h
    split at h
    · rename_i ts p1 d e1 e2 e3
      split at h
      · rename_i hz
        split at h
        · rename_i l el
          split at h
          · rename_i t0 e0
            obtain ⟨v0, s, _⟩ := rel.cell i l el
            have es1 : subT t0 p1 = some (.ls ts) := by
              unfold nodeQ rootT at e1
              rw [el] at e1
              simp only [e0, e2, Option.bind_some] at e1
              exact e1
            refine ⟨G, ρ, l, v0, t0, p1, .ls ts, rel, el, e0, s, e2, es1, fun u nd => ?_⟩
            obtain ⟨o, vs, rfl, ho, hl, tr⟩ := node_at rel el e0 s nd
            refine ⟨.inl ⟨rfl, vs, .inl (.inl ho)⟩, G, ρ, d, rel, e3, fun v hv => ?_⟩
            obtain ⟨r2, s2⟩ := rel.changeT el e0 s nd ho (Chg.app hl hv)
            exact ⟨o, vs, v, rfl, rfl, ho, by rw [hl]; exact hz, FnS.nx h r2 s2⟩
          · exact h.elim
        · exact h.elim
      · exact h.elim
    · exact h.elim
/-! #### trees that are written -/
structure NewTs (K : PySem.W.Frag) (H : Hp) (σ : L2.St) (G' H' : Hp) (ρ' : En) (vs : List V) (ts : List Tr) : Prop where
  len : vs.length = ts.length
  tr : ∀ (k : Nat) (v : V) (t : Tr), vs[k]? = some v → ts[k]? = some t → TR K G' H' v t
  new : ∀ (k : Nat) (v : V) (t : Tr) (a : Addr), vs[k]? = some v → ts[k]? = some t → Foot H' v t a → ¬ Own H' σ ρ' a ∧ H a = none
  dj : ∀ (j k : Nat) (v u : V) (t s : Tr) (a : Addr), vs[j]? = some v → ts[j]? = some t → vs[k]? = some u → ts[k]? = some s → Foot H' v t a → Foot H' u s a → j = k
abbrev VNs (X : Cx) (w : Wh) (es : List Expr) (ga : En → R (List Tr)) : Prop := PA X es (fun σ H Q => ∃ G ρ, Rel X.K G H σ ρ ∧ Fn X.K w G H σ ρ (ga ρ) (fun G' H' ρ' ts => ∀ vs, NewTs X.K H σ G' H' ρ' vs ts → Q vs H'))
def tNil : En → R (List Tr) := fun ρ => .ok [] ρ
def tIm (f : En → R D) (g : En → R (List Tr)) : En → R (List Tr) := fun ρ => (f ρ).bind fun d ρ1 => (g ρ1).bind fun ts ρ2 => .ok (.im d :: ts) ρ2
def tNew (f : En → R (List D)) (g : En → R (List Tr)) : En → R (List Tr) := fun ρ => (f ρ).bind fun ds ρ1 => (g ρ1).bind fun ts ρ2 => .ok (.ls (ds.map .im) :: ts) ρ2
variable {es : List Expr} {fe : En → R D} {fl : En → R (List D)} {ga : En → R (List Tr)}
theorem vns_nil : VNs X w [] tNil := PA.imp pa_nil fun σ H Q ⟨G, ρ, rel, h⟩ => (show Fn X.K w G H σ ρ (.ok [] ρ) _ from h) G H rel Stp.refl [] ⟨rfl, fun k v t e => by simp at e, fun k v t a e => by simp at e, fun j k v u t s a e => by simp at e⟩
theorem vns_im (he : VE X w e fe) (ht : VNs X w es ga) (hs : starEach (e :: es) X.env = (false, eval e X.env) :: starEach es X.env := by rfl) : VNs X w (e :: es) (tIm fe ga) :=
  PA.imp (pa_cons he ht hs) fun σ H Q ⟨G, ρ, rel, h⟩ => ⟨G, ρ, rel, (Fn.bind rel h).imp fun G1 H1 ρ1 d ⟨r1, s1, h1⟩ v hv => ⟨G1, ρ1, r1, (Fn.bind r1 h1).imp fun G2 H2 ρ2 ts ⟨r2, s2, h2⟩ vs hvs => by
    refine (show Fn X.K w G2 H2 σ ρ2 (.ok (.im d :: ts) ρ2) _ from h2) G2 H2 r2 Stp.refl (v :: vs) ⟨by simp [hvs.len], fun k u t e1 e2 => ?_, fun k u t a e1 e2 f => ?_, fun j k u u2 t t2 a e1 e2 e3 e4 f1 f2 => ?_⟩
    · cases k with
      | zero => cases e1; cases e2; exact .im (hv.mono s2.g)
      | succ k => exact hvs.tr k u t (by simpa using e1) (by simpa using e2)
    · cases k with
      | zero => cases e1; cases e2; cases f
      | succ k =>
        obtain ⟨n1, n2⟩ := hvs.new k u t a (by simpa using e1) (by simpa using e2) f
        refine ⟨n1, ?_⟩
        cases q : H a with
        | none => rfl
        | some o => exact absurd n2 (s1.tr a (by rw [q]; exact fun z => nomatch z))
    · cases j with
      | zero => cases e1; cases e2; cases f1
      | succ j =>
        cases k with
        | zero => cases e3; cases e4; cases f2
        | succ k => exact congrArg (· + 1) (hvs.dj j k u u2 t t2 a (by simpa using e1) (by simpa using e2) (by simpa using e3) (by simpa using e4) f1 f2)⟩⟩
theorem flat_tr {K : PySem.W.Frag} {G H : Hp} {p : Addr} {us : List V} {ds : List D} (hg : G p = none) (hp : H p = some (.lst us)) (hd : DRs K G us ds) : TR K G H (.ref p) (.ls (ds.map .im)) ∧ ∀ a, Foot H (.ref p) (.ls (ds.map .im)) a → a = p := by
  have im_ : ∀ (k : Nat) (t : Tr), (ds.map Tr.im)[k]? = some t → ∃ d, ds[k]? = some d ∧ t = .im d := fun k t e => by
    rw [List.getElem?_map, Option.map_eq_some_iff] at e
    obtain ⟨d, e, rfl⟩ := e
    exact ⟨d, e, rfl⟩
  refine ⟨.ls hg hp (by rw [List.length_map]; exact hd.length) (fun k v t e1 e2 => ?_) (fun k v t e1 e2 f => ?_) (fun j k v u t s a e1 e2 e3 e4 f1 f2 => ?_), fun a f => ?_⟩
  · obtain ⟨d, e, rfl⟩ := im_ k t e2
    obtain ⟨v', e', h⟩ := hd.get e
    rw [e1] at e'; cases e'
    exact .im h
  · obtain ⟨d, e, rfl⟩ := im_ k t e2; cases f
  · obtain ⟨d, e, rfl⟩ := im_ j t e2; cases f1
  · cases f with
    | here => rfl
    | sub h e1 e2 f => obtain ⟨d, e, rfl⟩ := im_ _ _ e2; cases f
theorem vns_new (he : VN X w e fl) (ht : VNs X w es ga) (hs : starEach (e :: es) X.env = (false, eval e X.env) :: starEach es X.env := by rfl) : VNs X w (e :: es) (tNew fl ga) :=
  PA.imp (pa_cons he ht hs) fun σ H Q ⟨G, ρ, rel, h⟩ => ⟨G, ρ, rel, (Fn.bind rel h).imp fun G1 H1 ρ1 ds ⟨r1, s1, h1⟩ p hn => ⟨G1, ρ1, r1, (Fn.bind r1 h1).imp fun G2 H2 ρ2 ts ⟨r2, s2, h2⟩ vs hvs => by
    have na : NewAt X.K G2 H2 σ ρ2 p ds := NewAt.step ⟨hn.g, hn.own, hn.here⟩ s2
    obtain ⟨us, hu, hd⟩ := na.here
    obtain ⟨tr0, f0⟩ := flat_tr na.g hu hd
    have old : H1 p ≠ none := by obtain ⟨us', h', _⟩ := hn.here; rw [h']; exact fun z => nomatch z
    refine (show Fn X.K w G2 H2 σ ρ2 (.ok (.ls (ds.map .im) :: ts) ρ2) _ from h2) G2 H2 r2 Stp.refl (.ref p :: vs) ⟨by simp [hvs.len], fun k u t e1 e2 => ?_, fun k u t a e1 e2 f => ?_, fun j k u u2 t t2 a e1 e2 e3 e4 f1 f2 => ?_⟩
    · cases k with
      | zero => cases e1; cases e2; exact tr0
      | succ k => exact hvs.tr k u t (by simpa using e1) (by simpa using e2)
    · cases k with
      | zero =>
        cases e1; cases e2
        have := f0 a f
        subst this
        exact ⟨na.own, hn.new⟩
      | succ k =>
        obtain ⟨n1, n2⟩ := hvs.new k u t a (by simpa using e1) (by simpa using e2) f
        refine ⟨n1, ?_⟩
        cases q : H a with
        | none => rfl
        | some o => exact absurd n2 (s1.tr a (by rw [q]; exact fun z => nomatch z))
    · cases j with
      | zero =>
        cases e1; cases e2
        cases k with
        | zero => rfl
        | succ k =>
          have := f0 a f1
          subst this
          exact absurd (hvs.new k u2 t2 a (by simpa using e3) (by simpa using e4) f2).2 old
      | succ j =>
        cases k with
        | zero =>
          cases e3; cases e4
          have := f0 a f2
          subst this
          exact absurd (hvs.new j u t a (by simpa using e1) (by simpa using e2) f1).2 old
        | succ k => exact congrArg (· + 1) (hvs.dj j k u u2 t t2 a (by simpa using e1) (by simpa using e2) (by simpa using e3) (by simpa using e4) f1 f2)⟩⟩
end
end Dn
namespace Dn
open PySem PySem.Spec PyProof.Rows L2
section
variable {K : PySem.W.Frag} {G H : Hp} {σ : L2.St} {ρ : En}
/-- the slot i takes a new tree of its own -/
theorem Rel.putT (r : Rel K G H σ ρ) {i : Nat} {c : Option L} (hi : ρ[i]? = some c) {v : V} {t : Tr} (tr : TR K G H v t) (hn : ∀ a, Foot H v t a → ¬ Own H σ ρ a) :
    Rel K G H (σ.set i (some v)) (ρ.set i (some (.ot t))) ∧ ∀ a, Own H (σ.set i (some v)) (ρ.set i (some (.ot t))) a → Own H σ ρ a ∨ Foot H v t a := by
  obtain ⟨r', ow⟩ := r.set1 (G' := G) (H' := H) (v' := v) (l' := .ot t) hi (Same.refl _) r.sub (fun a h => (r.own h.own).1) (fun a _ => rfl) tr (fun a f z => hn a f z.own)
  refine ⟨r', fun a h => ?_⟩
  rcases ow a h with z | z
  · exact .inl z.own
  · exact .inr z
theorem Stp.putT {G0 H0 : Hp} {σ0 : L2.St} {ρ0 : En} (s : Stp G0 H0 σ0 ρ0 G H σ ρ) (r : Rel K G H σ ρ) {i : Nat} {c : Option L} (hi : ρ[i]? = some c) (hb : ∀ ds, c ≠ some (L.bo ds)) (ht : ∀ t, c ≠ some (L.bt t)) {v : V} {t : Tr} (tr : TR K G H v t) (hn : ∀ a, Foot H v t a → ¬ Own H σ ρ a) (h0 : ∀ a, Foot H v t a → H0 a = none) :
    Stp G0 H0 σ0 ρ0 G H (σ.set i (some v)) (ρ.set i (some (.ot t))) := by
  obtain ⟨_, ow⟩ := r.putT hi tr hn
  refine ⟨s.g, s.h, s.fr, fun a h => ?_, s.tr, by rw [List.length_set]; exact s.ln, fun j es e => ?_, fun j t e => ?_⟩
  · rcases ow a h with z | z
    · exact s.ow a z
    · exact .inr (h0 a z)
  · obtain ⟨e1, ds', e2⟩ := s.bo j es e
    have hj : j ≠ i := fun z => by subst z; rw [hi] at e2; exact hb ds' (Option.some.inj e2)
    exact ⟨(List.getElem?_set_ne (Ne.symm hj)).trans e1, ds', by rw [List.getElem?_set_ne (Ne.symm hj)]; exact e2⟩
  · obtain ⟨e1, t', e2, f2⟩ := s.bt j t e
    have hj : j ≠ i := fun z => by subst z; rw [hi] at e2; exact ht t' (Option.some.inj e2)
    exact ⟨(List.getElem?_set_ne (Ne.symm hj)).trans e1, t', by rw [List.getElem?_set_ne (Ne.symm hj)]; exact e2, f2⟩
end
def dAsgT (i : Nat) (ga : En → R (List Tr)) : En → R Fl := fun ρ => (ga ρ).bind fun ts ρ1 => if ts.length ≤ sizeLine then (if free ρ1[i]? = true then .ok .nx (ρ1.set i (some (.ot (.ls ts)))) else .no) else .no
section
variable {X : Cx} {w : Wh} {es : List Expr} {ga : En → R (List Tr)} {x : Str} {pos : Pos}
theorem vs_asgT (i : Nat) {pos' lpos : Pos} (hN : X.N.Nodup) (h : VNs X w es ga) (hi : X.N[i]? = some x := by rfl) (hx : Loc X.env.scope x := by first | exact Or.inl rfl | exact Or.inr rfl) (hs : swapsWith (.List es lpos) (some (.Name x pos')) pos.line X.env = pure false := by rfl)
    (hf : X.fn x = true ∨ X.env.scope.names.lookup x = some .local := by first | exact .inl rfl | exact .inr rfl | assumption) : VS X w (.Assign [.Name x pos'] (.List es lpos) pos) (dAsgT i ga) :=
  PS.imp (ps_set hN hi hx (pe_lst h) hs hf) fun D σ H ⟨G, ρ, rel, h⟩ => ⟨G, ρ, rel, by
    unfold dAsgT at h
    cases q : ga ρ with
    | no => rw [q] at h; exact h
    | ex c ρ' => rw [q] at h; exact fun G' H' cls dx r1 s1 x => h G' H' σ cls dx r1 s1 x
    | ok ts ρ1 =>
      rw [q] at h
      intro G1 H1 r1 s1 vs hvs
      have h1 : FnS X.K w G H σ ρ (if ts.length ≤ sizeLine then (if free ρ1[i]? = true then .ok .nx (ρ1.set i (some (.ot (.ls ts)))) else .no) else .no) D := h
      split at h1
      · rename_i hz
        split at h1
        · rename_i hf
          refine ⟨by rw [hvs.len]; exact hz, fun p hp => ?_⟩
          obtain ⟨c, hc, hb, ht⟩ := free_ok hf
          obtain ⟨r2, s2⟩ := r1.laidM (o := .lst vs) hp
          have hp0 : H p = none := by
            cases q : H p with
            | none => rfl
            | some o => exact absurd hp (s1.tr p (by rw [q]; exact fun z => nomatch z))
          have np : ∀ (k : Nat) (v : V) (t : Tr) (a : Addr), vs[k]? = some v → ts[k]? = some t → Foot H1 v t a → upd H1 p (.lst vs) a = H1 a := fun k v t a e1 e2 f => by
            obtain ⟨_, us, q⟩ := (hvs.tr k v t e1 e2).foot f
            exact upd_ne fun z => by subst z; rw [hp] at q; cases q
          have back : ∀ (k : Nat) (v : V) (t : Tr) (a : Addr), vs[k]? = some v → ts[k]? = some t → Foot (upd H1 p (.lst vs)) v t a → Foot H1 v t a := fun k v t a e1 e2 f => f.from fun b q => np k v t b e1 e2 q
          have tr : TR X.K G1 (upd H1 p (.lst vs)) (.ref p) (.ls ts) := by
            refine .ls (Same.free r1.sub hp) upd_same hvs.len (fun k v t e1 e2 => ?_) (fun k v t e1 e2 f => ?_) (fun j k v u t s a e1 e2 e3 e4 f1 f2 => ?_)
            · exact (hvs.tr k v t e1 e2).keep (Same.refl _) (fun a f => ((hvs.tr k v t e1 e2).foot f).1) (fun a f => np k v t a e1 e2 f)
            · obtain ⟨_, us, q⟩ := (hvs.tr k v t e1 e2).foot (back k v t p e1 e2 f)
              rw [hp] at q; cases q
            · exact hvs.dj j k v u t s a e1 e2 e3 e4 (back j v t a e1 e2 f1) (back k u s a e3 e4 f2)
          have h0 : ∀ a, Foot (upd H1 p (.lst vs)) (.ref p) (.ls ts) a → ¬ Own (upd H1 p (.lst vs)) σ ρ1 a ∧ H a = none := fun a f => by
            cases f with
            | here => exact ⟨fun z => not_own r1 hp ((own_upd r1 hp _).mp z), hp0⟩
            | sub h e1 e2 f =>
              rw [upd_same] at h; cases h
              obtain ⟨n1, n2⟩ := hvs.new _ _ _ _ e1 e2 (back _ _ _ _ e1 e2 f)
              exact ⟨fun z => n1 ((own_upd r1 hp _).mp z), n2⟩
          have st := s1.trans rel s2
          exact FnS.nx h1 (r2.putT hc tr fun a f => (h0 a f).1).1 (st.putT r2 hc hb ht tr (fun a f => (h0 a f).1) (fun a f => (h0 a f).2))
        · exact h1.elim
      · exact h1.elim⟩
end
/-! reckoning -/
@[simp] theorem dQ_eq (f : En → Option D) (ρ : En) : dQ f ρ = lift (f ρ) ρ := rfl
def imQ (c : Option (Option L)) : Option D := match c with
  | some (some (.im d)) => some d
  | _ => none
@[simp] theorem qVar_eq (i : Nat) (ρ : En) : qVar i ρ = imQ ρ[i]? := by
  unfold qVar imQ
  rfl
@[simp] theorem imQ_im (d : D) : imQ (some (some (.im d))) = some d := rfl
@[simp] theorem qC_eq (d : D) (ρ : En) : qC d ρ = some d := rfl
@[simp] theorem qOp_eq (g : D → D → Option D) (fa fb : En → Option D) (ρ : En) : qOp g fa fb ρ = (fa ρ).bind fun x => (fb ρ).bind fun y => g x y := rfl
@[simp] theorem q1_eq (g : D → Option D) (fa : En → Option D) (ρ : En) : q1 g fa ρ = (fa ρ).bind g := rfl
@[simp] theorem gAddI_int (i j : Int) : gAddI (.int i) (.int j) = some (.int (i + j)) := rfl
@[simp] theorem rootT_ot (t : Tr) : rootT (some (some (.ot t))) = some t := rfl
@[simp] theorem rootT_bt (t : Tr) : rootT (some (some (.bt t))) = some t := rfl
@[simp] theorem nodeQ_eq (i : Nat) (fp : En → Option (List Nat)) (ρ : En) : nodeQ i fp ρ = (rootT ρ[i]?).bind fun t0 => (fp ρ).bind fun p => subT t0 p := rfl
@[simp] theorem pVar_eq (ρ : En) : pVar ρ = some [] := rfl
@[simp] theorem pIx_eq (i : Nat) (fp : En → Option (List Nat)) (fk : En → Option D) (ρ : En) : pIx i fp fk ρ = ixT (nodeQ i fp ρ) (fp ρ) (fk ρ) := rfl
@[simp] theorem qItem_eq (i : Nat) (fp : En → Option (List Nat)) (fk : En → Option D) (ρ : En) : qItem i fp fk ρ = itT (nodeQ i fp ρ) (fk ρ) := rfl
@[simp] theorem qLenT_eq (i : Nat) (fp : En → Option (List Nat)) (ρ : En) : qLenT i fp ρ = lenT (nodeQ i fp ρ) := rfl
@[simp] theorem dAppT_eq (i : Nat) (fp : En → Option (List Nat)) (fa : En → Option D) (ρ : En) : dAppT i fp fa ρ = appT (nodeQ i fp ρ) (fp ρ) (fa ρ) i ρ := rfl
@[simp] theorem subT_nil (t : Tr) : subT t [] = some t := by unfold subT; rfl
@[simp] theorem tNil_eq (ρ : En) : tNil ρ = .ok [] ρ := rfl
@[simp] theorem tIm_eq (f : En → R D) (g : En → R (List Tr)) (ρ : En) : tIm f g ρ = (f ρ).bind fun d ρ1 => (g ρ1).bind fun ts ρ2 => .ok (.im d :: ts) ρ2 := rfl
@[simp] theorem tNew_eq (f : En → R (List D)) (g : En → R (List Tr)) (ρ : En) : tNew f g ρ = (f ρ).bind fun ds ρ1 => (g ρ1).bind fun ts ρ2 => .ok (.ls (ds.map .im) :: ts) ρ2 := rfl
@[simp] theorem dAsgT_eq (i : Nat) (ga : En → R (List Tr)) (ρ : En) : dAsgT i ga ρ = (ga ρ).bind fun ts ρ1 => if ts.length ≤ sizeLine then (if free ρ1[i]? = true then .ok .nx (ρ1.set i (some (.ot (.ls ts)))) else .no) else .no := rfl
@[simp] theorem free_ot (t : Tr) : free (some (some (.ot t))) = true := rfl
end Dn
namespace Dn
open PySem PySem.Spec PyProof.Rows L2
/-! ### a new list so many times -/
def repL (ds : List D) (k : D) : Option D := match k with
  | .int n => if 0 ≤ n ∧ n ≤ 10000 ∧ ds.length * n.toNat ≤ sizeLine then some (.list (List.replicate n.toNat ds).flatten) else none
  | _ => none
def dMulL (fl : En → R (List D)) (fk : En → Option D) : En → R D := fun ρ => (fl ρ).bind fun ds ρ1 => lift ((fk ρ1).bind fun k => repL ds k) ρ1
theorem DRs.rep {K : PySem.W.Frag} {G : Hp} {vs : List V} {ds : List D} (h : DRs K G vs ds) : ∀ n : Nat, DRs K G (List.replicate n vs).flatten (List.replicate n ds).flatten
  | 0 => .nil
  | n + 1 => by
    rw [List.replicate_succ, List.replicate_succ, List.flatten_cons, List.flatten_cons]
    exact h.append (DRs.rep h n)
section
variable {X : Cx} {w : Wh} {a b : Expr} {fl : En → R (List D)} {fk : En → Option D} {pos : Pos}
theorem ve_mulL (ha : VN X w a fl) (hb : VQ X b fk) : VE X w (.BinOp a .Mult b pos) (dMulL fl fk) :=
  PE.imp (pe_op op_rep ha hb) fun σ H Q ⟨G, ρ, rel, h⟩ => ⟨G, ρ, rel, (Fn.bind rel h).imp fun G1 H1 ρ1 ds ⟨r1, s1, h1⟩ p n => by
    obtain ⟨d, e, q⟩ := Fn.lift h1
    simp only [Option.bind_eq_some_iff] at e
    obtain ⟨k, ek, e⟩ := e
    refine ⟨G1, ρ1, k, r1, ek, fun v hv => ?_⟩
    unfold repL at e
    split at e
    · rename_i z
      split at e
      · rename_i hz
        cases e
        cases hv
        obtain ⟨us, hp, hd⟩ := n.here
        refine ⟨p, z, us, rfl, rfl, hp, by omega, by omega, by rw [hd.length]; exact hz.2.2, ?_⟩
        exact hand_new r1 q (DR.newL r1 (hd.rep _))
      · cases e
    · cases e⟩
end
@[simp] theorem dMulL_eq (fl : En → R (List D)) (fk : En → Option D) (ρ : En) : dMulL fl fk ρ = (fl ρ).bind fun ds ρ1 => lift ((fk ρ1).bind fun k => repL ds k) ρ1 := rfl
end Dn
namespace Lw
open PySem PySem.Spec PyProof.Rows L2 Dn
def topS (i : Nat) : Stmt := PySem.Challenge.pw_twobytwo_k09_words_and_cells.main.body.getD i (.Pass ⟨0, 0, 0, 0⟩)
def dd_is_whole : He.DefD := ⟨("is_whole", none), "is_whole", "is_whole", defArgs (topS 1), defBody (topS 1), defScope (topS 1), [], []⟩
def dd_divisor : He.DefD := ⟨("divisor", none), "divisor", "divisor", defArgs (topS 2), defBody (topS 2), defScope (topS 2), [], []⟩
def dd_is_number : He.DefD := ⟨("is_number", none), "is_number", "is_number", defArgs (topS 3), defBody (topS 3), defScope (topS 3), [], []⟩
def dd_under : He.DefD := ⟨("under", none), "under", "under", defArgs (topS 4), defBody (topS 4), defScope (topS 4), [], []⟩
def dd_is_told : He.DefD := ⟨("is_told", none), "is_told", "is_told", defArgs (topS 6), defBody (topS 6), defScope (topS 6), [], []⟩
def dd_ahead_of : He.DefD := ⟨("ahead_of", none), "ahead_of", "ahead_of", defArgs (topS 9), defBody (topS 9), defScope (topS 9), [], []⟩
def dd_is_day : He.DefD := ⟨("is_day", none), "is_day", "is_day", defArgs (topS 10), defBody (topS 10), defScope (topS 10), [], []⟩
def dd_is_told_day : He.DefD := ⟨("is_told_day", none), "is_told_day", "is_told_day", defArgs (topS 11), defBody (topS 11), defScope (topS 11), [], []⟩
def dd_is_word : He.DefD := ⟨("is_word", none), "is_word", "is_word", defArgs (topS 14), defBody (topS 14), defScope (topS 14), [], []⟩
def dd_is_cell : He.DefD := ⟨("is_cell", none), "is_cell", "is_cell", defArgs (topS 15), defBody (topS 15), defScope (topS 15), [], []⟩
def dd_column_at : He.DefD := ⟨("column_at", none), "column_at", "column_at", defArgs (topS 16), defBody (topS 16), defScope (topS 16), [], []⟩
def dd_comes_before : He.DefD := ⟨("comes_before", none), "comes_before", "comes_before", defArgs (topS 17), defBody (topS 17), defScope (topS 17), [], []⟩
def dd_law_draws : He.DefD := ⟨("_law_draws", none), "_law_draws", "_law_draws", defArgs (topS 19), defBody (topS 19), defScope (topS 19), [], []⟩
def dd_law_whole : He.DefD := ⟨("_law_whole", none), "_law_whole", "_law_whole", defArgs (topS 20), defBody (topS 20), defScope (topS 20), [], []⟩
def dd_law_divisor : He.DefD := ⟨("_law_divisor", none), "_law_divisor", "_law_divisor", defArgs (topS 21), defBody (topS 21), defScope (topS 21), [], []⟩
def dd_law_lengths : He.DefD := ⟨("_law_lengths", none), "_law_lengths", "_law_lengths", defArgs (topS 22), defBody (topS 22), defScope (topS 22), [], []⟩
def dd_law_number : He.DefD := ⟨("_law_number", none), "_law_number", "_law_number", defArgs (topS 23), defBody (topS 23), defScope (topS 23), [], []⟩
def dd_law_word : He.DefD := ⟨("_law_word", none), "_law_word", "_law_word", defArgs (topS 24), defBody (topS 24), defScope (topS 24), [], []⟩
def dd_law_day : He.DefD := ⟨("_law_day", none), "_law_day", "_law_day", defArgs (topS 25), defBody (topS 25), defScope (topS 25), [], []⟩
def dd_law_told : He.DefD := ⟨("_law_told", none), "_law_told", "_law_told", defArgs (topS 26), defBody (topS 26), defScope (topS 26), [], []⟩
def dd_law_odd_word : He.DefD := ⟨("_law_odd_word", none), "_law_odd_word", "_law_odd_word", defArgs (topS 27), defBody (topS 27), defScope (topS 27), [], []⟩
def dd_law_odd_number : He.DefD := ⟨("_law_odd_number", none), "_law_odd_number", "_law_odd_number", defArgs (topS 28), defBody (topS 28), defScope (topS 28), [], []⟩
def dd_law_odd_day : He.DefD := ⟨("_law_odd_day", none), "_law_odd_day", "_law_odd_day", defArgs (topS 29), defBody (topS 29), defScope (topS 29), [], []⟩
def dd_law_before : He.DefD := ⟨("_law_before", none), "_law_before", "_law_before", defArgs (topS 30), defBody (topS 30), defScope (topS 30), [], []⟩
def dd_law_columns : He.DefD := ⟨("_law_columns", none), "_law_columns", "_law_columns", defArgs (topS 31), defBody (topS 31), defScope (topS 31), [], []⟩
def dd_law : He.DefD := ⟨("law", none), "law", "law", defArgs (topS 32), defBody (topS 32), defScope (topS 32), [], []⟩
def fnL : List He.DefD := [dd_is_whole, dd_divisor, dd_is_number, dd_under, dd_is_told, dd_ahead_of, dd_is_day, dd_is_told_day, dd_is_word, dd_is_cell, dd_column_at, dd_comes_before, dd_law_draws, dd_law_whole, dd_law_divisor, dd_law_lengths, dd_law_number, dd_law_word, dd_law_day, dd_law_told, dd_law_odd_word, dd_law_odd_number, dd_law_odd_day, dd_law_before, dd_law_columns, dd_law]
def faL : List He.Fa := [.glo "is_whole", .glo "divisor", .glo "is_number", .glo "under", .glo "is_told", .glo "ahead_of", .glo "is_day", .glo "is_told_day", .glo "is_word", .glo "is_cell", .glo "column_at", .glo "comes_before", .glo "_law_draws", .glo "_law_whole", .glo "_law_divisor", .glo "_law_lengths", .glo "_law_number", .glo "_law_word", .glo "_law_day", .glo "_law_told", .glo "_law_odd_word", .glo "_law_odd_number", .glo "_law_odd_day", .glo "_law_before", .glo "_law_columns", .glo "law", .free "isinstance", .free "bool", .free "int", .free "abs", .free "len", .free "tuple", .free "str", .free "all", .free "range", .free "sum", .free "list", .int "LAST" 3652058, .str "LETTERS" "abcdefghijklmnopqrstuvwxyz"]
structure Tx (K : PySem.W.Frag) (mg : Str → Option Value) : Prop where
  says : He.SaysD faL fnL K
  glo : ∀ x, (He.Fa.glo x).ok K = true → mg x = some (.ref (He.ga K x))
  free : ∀ x, (He.Fa.free x).ok K = true → mg x = none
  str : ∀ x z, (He.Fa.str x z).ok K = true → ∃ t, mg x = some (.str z t)
  int : ∀ x z, (He.Fa.int x z).ok K = true → ∃ t, mg x = some (.int z t)
section
variable {K : PySem.W.Frag} {mg : Str → Option Value}
theorem x_is_whole (T : Tx K mg) : ∃ fd, FunD K "is_whole" "is_whole" (defArgs (topS 1)) (defBody (topS 1)) (defScope (topS 1)) [] [] (He.ga K "is_whole") fd := T.says.def_ 0 (d := dd_is_whole) rfl
noncomputable def fd_is_whole (T : Tx K mg) : FuncData := (x_is_whole T).choose
theorem F_is_whole (T : Tx K mg) : FunD K "is_whole" "is_whole" (defArgs (topS 1)) (defBody (topS 1)) (defScope (topS 1)) [] [] (He.ga K "is_whole") (fd_is_whole T) := (x_is_whole T).choose_spec
theorem g_is_whole (T : Tx K mg) : mg "is_whole" = some (.ref (He.ga K "is_whole")) := T.glo _ (T.says.fact 0 (f := .glo "is_whole") rfl)
theorem bi_is_whole (T : Tx K mg) : Binds K (fd_is_whole T) ["thing"] [] := (F_is_whole T).bindsN fun _ _ _ _ _ _ us hl => match us, hl with | [_], _ => rfl
theorem x_divisor (T : Tx K mg) : ∃ fd, FunD K "divisor" "divisor" (defArgs (topS 2)) (defBody (topS 2)) (defScope (topS 2)) [] [] (He.ga K "divisor") fd := T.says.def_ 1 (d := dd_divisor) rfl
noncomputable def fd_divisor (T : Tx K mg) : FuncData := (x_divisor T).choose
theorem F_divisor (T : Tx K mg) : FunD K "divisor" "divisor" (defArgs (topS 2)) (defBody (topS 2)) (defScope (topS 2)) [] [] (He.ga K "divisor") (fd_divisor T) := (x_divisor T).choose_spec
theorem g_divisor (T : Tx K mg) : mg "divisor" = some (.ref (He.ga K "divisor")) := T.glo _ (T.says.fact 1 (f := .glo "divisor") rfl)
theorem bi_divisor (T : Tx K mg) : Binds K (fd_divisor T) ["one", "other"] [] := (F_divisor T).bindsN fun _ _ _ _ _ _ us hl => match us, hl with | [_, _], _ => rfl
theorem x_is_number (T : Tx K mg) : ∃ fd, FunD K "is_number" "is_number" (defArgs (topS 3)) (defBody (topS 3)) (defScope (topS 3)) [] [] (He.ga K "is_number") fd := T.says.def_ 2 (d := dd_is_number) rfl
noncomputable def fd_is_number (T : Tx K mg) : FuncData := (x_is_number T).choose
theorem F_is_number (T : Tx K mg) : FunD K "is_number" "is_number" (defArgs (topS 3)) (defBody (topS 3)) (defScope (topS 3)) [] [] (He.ga K "is_number") (fd_is_number T) := (x_is_number T).choose_spec
theorem g_is_number (T : Tx K mg) : mg "is_number" = some (.ref (He.ga K "is_number")) := T.glo _ (T.says.fact 2 (f := .glo "is_number") rfl)
theorem bi_is_number (T : Tx K mg) : Binds K (fd_is_number T) ["thing"] [] := (F_is_number T).bindsN fun _ _ _ _ _ _ us hl => match us, hl with | [_], _ => rfl
theorem x_under (T : Tx K mg) : ∃ fd, FunD K "under" "under" (defArgs (topS 4)) (defBody (topS 4)) (defScope (topS 4)) [] [] (He.ga K "under") fd := T.says.def_ 3 (d := dd_under) rfl
noncomputable def fd_under (T : Tx K mg) : FuncData := (x_under T).choose
theorem F_under (T : Tx K mg) : FunD K "under" "under" (defArgs (topS 4)) (defBody (topS 4)) (defScope (topS 4)) [] [] (He.ga K "under") (fd_under T) := (x_under T).choose_spec
theorem g_under (T : Tx K mg) : mg "under" = some (.ref (He.ga K "under")) := T.glo _ (T.says.fact 3 (f := .glo "under") rfl)
theorem bi_under (T : Tx K mg) : Binds K (fd_under T) ["one", "other"] [] := (F_under T).bindsN fun _ _ _ _ _ _ us hl => match us, hl with | [_, _], _ => rfl
theorem x_is_told (T : Tx K mg) : ∃ fd, FunD K "is_told" "is_told" (defArgs (topS 6)) (defBody (topS 6)) (defScope (topS 6)) [] [] (He.ga K "is_told") fd := T.says.def_ 4 (d := dd_is_told) rfl
noncomputable def fd_is_told (T : Tx K mg) : FuncData := (x_is_told T).choose
theorem F_is_told (T : Tx K mg) : FunD K "is_told" "is_told" (defArgs (topS 6)) (defBody (topS 6)) (defScope (topS 6)) [] [] (He.ga K "is_told") (fd_is_told T) := (x_is_told T).choose_spec
theorem g_is_told (T : Tx K mg) : mg "is_told" = some (.ref (He.ga K "is_told")) := T.glo _ (T.says.fact 4 (f := .glo "is_told") rfl)
theorem bi_is_told (T : Tx K mg) : Binds K (fd_is_told T) ["thing"] [] := (F_is_told T).bindsN fun _ _ _ _ _ _ us hl => match us, hl with | [_], _ => rfl
theorem x_ahead_of (T : Tx K mg) : ∃ fd, FunD K "ahead_of" "ahead_of" (defArgs (topS 9)) (defBody (topS 9)) (defScope (topS 9)) [] [] (He.ga K "ahead_of") fd := T.says.def_ 5 (d := dd_ahead_of) rfl
noncomputable def fd_ahead_of (T : Tx K mg) : FuncData := (x_ahead_of T).choose
theorem F_ahead_of (T : Tx K mg) : FunD K "ahead_of" "ahead_of" (defArgs (topS 9)) (defBody (topS 9)) (defScope (topS 9)) [] [] (He.ga K "ahead_of") (fd_ahead_of T) := (x_ahead_of T).choose_spec
theorem g_ahead_of (T : Tx K mg) : mg "ahead_of" = some (.ref (He.ga K "ahead_of")) := T.glo _ (T.says.fact 5 (f := .glo "ahead_of") rfl)
theorem bi_ahead_of (T : Tx K mg) : Binds K (fd_ahead_of T) ["year"] [] := (F_ahead_of T).bindsN fun _ _ _ _ _ _ us hl => match us, hl with | [_], _ => rfl
theorem x_is_day (T : Tx K mg) : ∃ fd, FunD K "is_day" "is_day" (defArgs (topS 10)) (defBody (topS 10)) (defScope (topS 10)) [] [] (He.ga K "is_day") fd := T.says.def_ 6 (d := dd_is_day) rfl
noncomputable def fd_is_day (T : Tx K mg) : FuncData := (x_is_day T).choose
theorem F_is_day (T : Tx K mg) : FunD K "is_day" "is_day" (defArgs (topS 10)) (defBody (topS 10)) (defScope (topS 10)) [] [] (He.ga K "is_day") (fd_is_day T) := (x_is_day T).choose_spec
theorem g_is_day (T : Tx K mg) : mg "is_day" = some (.ref (He.ga K "is_day")) := T.glo _ (T.says.fact 6 (f := .glo "is_day") rfl)
theorem bi_is_day (T : Tx K mg) : Binds K (fd_is_day T) ["thing"] [] := (F_is_day T).bindsN fun _ _ _ _ _ _ us hl => match us, hl with | [_], _ => rfl
theorem x_is_told_day (T : Tx K mg) : ∃ fd, FunD K "is_told_day" "is_told_day" (defArgs (topS 11)) (defBody (topS 11)) (defScope (topS 11)) [] [] (He.ga K "is_told_day") fd := T.says.def_ 7 (d := dd_is_told_day) rfl
noncomputable def fd_is_told_day (T : Tx K mg) : FuncData := (x_is_told_day T).choose
theorem F_is_told_day (T : Tx K mg) : FunD K "is_told_day" "is_told_day" (defArgs (topS 11)) (defBody (topS 11)) (defScope (topS 11)) [] [] (He.ga K "is_told_day") (fd_is_told_day T) := (x_is_told_day T).choose_spec
theorem g_is_told_day (T : Tx K mg) : mg "is_told_day" = some (.ref (He.ga K "is_told_day")) := T.glo _ (T.says.fact 7 (f := .glo "is_told_day") rfl)
theorem bi_is_told_day (T : Tx K mg) : Binds K (fd_is_told_day T) ["thing"] [] := (F_is_told_day T).bindsN fun _ _ _ _ _ _ us hl => match us, hl with | [_], _ => rfl
theorem x_is_word (T : Tx K mg) : ∃ fd, FunD K "is_word" "is_word" (defArgs (topS 14)) (defBody (topS 14)) (defScope (topS 14)) [] [] (He.ga K "is_word") fd := T.says.def_ 8 (d := dd_is_word) rfl
noncomputable def fd_is_word (T : Tx K mg) : FuncData := (x_is_word T).choose
theorem F_is_word (T : Tx K mg) : FunD K "is_word" "is_word" (defArgs (topS 14)) (defBody (topS 14)) (defScope (topS 14)) [] [] (He.ga K "is_word") (fd_is_word T) := (x_is_word T).choose_spec
theorem g_is_word (T : Tx K mg) : mg "is_word" = some (.ref (He.ga K "is_word")) := T.glo _ (T.says.fact 8 (f := .glo "is_word") rfl)
theorem bi_is_word (T : Tx K mg) : Binds K (fd_is_word T) ["thing"] [] := (F_is_word T).bindsN fun _ _ _ _ _ _ us hl => match us, hl with | [_], _ => rfl
theorem x_is_cell (T : Tx K mg) : ∃ fd, FunD K "is_cell" "is_cell" (defArgs (topS 15)) (defBody (topS 15)) (defScope (topS 15)) [] [] (He.ga K "is_cell") fd := T.says.def_ 9 (d := dd_is_cell) rfl
noncomputable def fd_is_cell (T : Tx K mg) : FuncData := (x_is_cell T).choose
theorem F_is_cell (T : Tx K mg) : FunD K "is_cell" "is_cell" (defArgs (topS 15)) (defBody (topS 15)) (defScope (topS 15)) [] [] (He.ga K "is_cell") (fd_is_cell T) := (x_is_cell T).choose_spec
theorem g_is_cell (T : Tx K mg) : mg "is_cell" = some (.ref (He.ga K "is_cell")) := T.glo _ (T.says.fact 9 (f := .glo "is_cell") rfl)
theorem bi_is_cell (T : Tx K mg) : Binds K (fd_is_cell T) ["kind", "thing"] [] := (F_is_cell T).bindsN fun _ _ _ _ _ _ us hl => match us, hl with | [_, _], _ => rfl
theorem x_column_at (T : Tx K mg) : ∃ fd, FunD K "column_at" "column_at" (defArgs (topS 16)) (defBody (topS 16)) (defScope (topS 16)) [] [] (He.ga K "column_at") fd := T.says.def_ 10 (d := dd_column_at) rfl
noncomputable def fd_column_at (T : Tx K mg) : FuncData := (x_column_at T).choose
theorem F_column_at (T : Tx K mg) : FunD K "column_at" "column_at" (defArgs (topS 16)) (defBody (topS 16)) (defScope (topS 16)) [] [] (He.ga K "column_at") (fd_column_at T) := (x_column_at T).choose_spec
theorem g_column_at (T : Tx K mg) : mg "column_at" = some (.ref (He.ga K "column_at")) := T.glo _ (T.says.fact 10 (f := .glo "column_at") rfl)
theorem bi_column_at (T : Tx K mg) : Binds K (fd_column_at T) ["columns", "name"] [] := (F_column_at T).bindsN fun _ _ _ _ _ _ us hl => match us, hl with | [_, _], _ => rfl
theorem x_comes_before (T : Tx K mg) : ∃ fd, FunD K "comes_before" "comes_before" (defArgs (topS 17)) (defBody (topS 17)) (defScope (topS 17)) [] [] (He.ga K "comes_before") fd := T.says.def_ 11 (d := dd_comes_before) rfl
noncomputable def fd_comes_before (T : Tx K mg) : FuncData := (x_comes_before T).choose
theorem F_comes_before (T : Tx K mg) : FunD K "comes_before" "comes_before" (defArgs (topS 17)) (defBody (topS 17)) (defScope (topS 17)) [] [] (He.ga K "comes_before") (fd_comes_before T) := (x_comes_before T).choose_spec
theorem g_comes_before (T : Tx K mg) : mg "comes_before" = some (.ref (He.ga K "comes_before")) := T.glo _ (T.says.fact 11 (f := .glo "comes_before") rfl)
theorem bi_comes_before (T : Tx K mg) : Binds K (fd_comes_before T) ["one", "other"] [] := (F_comes_before T).bindsN fun _ _ _ _ _ _ us hl => match us, hl with | [_, _], _ => rfl
theorem x_law_draws (T : Tx K mg) : ∃ fd, FunD K "_law_draws" "_law_draws" (defArgs (topS 19)) (defBody (topS 19)) (defScope (topS 19)) [] [] (He.ga K "_law_draws") fd := T.says.def_ 12 (d := dd_law_draws) rfl
noncomputable def fd_law_draws (T : Tx K mg) : FuncData := (x_law_draws T).choose
theorem F_law_draws (T : Tx K mg) : FunD K "_law_draws" "_law_draws" (defArgs (topS 19)) (defBody (topS 19)) (defScope (topS 19)) [] [] (He.ga K "_law_draws") (fd_law_draws T) := (x_law_draws T).choose_spec
theorem g_law_draws (T : Tx K mg) : mg "_law_draws" = some (.ref (He.ga K "_law_draws")) := T.glo _ (T.says.fact 12 (f := .glo "_law_draws") rfl)
theorem bi_law_draws (T : Tx K mg) : Binds K (fd_law_draws T) ["cell", "tops"] [] := (F_law_draws T).bindsN fun _ _ _ _ _ _ us hl => match us, hl with | [_, _], _ => rfl
theorem x_law_whole (T : Tx K mg) : ∃ fd, FunD K "_law_whole" "_law_whole" (defArgs (topS 20)) (defBody (topS 20)) (defScope (topS 20)) [] [] (He.ga K "_law_whole") fd := T.says.def_ 13 (d := dd_law_whole) rfl
noncomputable def fd_law_whole (T : Tx K mg) : FuncData := (x_law_whole T).choose
theorem F_law_whole (T : Tx K mg) : FunD K "_law_whole" "_law_whole" (defArgs (topS 20)) (defBody (topS 20)) (defScope (topS 20)) [] [] (He.ga K "_law_whole") (fd_law_whole T) := (x_law_whole T).choose_spec
theorem g_law_whole (T : Tx K mg) : mg "_law_whole" = some (.ref (He.ga K "_law_whole")) := T.glo _ (T.says.fact 13 (f := .glo "_law_whole") rfl)
theorem bi_law_whole (T : Tx K mg) : Binds K (fd_law_whole T) ["found"] [] := (F_law_whole T).bindsN fun _ _ _ _ _ _ us hl => match us, hl with | [_], _ => rfl
theorem x_law_divisor (T : Tx K mg) : ∃ fd, FunD K "_law_divisor" "_law_divisor" (defArgs (topS 21)) (defBody (topS 21)) (defScope (topS 21)) [] [] (He.ga K "_law_divisor") fd := T.says.def_ 14 (d := dd_law_divisor) rfl
noncomputable def fd_law_divisor (T : Tx K mg) : FuncData := (x_law_divisor T).choose
theorem F_law_divisor (T : Tx K mg) : FunD K "_law_divisor" "_law_divisor" (defArgs (topS 21)) (defBody (topS 21)) (defScope (topS 21)) [] [] (He.ga K "_law_divisor") (fd_law_divisor T) := (x_law_divisor T).choose_spec
theorem g_law_divisor (T : Tx K mg) : mg "_law_divisor" = some (.ref (He.ga K "_law_divisor")) := T.glo _ (T.says.fact 14 (f := .glo "_law_divisor") rfl)
theorem bi_law_divisor (T : Tx K mg) : Binds K (fd_law_divisor T) ["one", "other"] [] := (F_law_divisor T).bindsN fun _ _ _ _ _ _ us hl => match us, hl with | [_, _], _ => rfl
theorem x_law_lengths (T : Tx K mg) : ∃ fd, FunD K "_law_lengths" "_law_lengths" (defArgs (topS 22)) (defBody (topS 22)) (defScope (topS 22)) [] [] (He.ga K "_law_lengths") fd := T.says.def_ 15 (d := dd_law_lengths) rfl
noncomputable def fd_law_lengths (T : Tx K mg) : FuncData := (x_law_lengths T).choose
theorem F_law_lengths (T : Tx K mg) : FunD K "_law_lengths" "_law_lengths" (defArgs (topS 22)) (defBody (topS 22)) (defScope (topS 22)) [] [] (He.ga K "_law_lengths") (fd_law_lengths T) := (x_law_lengths T).choose_spec
theorem g_law_lengths (T : Tx K mg) : mg "_law_lengths" = some (.ref (He.ga K "_law_lengths")) := T.glo _ (T.says.fact 15 (f := .glo "_law_lengths") rfl)
theorem bi_law_lengths (T : Tx K mg) : Binds K (fd_law_lengths T) ["year"] [] := (F_law_lengths T).bindsN fun _ _ _ _ _ _ us hl => match us, hl with | [_], _ => rfl
theorem x_law_number (T : Tx K mg) : ∃ fd, FunD K "_law_number" "_law_number" (defArgs (topS 23)) (defBody (topS 23)) (defScope (topS 23)) [] [] (He.ga K "_law_number") fd := T.says.def_ 16 (d := dd_law_number) rfl
noncomputable def fd_law_number (T : Tx K mg) : FuncData := (x_law_number T).choose
theorem F_law_number (T : Tx K mg) : FunD K "_law_number" "_law_number" (defArgs (topS 23)) (defBody (topS 23)) (defScope (topS 23)) [] [] (He.ga K "_law_number") (fd_law_number T) := (x_law_number T).choose_spec
theorem g_law_number (T : Tx K mg) : mg "_law_number" = some (.ref (He.ga K "_law_number")) := T.glo _ (T.says.fact 16 (f := .glo "_law_number") rfl)
theorem bi_law_number (T : Tx K mg) : Binds K (fd_law_number T) ["d"] [] := (F_law_number T).bindsN fun _ _ _ _ _ _ us hl => match us, hl with | [_], _ => rfl
theorem x_law_word (T : Tx K mg) : ∃ fd, FunD K "_law_word" "_law_word" (defArgs (topS 24)) (defBody (topS 24)) (defScope (topS 24)) [] [] (He.ga K "_law_word") fd := T.says.def_ 17 (d := dd_law_word) rfl
noncomputable def fd_law_word (T : Tx K mg) : FuncData := (x_law_word T).choose
theorem F_law_word (T : Tx K mg) : FunD K "_law_word" "_law_word" (defArgs (topS 24)) (defBody (topS 24)) (defScope (topS 24)) [] [] (He.ga K "_law_word") (fd_law_word T) := (x_law_word T).choose_spec
theorem g_law_word (T : Tx K mg) : mg "_law_word" = some (.ref (He.ga K "_law_word")) := T.glo _ (T.says.fact 17 (f := .glo "_law_word") rfl)
theorem bi_law_word (T : Tx K mg) : Binds K (fd_law_word T) ["d"] [] := (F_law_word T).bindsN fun _ _ _ _ _ _ us hl => match us, hl with | [_], _ => rfl
theorem x_law_day (T : Tx K mg) : ∃ fd, FunD K "_law_day" "_law_day" (defArgs (topS 25)) (defBody (topS 25)) (defScope (topS 25)) [] [] (He.ga K "_law_day") fd := T.says.def_ 18 (d := dd_law_day) rfl
noncomputable def fd_law_day (T : Tx K mg) : FuncData := (x_law_day T).choose
theorem F_law_day (T : Tx K mg) : FunD K "_law_day" "_law_day" (defArgs (topS 25)) (defBody (topS 25)) (defScope (topS 25)) [] [] (He.ga K "_law_day") (fd_law_day T) := (x_law_day T).choose_spec
theorem g_law_day (T : Tx K mg) : mg "_law_day" = some (.ref (He.ga K "_law_day")) := T.glo _ (T.says.fact 18 (f := .glo "_law_day") rfl)
theorem bi_law_day (T : Tx K mg) : Binds K (fd_law_day T) ["d"] [] := (F_law_day T).bindsN fun _ _ _ _ _ _ us hl => match us, hl with | [_], _ => rfl
theorem x_law_told (T : Tx K mg) : ∃ fd, FunD K "_law_told" "_law_told" (defArgs (topS 26)) (defBody (topS 26)) (defScope (topS 26)) [] [] (He.ga K "_law_told") fd := T.says.def_ 19 (d := dd_law_told) rfl
noncomputable def fd_law_told (T : Tx K mg) : FuncData := (x_law_told T).choose
theorem F_law_told (T : Tx K mg) : FunD K "_law_told" "_law_told" (defArgs (topS 26)) (defBody (topS 26)) (defScope (topS 26)) [] [] (He.ga K "_law_told") (fd_law_told T) := (x_law_told T).choose_spec
theorem g_law_told (T : Tx K mg) : mg "_law_told" = some (.ref (He.ga K "_law_told")) := T.glo _ (T.says.fact 19 (f := .glo "_law_told") rfl)
theorem bi_law_told (T : Tx K mg) : Binds K (fd_law_told T) ["kind", "thing"] [] := (F_law_told T).bindsN fun _ _ _ _ _ _ us hl => match us, hl with | [_, _], _ => rfl
theorem x_law_odd_word (T : Tx K mg) : ∃ fd, FunD K "_law_odd_word" "_law_odd_word" (defArgs (topS 27)) (defBody (topS 27)) (defScope (topS 27)) [] [] (He.ga K "_law_odd_word") fd := T.says.def_ 20 (d := dd_law_odd_word) rfl
noncomputable def fd_law_odd_word (T : Tx K mg) : FuncData := (x_law_odd_word T).choose
theorem F_law_odd_word (T : Tx K mg) : FunD K "_law_odd_word" "_law_odd_word" (defArgs (topS 27)) (defBody (topS 27)) (defScope (topS 27)) [] [] (He.ga K "_law_odd_word") (fd_law_odd_word T) := (x_law_odd_word T).choose_spec
theorem g_law_odd_word (T : Tx K mg) : mg "_law_odd_word" = some (.ref (He.ga K "_law_odd_word")) := T.glo _ (T.says.fact 20 (f := .glo "_law_odd_word") rfl)
theorem bi_law_odd_word (T : Tx K mg) : Binds K (fd_law_odd_word T) ["word", "way", "at"] [] := (F_law_odd_word T).bindsN fun _ _ _ _ _ _ us hl => match us, hl with | [_, _, _], _ => rfl
theorem x_law_odd_number (T : Tx K mg) : ∃ fd, FunD K "_law_odd_number" "_law_odd_number" (defArgs (topS 28)) (defBody (topS 28)) (defScope (topS 28)) [] [] (He.ga K "_law_odd_number") fd := T.says.def_ 21 (d := dd_law_odd_number) rfl
noncomputable def fd_law_odd_number (T : Tx K mg) : FuncData := (x_law_odd_number T).choose
theorem F_law_odd_number (T : Tx K mg) : FunD K "_law_odd_number" "_law_odd_number" (defArgs (topS 28)) (defBody (topS 28)) (defScope (topS 28)) [] [] (He.ga K "_law_odd_number") (fd_law_odd_number T) := (x_law_odd_number T).choose_spec
theorem g_law_odd_number (T : Tx K mg) : mg "_law_odd_number" = some (.ref (He.ga K "_law_odd_number")) := T.glo _ (T.says.fact 21 (f := .glo "_law_odd_number") rfl)
theorem bi_law_odd_number (T : Tx K mg) : Binds K (fd_law_odd_number T) ["one", "way", "at"] [] := (F_law_odd_number T).bindsN fun _ _ _ _ _ _ us hl => match us, hl with | [_, _, _], _ => rfl
theorem x_law_odd_day (T : Tx K mg) : ∃ fd, FunD K "_law_odd_day" "_law_odd_day" (defArgs (topS 29)) (defBody (topS 29)) (defScope (topS 29)) [] [] (He.ga K "_law_odd_day") fd := T.says.def_ 22 (d := dd_law_odd_day) rfl
noncomputable def fd_law_odd_day (T : Tx K mg) : FuncData := (x_law_odd_day T).choose
theorem F_law_odd_day (T : Tx K mg) : FunD K "_law_odd_day" "_law_odd_day" (defArgs (topS 29)) (defBody (topS 29)) (defScope (topS 29)) [] [] (He.ga K "_law_odd_day") (fd_law_odd_day T) := (x_law_odd_day T).choose_spec
theorem g_law_odd_day (T : Tx K mg) : mg "_law_odd_day" = some (.ref (He.ga K "_law_odd_day")) := T.glo _ (T.says.fact 22 (f := .glo "_law_odd_day") rfl)
theorem bi_law_odd_day (T : Tx K mg) : Binds K (fd_law_odd_day T) ["one", "way", "at"] [] := (F_law_odd_day T).bindsN fun _ _ _ _ _ _ us hl => match us, hl with | [_, _, _], _ => rfl
theorem x_law_before (T : Tx K mg) : ∃ fd, FunD K "_law_before" "_law_before" (defArgs (topS 30)) (defBody (topS 30)) (defScope (topS 30)) [] [] (He.ga K "_law_before") fd := T.says.def_ 23 (d := dd_law_before) rfl
noncomputable def fd_law_before (T : Tx K mg) : FuncData := (x_law_before T).choose
theorem F_law_before (T : Tx K mg) : FunD K "_law_before" "_law_before" (defArgs (topS 30)) (defBody (topS 30)) (defScope (topS 30)) [] [] (He.ga K "_law_before") (fd_law_before T) := (x_law_before T).choose_spec
theorem g_law_before (T : Tx K mg) : mg "_law_before" = some (.ref (He.ga K "_law_before")) := T.glo _ (T.says.fact 23 (f := .glo "_law_before") rfl)
theorem bi_law_before (T : Tx K mg) : Binds K (fd_law_before T) ["kind", "one", "other"] [] := (F_law_before T).bindsN fun _ _ _ _ _ _ us hl => match us, hl with | [_, _, _], _ => rfl
theorem x_law_columns (T : Tx K mg) : ∃ fd, FunD K "_law_columns" "_law_columns" (defArgs (topS 31)) (defBody (topS 31)) (defScope (topS 31)) [] [] (He.ga K "_law_columns") fd := T.says.def_ 24 (d := dd_law_columns) rfl
noncomputable def fd_law_columns (T : Tx K mg) : FuncData := (x_law_columns T).choose
theorem F_law_columns (T : Tx K mg) : FunD K "_law_columns" "_law_columns" (defArgs (topS 31)) (defBody (topS 31)) (defScope (topS 31)) [] [] (He.ga K "_law_columns") (fd_law_columns T) := (x_law_columns T).choose_spec
theorem g_law_columns (T : Tx K mg) : mg "_law_columns" = some (.ref (He.ga K "_law_columns")) := T.glo _ (T.says.fact 24 (f := .glo "_law_columns") rfl)
theorem bi_law_columns (T : Tx K mg) : Binds K (fd_law_columns T) ["drawn_ones"] [] := (F_law_columns T).bindsN fun _ _ _ _ _ _ us hl => match us, hl with | [_], _ => rfl
theorem x_law (T : Tx K mg) : ∃ fd, FunD K "law" "law" (defArgs (topS 32)) (defBody (topS 32)) (defScope (topS 32)) [] [] (He.ga K "law") fd := T.says.def_ 25 (d := dd_law) rfl
noncomputable def fd_law (T : Tx K mg) : FuncData := (x_law T).choose
theorem F_law (T : Tx K mg) : FunD K "law" "law" (defArgs (topS 32)) (defBody (topS 32)) (defScope (topS 32)) [] [] (He.ga K "law") (fd_law T) := (x_law T).choose_spec
theorem g_law (T : Tx K mg) : mg "law" = some (.ref (He.ga K "law")) := T.glo _ (T.says.fact 25 (f := .glo "law") rfl)
theorem bi_law (T : Tx K mg) : Binds K (fd_law T) ["script"] [] := (F_law T).bindsN fun _ _ _ _ _ _ us hl => match us, hl with | [_], _ => rfl
theorem Tx.n_isinstance (T : Tx K mg) : mg "isinstance" = none := T.free _ (T.says.fact 26 (f := .free "isinstance") rfl)
theorem Tx.n_bool (T : Tx K mg) : mg "bool" = none := T.free _ (T.says.fact 27 (f := .free "bool") rfl)
theorem Tx.n_int (T : Tx K mg) : mg "int" = none := T.free _ (T.says.fact 28 (f := .free "int") rfl)
theorem Tx.n_abs (T : Tx K mg) : mg "abs" = none := T.free _ (T.says.fact 29 (f := .free "abs") rfl)
theorem Tx.n_len (T : Tx K mg) : mg "len" = none := T.free _ (T.says.fact 30 (f := .free "len") rfl)
theorem Tx.n_tuple (T : Tx K mg) : mg "tuple" = none := T.free _ (T.says.fact 31 (f := .free "tuple") rfl)
theorem Tx.n_str (T : Tx K mg) : mg "str" = none := T.free _ (T.says.fact 32 (f := .free "str") rfl)
theorem Tx.n_all (T : Tx K mg) : mg "all" = none := T.free _ (T.says.fact 33 (f := .free "all") rfl)
theorem Tx.n_range (T : Tx K mg) : mg "range" = none := T.free _ (T.says.fact 34 (f := .free "range") rfl)
theorem Tx.n_sum (T : Tx K mg) : mg "sum" = none := T.free _ (T.says.fact 35 (f := .free "sum") rfl)
theorem Tx.n_list (T : Tx K mg) : mg "list" = none := T.free _ (T.says.fact 36 (f := .free "list") rfl)
theorem Tx.c_LAST (T : Tx K mg) : ∃ t, mg "LAST" = some (.int 3652058 t) := T.int _ _ (T.says.fact 37 (f := .int "LAST" 3652058) rfl)
theorem Tx.c_LETTERS (T : Tx K mg) : ∃ t, mg "LETTERS" = some (.str "abcdefghijklmnopqrstuvwxyz" t) := T.str _ _ (T.says.fact 38 (f := .str "LETTERS" "abcdefghijklmnopqrstuvwxyz") rfl)
end
/-! is_whole -/
abbrev s_is_whole : Stmt := topS 1
theorem sc_is_whole : FnScope ["thing"] ["thing"] (defScope s_is_whole) := ⟨rfl, rfl, rfl, by decide +kernel, rfl, by decide +kernel, by decide +kernel⟩
noncomputable def b_is_whole : En → R Fl :=
  (dRet (dAndV (dIsi "int" (dVar 0)) (dB (dNot (dIsi "bool" (dVar 0))))))
noncomputable def m_is_whole : En → R L := dDef 1 b_is_whole
section
variable {P : Program} {wd : World} {K : PySem.W.Frag} {mg : Str → Option Value} {base : Heap}
theorem ok_is_whole (T : Tx K mg) : FnOk P wd K mg base (L2.CX P wd) 1 (He.ga K "is_whole") (fd_is_whole T) ["thing"] (spD K (caK [] K) 1 m_is_whole) :=
  fn_denD (F_is_whole T) sc_is_whole fun cdv A outer s H E g =>
  (vss_one (vs_ret (ve_and (ve_isi (by rfl) T.n_isinstance (ve_var 0) (by rfl) T.n_int boot_ty_int) (ve_and1 (ve_not (ve_isi (by rfl) T.n_isinstance (ve_var 0) (by rfl) T.n_bool boot_ty_bool))))))
end
/-! divisor -/
abbrev s_divisor : Stmt := topS 2
theorem sc_divisor : FnScope ["one", "other"] ["one", "other"] (defScope s_divisor) := ⟨rfl, rfl, rfl, by decide +kernel, rfl, by decide +kernel, by decide +kernel⟩
noncomputable def b_divisor_l1 : En → R Fl :=
  (dPar 0 1 (aIm (dVar 1) (aIm (dOp gMod (dVar 0) (dVar 1)) aNil)))
noncomputable def b_divisor : En → R Fl :=
  (dSeq (dWhile (dCmp gNe (dVar 1) (dC (.int 0))) b_divisor_l1)
  (dRet (dCall gAbs (aIm (dVar 0) aNil))))
noncomputable def m_divisor : En → R L := dDef 2 b_divisor
section
variable {P : Program} {wd : World} {K : PySem.W.Frag} {mg : Str → Option Value} {base : Heap}
theorem ok_divisor (T : Tx K mg) : FnOk P wd K mg base (L2.CX P wd) 1 (He.ga K "divisor") (fd_divisor T) ["one", "other"] (spD K (caK [] K) 2 m_divisor) :=
  fn_denD (F_divisor T) sc_divisor fun cdv A outer s H E g =>
  (vss_cons (vs_while g.po (vt_cmp (op_neD g.hr.units) ob_ne (ve_var 1) ve_int (nomark _))
   (vss_one (vs_par 0 1 g.calm sc_divisor.nd (va_im (ve_var 1) (va_im (ve_mod (ve_var 0) (ve_var 1)) va_nil)))))
  (vss_one (vs_ret (ve_cB call_abs cs_abs (by rfl) T.n_abs boot_B_abs (va_im (ve_var 0) va_nil)))))
end
/-! is_number -/
abbrev s_is_number : Stmt := topS 3
theorem sc_is_number : FnScope ["thing", "top", "bottom"] ["thing"] (defScope s_is_number) := ⟨rfl, rfl, rfl, by decide +kernel, rfl, by decide +kernel, by decide +kernel⟩
noncomputable def b_is_number : En → R Fl :=
  (dSeq (dIf (dOr (dNot (dIsi "tuple" (dVar 0))) (dCmp gNe (dLenN 0) (dC (.int 2))))
   (dRet (dC (.bool false)))
   dNx)
  (dSeq (dAsg (gTupD 2 (gsCons (putIm 1) (gsCons (putIm 2) gsNil))) (dVar 0))
  (dSeq (dIf (dOr (dNot (dTru (dFn 1 m_is_whole (aIm (dVar 1) aNil)))) (dNot (dTru (dFn 1 m_is_whole (aIm (dVar 2) aNil)))))
   (dRet (dC (.bool false)))
   dNx)
  (dRet (dAndV (dCmp gGt (dVar 2) (dC (.int 0))) (dB (dCmp gEq (dFn 2 m_divisor (aIm (dVar 1) (aIm (dVar 2) aNil))) (dC (.int 1)))))))))
noncomputable def m_is_number : En → R L := dDef 3 b_is_number
section
variable {P : Program} {wd : World} {K : PySem.W.Frag} {mg : Str → Option Value} {base : Heap}
theorem ok_is_number (T : Tx K mg) : FnOk P wd K mg base (L2.CX P wd) 2 (He.ga K "is_number") (fd_is_number T) ["thing"] (spD K (caK [] K) 1 m_is_number) :=
  fn_denD (F_is_number T) sc_is_number fun cdv A outer s H E g =>
  (vss_cons (vs_if (vt_w (vw_or (vt_not (vt_b (ve_isi (by rfl) T.n_isinstance (ve_var 0) (by rfl) T.n_tuple boot_ty_tuple))) (vw_or1 (vt_cmp (op_neD g.hr.units) ob_ne (ve_lenN 0 (by rfl) T.n_len) ve_int (nomark _)))))
   (vss_one (vs_ret ve_bl))
   vss_nil)
  (vss_cons (vs_asg (ve_var 0) (vg_tup g.calm (vgs_cons (vg_name 1 sc_is_number.nd) (vgs_cons (vg_name 2 sc_is_number.nd) vgs_nil))) (nox_tup (nox_cons nox_put (nox_cons nox_put nox_nil))))
  (vss_cons (vs_if (vt_w (vw_or (vt_not (vt_tru (ve_call (ok_is_whole T) (g.hr.mono (by decide)) g.tk rfl (by rfl) (g_is_whole T) (F_is_whole T).kp (bi_is_whole T) (va_im (ve_var 1) va_nil)))) (vw_or1 (vt_not (vt_tru (ve_call (ok_is_whole T) (g.hr.mono (by decide)) g.tk rfl (by rfl) (g_is_whole T) (F_is_whole T).kp (bi_is_whole T) (va_im (ve_var 2) va_nil)))))))
   (vss_one (vs_ret ve_bl))
   vss_nil)
  (vss_one (vs_ret (ve_and (ve_cmp op_gtA ob_gt (ve_var 2) ve_int (nomark _)) (ve_and1 (ve_cmp (op_eqD g.hr.units) ob_eq (ve_call (ok_divisor T) (g.hr.mono (by decide)) g.tk rfl (by rfl) (g_divisor T) (F_divisor T).kp (bi_divisor T) (va_im (ve_var 1) (va_im (ve_var 2) va_nil))) ve_int (nomark _)))))))))
end
/-! under -/
abbrev s_under : Stmt := topS 4
theorem sc_under : FnScope ["one", "other"] ["one", "other"] (defScope s_under) := ⟨rfl, rfl, rfl, by decide +kernel, rfl, by decide +kernel, by decide +kernel⟩
noncomputable def b_under : En → R Fl :=
  (dRet (dB (dCmp gLt (dOp gMul (dIxN 0 (dC (.int 0))) (dIxN 1 (dC (.int 1)))) (dOp gMul (dIxN 1 (dC (.int 0))) (dIxN 0 (dC (.int 1)))))))
noncomputable def m_under : En → R L := dDef 2 b_under
section
variable {P : Program} {wd : World} {K : PySem.W.Frag} {mg : Str → Option Value} {base : Heap}
theorem ok_under (T : Tx K mg) : FnOk P wd K mg base (L2.CX P wd) 1 (He.ga K "under") (fd_under T) ["one", "other"] (spD K (caK [] K) 2 m_under) :=
  fn_denD (F_under T) sc_under fun cdv A outer s H E g =>
  (vss_one (vs_ret (ve_cmp op_ltA ob_lt (ve_mul (ve_ixN 0 ve_int) (ve_ixN 1 ve_int)) (ve_mul (ve_ixN 1 ve_int) (ve_ixN 0 ve_int)) (nomark _))))
end
/-! is_told -/
abbrev s_is_told : Stmt := topS 6
theorem sc_is_told : FnScope ["thing"] ["thing"] (defScope s_is_told) := ⟨rfl, rfl, rfl, by decide +kernel, rfl, by decide +kernel, by decide +kernel⟩
noncomputable def b_is_told : En → R Fl :=
  (dRet (dAndV (dUB (dFn 1 m_is_number (aIm (dVar 0) aNil))) (dAndV (dCmp gLt (dCall gAbs (aIm (dIxN 0 (dC (.int 0))) aNil)) (dOp gPow (dC (.int 10)) (dC (.int 18)))) (dB (dCmp gLe (dIxN 0 (dC (.int 1))) (dC (.int 60)))))))
noncomputable def m_is_told : En → R L := dDef 1 b_is_told
section
variable {P : Program} {wd : World} {K : PySem.W.Frag} {mg : Str → Option Value} {base : Heap}
theorem ok_is_told (T : Tx K mg) : FnOk P wd K mg base (L2.CX P wd) 3 (He.ga K "is_told") (fd_is_told T) ["thing"] (spD K (caK [] K) 1 m_is_told) :=
  fn_denD (F_is_told T) sc_is_told fun cdv A outer s H E g =>
  (vss_one (vs_ret (ve_and (ve_ub (ve_call (ok_is_number T) (g.hr.mono (by decide)) g.tk rfl (by rfl) (g_is_number T) (F_is_number T).kp (bi_is_number T) (va_im (ve_var 0) va_nil))) (ve_and (ve_cmp op_ltA ob_lt (ve_cB call_abs cs_abs (by rfl) T.n_abs boot_B_abs (va_im (ve_ixN 0 ve_int) va_nil)) (ve_pow ve_int ve_int) (nomark _)) (ve_and1 (ve_cmp op_leA ob_le (ve_ixN 0 ve_int) ve_int (nomark _)))))))
end
/-! ahead_of -/
abbrev s_ahead_of : Stmt := topS 9
theorem sc_ahead_of : FnScope ["year", "gone"] ["year"] (defScope s_ahead_of) := ⟨rfl, rfl, rfl, by decide +kernel, rfl, by decide +kernel, by decide +kernel⟩
noncomputable def b_ahead_of : En → R Fl :=
  (dSeq (dAsg (putIm 1) (dOp gSub (dVar 0) (dC (.int 1))))
  (dRet (dOp gAdd (dOp gSub (dOp gAdd (dOp gMul (dC (.int 365)) (dVar 1)) (dOp gFdiv (dVar 1) (dC (.int 4)))) (dOp gFdiv (dVar 1) (dC (.int 100)))) (dOp gFdiv (dVar 1) (dC (.int 400))))))
noncomputable def m_ahead_of : En → R L := dDef 2 b_ahead_of
section
variable {P : Program} {wd : World} {K : PySem.W.Frag} {mg : Str → Option Value} {base : Heap}
theorem ok_ahead_of (T : Tx K mg) : FnOk P wd K mg base (L2.CX P wd) 1 (He.ga K "ahead_of") (fd_ahead_of T) ["year"] (spD K (caK [] K) 1 m_ahead_of) :=
  fn_denD (F_ahead_of T) sc_ahead_of fun cdv A outer s H E g =>
  (vss_cons (vs_set 1 sc_ahead_of.nd (ve_sub (ve_var 0) ve_int))
  (vss_one (vs_ret (ve_add (ve_sub (ve_add (ve_mul ve_int (ve_var 1)) (ve_fdiv (ve_var 1) ve_int)) (ve_fdiv (ve_var 1) ve_int)) (ve_fdiv (ve_var 1) ve_int)))))
end
/-! is_day -/
abbrev s_is_day : Stmt := topS 10
theorem sc_is_day : FnScope ["thing"] ["thing"] (defScope s_is_day) := ⟨rfl, rfl, rfl, by decide +kernel, rfl, by decide +kernel, by decide +kernel⟩
noncomputable def b_is_day : En → R Fl :=
  (dRet (dAndV (dUB (dFn 1 m_is_whole (aIm (dVar 0) aNil))) (dAndV (dCmp gLe (dC (.int 0)) (dVar 0)) (dB (dCmp gLe (dVar 0) (dC (.int 3652058)))))))
noncomputable def m_is_day : En → R L := dDef 1 b_is_day
section
variable {P : Program} {wd : World} {K : PySem.W.Frag} {mg : Str → Option Value} {base : Heap}
theorem ok_is_day (T : Tx K mg) : FnOk P wd K mg base (L2.CX P wd) 2 (He.ga K "is_day") (fd_is_day T) ["thing"] (spD K (caK [] K) 1 m_is_day) :=
  fn_denD (F_is_day T) sc_is_day fun cdv A outer s H E g =>
  (vss_one (vs_ret (ve_and (ve_ub (ve_call (ok_is_whole T) (g.hr.mono (by decide)) g.tk rfl (by rfl) (g_is_whole T) (F_is_whole T).kp (bi_is_whole T) (va_im (ve_var 0) va_nil))) (ve_and (ve_cmp op_leA ob_le ve_int (ve_var 0) (nomark _)) (ve_and1 (ve_cmp op_leA ob_le (ve_var 0) (ve_glI (by rfl) T.c_LAST) (nomark _)))))))
end
/-! is_told_day -/
abbrev s_is_told_day : Stmt := topS 11
theorem sc_is_told_day : FnScope ["thing"] ["thing"] (defScope s_is_told_day) := ⟨rfl, rfl, rfl, by decide +kernel, rfl, by decide +kernel, by decide +kernel⟩
noncomputable def b_is_told_day : En → R Fl :=
  (dRet (dAndV (dUB (dFn 1 m_is_day (aIm (dVar 0) aNil))) (dAndV (dCmp gLe (dFn 1 m_ahead_of (aIm (dC (.int 1000)) aNil)) (dVar 0)) (dB (dCmp gLt (dVar 0) (dFn 1 m_ahead_of (aIm (dC (.int 9000)) aNil)))))))
noncomputable def m_is_told_day : En → R L := dDef 1 b_is_told_day
section
variable {P : Program} {wd : World} {K : PySem.W.Frag} {mg : Str → Option Value} {base : Heap}
theorem ok_is_told_day (T : Tx K mg) : FnOk P wd K mg base (L2.CX P wd) 3 (He.ga K "is_told_day") (fd_is_told_day T) ["thing"] (spD K (caK [] K) 1 m_is_told_day) :=
  fn_denD (F_is_told_day T) sc_is_told_day fun cdv A outer s H E g =>
  (vss_one (vs_ret (ve_and (ve_ub (ve_call (ok_is_day T) (g.hr.mono (by decide)) g.tk rfl (by rfl) (g_is_day T) (F_is_day T).kp (bi_is_day T) (va_im (ve_var 0) va_nil))) (ve_and (ve_cmp op_leA ob_le (ve_call (ok_ahead_of T) (g.hr.mono (by decide)) g.tk rfl (by rfl) (g_ahead_of T) (F_ahead_of T).kp (bi_ahead_of T) (va_im ve_int va_nil)) (ve_var 0) (nomark _)) (ve_and1 (ve_cmp op_ltA ob_lt (ve_var 0) (ve_call (ok_ahead_of T) (g.hr.mono (by decide)) g.tk rfl (by rfl) (g_ahead_of T) (F_ahead_of T).kp (bi_ahead_of T) (va_im ve_int va_nil)) (nomark _)))))))
end
/-! is_word -/
abbrev s_is_word : Stmt := topS 14
theorem sc_is_word : FnScope ["thing", "sign"] ["thing"] (defScope s_is_word) := ⟨rfl, rfl, rfl, by decide +kernel, rfl, by decide +kernel, by decide +kernel⟩
noncomputable def b_is_word_l1 : D → En → R (Option D) :=
  (lcT (putIm 1) tT
   (dB (dCmp gIn (dVar 1) (dC (.str "abcdefghijklmnopqrstuvwxyz")))))
noncomputable def b_is_word : En → R Fl :=
  (dSeq (dIf (dOr (dNot (dIsi "str" (dVar 0))) (dNot (dChain gLe gLe (dC (.int 1)) (dLenN 0) (dC (.int 8)))))
   (dRet (dC (.bool false)))
   dNx)
  (dRet (dCall gAll (aIm (dFz (nLc (iD (dVar 0)) b_is_word_l1 [1])) aNil))))
noncomputable def m_is_word : En → R L := dDef 2 b_is_word
section
variable {P : Program} {wd : World} {K : PySem.W.Frag} {mg : Str → Option Value} {base : Heap}
theorem ok_is_word (T : Tx K mg) : FnOk P wd K mg base (L2.CX P wd) 1 (He.ga K "is_word") (fd_is_word T) ["thing"] (spD K (caK [] K) 1 m_is_word) :=
  fn_denD (F_is_word T) sc_is_word fun cdv A outer s H E g =>
  (vss_cons (vs_if (vt_w (vw_or (vt_not (vt_b (ve_isi (by rfl) T.n_isinstance (ve_var 0) (by rfl) T.n_str boot_ty_str))) (vw_or1 (vt_not (vt_chain op_leA ob_le op_leA ob_le ve_int (ve_lenN 0 (by rfl) T.n_len) ve_int)))))
   (vss_one (vs_ret ve_bl))
   vss_nil)
  (vss_one (vs_ret (ve_cB (cr_all g.calm) cs_all (by rfl) T.n_all boot_B_all (va_im (ve_fz (vn_lcG [("sign", 1)] g sc_is_word.nd (vi_val (ve_var 0)) (by kernel_rfl)
   (fun s H C cl fp g => (vgc_name 1 (by decide) sc_is_word.nd)) (fun s H C cl fp g => vts_nil)
   (fun s H C cl fp g => (ve_cmp (op_inA g.u65) ob_in (ve_var 1) (ve_glS (by rfl) T.c_LETTERS) (by rfl))))) va_nil)))))
end
/-! is_cell -/
abbrev s_is_cell : Stmt := topS 15
theorem sc_is_cell : FnScope ["kind", "thing"] ["kind", "thing"] (defScope s_is_cell) := ⟨rfl, rfl, rfl, by decide +kernel, rfl, by decide +kernel, by decide +kernel⟩
noncomputable def b_is_cell : En → R Fl :=
  (dSeq (dIf (dCmp gIs (dVar 1) (dC .none))
   (dRet (dC (.bool true)))
   dNx)
  (dSeq (dIf (dCmp gEq (dVar 0) (dC (.str "number")))
   (dRet (dFn 1 m_is_told (aIm (dVar 1) aNil)))
   dNx)
  (dSeq (dIf (dCmp gEq (dVar 0) (dC (.str "word")))
   (dRet (dFn 1 m_is_word (aIm (dVar 1) aNil)))
   dNx)
  (dRet (dFn 1 m_is_told_day (aIm (dVar 1) aNil))))))
noncomputable def m_is_cell : En → R L := dDef 2 b_is_cell
section
variable {P : Program} {wd : World} {K : PySem.W.Frag} {mg : Str → Option Value} {base : Heap}
theorem ok_is_cell (T : Tx K mg) : FnOk P wd K mg base (L2.CX P wd) 4 (He.ga K "is_cell") (fd_is_cell T) ["kind", "thing"] (spD K (caK [] K) 2 m_is_cell) :=
  fn_denD (F_is_cell T) sc_is_cell fun cdv A outer s H E g =>
  (vss_cons (vs_if (vt_cmp op_isP ob_is (ve_var 1) ve_non (nomark _))
   (vss_one (vs_ret ve_bl))
   vss_nil)
  (vss_cons (vs_if (vt_cmp (op_eqD g.hr.units) ob_eq (ve_var 0) ve_str (nomark _))
   (vss_one (vs_ret (ve_call (ok_is_told T) (g.hr.mono (by decide)) g.tk rfl (by rfl) (g_is_told T) (F_is_told T).kp (bi_is_told T) (va_im (ve_var 1) va_nil))))
   vss_nil)
  (vss_cons (vs_if (vt_cmp (op_eqD g.hr.units) ob_eq (ve_var 0) ve_str (nomark _))
   (vss_one (vs_ret (ve_call (ok_is_word T) (g.hr.mono (by decide)) g.tk rfl (by rfl) (g_is_word T) (F_is_word T).kp (bi_is_word T) (va_im (ve_var 1) va_nil))))
   vss_nil)
  (vss_one (vs_ret (ve_call (ok_is_told_day T) (g.hr.mono (by decide)) g.tk rfl (by rfl) (g_is_told_day T) (F_is_told_day T).kp (bi_is_told_day T) (va_im (ve_var 1) va_nil)))))))
end
/-! column_at -/
abbrev s_column_at : Stmt := topS 16
theorem sc_column_at : FnScope ["columns", "name", "k"] ["columns", "name"] (defScope s_column_at) := ⟨rfl, rfl, rfl, by decide +kernel, rfl, by decide +kernel, by decide +kernel⟩
noncomputable def b_column_at_l1 : En → R Fl :=
  (dIf (dCmp gEq (dOp gIx (dIxN 0 (dVar 2)) (dC (.int 0))) (dVar 1))
   (dRet (dVar 2))
   dNx)
noncomputable def b_column_at : En → R Fl :=
  (dSeq (dFor (iRg1 (aIm (dLenN 0) aNil)) (putIm 2) b_column_at_l1)
  (dRet (dC .none)))
noncomputable def m_column_at : En → R L := dDef 3 b_column_at
section
variable {P : Program} {wd : World} {K : PySem.W.Frag} {mg : Str → Option Value} {base : Heap}
theorem ok_column_at (T : Tx K mg) : FnOk P wd K mg base (L2.CX P wd) 1 (He.ga K "column_at") (fd_column_at T) ["columns", "name"] (spD K (caK [] K) 2 m_column_at) :=
  fn_denD (F_column_at T) sc_column_at fun cdv A outer s H E g =>
  (vss_cons (vs_for g.po g.calm (vi_range1 (by rfl) T.n_range (va_im (ve_lenN 0 (by rfl) T.n_len) va_nil)) (vg_name 2 sc_column_at.nd) nox_put
   (vss_one (vs_if (vt_cmp (op_eqD g.hr.units) ob_eq (ve_ix (ve_ixN 0 (ve_var 2)) ve_int) (ve_var 1) (nomark _))
   (vss_one (vs_ret (ve_var 2)))
   vss_nil)))
  (vss_one (vs_ret ve_non)))
end
/-! comes_before -/
abbrev s_comes_before : Stmt := topS 17
theorem sc_comes_before : FnScope ["one", "other"] ["one", "other"] (defScope s_comes_before) := ⟨rfl, rfl, rfl, by decide +kernel, rfl, by decide +kernel, by decide +kernel⟩
noncomputable def b_comes_before : En → R Fl :=
  (dSeq (dIf (dIsi "tuple" (dVar 0))
   (dRet (dFn 2 m_under (aIm (dVar 0) (aIm (dVar 1) aNil))))
   dNx)
  (dRet (dB (dCmp gLt (dVar 0) (dVar 1)))))
noncomputable def m_comes_before : En → R L := dDef 2 b_comes_before
section
variable {P : Program} {wd : World} {K : PySem.W.Frag} {mg : Str → Option Value} {base : Heap}
theorem ok_comes_before (T : Tx K mg) : FnOk P wd K mg base (L2.CX P wd) 2 (He.ga K "comes_before") (fd_comes_before T) ["one", "other"] (spD K (caK [] K) 2 m_comes_before) :=
  fn_denD (F_comes_before T) sc_comes_before fun cdv A outer s H E g =>
  (vss_cons (vs_if (vt_b (ve_isi (by rfl) T.n_isinstance (ve_var 0) (by rfl) T.n_tuple boot_ty_tuple))
   (vss_one (vs_ret (ve_call (ok_under T) (g.hr.mono (by decide)) g.tk rfl (by rfl) (g_under T) (F_under T).kp (bi_under T) (va_im (ve_var 0) (va_im (ve_var 1) va_nil)))))
   vss_nil)
  (vss_one (vs_ret (ve_cmp op_ltA ob_lt (ve_var 0) (ve_var 1) (nomark _)))))
end
/-! _law_draws -/
abbrev s_law_draws : Stmt := topS 19
theorem sc_law_draws : FnScope ["cell", "tops", "found", "left", "mixed", "k"] ["cell", "tops"] (defScope s_law_draws) := ⟨rfl, rfl, rfl, by decide +kernel, rfl, by decide +kernel, by decide +kernel⟩
noncomputable def b_law_draws_l1 : En → R Fl :=
  (dIf (dCmp gGe (dCall gAbs (aIm (dVar 0) aNil)) (dOp gPow (dC (.int 10)) (dC (.int 18))))
   (dSeq (dApp 2 (dOp gMod (dVar 3) (dIxN 1 (dVar 5))))
   (dAsg (putIm 3) (dOp gFdiv (dVar 3) (dIxN 1 (dVar 5)))))
   (dSeq (dAsg (putIm 4) (dOp gMod (dOp gAdd (dOp gAdd (dOp gAdd (dOp gMul (dVar 4) (dVar 4)) (dOp gMul (dC (.int 69621)) (dVar 4))) (dOp gMul (dC (.int 7919)) (dVar 5))) (dC (.int 11))) (dC (.int 2147483647))))
   (dApp 2 (dOp gMod (dOp gMod (dOp gMul (dVar 4) (dC (.int 16807))) (dC (.int 2147483629))) (dIxN 1 (dVar 5))))))
noncomputable def b_law_draws : En → R Fl :=
  (dSeq (dAsgL 2 (nLst aNil))
  (dSeq (dAsg (putIm 3) (dCall gAbs (aIm (dVar 0) aNil)))
  (dSeq (dAsg (putIm 4) (dOp gMod (dOp gMul (dVar 0) (dC (.int 48271))) (dC (.int 2147483647))))
  (dSeq (dFor (iRg1 (aIm (dLenN 1) aNil)) (putIm 5) b_law_draws_l1)
  (dRetV 2)))))
noncomputable def m_law_draws : En → R L := dDef 6 b_law_draws
section
variable {P : Program} {wd : World} {K : PySem.W.Frag} {mg : Str → Option Value} {base : Heap}
theorem ok_law_draws (T : Tx K mg) : FnOk P wd K mg base (L2.CX P wd) 1 (He.ga K "_law_draws") (fd_law_draws T) ["cell", "tops"] (spD K (caK [] K) 2 m_law_draws) :=
  fn_denD (F_law_draws T) sc_law_draws fun cdv A outer s H E g =>
  (vss_cons (vs_setL 2 sc_law_draws.nd (vn_lst va_nil))
  (vss_cons (vs_set 3 sc_law_draws.nd (ve_cB call_abs cs_abs (by rfl) T.n_abs boot_B_abs (va_im (ve_var 0) va_nil)))
  (vss_cons (vs_set 4 sc_law_draws.nd (ve_mod (ve_mul (ve_var 0) ve_int) ve_int))
  (vss_cons (vs_for g.po g.calm (vi_range1 (by rfl) T.n_range (va_im (ve_lenN 1 (by rfl) T.n_len) va_nil)) (vg_name 5 sc_law_draws.nd) nox_put
   (vss_one (vs_if (vt_cmp op_geA ob_ge (ve_cB call_abs cs_abs (by rfl) T.n_abs boot_B_abs (va_im (ve_var 0) va_nil)) (ve_pow ve_int ve_int) (nomark _))
   (vss_cons (vs_append 2 (ve_mod (ve_var 3) (ve_ixN 1 (ve_var 5))))
   (vss_one (vs_set 3 sc_law_draws.nd (ve_fdiv (ve_var 3) (ve_ixN 1 (ve_var 5))))))
   (vss_cons (vs_set 4 sc_law_draws.nd (ve_mod (ve_add (ve_add (ve_add (ve_mul (ve_var 4) (ve_var 4)) (ve_mul ve_int (ve_var 4))) (ve_mul ve_int (ve_var 5))) ve_int) ve_int))
   (vss_one (vs_append 2 (ve_mod (ve_mod (ve_mul (ve_var 4) ve_int) ve_int) (ve_ixN 1 (ve_var 5)))))))))
  (vss_one (vs_retV 2))))))
end
/-! _law_whole -/
abbrev s_law_whole : Stmt := topS 20
theorem sc_law_whole : FnScope ["found"] ["found"] (defScope s_law_whole) := ⟨rfl, rfl, rfl, by decide +kernel, rfl, by decide +kernel, by decide +kernel⟩
noncomputable def b_law_whole : En → R Fl :=
  (dRet (dAndV (dIsi "int" (dVar 0)) (dB (dNot (dIsi "bool" (dVar 0))))))
noncomputable def m_law_whole : En → R L := dDef 1 b_law_whole
section
variable {P : Program} {wd : World} {K : PySem.W.Frag} {mg : Str → Option Value} {base : Heap}
theorem ok_law_whole (T : Tx K mg) : FnOk P wd K mg base (L2.CX P wd) 1 (He.ga K "_law_whole") (fd_law_whole T) ["found"] (spD K (caK [] K) 1 m_law_whole) :=
  fn_denD (F_law_whole T) sc_law_whole fun cdv A outer s H E g =>
  (vss_one (vs_ret (ve_and (ve_isi (by rfl) T.n_isinstance (ve_var 0) (by rfl) T.n_int boot_ty_int) (ve_and1 (ve_not (ve_isi (by rfl) T.n_isinstance (ve_var 0) (by rfl) T.n_bool boot_ty_bool))))))
end
/-! _law_divisor -/
abbrev s_law_divisor : Stmt := topS 21
theorem sc_law_divisor : FnScope ["one", "other"] ["one", "other"] (defScope s_law_divisor) := ⟨rfl, rfl, rfl, by decide +kernel, rfl, by decide +kernel, by decide +kernel⟩
noncomputable def b_law_divisor_l1 : En → R Fl :=
  (dPar 0 1 (aIm (dVar 1) (aIm (dOp gMod (dVar 0) (dVar 1)) aNil)))
noncomputable def b_law_divisor : En → R Fl :=
  (dSeq (dWhile (dCmp gNe (dVar 1) (dC (.int 0))) b_law_divisor_l1)
  (dRet (dCall gAbs (aIm (dVar 0) aNil))))
noncomputable def m_law_divisor : En → R L := dDef 2 b_law_divisor
section
variable {P : Program} {wd : World} {K : PySem.W.Frag} {mg : Str → Option Value} {base : Heap}
theorem ok_law_divisor (T : Tx K mg) : FnOk P wd K mg base (L2.CX P wd) 1 (He.ga K "_law_divisor") (fd_law_divisor T) ["one", "other"] (spD K (caK [] K) 2 m_law_divisor) :=
  fn_denD (F_law_divisor T) sc_law_divisor fun cdv A outer s H E g =>
  (vss_cons (vs_while g.po (vt_cmp (op_neD g.hr.units) ob_ne (ve_var 1) ve_int (nomark _))
   (vss_one (vs_par 0 1 g.calm sc_law_divisor.nd (va_im (ve_var 1) (va_im (ve_mod (ve_var 0) (ve_var 1)) va_nil)))))
  (vss_one (vs_ret (ve_cB call_abs cs_abs (by rfl) T.n_abs boot_B_abs (va_im (ve_var 0) va_nil)))))
end
/-! _law_lengths -/
abbrev s_law_lengths : Stmt := topS 22
theorem sc_law_lengths : FnScope ["year", "leap"] ["year"] (defScope s_law_lengths) := ⟨rfl, rfl, rfl, by decide +kernel, rfl, by decide +kernel, by decide +kernel⟩
noncomputable def b_law_lengths : En → R Fl :=
  (dSeq (dAsg (putIm 1) (dAndV (dCmp gEq (dOp gMod (dVar 0) (dC (.int 4))) (dC (.int 0))) (dOrV (dCmp gNe (dOp gMod (dVar 0) (dC (.int 100))) (dC (.int 0))) (dB (dCmp gEq (dOp gMod (dVar 0) (dC (.int 400))) (dC (.int 0)))))))
  (dRetL (nLst (aIm (dC (.int 31)) (aIm (dOp gAdd (dC (.int 28)) (dCall gInt (aIm (dVar 1) aNil))) (aIm (dC (.int 31)) (aIm (dC (.int 30)) (aIm (dC (.int 31)) (aIm (dC (.int 30)) (aIm (dC (.int 31)) (aIm (dC (.int 31)) (aIm (dC (.int 30)) (aIm (dC (.int 31)) (aIm (dC (.int 30)) (aIm (dC (.int 31)) aNil)))))))))))))))
noncomputable def m_law_lengths : En → R L := dDef 2 b_law_lengths
section
variable {P : Program} {wd : World} {K : PySem.W.Frag} {mg : Str → Option Value} {base : Heap}
theorem ok_law_lengths (T : Tx K mg) : FnOk P wd K mg base (L2.CX P wd) 1 (He.ga K "_law_lengths") (fd_law_lengths T) ["year"] (spD K (caK [] K) 1 m_law_lengths) :=
  fn_denD (F_law_lengths T) sc_law_lengths fun cdv A outer s H E g =>
  (vss_cons (vs_set 1 sc_law_lengths.nd (ve_and (ve_cmp (op_eqD g.hr.units) ob_eq (ve_mod (ve_var 0) ve_int) ve_int (nomark _)) (ve_and1 (ve_or (ve_cmp (op_neD g.hr.units) ob_ne (ve_mod (ve_var 0) ve_int) ve_int (nomark _)) (ve_or1 (ve_cmp (op_eqD g.hr.units) ob_eq (ve_mod (ve_var 0) ve_int) ve_int (nomark _)))))))
  (vss_one (vs_retL (vn_lst (va_im ve_int (va_im (ve_add ve_int (ve_cT call_intA cs_int (by rfl) T.n_int boot_ty_int (va_im (ve_var 1) va_nil))) (va_im ve_int (va_im ve_int (va_im ve_int (va_im ve_int (va_im ve_int (va_im ve_int (va_im ve_int (va_im ve_int (va_im ve_int (va_im ve_int va_nil))))))))))))))))
end
/-! _law_number -/
abbrev s_law_number : Stmt := topS 23
theorem sc_law_number : FnScope ["d", "top", "bottom", "share"] ["d"] (defScope s_law_number) := ⟨rfl, rfl, rfl, by decide +kernel, rfl, by decide +kernel, by decide +kernel⟩
noncomputable def b_law_number : En → R Fl :=
  (dSeq (dAsg (putIm 1) (dOp gIx (dLst (aIm (dOp gMod (dIxN 0 (dC (.int 2))) (dC (.int 10))) (aIm (dOp gMod (dIxN 0 (dC (.int 2))) (dC (.int 1000))) (aIm (dIxN 0 (dC (.int 2))) (aIm (dOp gAdd (dOp gMul (dIxN 0 (dC (.int 2))) (dOp gPow (dC (.int 10)) (dC (.int 9)))) (dIxN 0 (dC (.int 3)))) aNil))))) (dIxN 0 (dC (.int 1)))))
  (dSeq (dAsg (putIm 2) (dOp gIx (dLst (aIm (dOp gAdd (dIxN 0 (dC (.int 4))) (dC (.int 1))) (aIm (dC (.int 1)) aNil))) (dCall gInt (aIm (dB (dCmp gGe (dIxN 0 (dC (.int 4))) (dC (.int 60)))) aNil))))
  (dSeq (dAsg (putIm 3) (dFn 2 m_law_divisor (aIm (dVar 1) (aIm (dVar 2) aNil))))
  (dRet (dTup (aIm (dOp gFdiv (dOp gMul (dOp gSub (dC (.int 1)) (dOp gMul (dC (.int 2)) (dIxN 0 (dC (.int 0))))) (dVar 1)) (dVar 3)) (aIm (dOp gFdiv (dVar 2) (dVar 3)) aNil)))))))
noncomputable def m_law_number : En → R L := dDef 4 b_law_number
section
variable {P : Program} {wd : World} {K : PySem.W.Frag} {mg : Str → Option Value} {base : Heap}
theorem ok_law_number (T : Tx K mg) : FnOk P wd K mg base (L2.CX P wd) 2 (He.ga K "_law_number") (fd_law_number T) ["d"] (spD K (caK [] K) 1 m_law_number) :=
  fn_denD (F_law_number T) sc_law_number fun cdv A outer s H E g =>
  (vss_cons (vs_set 1 sc_law_number.nd (ve_ix (ve_lst (va_im (ve_mod (ve_ixN 0 ve_int) ve_int) (va_im (ve_mod (ve_ixN 0 ve_int) ve_int) (va_im (ve_ixN 0 ve_int) (va_im (ve_add (ve_mul (ve_ixN 0 ve_int) (ve_pow ve_int ve_int)) (ve_ixN 0 ve_int)) va_nil))))) (ve_ixN 0 ve_int)))
  (vss_cons (vs_set 2 sc_law_number.nd (ve_ix (ve_lst (va_im (ve_add (ve_ixN 0 ve_int) ve_int) (va_im ve_int va_nil))) (ve_cT call_intA cs_int (by rfl) T.n_int boot_ty_int (va_im (ve_cmp op_geA ob_ge (ve_ixN 0 ve_int) ve_int (nomark _)) va_nil))))
  (vss_cons (vs_set 3 sc_law_number.nd (ve_call (ok_law_divisor T) (g.hr.mono (by decide)) g.tk rfl (by rfl) (g_law_divisor T) (F_law_divisor T).kp (bi_law_divisor T) (va_im (ve_var 1) (va_im (ve_var 2) va_nil))))
  (vss_one (vs_ret (ve_tup (va_im (ve_fdiv (ve_mul (ve_sub ve_int (ve_mul ve_int (ve_ixN 0 ve_int))) (ve_var 1)) (ve_var 3)) (va_im (ve_fdiv (ve_var 2) (ve_var 3)) va_nil))))))))
end
/-! _law_word -/
abbrev s_law_word : Stmt := topS 24
theorem sc_law_word : FnScope ["d", "some", "k"] ["d"] (defScope s_law_word) := ⟨rfl, rfl, rfl, by decide +kernel, rfl, by decide +kernel, by decide +kernel⟩
noncomputable def b_law_word_l1 : D → En → R (Option D) :=
  (lcT (putIm 2) tT
   (dIxN 1 (dOp gMod (dIxN 0 (dOp gAdd (dC (.int 2)) (dVar 2))) (dOp gIx (dLst (aIm (dC (.int 26)) (aIm (dC (.int 2)) aNil))) (dIxN 0 (dC (.int 1)))))))
noncomputable def b_law_word : En → R Fl :=
  (dSeq (dAsg (putIm 1) (dC (.str "abcdefghijklmnopqrstuvwxyz")))
  (dRet (dM1 gJoin (dC (.str "")) (dFz (nLc (iRg1 (aIm (dOp gAdd (dC (.int 1)) (dIxN 0 (dC (.int 0)))) aNil)) b_law_word_l1 [2])))))
noncomputable def m_law_word : En → R L := dDef 3 b_law_word
section
variable {P : Program} {wd : World} {K : PySem.W.Frag} {mg : Str → Option Value} {base : Heap}
theorem ok_law_word (T : Tx K mg) : FnOk P wd K mg base (L2.CX P wd) 1 (He.ga K "_law_word") (fd_law_word T) ["d"] (spD K (caK [] K) 1 m_law_word) :=
  fn_denD (F_law_word T) sc_law_word fun cdv A outer s H E g =>
  (vss_cons (vs_set 1 sc_law_word.nd ve_str)
  (vss_one (vs_ret (ve_m1 PySem.F.slot_str_join PySem.F.type_str_join mt_join ms_join ve_str (ve_fz (vn_lcG [("k", 2)] g sc_law_word.nd (vi_range1 (by rfl) T.n_range (va_im (ve_add ve_int (ve_ixN 0 ve_int)) va_nil)) (by kernel_rfl)
   (fun s H C cl fp g => (vgc_name 2 (by decide) sc_law_word.nd)) (fun s H C cl fp g => vts_nil)
   (fun s H C cl fp g => (ve_ixN 1 (ve_mod (ve_ixN 0 (ve_add ve_int (ve_var 2))) (ve_ix (ve_lst (va_im ve_int (va_im ve_int va_nil))) (ve_ixN 0 ve_int)))))))))))
end
/-! _law_day -/
abbrev s_law_day : Stmt := topS 25
theorem sc_law_day : FnScope ["d", "year", "lengths", "ahead"] ["d"] (defScope s_law_day) := ⟨rfl, rfl, rfl, by decide +kernel, rfl, by decide +kernel, by decide +kernel⟩
noncomputable def b_law_day : En → R Fl :=
  (dSeq (dAsg (putIm 1) (dOp gAdd (dC (.int 1000)) (dIxN 0 (dC (.int 0)))))
  (dSeq (dAsg (putIm 2) (dFn 1 m_law_lengths (aIm (dVar 1) aNil)))
  (dSeq (dAsg (putIm 3) (dOp gAdd (dOp gSub (dOp gAdd (dOp gMul (dC (.int 365)) (dOp gSub (dVar 1) (dC (.int 1)))) (dOp gFdiv (dOp gSub (dVar 1) (dC (.int 1))) (dC (.int 4)))) (dOp gFdiv (dOp gSub (dVar 1) (dC (.int 1))) (dC (.int 100)))) (dOp gFdiv (dOp gSub (dVar 1) (dC (.int 1))) (dC (.int 400)))))
  (dRet (dOp gAdd (dOp gAdd (dVar 3) (dCall gSum (aIm (dSlN 2 oN (oI (dIxN 0 (dC (.int 1))))) aNil))) (dOp gMod (dIxN 0 (dC (.int 2))) (dIxN 2 (dIxN 0 (dC (.int 1))))))))))
noncomputable def m_law_day : En → R L := dDef 4 b_law_day
section
variable {P : Program} {wd : World} {K : PySem.W.Frag} {mg : Str → Option Value} {base : Heap}
theorem ok_law_day (T : Tx K mg) : FnOk P wd K mg base (L2.CX P wd) 2 (He.ga K "_law_day") (fd_law_day T) ["d"] (spD K (caK [] K) 1 m_law_day) :=
  fn_denD (F_law_day T) sc_law_day fun cdv A outer s H E g =>
  (vss_cons (vs_set 1 sc_law_day.nd (ve_add ve_int (ve_ixN 0 ve_int)))
  (vss_cons (vs_set 2 sc_law_day.nd (ve_call (ok_law_lengths T) (g.hr.mono (by decide)) g.tk rfl (by rfl) (g_law_lengths T) (F_law_lengths T).kp (bi_law_lengths T) (va_im (ve_var 1) va_nil)))
  (vss_cons (vs_set 3 sc_law_day.nd (ve_add (ve_sub (ve_add (ve_mul ve_int (ve_sub (ve_var 1) ve_int)) (ve_fdiv (ve_sub (ve_var 1) ve_int) ve_int)) (ve_fdiv (ve_sub (ve_var 1) ve_int) ve_int)) (ve_fdiv (ve_sub (ve_var 1) ve_int) ve_int)))
  (vss_one (vs_ret (ve_add (ve_add (ve_var 3) (ve_cB (cr_sum g.calm) cs_sum (by rfl) T.n_sum boot_B_sum (va_im (ve_slN 2 vo_none (vo_some (ve_ixN 0 ve_int))) va_nil))) (ve_mod (ve_ixN 0 ve_int) (ve_ixN 2 (ve_ixN 0 ve_int)))))))))
end
/-! _law_told -/
abbrev s_law_told : Stmt := topS 26
theorem sc_law_told : FnScope ["kind", "thing", "sign"] ["kind", "thing"] (defScope s_law_told) := ⟨rfl, rfl, rfl, by decide +kernel, rfl, by decide +kernel, by decide +kernel⟩
noncomputable def b_law_told_l1 : D → En → R (Option D) :=
  (lcT (putIm 2) tT
   (dB (dCmp gIn (dVar 2) (dC (.str "abcdefghijklmnopqrstuvwxyz")))))
noncomputable def b_law_told : En → R Fl :=
  (dSeq (dIf (dCmp gIs (dVar 1) (dC .none))
   (dRet (dC (.bool true)))
   dNx)
  (dSeq (dIf (dCmp gEq (dVar 0) (dC (.str "word")))
   (dSeq (dIf (dOr (dNot (dIsi "str" (dVar 1))) (dOr (dCmp gLt (dLenN 1) (dC (.int 1))) (dCmp gGt (dLenN 1) (dC (.int 8)))))
    (dRet (dC (.bool false)))
    dNx)
   (dRet (dCall gAll (aIm (dFz (nLc (iD (dVar 1)) b_law_told_l1 [2])) aNil))))
   dNx)
  (dSeq (dIf (dCmp gEq (dVar 0) (dC (.str "day")))
   (dRet (dAndV (dUB (dFn 1 m_law_whole (aIm (dVar 1) aNil))) (dB (dChain gLe gLe (dC (.int 364877)) (dVar 1) (dC (.int 3286816))))))
   dNx)
  (dSeq (dIf (dOr (dNot (dIsi "tuple" (dVar 1))) (dCmp gNe (dLenN 1) (dC (.int 2))))
   (dRet (dC (.bool false)))
   dNx)
  (dSeq (dIf (dOr (dNot (dTru (dFn 1 m_law_whole (aIm (dIxN 1 (dC (.int 0))) aNil)))) (dOr (dNot (dTru (dFn 1 m_law_whole (aIm (dIxN 1 (dC (.int 1))) aNil)))) (dOr (dCmp gLt (dIxN 1 (dC (.int 1))) (dC (.int 1))) (dCmp gGt (dIxN 1 (dC (.int 1))) (dC (.int 60))))))
   (dRet (dC (.bool false)))
   dNx)
  (dRet (dAndV (dCmp gLt (dCall gAbs (aIm (dIxN 1 (dC (.int 0))) aNil)) (dOp gPow (dC (.int 10)) (dC (.int 18)))) (dB (dCmp gEq (dFn 2 m_law_divisor (aIm (dIxN 1 (dC (.int 0))) (aIm (dIxN 1 (dC (.int 1))) aNil))) (dC (.int 1)))))))))))
noncomputable def m_law_told : En → R L := dDef 3 b_law_told
section
variable {P : Program} {wd : World} {K : PySem.W.Frag} {mg : Str → Option Value} {base : Heap}
theorem ok_law_told (T : Tx K mg) : FnOk P wd K mg base (L2.CX P wd) 2 (He.ga K "_law_told") (fd_law_told T) ["kind", "thing"] (spD K (caK [] K) 2 m_law_told) :=
  fn_denD (F_law_told T) sc_law_told fun cdv A outer s H E g =>
  (vss_cons (vs_if (vt_cmp op_isP ob_is (ve_var 1) ve_non (nomark _))
   (vss_one (vs_ret ve_bl))
   vss_nil)
  (vss_cons (vs_if (vt_cmp (op_eqD g.hr.units) ob_eq (ve_var 0) ve_str (nomark _))
   (vss_cons (vs_if (vt_w (vw_or (vt_not (vt_b (ve_isi (by rfl) T.n_isinstance (ve_var 1) (by rfl) T.n_str boot_ty_str))) (vw_or (vt_cmp op_ltA ob_lt (ve_lenN 1 (by rfl) T.n_len) ve_int (nomark _)) (vw_or1 (vt_cmp op_gtA ob_gt (ve_lenN 1 (by rfl) T.n_len) ve_int (nomark _))))))
    (vss_one (vs_ret ve_bl))
    vss_nil)
   (vss_one (vs_ret (ve_cB (cr_all g.calm) cs_all (by rfl) T.n_all boot_B_all (va_im (ve_fz (vn_lcG [("sign", 2)] g sc_law_told.nd (vi_val (ve_var 1)) (by kernel_rfl)
   (fun s H C cl fp g => (vgc_name 2 (by decide) sc_law_told.nd)) (fun s H C cl fp g => vts_nil)
   (fun s H C cl fp g => (ve_cmp (op_inA g.u65) ob_in (ve_var 2) ve_str (by rfl))))) va_nil)))))
   vss_nil)
  (vss_cons (vs_if (vt_cmp (op_eqD g.hr.units) ob_eq (ve_var 0) ve_str (nomark _))
   (vss_one (vs_ret (ve_and (ve_ub (ve_call (ok_law_whole T) (g.hr.mono (by decide)) g.tk rfl (by rfl) (g_law_whole T) (F_law_whole T).kp (bi_law_whole T) (va_im (ve_var 1) va_nil))) (ve_and1 (ve_chain op_leA ob_le op_leA ob_le ve_int (ve_var 1) ve_int)))))
   vss_nil)
  (vss_cons (vs_if (vt_w (vw_or (vt_not (vt_b (ve_isi (by rfl) T.n_isinstance (ve_var 1) (by rfl) T.n_tuple boot_ty_tuple))) (vw_or1 (vt_cmp (op_neD g.hr.units) ob_ne (ve_lenN 1 (by rfl) T.n_len) ve_int (nomark _)))))
   (vss_one (vs_ret ve_bl))
   vss_nil)
  (vss_cons (vs_if (vt_w (vw_or (vt_not (vt_tru (ve_call (ok_law_whole T) (g.hr.mono (by decide)) g.tk rfl (by rfl) (g_law_whole T) (F_law_whole T).kp (bi_law_whole T) (va_im (ve_ixN 1 ve_int) va_nil)))) (vw_or (vt_not (vt_tru (ve_call (ok_law_whole T) (g.hr.mono (by decide)) g.tk rfl (by rfl) (g_law_whole T) (F_law_whole T).kp (bi_law_whole T) (va_im (ve_ixN 1 ve_int) va_nil)))) (vw_or (vt_cmp op_ltA ob_lt (ve_ixN 1 ve_int) ve_int (nomark _)) (vw_or1 (vt_cmp op_gtA ob_gt (ve_ixN 1 ve_int) ve_int (nomark _)))))))
   (vss_one (vs_ret ve_bl))
   vss_nil)
  (vss_one (vs_ret (ve_and (ve_cmp op_ltA ob_lt (ve_cB call_abs cs_abs (by rfl) T.n_abs boot_B_abs (va_im (ve_ixN 1 ve_int) va_nil)) (ve_pow ve_int ve_int) (nomark _)) (ve_and1 (ve_cmp (op_eqD g.hr.units) ob_eq (ve_call (ok_law_divisor T) (g.hr.mono (by decide)) g.tk rfl (by rfl) (g_law_divisor T) (F_law_divisor T).kp (bi_law_divisor T) (va_im (ve_ixN 1 ve_int) (va_im (ve_ixN 1 ve_int) va_nil))) ve_int (nomark _)))))))))))
end
/-! _law_odd_word -/
abbrev s_law_odd_word : Stmt := topS 27
theorem sc_law_odd_word : FnScope ["word", "way", "at", "some", "sign", "place", "odd", "longer", "things"] ["word", "way", "at"] (defScope s_law_odd_word) := ⟨rfl, rfl, rfl, by decide +kernel, rfl, by decide +kernel, by decide +kernel⟩
noncomputable def b_law_odd_word : En → R Fl :=
  (dSeq (dAsg (putIm 3) (dC (.str "ABZ019 -_.,;:/\u0040[`{|}~\n\"'!#$&()*+<=>?^")))
  (dSeq (dAsg (putIm 4) (dIxN 3 (dOp gMod (dVar 2) (dLenN 3))))
  (dSeq (dAsg (putIm 5) (dOp gMod (dOp gFdiv (dVar 2) (dLenN 3)) (dOp gAdd (dLenN 0) (dC (.int 1)))))
  (dSeq (dAsg (putIm 6) (dOp gAdd (dOp gAdd (dSlN 0 oN (oI (dVar 5))) (dVar 4)) (dSlN 0 (oI (dVar 5)) oN)))
  (dSeq (dAsg (putIm 7) (dOp gAdd (dOp gAdd (dSlN 0 oN (oI (dVar 5))) (dC (.str "a"))) (dSlN 0 (oI (dVar 5)) oN)))
  (dSeq (dAsgL 8 (nLst (aIm (dVar 0) (aIm (dVar 6) (aIm (dVar 7) (aIm (dOp gAdd (dVar 0) (dVar 0)) (aIm (dC (.str "")) (aIm (dLst (aIm (dVar 0) aNil)) (aIm (dTup (aIm (dVar 0) aNil)) (aIm (dOp gAdd (dOp gAdd (dSlN 0 oN (oI (dVar 5))) (dVar 4)) (dSlN 0 (oI (dOp gAdd (dVar 5) (dC (.int 1)))) oN)) aNil))))))))))
  (dSeq (dApp 8 (dC (.dict [])))
  (dRet (dIxN 8 (dOp gMod (dVar 1) (dC (.int 9))))))))))))
noncomputable def m_law_odd_word : En → R L := dDef 9 b_law_odd_word
section
variable {P : Program} {wd : World} {K : PySem.W.Frag} {mg : Str → Option Value} {base : Heap}
theorem ok_law_odd_word (T : Tx K mg) : FnOk P wd K mg base (L2.CX P wd) 1 (He.ga K "_law_odd_word") (fd_law_odd_word T) ["word", "way", "at"] (spD K (caK [] K) 3 m_law_odd_word) :=
  fn_denD (F_law_odd_word T) sc_law_odd_word fun cdv A outer s H E g =>
  (vss_cons (vs_set 3 sc_law_odd_word.nd ve_str)
  (vss_cons (vs_set 4 sc_law_odd_word.nd (ve_ixN 3 (ve_mod (ve_var 2) (ve_lenN 3 (by rfl) T.n_len))))
  (vss_cons (vs_set 5 sc_law_odd_word.nd (ve_mod (ve_fdiv (ve_var 2) (ve_lenN 3 (by rfl) T.n_len)) (ve_add (ve_lenN 0 (by rfl) T.n_len) ve_int)))
  (vss_cons (vs_set 6 sc_law_odd_word.nd (ve_add (ve_add (ve_slN 0 vo_none (vo_some (ve_var 5))) (ve_var 4)) (ve_slN 0 (vo_some (ve_var 5)) vo_none)))
  (vss_cons (vs_set 7 sc_law_odd_word.nd (ve_add (ve_add (ve_slN 0 vo_none (vo_some (ve_var 5))) ve_str) (ve_slN 0 (vo_some (ve_var 5)) vo_none)))
  (vss_cons (vs_setL 8 sc_law_odd_word.nd (vn_lst (va_im (ve_var 0) (va_im (ve_var 6) (va_im (ve_var 7) (va_im (ve_add (ve_var 0) (ve_var 0)) (va_im ve_str (va_im (ve_lst (va_im (ve_var 0) va_nil)) (va_im (ve_tup (va_im (ve_var 0) va_nil)) (va_im (ve_add (ve_add (ve_slN 0 vo_none (vo_some (ve_var 5))) (ve_var 4)) (ve_slN 0 (vo_some (ve_add (ve_var 5) ve_int)) vo_none)) va_nil))))))))))
  (vss_cons (vs_append 8 ve_dict0)
  (vss_one (vs_ret (ve_ixN 8 (ve_mod (ve_var 1) ve_int)))))))))))
end
/-! _law_odd_number -/
abbrev s_law_odd_number : Stmt := topS 28
theorem sc_law_odd_number : FnScope ["one", "way", "at", "top", "bottom", "things"] ["one", "way", "at"] (defScope s_law_odd_number) := ⟨rfl, rfl, rfl, by decide +kernel, rfl, by decide +kernel, by decide +kernel⟩
noncomputable def b_law_odd_number : En → R Fl :=
  (dSeq (dAsg (gTupD 2 (gsCons (putIm 3) (gsCons (putIm 4) gsNil))) (dVar 0))
  (dSeq (dAsg (putIm 5) (dLst (aIm (dVar 0) (aIm (dTup (aIm (dVar 3) (aIm (dVar 4) (aIm (dC (.int 1)) aNil)))) (aIm (dLst (aIm (dVar 3) (aIm (dVar 4) aNil))) (aIm (dTup (aIm (dOp gMul (dC (.int 2)) (dVar 3)) (aIm (dOp gMul (dC (.int 2)) (dVar 4)) aNil))) (aIm (dTup (aIm (dVar 3) (aIm (d1 gNeg (dVar 4)) aNil))) (aIm (dTup (aIm (dVar 3) (aIm (dC (.int 0)) aNil))) aNil))))))))
  (dSeq (dAsg (putIm 5) (dOp gAdd (dVar 5) (dLst (aIm (dTup (aIm (dC (.bool true)) (aIm (dVar 4) aNil))) (aIm (dTup (aIm (dVar 3) (aIm (dC (.bool true)) aNil))) (aIm (dTup (aIm (dOp gSub (dOp gPow (dC (.int 10)) (dC (.int 18))) (dOp gMod (dVar 2) (dC (.int 2)))) (aIm (dC (.int 1)) aNil))) (aIm (dTup (aIm (dOp gSub (dC (.int 1)) (dOp gPow (dC (.int 10)) (dC (.int 18)))) (aIm (dC (.int 1)) aNil))) (aIm (dTup (aIm (d1 gNeg (dOp gPow (dC (.int 10)) (dC (.int 18)))) (aIm (dC (.int 1)) aNil))) aNil))))))))
  (dSeq (dAsg (putIm 5) (dOp gAdd (dVar 5) (dLst (aIm (dTup (aIm (dOp gAdd (dC (.int 1)) (dOp gFdiv (dVar 2) (dC (.int 2)))) (aIm (dOp gAdd (dC (.int 60)) (dOp gMod (dVar 2) (dC (.int 2)))) aNil))) (aIm (dVar 3) (aIm (dTup (aIm (dCall gStr (aIm (dVar 3) aNil)) (aIm (dVar 4) aNil))) (aIm (dTup (aIm (dC .none) (aIm (dC (.int 1)) aNil))) (aIm (dTup aNil) (aIm (dTup (aIm (dVar 3) aNil)) (aIm (dC (.bool true)) aNil))))))))))
  (dSeq (dAsg (putIm 5) (dOp gAdd (dVar 5) (dLst (aIm (dTup (aIm (dVar 3) (aIm (dCall gStr (aIm (dVar 4) aNil)) aNil))) (aIm (dTup (aIm (dOp gAdd (dVar 3) (dOp gPow (dC (.int 10)) (dC (.int 29)))) (aIm (dVar 4) aNil))) (aIm (dTup (aIm (dVar 3) (aIm (dOp gAdd (dVar 4) (dOp gPow (dC (.int 10)) (dC (.int 20)))) aNil))) aNil))))))
  (dRet (dIxN 5 (dOp gMod (dVar 1) (dC (.int 21))))))))))
noncomputable def m_law_odd_number : En → R L := dDef 6 b_law_odd_number
section
variable {P : Program} {wd : World} {K : PySem.W.Frag} {mg : Str → Option Value} {base : Heap}
theorem ok_law_odd_number (T : Tx K mg) : FnOk P wd K mg base (L2.CX P wd) 1 (He.ga K "_law_odd_number") (fd_law_odd_number T) ["one", "way", "at"] (spD K (caK [] K) 3 m_law_odd_number) :=
  fn_denD (F_law_odd_number T) sc_law_odd_number fun cdv A outer s H E g =>
  (vss_cons (vs_asg (ve_var 0) (vg_tup g.calm (vgs_cons (vg_name 3 sc_law_odd_number.nd) (vgs_cons (vg_name 4 sc_law_odd_number.nd) vgs_nil))) (nox_tup (nox_cons nox_put (nox_cons nox_put nox_nil))))
  (vss_cons (vs_set 5 sc_law_odd_number.nd (ve_lst (va_im (ve_var 0) (va_im (ve_tup (va_im (ve_var 3) (va_im (ve_var 4) (va_im ve_int va_nil)))) (va_im (ve_lst (va_im (ve_var 3) (va_im (ve_var 4) va_nil))) (va_im (ve_tup (va_im (ve_mul ve_int (ve_var 3)) (va_im (ve_mul ve_int (ve_var 4)) va_nil))) (va_im (ve_tup (va_im (ve_var 3) (va_im (ve_neg (ve_var 4)) va_nil))) (va_im (ve_tup (va_im (ve_var 3) (va_im ve_int va_nil))) va_nil))))))))
  (vss_cons (vs_set 5 sc_law_odd_number.nd (ve_add (ve_var 5) (ve_lst (va_im (ve_tup (va_im ve_bl (va_im (ve_var 4) va_nil))) (va_im (ve_tup (va_im (ve_var 3) (va_im ve_bl va_nil))) (va_im (ve_tup (va_im (ve_sub (ve_pow ve_int ve_int) (ve_mod (ve_var 2) ve_int)) (va_im ve_int va_nil))) (va_im (ve_tup (va_im (ve_sub ve_int (ve_pow ve_int ve_int)) (va_im ve_int va_nil))) (va_im (ve_tup (va_im (ve_neg (ve_pow ve_int ve_int)) (va_im ve_int va_nil))) va_nil))))))))
  (vss_cons (vs_set 5 sc_law_odd_number.nd (ve_add (ve_var 5) (ve_lst (va_im (ve_tup (va_im (ve_add ve_int (ve_fdiv (ve_var 2) ve_int)) (va_im (ve_add ve_int (ve_mod (ve_var 2) ve_int)) va_nil))) (va_im (ve_var 3) (va_im (ve_tup (va_im (ve_cT call_str_int cs_str (by rfl) T.n_str boot_ty_str (va_im (ve_var 3) va_nil)) (va_im (ve_var 4) va_nil))) (va_im (ve_tup (va_im ve_non (va_im ve_int va_nil))) (va_im (ve_tup va_nil) (va_im (ve_tup (va_im (ve_var 3) va_nil)) (va_im ve_bl va_nil))))))))))
  (vss_cons (vs_set 5 sc_law_odd_number.nd (ve_add (ve_var 5) (ve_lst (va_im (ve_tup (va_im (ve_var 3) (va_im (ve_cT call_str_int cs_str (by rfl) T.n_str boot_ty_str (va_im (ve_var 4) va_nil)) va_nil))) (va_im (ve_tup (va_im (ve_add (ve_var 3) (ve_pow ve_int ve_int)) (va_im (ve_var 4) va_nil))) (va_im (ve_tup (va_im (ve_var 3) (va_im (ve_add (ve_var 4) (ve_pow ve_int ve_int)) va_nil))) va_nil))))))
  (vss_one (vs_ret (ve_ixN 5 (ve_mod (ve_var 1) ve_int)))))))))
end
/-! _law_odd_day -/
abbrev s_law_odd_day : Stmt := topS 29
theorem sc_law_odd_day : FnScope ["one", "way", "at", "things"] ["one", "way", "at"] (defScope s_law_odd_day) := ⟨rfl, rfl, rfl, by decide +kernel, rfl, by decide +kernel, by decide +kernel⟩
noncomputable def b_law_odd_day : En → R Fl :=
  (dSeq (dAsg (putIm 3) (dLst (aIm (dVar 0) (aIm (dOp gAdd (dC (.int 364876)) (dOp gMod (dVar 2) (dC (.int 2)))) (aIm (dOp gAdd (dC (.int 3286816)) (dOp gMod (dVar 2) (dC (.int 2)))) (aIm (d1 gNeg (dVar 0)) (aIm (dC (.int 0)) (aIm (dC (.bool true)) (aIm (dCall gStr (aIm (dVar 0) aNil)) (aIm (dTup (aIm (dVar 0) (aIm (dC (.int 1)) aNil))) (aIm (dLst (aIm (dVar 0) aNil)) (aIm (dOp gAdd (dVar 0) (dC (.int 3000000))) aNil))))))))))))
  (dRet (dIxN 3 (dOp gMod (dVar 1) (dC (.int 10))))))
noncomputable def m_law_odd_day : En → R L := dDef 4 b_law_odd_day
section
variable {P : Program} {wd : World} {K : PySem.W.Frag} {mg : Str → Option Value} {base : Heap}
theorem ok_law_odd_day (T : Tx K mg) : FnOk P wd K mg base (L2.CX P wd) 1 (He.ga K "_law_odd_day") (fd_law_odd_day T) ["one", "way", "at"] (spD K (caK [] K) 3 m_law_odd_day) :=
  fn_denD (F_law_odd_day T) sc_law_odd_day fun cdv A outer s H E g =>
  (vss_cons (vs_set 3 sc_law_odd_day.nd (ve_lst (va_im (ve_var 0) (va_im (ve_add ve_int (ve_mod (ve_var 2) ve_int)) (va_im (ve_add ve_int (ve_mod (ve_var 2) ve_int)) (va_im (ve_neg (ve_var 0)) (va_im ve_int (va_im ve_bl (va_im (ve_cT call_str_int cs_str (by rfl) T.n_str boot_ty_str (va_im (ve_var 0) va_nil)) (va_im (ve_tup (va_im (ve_var 0) (va_im ve_int va_nil))) (va_im (ve_lst (va_im (ve_var 0) va_nil)) (va_im (ve_add (ve_var 0) ve_int) va_nil))))))))))))
  (vss_one (vs_ret (ve_ixN 3 (ve_mod (ve_var 1) ve_int)))))
end
/-! _law_before -/
abbrev s_law_before : Stmt := topS 30
theorem sc_law_before : FnScope ["kind", "one", "other"] ["kind", "one", "other"] (defScope s_law_before) := ⟨rfl, rfl, rfl, by decide +kernel, rfl, by decide +kernel, by decide +kernel⟩
noncomputable def b_law_before : En → R Fl :=
  (dSeq (dIf (dCmp gEq (dVar 0) (dC (.str "number")))
   (dRet (dB (dCmp gLt (dOp gMul (dIxN 1 (dC (.int 0))) (dIxN 2 (dC (.int 1)))) (dOp gMul (dIxN 2 (dC (.int 0))) (dIxN 1 (dC (.int 1)))))))
   dNx)
  (dRet (dB (dCmp gLt (dVar 1) (dVar 2)))))
noncomputable def m_law_before : En → R L := dDef 3 b_law_before
section
variable {P : Program} {wd : World} {K : PySem.W.Frag} {mg : Str → Option Value} {base : Heap}
theorem ok_law_before (T : Tx K mg) : FnOk P wd K mg base (L2.CX P wd) 1 (He.ga K "_law_before") (fd_law_before T) ["kind", "one", "other"] (spD K (caK [] K) 3 m_law_before) :=
  fn_denD (F_law_before T) sc_law_before fun cdv A outer s H E g =>
  (vss_cons (vs_if (vt_cmp (op_eqD g.hr.units) ob_eq (ve_var 0) ve_str (nomark _))
   (vss_one (vs_ret (ve_cmp op_ltA ob_lt (ve_mul (ve_ixN 1 ve_int) (ve_ixN 2 ve_int)) (ve_mul (ve_ixN 2 ve_int) (ve_ixN 1 ve_int)) (nomark _))))
   vss_nil)
  (vss_one (vs_ret (ve_cmp op_ltA ob_lt (ve_var 1) (ve_var 2) (nomark _)))))
end
/-! _law_columns -/
abbrev s_law_columns : Stmt := topS 31
theorem sc_law_columns : FnScope ["drawn_ones", "names", "columns", "k", "kept", "word", "found"] ["drawn_ones"] (defScope s_law_columns) := ⟨rfl, rfl, rfl, by decide +kernel, rfl, by decide +kernel, by decide +kernel⟩
noncomputable def b_law_columns_l1 : En → R Fl :=
  (dIf (dAnd (dCmpR gNotIn (dIxN 0 (dVar 3)) 1) (dCmp gLt (dLenN 1) (dC (.int 12))))
   (dSeq (dApp 1 (dIxN 0 (dVar 3)))
   (dApp 2 (dTup (aIm (dIxN 0 (dVar 3)) (aIm (dOp gIx (dLst (aIm (dC (.str "number")) (aIm (dC (.str "word")) (aIm (dC (.str "day")) aNil)))) (dOp gMod (dVar 3) (dC (.int 3)))) aNil)))))
   dNx)
noncomputable def b_law_columns_l2 : En → R Fl :=
  (dSeq (dAsg (putIm 6) (dFn 2 m_column_at (aIm (dVar 2) (aIm (dVar 5) aNil))))
  (dIf (dCmpR gNotIn (dVar 5) 1)
   (dIf (dCmp gIsNot (dVar 6) (dC .none))
    (dRet (dC (.bool false)))
    dNx)
   (dIf (dOr (dNot (dTru (dFn 1 m_law_whole (aIm (dVar 6) aNil)))) (dCmp gNe (dVar 6) (dLM1 gIndex (dVar 1) (dVar 5))))
    (dRet (dC (.bool false)))
    dNx)))
noncomputable def b_law_columns : En → R Fl :=
  (dSeq (dAsgL 1 (nLst aNil))
  (dSeq (dAsgL 2 (nLst aNil))
  (dSeq (dFor (iRg1 (aIm (dLenN 0) aNil)) (putIm 3) b_law_columns_l1)
  (dSeq (dAsg (putIm 4) (dCall gList (aIm (dVar 2) aNil)))
  (dSeq (dFor (iD (dOp gAdd (dVar 0) (dLst (aIm (dSl (dOp gAdd (dIxN 0 (dC (.int 0))) (dC (.str "z"))) (oI (d1 gNeg (dC (.int 8)))) oN) (aIm (dOp gAdd (dSl (dIxN 0 (dC (.int 0))) (oI (dC (.int 1))) oN) (dC (.str "q"))) aNil))))) (putIm 5) b_law_columns_l2)
  (dRet (dB (dCmpL gEq 2 (dVar 4)))))))))
noncomputable def m_law_columns : En → R L := dDef 7 b_law_columns
section
variable {P : Program} {wd : World} {K : PySem.W.Frag} {mg : Str → Option Value} {base : Heap}
theorem ok_law_columns (T : Tx K mg) : FnOk P wd K mg base (L2.CX P wd) 2 (He.ga K "_law_columns") (fd_law_columns T) ["drawn_ones"] (spD K (caK [] K) 1 m_law_columns) :=
  fn_denD (F_law_columns T) sc_law_columns fun cdv A outer s H E g =>
  (vss_cons (vs_setL 1 sc_law_columns.nd (vn_lst va_nil))
  (vss_cons (vs_setL 2 sc_law_columns.nd (vn_lst va_nil))
  (vss_cons (vs_for g.po g.calm (vi_range1 (by rfl) T.n_range (va_im (ve_lenN 0 (by rfl) T.n_len) va_nil)) (vg_name 3 sc_law_columns.nd) nox_put
   (vss_one (vs_if (vt_w (vw_and (vt_cmpRN 1 (op_notInA g.u65) ob_notIn (ve_ixN 0 (ve_var 3)) (by rfl)) (vw_and1 (vt_cmp op_ltA ob_lt (ve_lenN 1 (by rfl) T.n_len) ve_int (nomark _)))))
   (vss_cons (vs_append 1 (ve_ixN 0 (ve_var 3)))
   (vss_one (vs_append 2 (ve_tup (va_im (ve_ixN 0 (ve_var 3)) (va_im (ve_ix (ve_lst (va_im ve_str (va_im ve_str (va_im ve_str va_nil)))) (ve_mod (ve_var 3) ve_int)) va_nil))))))
   vss_nil)))
  (vss_cons (vs_set 4 sc_law_columns.nd (ve_cT call_list_of cs_list (by rfl) T.n_list boot_ty_list (va_im (ve_var 2) va_nil)))
  (vss_cons (vs_for g.po g.calm (vi_val (ve_add (ve_var 0) (ve_lst (va_im (ve_sl (ve_add (ve_ixN 0 ve_int) ve_str) (vo_some (ve_neg ve_int)) vo_none) (va_im (ve_add (ve_sl (ve_ixN 0 ve_int) (vo_some ve_int) vo_none) ve_str) va_nil))))) (vg_name 5 sc_law_columns.nd) nox_put
   (vss_cons (vs_set 6 sc_law_columns.nd (ve_call (ok_column_at T) (g.hr.mono (by decide)) g.tk rfl (by rfl) (g_column_at T) (F_column_at T).kp (bi_column_at T) (va_im (ve_var 2) (va_im (ve_var 5) va_nil))))
  (vss_one (vs_if (vt_cmpRN 1 (op_notInA g.u65) ob_notIn (ve_var 5) (by rfl))
   (vss_one (vs_if (vt_cmp op_isNotP ob_isNot (ve_var 6) ve_non (nomark _))
    (vss_one (vs_ret ve_bl))
    vss_nil))
   (vss_one (vs_if (vt_w (vw_or (vt_not (vt_tru (ve_call (ok_law_whole T) (g.hr.mono (by decide)) g.tk rfl (by rfl) (g_law_whole T) (F_law_whole T).kp (bi_law_whole T) (va_im (ve_var 6) va_nil)))) (vw_or1 (vt_cmp (op_neD g.hr.units) ob_ne (ve_var 6) (ve_index g.u65 (ve_var 1) (ve_var 5)) (nomark _)))))
    (vss_one (vs_ret ve_bl))
    vss_nil))))))
  (vss_one (vs_ret (ve_cmpL 2 (op_eqD g.hr.units) ob_eq (ve_var 4) (nomark _)))))))))
end
/-! law -/
abbrev s_law : Stmt := topS 32
theorem sc_law : FnScope ["script", "kinds", "known", "drawn_ones", "cell", "d", "word", "good", "odd", "thing", "found", "kind", "other", "one", "two"] ["script"] (defScope s_law) := ⟨rfl, rfl, rfl, by decide +kernel, rfl, by decide +kernel, by decide +kernel⟩
noncomputable def b_law_l1 : En → R Fl :=
  (dSeq (dAsg (putIm 10) (dFn 2 m_is_cell (aIm (dVar 11) (aIm (dVar 9) aNil))))
  (dIf (dOr (dNot (dIsi "bool" (dVar 10))) (dCmp gNe (dVar 10) (dFn 2 m_law_told (aIm (dVar 11) (aIm (dVar 9) aNil)))))
   (dRet (dC (.bool false)))
   dNx))
noncomputable def b_law_l2 : En → R Fl :=
  (dSeq (dAsg (putIm 10) (dFn 1 m_is_word (aIm (dVar 9) aNil)))
  (dSeq (dIf (dOr (dNot (dIsi "bool" (dVar 10))) (dCmp gNe (dVar 10) (dAndV (dCmp gIsNot (dVar 9) (dC .none)) (dFn 2 m_law_told (aIm (dC (.str "word")) (aIm (dVar 9) aNil))))))
   (dRet (dC (.bool false)))
   dNx)
  (dFor (iD (dVar 1)) (putIm 11) b_law_l1)))
noncomputable def b_law_l3 : En → R Fl :=
  (dSeq (dAsg (putIm 10) (dFn 2 m_comes_before (aIm (dVar 13) (aIm (dVar 14) aNil))))
  (dIf (dOr (dNot (dIsi "bool" (dVar 10))) (dCmp gNe (dVar 10) (dFn 3 m_law_before (aIm (dIxN 1 (dIxN 5 (dC (.int 0)))) (aIm (dVar 13) (aIm (dVar 14) aNil))))))
   (dRet (dC (.bool false)))
   dNx))
noncomputable def b_law_l4 : En → R Fl :=
  (dFor (iD (dLst (aIm (dTup (aIm (dIxN 7 (dIxN 5 (dC (.int 0)))) (aIm (dVar 12) aNil))) (aIm (dTup (aIm (dVar 12) (aIm (dIxN 7 (dIxN 5 (dC (.int 0)))) aNil))) aNil)))) (gTupD 2 (gsCons (putIm 13) (gsCons (putIm 14) gsNil))) b_law_l3)
noncomputable def b_law_l5 : En → R Fl :=
  (dSeq (dAsg (putIm 5) (dFn 2 m_law_draws (aIm (dVar 4) (aIm (dOp gAdd (dOp gAdd (dOp gAdd (dOp gAdd (dLst (aIm (dC (.int 3)) (aIm (dOp gPow (dC (.int 10)) (dC (.int 6))) (aIm (dC (.int 840)) aNil)))) (dLst (aIm (dC (.int 8)) (aIm (dC (.int 2)) aNil)))) (dMulL (nLst (aIm (dC (.int 26)) aNil)) (qC (.int 8)))) (dLst (aIm (dC (.int 2)) (aIm (dC (.int 4)) (aIm (dOp gPow (dC (.int 10)) (dC (.int 9))) (aIm (dOp gPow (dC (.int 10)) (dC (.int 9))) (aIm (dC (.int 90)) aNil))))))) (dLst (aIm (dC (.int 8000)) (aIm (dC (.int 12)) (aIm (dC (.int 31)) aNil))))) aNil))))
  (dSeq (dAsg (putIm 6) (dFn 1 m_law_word (aIm (dSlN 5 (oI (dC (.int 3))) (oI (dC (.int 13)))) aNil)))
  (dSeq (dAsg (putIm 7) (dLst (aIm (dFn 1 m_law_number (aIm (dSlN 5 (oI (dC (.int 13))) (oI (dC (.int 18)))) aNil)) (aIm (dVar 6) (aIm (dFn 1 m_law_day (aIm (dSlN 5 (oI (dC (.int 18))) (oI (dC (.int 21)))) aNil)) aNil)))))
  (dSeq (dAsg (putIm 8) (dLst (aIm (dFn 3 m_law_odd_number (aIm (dIxN 7 (dC (.int 0))) (aIm (dIxN 5 (dC (.int 2))) (aIm (dIxN 5 (dC (.int 1))) aNil)))) (aIm (dFn 3 m_law_odd_word (aIm (dVar 6) (aIm (dIxN 5 (dC (.int 2))) (aIm (dIxN 5 (dC (.int 1))) aNil)))) (aIm (dFn 3 m_law_odd_day (aIm (dIxN 7 (dC (.int 2))) (aIm (dIxN 5 (dC (.int 2))) (aIm (dIxN 5 (dC (.int 1))) aNil)))) aNil)))))
  (dSeq (dApp 3 (dVar 6))
  (dSeq (dFor (iD (dLst (aIm (dIxN 8 (dIxN 5 (dC (.int 0)))) (aIm (dIxN 7 (dIxN 5 (dC (.int 0)))) (aIm (dC .none) aNil))))) (putIm 9) b_law_l2)
  (dSeq (dAppT 2 (pIx 2 pVar (qOp gIx (qVar 5) (qC (.int 0)))) (qOp gIx (qVar 7) (qOp gIx (qVar 5) (qC (.int 0)))))
  (dFor (iD (dLst (aIm (dQ (qItem 2 (pIx 2 pVar (qOp gIx (qVar 5) (qC (.int 0)))) (qC (.int 0)))) (aIm (dQ (qItem 2 (pIx 2 pVar (qOp gIx (qVar 5) (qC (.int 0)))) (q1 gNeg (qC (.int 1))))) (aIm (dQ (qItem 2 (pIx 2 pVar (qOp gIx (qVar 5) (qC (.int 0)))) (qOp gFdiv (qLenT 2 (pIx 2 pVar (qOp gIx (qVar 5) (qC (.int 0))))) (qC (.int 2))))) aNil))))) (putIm 12) b_law_l4))))))))
noncomputable def b_law : En → R Fl :=
  (dSeq (dAsg (putIm 1) (dLst (aIm (dC (.str "number")) (aIm (dC (.str "word")) (aIm (dC (.str "day")) aNil)))))
  (dSeq (dAsgT 2 (tNew (nLst aNil) (tNew (nLst aNil) (tNew (nLst aNil) tNil))))
  (dSeq (dAsgL 3 (nLst aNil))
  (dSeq (dFor (iD (dSl (dOp gAdd (dVar 0) (dLst (aIm (dC (.int 0)) aNil))) oN (oI (dC (.int 64))))) (putIm 4) b_law_l5)
  (dRet (dFnT 1 m_law_columns (aSl 3 aNil)))))))
noncomputable def m_law : En → R L := dDef 15 b_law
section
variable {P : Program} {wd : World} {K : PySem.W.Frag} {mg : Str → Option Value} {base : Heap}
theorem ok_law (T : Tx K mg) : FnOk P wd K mg base (L2.CX P wd) 5 (He.ga K "law") (fd_law T) ["script"] (spD K (caK [] K) 1 m_law) :=
  fn_denD (F_law T) sc_law fun cdv A outer s H E g =>
  (vss_cons (vs_set 1 sc_law.nd (ve_lst (va_im ve_str (va_im ve_str (va_im ve_str va_nil)))))
  (vss_cons (vs_asgT 2 sc_law.nd (vns_new (vn_lst va_nil) (vns_new (vn_lst va_nil) (vns_new (vn_lst va_nil) vns_nil))))
  (vss_cons (vs_setL 3 sc_law.nd (vn_lst va_nil))
  (vss_cons (vs_for g.po g.calm (vi_val (ve_sl (ve_add (ve_var 0) (ve_lst (va_im ve_int va_nil))) vo_none (vo_some ve_int))) (vg_name 4 sc_law.nd) nox_put
   (vss_cons (vs_set 5 sc_law.nd (ve_call (ok_law_draws T) (g.hr.mono (by decide)) g.tk rfl (by rfl) (g_law_draws T) (F_law_draws T).kp (bi_law_draws T) (va_im (ve_var 4) (va_im (ve_add (ve_add (ve_add (ve_add (ve_lst (va_im ve_int (va_im (ve_pow ve_int ve_int) (va_im ve_int va_nil)))) (ve_lst (va_im ve_int (va_im ve_int va_nil)))) (ve_mulL (vn_lst (va_im ve_int va_nil)) vq_int)) (ve_lst (va_im ve_int (va_im ve_int (va_im (ve_pow ve_int ve_int) (va_im (ve_pow ve_int ve_int) (va_im ve_int va_nil))))))) (ve_lst (va_im ve_int (va_im ve_int (va_im ve_int va_nil))))) va_nil))))
  (vss_cons (vs_set 6 sc_law.nd (ve_call (ok_law_word T) (g.hr.mono (by decide)) g.tk rfl (by rfl) (g_law_word T) (F_law_word T).kp (bi_law_word T) (va_im (ve_slN 5 (vo_some ve_int) (vo_some ve_int)) va_nil)))
  (vss_cons (vs_set 7 sc_law.nd (ve_lst (va_im (ve_call (ok_law_number T) (g.hr.mono (by decide)) g.tk rfl (by rfl) (g_law_number T) (F_law_number T).kp (bi_law_number T) (va_im (ve_slN 5 (vo_some ve_int) (vo_some ve_int)) va_nil)) (va_im (ve_var 6) (va_im (ve_call (ok_law_day T) (g.hr.mono (by decide)) g.tk rfl (by rfl) (g_law_day T) (F_law_day T).kp (bi_law_day T) (va_im (ve_slN 5 (vo_some ve_int) (vo_some ve_int)) va_nil)) va_nil)))))
  (vss_cons (vs_set 8 sc_law.nd (ve_lst (va_im (ve_call (ok_law_odd_number T) (g.hr.mono (by decide)) g.tk rfl (by rfl) (g_law_odd_number T) (F_law_odd_number T).kp (bi_law_odd_number T) (va_im (ve_ixN 7 ve_int) (va_im (ve_ixN 5 ve_int) (va_im (ve_ixN 5 ve_int) va_nil)))) (va_im (ve_call (ok_law_odd_word T) (g.hr.mono (by decide)) g.tk rfl (by rfl) (g_law_odd_word T) (F_law_odd_word T).kp (bi_law_odd_word T) (va_im (ve_var 6) (va_im (ve_ixN 5 ve_int) (va_im (ve_ixN 5 ve_int) va_nil)))) (va_im (ve_call (ok_law_odd_day T) (g.hr.mono (by decide)) g.tk rfl (by rfl) (g_law_odd_day T) (F_law_odd_day T).kp (bi_law_odd_day T) (va_im (ve_ixN 7 ve_int) (va_im (ve_ixN 5 ve_int) (va_im (ve_ixN 5 ve_int) va_nil)))) va_nil)))))
  (vss_cons (vs_append 3 (ve_var 6))
  (vss_cons (vs_for g.po g.calm (vi_val (ve_lst (va_im (ve_ixN 8 (ve_ixN 5 ve_int)) (va_im (ve_ixN 7 (ve_ixN 5 ve_int)) (va_im ve_non va_nil))))) (vg_name 9 sc_law.nd) nox_put
   (vss_cons (vs_set 10 sc_law.nd (ve_call (ok_is_word T) (g.hr.mono (by decide)) g.tk rfl (by rfl) (g_is_word T) (F_is_word T).kp (bi_is_word T) (va_im (ve_var 9) va_nil)))
  (vss_cons (vs_if (vt_w (vw_or (vt_not (vt_b (ve_isi (by rfl) T.n_isinstance (ve_var 10) (by rfl) T.n_bool boot_ty_bool))) (vw_or1 (vt_cmp (op_neD g.hr.units) ob_ne (ve_var 10) (ve_and (ve_cmp op_isNotP ob_isNot (ve_var 9) ve_non (nomark _)) (ve_and1 (ve_call (ok_law_told T) (g.hr.mono (by decide)) g.tk rfl (by rfl) (g_law_told T) (F_law_told T).kp (bi_law_told T) (va_im ve_str (va_im (ve_var 9) va_nil))))) (nomark _)))))
   (vss_one (vs_ret ve_bl))
   vss_nil)
  (vss_one (vs_for g.po g.calm (vi_val (ve_var 1)) (vg_name 11 sc_law.nd) nox_put
   (vss_cons (vs_set 10 sc_law.nd (ve_call (ok_is_cell T) (g.hr.mono (by decide)) g.tk rfl (by rfl) (g_is_cell T) (F_is_cell T).kp (bi_is_cell T) (va_im (ve_var 11) (va_im (ve_var 9) va_nil))))
  (vss_one (vs_if (vt_w (vw_or (vt_not (vt_b (ve_isi (by rfl) T.n_isinstance (ve_var 10) (by rfl) T.n_bool boot_ty_bool))) (vw_or1 (vt_cmp (op_neD g.hr.units) ob_ne (ve_var 10) (ve_call (ok_law_told T) (g.hr.mono (by decide)) g.tk rfl (by rfl) (g_law_told T) (F_law_told T).kp (bi_law_told T) (va_im (ve_var 11) (va_im (ve_var 9) va_nil))) (nomark _)))))
   (vss_one (vs_ret ve_bl))
   vss_nil))))))))
  (vss_cons (vs_appT (vpl_ix (vpl_var 2) (vq_ix (vq_var 5) vq_int)) (vq_ix (vq_var 7) (vq_ix (vq_var 5) vq_int)))
  (vss_one (vs_for g.po g.calm (vi_val (ve_lst (va_im (ve_q (vq_item (vpl_ix (vpl_var 2) (vq_ix (vq_var 5) vq_int)) vq_int)) (va_im (ve_q (vq_item (vpl_ix (vpl_var 2) (vq_ix (vq_var 5) vq_int)) (vq_neg vq_int))) (va_im (ve_q (vq_item (vpl_ix (vpl_var 2) (vq_ix (vq_var 5) vq_int)) (vq_fdiv (vq_lenT (by rfl) T.n_len (vpl_ix (vpl_var 2) (vq_ix (vq_var 5) vq_int))) vq_int))) va_nil))))) (vg_name 12 sc_law.nd) nox_put
   (vss_one (vs_for g.po g.calm (vi_val (ve_lst (va_im (ve_tup (va_im (ve_ixN 7 (ve_ixN 5 ve_int)) (va_im (ve_var 12) va_nil))) (va_im (ve_tup (va_im (ve_var 12) (va_im (ve_ixN 7 (ve_ixN 5 ve_int)) va_nil))) va_nil)))) (vg_tup g.calm (vgs_cons (vg_name 13 sc_law.nd) (vgs_cons (vg_name 14 sc_law.nd) vgs_nil))) (nox_tup (nox_cons nox_put (nox_cons nox_put nox_nil)))
   (vss_cons (vs_set 10 sc_law.nd (ve_call (ok_comes_before T) (g.hr.mono (by decide)) g.tk rfl (by rfl) (g_comes_before T) (F_comes_before T).kp (bi_comes_before T) (va_im (ve_var 13) (va_im (ve_var 14) va_nil))))
  (vss_one (vs_if (vt_w (vw_or (vt_not (vt_b (ve_isi (by rfl) T.n_isinstance (ve_var 10) (by rfl) T.n_bool boot_ty_bool))) (vw_or1 (vt_cmp (op_neD g.hr.units) ob_ne (ve_var 10) (ve_call (ok_law_before T) (g.hr.mono (by decide)) g.tk rfl (by rfl) (g_law_before T) (F_law_before T).kp (bi_law_before T) (va_im (ve_ixN 1 (ve_ixN 5 ve_int)) (va_im (ve_var 13) (va_im (ve_var 14) va_nil)))) (nomark _)))))
   (vss_one (vs_ret ve_bl))
   vss_nil)))))))))))))))
  (vss_one (vs_ret (ve_callT (ok_law_columns T) (g.hr.mono (by decide)) g.tk rfl (by rfl) (g_law_columns T) (F_law_columns T).kp (bi_law_columns T) (va_sl 3 va_nil))))))))
end
end Lw
namespace Dn
open PySem PySem.Spec PyProof.Rows L2
abbrev cI (i : Int) : Option L := some (.im (.int i))
abbrev cD (d : D) : Option L := some (.im d)
/-- the greatest divisor, by the loop -/
theorem gcd_loop : ∀ (n : Nat) (a b : Int), b.natAbs ≤ n → ∃ g : Int, g.natAbs = Int.gcd a b ∧
    dWhile (dCmp gNe (dVar 1) (dC (.int 0))) (dPar 0 1 (aIm (dVar 1) (aIm (dOp gMod (dVar 0) (dVar 1)) aNil))) [cI a, cI b] = .ok .nx [cI g, cI 0]
  | n, a, b, h => by
    rw [dWhile_turn]
    by_cases hb : b = 0
    · subst hb
      exact ⟨a, by simp, by simp⟩
    · cases n with
      | zero => omega
      | succ n =>
        have hlt : (a.fmod b).natAbs < b.natAbs := by
          rcases Int.lt_trichotomy b 0 with h1 | h1 | h1
          · have e : a.fmod b = -((-a).fmod (-b)) := by rw [Int.neg_fmod_neg]; omega
            rw [e, Int.natAbs_neg, Int.fmod_eq_emod_of_nonneg _ (by omega)]
            have h2 := Int.emod_nonneg (-a) (show -b ≠ 0 by omega)
            have h3 := Int.emod_lt_of_pos (-a) (show 0 < -b by omega)
            omega
          · exact absurd h1 hb
          · rw [Int.fmod_eq_emod_of_nonneg _ (by omega)]
            have h2 := Int.emod_nonneg a hb
            have h3 := Int.emod_lt_of_pos a h1
            omega
        obtain ⟨g, hg, e⟩ := gcd_loop n b (a.fmod b) (by omega)
        refine ⟨g, ?_, ?_⟩
        · rw [hg]
          have e1 : a.fmod b = a - b * a.fdiv b := by have := Int.fmod_add_mul_fdiv a b; omega
          rw [e1, Int.gcd_sub_mul_left_right, Int.gcd_comm]
        · simp [hb, gMod_of hb, e]
theorem pow60 : gPow (.int 10) (.int 60) = some (.int (10 ^ 60)) := gPow_of (by decide) (by decide) (by decide)
theorem pow59 : gPow (.int 10) (.int 59) = some (.int (10 ^ 59)) := gPow_of (by decide) (by decide) (by decide)
/-- a number in lowest terms, made of two ints -/
theorem lowest_of (top bottom : Int) (hb : 0 < bottom) (M : Nat) (h1 : top.natAbs < M) (h2 : bottom.natAbs < M) {n : Nat} (hM : M ≤ 2 ^ n) (hn : 0 < n) (h9 : n ≤ 9000) : ∃ t b : Int, 0 < b ∧ t.natAbs < M ∧ b.natAbs < M ∧ Int.gcd t b = 1 ∧ t * bottom = top * b ∧
    gFdiv (.int top) (.int (Int.gcd top bottom)) = some (.int t) ∧ gFdiv (.int bottom) (.int (Int.gcd top bottom)) = some (.int b) := by
  have hg : 0 < Int.gcd top bottom := Int.gcd_pos_of_ne_zero_right _ (by omega)
  have d1 := Int.gcd_dvd_left top bottom
  have d2 := Int.gcd_dvd_right top bottom
  have hle : Int.gcd top bottom ≤ bottom.natAbs := Nat.le_of_dvd (by omega) (by have := Int.natAbs_dvd_natAbs.mpr d2; simpa using this)
  have hgl : (Int.gcd top bottom : Int).natAbs < 2 ^ n := by
    rw [Int.natAbs_natCast]
    exact Nat.lt_of_le_of_lt hle (Nat.lt_of_lt_of_le h2 hM)
  refine ⟨top / Int.gcd top bottom, bottom / Int.gcd top bottom, ?_, ?_, ?_, ?_, ?_, gFdiv_pos (by omega) hgl hn h9, gFdiv_pos (by omega) hgl hn h9⟩
  · exact Int.ediv_pos_of_pos_of_dvd hb (by omega) d2
  · obtain ⟨q, hq⟩ := d1
    have e : top / (Int.gcd top bottom : Int) = q := by
      conv => lhs; lhs; rw [hq]
      exact Int.mul_ediv_cancel_left q (by omega)
    rw [e]
    have : top.natAbs = Int.gcd top bottom * q.natAbs := by
      conv => lhs; rw [hq]
      rw [Int.natAbs_mul]; rfl
    have h3 : q.natAbs ≤ Int.gcd top bottom * q.natAbs := Nat.le_mul_of_pos_left _ hg
    omega
  · obtain ⟨q, hq⟩ := d2
    have e : bottom / (Int.gcd top bottom : Int) = q := by
      conv => lhs; lhs; rw [hq]
      exact Int.mul_ediv_cancel_left q (by omega)
    rw [e]
    have : bottom.natAbs = Int.gcd top bottom * q.natAbs := by
      conv => lhs; rw [hq]
      rw [Int.natAbs_mul]; rfl
    have h3 : q.natAbs ≤ Int.gcd top bottom * q.natAbs := Nat.le_mul_of_pos_left _ hg
    omega
  · exact Int.gcd_ediv_gcd_ediv_gcd hg
  · obtain ⟨q, hq⟩ := d1
    obtain ⟨r, hr⟩ := d2
    have e1 : top / (Int.gcd top bottom : Int) = q := by
      conv => lhs; lhs; rw [hq]
      exact Int.mul_ediv_cancel_left q (by omega)
    have e2 : bottom / (Int.gcd top bottom : Int) = r := by
      conv => lhs; lhs; rw [hr]
      exact Int.mul_ediv_cancel_left r (by omega)
    rw [e1, e2]
    generalize (Int.gcd top bottom : Int) = g at hq hr
    rw [hq, hr]
    rw [Int.mul_comm g r, ← Int.mul_assoc, Int.mul_comm (q * r) g, ← Int.mul_assoc]
/-- the same over any bottom but 0 -/
theorem lowest_any (top bottom : Int) (hb : bottom ≠ 0) (M : Nat) (h1 : top.natAbs < M) (h2 : bottom.natAbs < M) {n : Nat} (hM : M ≤ 2 ^ n) (hn : 0 < n) (h9 : n ≤ 9000) : ∃ t b : Int, 0 < b ∧ t.natAbs < M ∧ b.natAbs < M ∧ Int.gcd t b = 1 ∧ t * bottom = top * b ∧
    gFdiv (.int top) (.int (if bottom < 0 then 0 - (Int.gcd top bottom : Int) else Int.gcd top bottom)) = some (.int t) ∧ gFdiv (.int bottom) (.int (if bottom < 0 then 0 - (Int.gcd top bottom : Int) else Int.gcd top bottom)) = some (.int b) := by
  by_cases h : bottom < 0
  · obtain ⟨t, b, c1, c2, c3, c4, c5, c6, c7⟩ := lowest_of (-top) (-bottom) (by omega) M (by omega) (by omega) hM hn h9
    rw [Int.neg_gcd, Int.gcd_neg] at c6 c7
    refine ⟨t, b, c1, c2, c3, c4, ?_, ?_, ?_⟩
    · rw [Int.mul_neg, Int.neg_mul] at c5; omega
    · have hg : (Int.gcd top bottom : Int) ≠ 0 := by have := Int.gcd_pos_of_ne_zero_right top hb; omega
      rw [if_pos h]
      have hl : (Int.gcd top bottom : Int).natAbs < 2 ^ n := by
        rw [Int.natAbs_natCast]
        have := Int.gcd_dvd_right top bottom
        have hle : Int.gcd top bottom ≤ bottom.natAbs := Nat.le_of_dvd (by omega) (by have := Int.natAbs_dvd_natAbs.mpr this; simpa using this)
        exact Nat.lt_of_le_of_lt hle (Nat.lt_of_lt_of_le h2 hM)
      rw [gFdiv_of (by omega) (show (0 - (Int.gcd top bottom : Int)).natAbs < 2 ^ n by rw [Int.zero_sub, Int.natAbs_neg]; exact hl) hn h9]
      rw [gFdiv_of hg hl hn h9] at c6
      have e : top.fdiv (0 - (Int.gcd top bottom : Int)) = (-top).fdiv (Int.gcd top bottom) := by
        rw [Int.zero_sub, ← Int.neg_fdiv_neg (-top), Int.neg_neg]
      rw [e]; exact c6
    · have hg : (Int.gcd top bottom : Int) ≠ 0 := by have := Int.gcd_pos_of_ne_zero_right top hb; omega
      rw [if_pos h]
      have hl : (Int.gcd top bottom : Int).natAbs < 2 ^ n := by
        rw [Int.natAbs_natCast]
        have := Int.gcd_dvd_right top bottom
        have hle : Int.gcd top bottom ≤ bottom.natAbs := Nat.le_of_dvd (by omega) (by have := Int.natAbs_dvd_natAbs.mpr this; simpa using this)
        exact Nat.lt_of_le_of_lt hle (Nat.lt_of_lt_of_le h2 hM)
      rw [gFdiv_of (by omega) (show (0 - (Int.gcd top bottom : Int)).natAbs < 2 ^ n by rw [Int.zero_sub, Int.natAbs_neg]; exact hl) hn h9]
      rw [gFdiv_of hg hl hn h9] at c7
      have e : bottom.fdiv (0 - (Int.gcd top bottom : Int)) = (-bottom).fdiv (Int.gcd top bottom) := by
        rw [Int.zero_sub, ← Int.neg_fdiv_neg (-bottom), Int.neg_neg]
      rw [e]; exact c7
  · rw [if_neg h]
    exact lowest_of top bottom (by omega) M h1 h2 hM hn h9
/-- a number as data -/
abbrev nD (t d : Int) : D := .tuple [.int t, .int d]
/-- over a range, by the turn -/
theorem forL_ix {g : D → En → R Unit} {b : En → R Fl} {f : Nat → D} {P : Nat → En → Prop} : ∀ (n k : Nat), (∀ i, k ≤ i → i < k + n → ∀ ρ, P i ρ → ∃ ρ1 ρ2, g (f i) ρ = .ok () ρ1 ∧ b ρ1 = .ok .nx ρ2 ∧ P (i + 1) ρ2) → ∀ ρ, P k ρ →
    ∃ ρ', dForL g b ((List.range' k n).map f) ρ = .ok .nx ρ' ∧ P (k + n) ρ'
  | 0, k, _, ρ, h => ⟨ρ, rfl, h⟩
  | n + 1, k, h, ρ, hp => by
    obtain ⟨ρ1, ρ2, e1, e2, p2⟩ := h k (Nat.le_refl _) (by omega) ρ hp
    obtain ⟨ρ', e, p'⟩ := forL_ix n (k + 1) (fun i h1 h2 => h i (by omega) (by omega)) ρ2 p2
    refine ⟨ρ', ?_, by rw [show k + (n + 1) = k + 1 + n by omega]; exact p'⟩
    rw [List.range'_succ, List.map_cons]
    show (g (f k) ρ).bind _ = _
    rw [e1]
    show (b ρ1).bind _ = _
    rw [e2]
    exact e
theorem forL_rng {g : D → En → R Unit} {b : En → R Fl} {lo : Int} {n : Nat} {P : Nat → En → Prop} (h : ∀ i, i < n → ∀ ρ, P i ρ → ∃ ρ1 ρ2, g (.int (lo + (i : Int))) ρ = .ok () ρ1 ∧ b ρ1 = .ok .nx ρ2 ∧ P (i + 1) ρ2) (ρ : En) (hp : P 0 ρ) :
    ∃ ρ', dForL g b (rngD lo n) ρ = .ok .nx ρ' ∧ P n ρ' := by
  obtain ⟨ρ', e, p⟩ := forL_ix (f := fun i => PyData.int (lo + (i : Int))) n 0 (fun i _ h2 => h i (by omega)) ρ hp
  refine ⟨ρ', ?_, by simpa using p⟩
  rw [rngD, List.range_eq_range']
  exact e
/-! what is the same is equal -/
mutual
theorem eqv_refl : ∀ {d : PyData}, d.canLay0 = true → PyData.eqv d d = true
  | .none, _ => by simp only [PyData.eqv]
  | .bool b, _ => by simp only [PyData.eqv]; simp
  | .int i, _ => by simp only [PyData.eqv]; simp
  | .str s, _ => by simp only [PyData.eqv]; simp
  | .list l, h => by
    simp only [PyData.eqv]
    exact eqvAll_refl (by simpa [PyData.canLay0] using h)
  | .tuple l, h => by
    simp only [PyData.eqv]
    exact eqvAll_refl (by simpa [PyData.canLay0] using h)
  | .dict l, h => by simp [PyData.canLay0] at h
theorem eqvAll_refl : ∀ {l : List PyData}, PyData.canLayAll0 l = true → PyData.eqvAll l l = true
  | [], _ => by simp only [PyData.eqvAll]
  | d :: l, h => by
    simp only [PyData.canLayAll0, Bool.and_eq_true] at h
    simp only [PyData.eqvAll, eqv_refl h.1, eqvAll_refl h.2, Bool.and_true]
end
theorem gEq_self {d : D} (h : shp d = true) : gEq d d = some true := by rw [gEq_of h h, eqv_refl (SeqAt.canLay_of_shaped h)]
theorem gNe_self {d : D} (h : shp d = true) : gNe d d = some false := by rw [gNe_of h h, eqv_refl (SeqAt.canLay_of_shaped h)]; rfl
theorem fm_congr {α β : Type} {f g : α → Option β} : ∀ {l : List α}, (∀ x ∈ l, f x = g x) → l.filterMap f = l.filterMap g
  | [], _ => rfl
  | a :: l, h => by rw [List.filterMap_cons, List.filterMap_cons, h a List.mem_cons_self, fm_congr fun x hx => h x (List.mem_cons_of_mem _ hx)]
/-- a comprehension whose turns change what stands about -/
theorem lcL_inv {t : D → En → R (Option D)} {vs : List Nat} {P : En → Prop} {S : D → Prop} : ∀ {ds acc : List D} {ρ : En}, (∀ d ∈ ds, ∀ ρ, P ρ → ∃ y ρ3, t d (wipeE ρ vs) = .ok (some y) ρ3 ∧ S y ∧ P (restE ρ ρ3 vs)) → P ρ → acc.length + ds.length ≤ sizeLine →
    ∃ ys ρ', lcL t vs ds acc ρ = .ok (acc ++ ys) ρ' ∧ ys.length = ds.length ∧ (∀ y ∈ ys, S y) ∧ P ρ'
  | [], acc, ρ, _, p, _ => ⟨[], ρ, by rw [lcL, List.append_nil], rfl, fun y h => by simp at h, p⟩
  | d :: ds, acc, ρ, h, p, hl => by
    obtain ⟨y, ρ3, e1, s1, p1⟩ := h d List.mem_cons_self ρ p
    have hl' : acc.length + (ds.length + 1) ≤ sizeLine := hl
    obtain ⟨ys, ρ', e2, l2, s2, p2⟩ := lcL_inv (acc := acc ++ [y]) (fun d hd => h d (List.mem_cons_of_mem _ hd)) p1 (by rw [List.length_append]; simp; omega)
    refine ⟨y :: ys, ρ', ?_, by simp [l2], fun z hz => ?_, p2⟩
    · rw [lcL, e1]
      show (if acc.length < sizeLine then lcL t vs ds (acc ++ [y]) (restE ρ ρ3 vs) else .no) = _
      rw [if_pos (by omega), e2]
      simp
    · rcases List.mem_cons.mp hz with q | q
      · subst q; exact s1
      · exact s2 z q
end Dn
namespace Dn
open PySem PySem.Spec PyProof.Rows L2
/-! ### texts by their signs -/
abbrev cS (a : List Nat) : Option L := some (.im (.str (SX.S a)))
theorem sLine {n : Nat} (h : n ≤ 1000000) : n ≤ sizeLine := by have := PySem.sizeLine_eq; omega
/-- signs below 128 -/
def okS (a : List Nat) : Prop := ∀ c ∈ a, c < 128
theorem okS.app {a b : List Nat} (h : okS a) (h2 : okS b) : okS (a ++ b) := fun c hc => (List.mem_append.mp hc).elim (h c) (h2 c)
theorem okS.take {a : List Nat} (h : okS a) (k : Nat) : okS (a.take k) := fun c hc => h c (List.mem_of_mem_take hc)
theorem okS.drop {a : List Nat} (h : okS a) (k : Nat) : okS (a.drop k) := fun c hc => h c (List.mem_of_mem_drop hc)
theorem okS.num (n : Nat) : okS (TL.numL n) := fun c hc => by have := TL.numL_digits n c hc; omega
theorem shpS {a : List Nat} (h : okS a) : shp (.str (SX.S a)) = true := by
  have : PyData.strOk (SX.S a) = true := by
    show (SX.S a).cps.all (· < 0x110000) = true
    rw [← Array.all_toList, List.all_eq_true]
    intro c hc
    have := h c hc
    exact decide_eq_true (by omega)
  unfold shp SeqAt.shaped
  simp only [PyData.canLay0, PyData.depth, this]
  rfl
theorem S_iff {a b : List Nat} : SX.S a = SX.S b ↔ a = b := ⟨SX.S_inj, fun h => by rw [h]⟩
theorem gEq_S {a b : List Nat} (ha : okS a) (hb : okS b) : gEq (.str (SX.S a)) (.str (SX.S b)) = some (decide (a = b)) := by rw [gEq_of (shpS ha) (shpS hb), eqv_ss]; simp only [S_iff]
theorem gNe_S {a b : List Nat} (ha : okS a) (hb : okS b) : gNe (.str (SX.S a)) (.str (SX.S b)) = some (!decide (a = b)) := by rw [gNe_of (shpS ha) (shpS hb), eqv_ss]; simp only [S_iff]
theorem gLen_S {a : List Nat} (h : a.length ≤ 1000000) : gLen1 (.str (SX.S a)) = some (.int a.length) := by
  show (if (SX.S a).length ≤ sizeLine then some (PyData.int (SX.S a).length) else none) = _
  rw [SX.S_len, if_pos (sLine h)]
theorem gAdd_S {a b : List Nat} (h : a.length + b.length ≤ 1000000) : gAdd (.str (SX.S a)) (.str (SX.S b)) = some (.str (SX.S (a ++ b))) := by
  show (if (SX.S a).length + (SX.S b).length ≤ sizeLine then some (PyData.str (SX.S a ++ SX.S b)) else none) = _
  rw [SX.S_len, SX.S_len, if_pos (sLine h), SX.S_cat]
theorem cut_take {α : Type} (ds : List α) (k : Nat) : (ds.drop (HT.sIx ds.length 0 none)).take (HT.sIx ds.length ds.length (some (k : Int)) - HT.sIx ds.length 0 none) = ds.take k := by
  rw [HT.sIx_none, HT.sIx_nat, List.drop_zero, Nat.sub_zero]
  by_cases h : k ≤ ds.length
  · rw [Nat.min_eq_left h]
  · rw [Nat.min_eq_right (by omega), List.take_of_length_le (by omega), List.take_of_length_le (by omega)]
theorem cut_drop {α : Type} (ds : List α) (k : Nat) : (ds.drop (HT.sIx ds.length 0 (some (k : Int)))).take (HT.sIx ds.length ds.length none - HT.sIx ds.length 0 (some (k : Int))) = ds.drop k := by
  rw [HT.sIx_none, HT.sIx_nat]
  by_cases h : k ≤ ds.length
  · rw [Nat.min_eq_left h, List.take_of_length_le (by rw [List.length_drop]; omega)]
  · rw [Nat.min_eq_right (by omega), Nat.sub_self, List.take_zero, List.drop_eq_nil_of_le (by omega)]
theorem gSl_to {a : List Nat} (h : a.length ≤ 1000000) (k : Nat) : gSl (.str (SX.S a)) none (some (k : Int)) = some (.str (SX.S (a.take k))) := by
  show (if (SX.S a).length ≤ sizeLine then some (PyData.str (cutS (SX.S a) none (some (k : Int)))) else none) = _
  rw [SX.S_len, if_pos (sLine h)]
  exact congrArg (fun z => some (PyData.str (SX.S z))) (cut_take a k)
theorem gSl_from {a : List Nat} (h : a.length ≤ 1000000) (k : Nat) : gSl (.str (SX.S a)) (some (k : Int)) none = some (.str (SX.S (a.drop k))) := by
  show (if (SX.S a).length ≤ sizeLine then some (PyData.str (cutS (SX.S a) (some (k : Int)) none)) else none) = _
  rw [SX.S_len, if_pos (sLine h)]
  exact congrArg (fun z => some (PyData.str (SX.S z))) (cut_drop a k)
theorem cut_mid {α : Type} (ds : List α) (i j : Nat) : (ds.drop (HT.sIx ds.length 0 (some (i : Int)))).take (HT.sIx ds.length ds.length (some (j : Int)) - HT.sIx ds.length 0 (some (i : Int))) = (ds.take j).drop i := by
  rw [HT.sIx_nat, HT.sIx_nat, List.drop_take]
  by_cases h : i ≤ ds.length
  · rw [Nat.min_eq_left h]
    by_cases h2 : j ≤ ds.length
    · rw [Nat.min_eq_left h2]
    · rw [Nat.min_eq_right (by omega), List.take_of_length_le (by rw [List.length_drop]; omega), List.take_of_length_le (by rw [List.length_drop]; omega)]
  · have e2 : ds.drop i = [] := List.drop_eq_nil_of_le (by omega)
    rw [Nat.min_eq_right (show ds.length ≤ i by omega), List.drop_length, e2]
    simp
theorem gSl_mid {a : List Nat} (h : a.length ≤ 1000000) (i j : Nat) : gSl (.str (SX.S a)) (some (i : Int)) (some (j : Int)) = some (.str (SX.S ((a.take j).drop i))) := by
  show (if (SX.S a).length ≤ sizeLine then some (PyData.str (cutS (SX.S a) (some (i : Int)) (some (j : Int)))) else none) = _
  rw [SX.S_len, if_pos (sLine h)]
  exact congrArg (fun z => some (PyData.str (SX.S z))) (cut_mid a i j)
theorem gIx_S {a : List Nat} (h : a.length ≤ 1000000) {k : Nat} (hk : k < a.length) : gIx (.str (SX.S a)) (.int (k : Int)) = some (.str (SX.S [a[k]])) := by
  show (if (SX.S a).length ≤ sizeLine then (L2.atI a (k : Int)).map (fun c => PyData.str ⟨#[c]⟩) else none) = _
  rw [SX.S_len, if_pos (sLine h), L2.atI_nat (List.getElem?_eq_getElem hk)]
  rfl
theorem gIn_S (c : Nat) (b : List Nat) : gIn (.str (SX.S [c])) (.str (SX.S b)) = some (decide (c ∈ b)) := rfl
theorem gNotIn_S (c : Nat) (b : List Nat) : gNotIn (.str (SX.S [c])) (.str (SX.S b)) = some (!decide (c ∈ b)) := rfl
theorem iD_S {f : En → R D} {ρ ρ' : En} {a : List Nat} (h : f ρ = .ok (.str (SX.S a)) ρ') : iD f ρ = .ok (a.map fun c => .str (SX.S [c])) ρ' := by
  rw [iD_eq, h]; rfl
theorem strD_S (a : List Nat) : strD (SX.S a) = a.map fun c => PyData.str (SX.S [c]) := rfl
theorem gInt_S {a : List Nat} (h : NumText.AllDigits a) (hne : a ≠ []) (hl : a.length ≤ 640) : gInt [.str (SX.S a)] = some (.int (NumText.digitsVal a)) := by
  show (if (SX.S a).length ≤ 640 then (PySem.intText? (SX.S a)).map PyData.int else none) = _
  rw [SX.S_len, if_pos hl, SX.int_S (by rw [List.all_eq_true]; intro c hc; have := h c hc; simp; omega) hne (by omega)]
  rfl
theorem log2_of {n k : Nat} (h : n < 2 ^ k) (hk : 0 < k) : n.log2 < k := by
  by_cases h0 : n = 0
  · subst h0; simpa using hk
  · exact (Nat.log2_lt h0).mpr h
theorem gStr_nat {n : Nat} {k : Nat} (h : n < 2 ^ k) (hk : 0 < k) (h9 : k ≤ 1920) : gStr [.int (n : Int)] = some (.str (SX.S (TL.numL n))) := by
  show (if (n : Int).natAbs.log2 < 1920 then some (PyData.str (toString (n : Int))) else none) = _
  have : (n : Int).natAbs.log2 < 1920 := Nat.lt_of_lt_of_le (log2_of (by simpa using h) hk) h9
  rw [if_pos this]
  exact congrArg (fun z => some (PyData.str z)) (SX.num_S n)
theorem gPart_S {a b : List Nat} (hb : b ≠ []) (h : a.length ≤ 1000000) : gPart (SX.S a) (.str (SX.S b)) = some (match TL.par b [] a with
    | some (p, q) => .tuple [.str (SX.S p), .str (SX.S b), .str (SX.S q)]
    | none => .tuple [.str (SX.S a), .str (SX.S []), .str (SX.S [])]) := by
  have h1 : ((SX.S b).length == 0) = false := by
    rw [SX.S_len]
    cases b with
    | nil => exact absurd rfl hb
    | cons c r => rfl
  show (if ((SX.S b).length == 0) = false ∧ (SX.S a).length ≤ sizeLine then some (PyData.tuple [.str (Txt.partition (SX.S a) (SX.S b)).1, .str (Txt.partition (SX.S a) (SX.S b)).2.1, .str (Txt.partition (SX.S a) (SX.S b)).2.2]) else none) = _
  rw [if_pos ⟨h1, by rw [SX.S_len]; exact sLine h⟩]
  cases q : TL.par b [] a with
  | none => rw [SX.partition_none hb q]
  | some z => obtain ⟨p, r⟩ := z; rw [SX.partition_some hb q]
def intL (t : Int) : List Nat := if t < 0 then 45 :: TL.numL t.natAbs else TL.numL t.natAbs
theorem toS_neg (n : Nat) : Str.ofString (toString (Int.negSucc n)) = SX.S (45 :: TL.numL (n + 1)) := by
  refine TL.ext_tl ?_
  show (Str.ofString _).cps.toList = _
  rw [PyProof.Rows.signs_ofString]
  show (("-" : String) ++ Nat.repr (n + 1)).toList.map Char.toNat = _
  rw [String.toList_append, List.map_append, Nat.toList_repr]
  rfl
theorem toS_int (t : Int) : Str.ofString (toString t) = SX.S (intL t) := by
  cases t with
  | ofNat n => exact SX.num_S n
  | negSucc n =>
    have e : intL (Int.negSucc n) = 45 :: TL.numL (n + 1) := by unfold intL; rw [if_pos (Int.negSucc_lt_zero n)]; rfl
    rw [toS_neg, e]
theorem gStr_int {t : Int} {k : Nat} (h : t.natAbs < 2 ^ k) (hk : 0 < k) (h9 : k ≤ 1920) : gStr [.int t] = some (.str (SX.S (intL t))) := by
  show (if t.natAbs.log2 < 1920 then some (PyData.str (toString t)) else none) = _
  have : t.natAbs.log2 < 1920 := Nat.lt_of_lt_of_le (log2_of h hk) h9
  rw [if_pos this]
  exact congrArg (fun z => some (PyData.str z)) (toS_int t)
theorem okS.int (t : Int) : okS (intL t) := fun c hc => by
  unfold intL at hc
  split at hc
  · rcases List.mem_cons.mp hc with h | h
    · omega
    · exact okS.num _ c h
  · exact okS.num _ c hc
@[simp] theorem gIs_bool (a b : Bool) : gIs (.bool a) (.bool b) = some (decide (a = b)) := rfl
@[simp] theorem gIsNot_bool (a b : Bool) : gIsNot (.bool a) (.bool b) = some (!decide (a = b)) := rfl
theorem gSl_any {a : List Nat} (h : a.length ≤ 1000000) (ok : okS a) (lo hi : Option Int) : ∃ b, okS b ∧ b.length ≤ a.length ∧ gSl (.str (SX.S a)) lo hi = some (.str (SX.S b)) := by
  refine ⟨(a.drop (HT.sIx a.length 0 lo)).take (HT.sIx a.length a.length hi - HT.sIx a.length 0 lo), (ok.drop _).take _, ?_, ?_⟩
  · rw [List.length_take, List.length_drop]; omega
  · show (if (SX.S a).length ≤ sizeLine then some (PyData.str (cutS (SX.S a) lo hi)) else none) = _
    rw [SX.S_len, if_pos (sLine h)]
    rfl
end Dn
namespace Dn
open PySem PySem.Spec PyProof.Rows L2
theorem gmul {a b : Int} (ha : a.natAbs < 2 ^ 200) (hb : b.natAbs < 2 ^ 200) : gMul (.int a) (.int b) = some (.int (a * b)) := gMul_of ha hb (by decide) (by decide) (by decide)
theorem mul_lt {a b : Int} {m n : Nat} (ha : a.natAbs < 2 ^ m) (hb : b.natAbs < 2 ^ n) : (a * b).natAbs < 2 ^ (m + n) := by
  rw [Int.natAbs_mul, Nat.pow_add]
  exact Nat.mul_lt_mul'' ha hb
theorem seq_nx {f g : En → R Fl} {ρ ρ1 : En} {r : R Fl} (h : f ρ = .ok .nx ρ1) (k : g ρ1 = r) : dSeq f g ρ = r := by
  rw [dSeq_eq, h]; exact k
theorem seq_rt {f g : En → R Fl} {ρ ρ1 : En} {d : D} (h : f ρ = .ok (.rt d) ρ1) : dSeq f g ρ = .ok (.rt d) ρ1 := by
  rw [dSeq_eq, h]; rfl
theorem seq_rl {f g : En → R Fl} {ρ ρ1 : En} {d : List D} (h : f ρ = .ok (.rl d) ρ1) : dSeq f g ρ = .ok (.rl d) ρ1 := by
  rw [dSeq_eq, h]; rfl
theorem if_t {c : En → R Bool} {f g : En → R Fl} {ρ ρ1 : En} {r : R Fl} (h : c ρ = .ok true ρ1) (k : f ρ1 = r) : dIf c f g ρ = r := by
  rw [dIf_eq, h]; exact k
theorem if_f {c : En → R Bool} {f g : En → R Fl} {ρ ρ1 : En} {r : R Fl} (h : c ρ = .ok false ρ1) (k : g ρ1 = r) : dIf c f g ρ = r := by
  rw [dIf_eq, h]; exact k
/-- a def's end -/
theorem fin_of {ls : En} {r r2 : R Fl} {q : R L} (h : r = r2) (k : finD ls r2 = q) : finD ls r = q := by rw [h]; exact k
/-- none of these is lent -/
theorem backE_id : ∀ {ls ρ : En}, (∀ c ∈ ls, (∀ ds, c ≠ some (L.bo ds)) ∧ ∀ t, c ≠ some (L.bt t)) → backE ls ρ = ls
  | [], ρ, _ => by cases ρ <;> rfl
  | l :: ls, [], _ => by cases l with
    | none => rfl
    | some l => cases l <;> rfl
  | l :: ls, c :: ρ, h => by
    have ih := backE_id (ρ := ρ) fun c hc => h c (List.mem_cons_of_mem _ hc)
    cases l with
    | none => simp [backE, ih]
    | some l => cases l with
      | bo ds => exact absurd rfl ((h _ List.mem_cons_self).1 ds)
      | bt t => exact absurd rfl ((h _ List.mem_cons_self).2 t)
      | _ => simp [backE, ih]
/-- by the turn, one may return -/
theorem forL_ret {g : D → En → R Unit} {b : En → R Fl} {f : Nat → D} {I : Nat → En → Prop} {P : Nat → Prop} {d0 : D} : ∀ (n k : Nat), (∀ i, k ≤ i → i < k + n → ∀ ρ, I i ρ → ∃ ρ1, g (f i) ρ = .ok () ρ1 ∧ ((P i ∧ ∃ ρ2, b ρ1 = .ok .nx ρ2 ∧ I (i + 1) ρ2) ∨ (¬ P i ∧ ∃ ρ2, b ρ1 = .ok (.rt d0) ρ2))) → ∀ ρ, I k ρ →
    ((∀ i, k ≤ i → i < k + n → P i) ∧ ∃ ρ', dForL g b ((List.range' k n).map f) ρ = .ok .nx ρ' ∧ I (k + n) ρ') ∨ ((¬ ∀ i, k ≤ i → i < k + n → P i) ∧ ∃ ρ', dForL g b ((List.range' k n).map f) ρ = .ok (.rt d0) ρ')
  | 0, k, _, ρ, h => .inl ⟨fun i h1 h2 => by omega, ρ, rfl, h⟩
  | n + 1, k, h, ρ, hp => by
    obtain ⟨ρ1, e1, q⟩ := h k (Nat.le_refl _) (by omega) ρ hp
    have hd : dForL g b ((List.range' k (n + 1)).map f) ρ = (b ρ1).bind fun fl ρ2 => match fl with
        | .nx => dForL g b ((List.range' (k + 1) n).map f) ρ2
        | .ct => dForL g b ((List.range' (k + 1) n).map f) ρ2
        | .bk => .ok .nx ρ2
        | .rt d => .ok (.rt d) ρ2
        | .rl ds => .ok (.rl ds) ρ2 := by
      rw [List.range'_succ, List.map_cons]
      show (g (f k) ρ).bind _ = _
      rw [e1]
      rfl
    rw [hd]
    rcases q with ⟨hP, ρ2, e2, i2⟩ | ⟨hP, ρ2, e2⟩
    · rw [e2]
      rcases forL_ret n (k + 1) (fun i h1 h2 => h i (by omega) (by omega)) ρ2 i2 with ⟨ha, ρ', e, i'⟩ | ⟨ha, ρ', e⟩
      · refine .inl ⟨fun i h1 h2 => ?_, ρ', e, by rw [show k + (n + 1) = k + 1 + n by omega]; exact i'⟩
        by_cases hi : i = k
        · subst hi; exact hP
        · exact ha i (by omega) (by omega)
      · exact .inr ⟨fun z => ha fun i h1 h2 => z i (by omega) (by omega), ρ', e⟩
    · rw [e2]
      exact .inr ⟨fun z => hP (z k (Nat.le_refl _) (by omega)), ρ2, rfl⟩
theorem forL_retR {g : D → En → R Unit} {b : En → R Fl} {lo : Int} {n : Nat} {I : Nat → En → Prop} {P : Nat → Prop} {d0 : D} (h : ∀ i, i < n → ∀ ρ, I i ρ → ∃ ρ1, g (.int (lo + (i : Int))) ρ = .ok () ρ1 ∧ ((P i ∧ ∃ ρ2, b ρ1 = .ok .nx ρ2 ∧ I (i + 1) ρ2) ∨ (¬ P i ∧ ∃ ρ2, b ρ1 = .ok (.rt d0) ρ2))) (ρ : En) (hp : I 0 ρ) :
    ((∀ i, i < n → P i) ∧ ∃ ρ', dForL g b (rngD lo n) ρ = .ok .nx ρ' ∧ I n ρ') ∨ ((¬ ∀ i, i < n → P i) ∧ ∃ ρ', dForL g b (rngD lo n) ρ = .ok (.rt d0) ρ') := by
  have := forL_ret (f := fun i => PyData.int (lo + (i : Int))) n 0 (fun i _ h2 => h i (by omega)) ρ hp
  rw [rngD, List.range_eq_range']
  simpa using this
theorem range_getD (ds : List D) : (List.range' 0 ds.length).map (fun i => ds.getD i .none) = ds := by
  apply List.ext_getElem
  · simp
  · intro i h1 h2
    simp
    simp at h1
    rw [List.getElem?_eq_getElem h1]; rfl
theorem forL_retL {g : D → En → R Unit} {b : En → R Fl} {ds : List D} {I : Nat → En → Prop} {P : D → Prop} {d0 : D} (h : ∀ (i : Nat) (hi : i < ds.length) (ρ : En), I i ρ → ∃ ρ1, g ds[i] ρ = .ok () ρ1 ∧ ((P ds[i] ∧ ∃ ρ2, b ρ1 = .ok .nx ρ2 ∧ I (i + 1) ρ2) ∨ (¬ P ds[i] ∧ ∃ ρ2, b ρ1 = .ok (.rt d0) ρ2))) (ρ : En) (hp : I 0 ρ) :
    ((∀ d ∈ ds, P d) ∧ ∃ ρ', dForL g b ds ρ = .ok .nx ρ' ∧ I ds.length ρ') ∨ ((¬ ∀ d ∈ ds, P d) ∧ ∃ ρ', dForL g b ds ρ = .ok (.rt d0) ρ') := by
  have gd : ∀ (i : Nat) (hi : i < ds.length), ds.getD i .none = ds[i] := fun i hi => by simp [List.getElem?_eq_getElem hi]
  have := forL_ret (g := g) (b := b) (d0 := d0) (I := I) (f := fun i => ds.getD i .none) (P := fun i => P (ds.getD i .none)) ds.length 0 (fun i _ h2 ρ q => by
    have hi : i < ds.length := by omega
    rw [gd i hi]
    exact h i hi ρ q) ρ hp
  rw [range_getD, Nat.zero_add] at this
  have key : (∀ i, 0 ≤ i → i < ds.length → P (ds.getD i .none)) ↔ ∀ d ∈ ds, P d := by
    constructor
    · intro h d hd
      obtain ⟨i, hi, rfl⟩ := List.getElem_of_mem hd
      have := h i (Nat.zero_le _) hi
      rwa [gd i hi] at this
    · intro h i _ hi
      rw [gd i hi]
      exact h _ (List.getElem_mem hi)
  rw [key] at this
  exact this
theorem gIn_tup {x : D} {ds : List D} (h1 : shp x = true) (h2 : shp (.tuple ds) = true) : gIn x (.tuple ds) = some (ds.any fun z => PyData.eqv z x) := if_pos ⟨h1, h2⟩
theorem gIn_lst {x : D} {ds : List D} (h1 : shp x = true) (h2 : shp (.list ds) = true) : gIn x (.list ds) = some (ds.any fun z => PyData.eqv z x) := if_pos ⟨h1, h2⟩
theorem gNotIn_tup {x : D} {ds : List D} (h1 : shp x = true) (h2 : shp (.tuple ds) = true) : gNotIn x (.tuple ds) = some (!ds.any fun z => PyData.eqv z x) := by
  show (gIn x (.tuple ds)).map _ = _
  rw [gIn_tup h1 h2]; rfl
theorem gNotIn_lst {x : D} {ds : List D} (h1 : shp x = true) (h2 : shp (.list ds) = true) : gNotIn x (.list ds) = some (!ds.any fun z => PyData.eqv z x) := by
  show (gIn x (.list ds)).map _ = _
  rw [gIn_lst h1 h2]; rfl
/-! texts -/
theorem S_of (s : Str) : SX.S s.cps.toList = s := by cases s; rfl
def abc : List Nat := [97, 98, 99, 100, 101, 102, 103, 104, 105, 106, 107, 108, 109, 110, 111, 112, 113, 114, 115, 116, 117, 118, 119, 120, 121, 122]
theorem str_abc : ("abcdefghijklmnopqrstuvwxyz" : Str) = SX.S abc := by rfl
theorem mem_abc {c : Nat} : c ∈ abc ↔ 97 ≤ c ∧ c ≤ 122 := by
  constructor
  · intro h
    have : ∀ c ∈ abc, 97 ≤ c ∧ c ≤ 122 := by decide
    exact this c h
  · intro ⟨h1, h2⟩
    have : ∀ k : Fin 26, 97 + k.val ∈ abc := by decide
    have := this ⟨c - 97, by omega⟩
    rwa [show 97 + (c - 97) = c by omega] at this
/-- a word -/
def isW (a : List Nat) : Prop := 1 ≤ a.length ∧ a.length ≤ 8 ∧ ∀ c ∈ a, c ∈ abc
instance (a : List Nat) : Decidable (isW a) := by unfold isW; infer_instance
theorem isW.ok {a : List Nat} (h : isW a) : okS a := fun c hc => by have := mem_abc.mp (h.2.2 c hc); omega
theorem joinL_one : ∀ cs : List Nat, TL.joinL [] (cs.map fun c => [c]) = cs
  | [] => rfl
  | [c] => rfl
  | c :: d :: r => by
    have ih := joinL_one (d :: r)
    show [c] ++ [] ++ TL.joinL [] ((d :: r).map fun c => [c]) = _
    rw [ih]; rfl
theorem join_signs (cs : List Nat) : Txt.join (SX.S []) (cs.map fun c => SX.S [c]) = SX.S cs := by
  have := SX.join_S [] (cs.map fun c => [c])
  rw [List.map_map, joinL_one] at this
  exact this
theorem signs_of : ∀ {ys : List D}, (∀ y ∈ ys, ∃ c, c < 128 ∧ y = .str (SX.S [c])) → ∃ cs : List Nat, okS cs ∧ cs.length = ys.length ∧ ys = cs.map fun c => .str (SX.S [c])
  | [], _ => ⟨[], fun c h => by simp at h, rfl, rfl⟩
  | y :: ys, h => by
    obtain ⟨c, hc, rfl⟩ := h y List.mem_cons_self
    obtain ⟨cs, h1, h2, rfl⟩ := signs_of (ys := ys) fun y hy => h y (List.mem_cons_of_mem _ hy)
    refine ⟨c :: cs, fun d hd => ?_, by simp, rfl⟩
    rcases List.mem_cons.mp hd with q | q
    · subst q; exact hc
    · exact h1 d q
theorem gJoin_signs {cs : List Nat} (h : cs.length ≤ 1000) : gJoin (SX.S []) (.list (cs.map fun c => .str (SX.S [c]))) = some (.str (SX.S cs)) := by
  show gJoinL _ _ = _
  unfold gJoinL
  rw [strs_map' (fun c => SX.S [c])]
  show (if _ then _ else _) = _
  rw [join_signs, if_pos]
  have : ((cs.map fun c => SX.S [c]).map (·.length)).sum = cs.length := by
    induction cs with
    | nil => rfl
    | cons c r ih =>
      rw [List.map_cons, List.map_cons, List.sum_cons, ih (by simp at h; omega), SX.S_len]
      simp; omega
  rw [this, SX.S_len]
  simp; omega
theorem str0 : ("" : Str) = SX.S [] := by rfl
theorem gSlT_take (ds : List D) (k : Nat) : gSl (.tuple ds) none (some (k : Int)) = some (.tuple (ds.take k)) := by
  show some (PyData.tuple _) = _
  rw [cut_take]
theorem gSlT_drop (ds : List D) (k : Nat) : gSl (.tuple ds) (some (k : Int)) none = some (.tuple (ds.drop k)) := by
  show some (PyData.tuple _) = _
  rw [cut_drop]
theorem gAddT {a b : List D} (h : a.length + b.length ≤ 1000000) : gAdd (.tuple a) (.tuple b) = some (.tuple (a ++ b)) := if_pos (sLine h)
theorem gAddL {a b : List D} (h : a.length + b.length ≤ 1000000) : gAdd (.list a) (.list b) = some (.list (a ++ b)) := if_pos (sLine h)
/-- one of a list by an int -/
theorem gIx_pick {l : List D} {v : Int} (h0 : 0 ≤ v) (h1 : v < l.length) : ∃ d, l[v.toNat]? = some d ∧ gIx (.list l) (.int v) = some d := by
  obtain ⟨n, rfl⟩ : ∃ n : Nat, v = n := ⟨v.toNat, by omega⟩
  have hn : n < l.length := by omega
  exact ⟨l[n], by simp [hn], by rw [gIx_lst]; exact atI_of (List.getElem?_eq_getElem hn)⟩
theorem gIx_pickT {l : List D} {v : Int} (h0 : 0 ≤ v) (h1 : v < l.length) : ∃ d, l[v.toNat]? = some d ∧ gIx (.tuple l) (.int v) = some d := by
  obtain ⟨n, rfl⟩ : ∃ n : Nat, v = n := ⟨v.toNat, by omega⟩
  have hn : n < l.length := by omega
  exact ⟨l[n], by simp [hn], by rw [gIx_tup]; exact atI_of (List.getElem?_eq_getElem hn)⟩
def wD (ws : List (List Nat)) : List D := ws.map fun a => .str (SX.S a)
theorem lay_words {ws : List (List Nat)} (ok : ∀ a ∈ ws, okS a) : PyData.canLayAll0 (wD ws) = true ∧ PyData.depthAll (wD ws) ≤ 1 := by
  induction ws with
  | nil => exact ⟨rfl, Nat.zero_le _⟩
  | cons a ws ih =>
    obtain ⟨h1, h2⟩ := ih fun b hb => ok b (List.mem_cons_of_mem _ hb)
    have c := SeqAt.canLay_of_shaped (shpS (ok a List.mem_cons_self))
    show (PyData.canLay0 (.str (SX.S a)) && PyData.canLayAll0 (wD ws)) = true ∧ _
    refine ⟨by rw [c, h1]; rfl, ?_⟩
    show max (PyData.depth (.str (SX.S a))) (PyData.depthAll (wD ws)) ≤ 1
    have : PyData.depth (.str (SX.S a)) ≤ 1 := by simp [PyData.depth]
    omega
theorem shp_words {ws : List (List Nat)} (ok : ∀ a ∈ ws, okS a) : shp (.list (wD ws)) = true := by
  obtain ⟨h1, h2⟩ := lay_words ok
  unfold shp SeqAt.shaped
  simp only [PyData.canLay0, PyData.depth, h1]
  simp
  omega
theorem shp_wordsT {ws : List (List Nat)} (ok : ∀ a ∈ ws, okS a) : shp (.tuple (wD ws)) = true := by
  obtain ⟨h1, h2⟩ := lay_words ok
  unfold shp SeqAt.shaped
  simp only [PyData.canLay0, PyData.depth, h1]
  simp
  omega
theorem any_words (ws : List (List Nat)) (a : List Nat) : ((wD ws).any fun z => PyData.eqv z (.str (SX.S a))) = decide (a ∈ ws) := by
  rw [Bool.eq_iff_iff, List.any_eq_true, decide_eq_true_eq]
  constructor
  · rintro ⟨z, hz, e⟩
    obtain ⟨b, hb, rfl⟩ := List.mem_map.mp hz
    rw [eqv_ss, decide_eq_true_eq, S_iff] at e
    subst e; exact hb
  · intro h
    exact ⟨_, List.mem_map.mpr ⟨a, h, rfl⟩, by rw [eqv_ss]; simp⟩
theorem gNotIn_words {ws : List (List Nat)} (ok : ∀ a ∈ ws, okS a) {a : List Nat} (oa : okS a) : gNotIn (.str (SX.S a)) (.list (wD ws)) = some (!decide (a ∈ ws)) := by
  rw [gNotIn_lst (shpS oa) (shp_words ok), any_words]
theorem gIn_words {ws : List (List Nat)} (ok : ∀ a ∈ ws, okS a) {a : List Nat} (oa : okS a) : gIn (.str (SX.S a)) (.list (wD ws)) = some (decide (a ∈ ws)) := by
  rw [gIn_lst (shpS oa) (shp_words ok), any_words]
theorem wD_append (ws : List (List Nat)) (a : List Nat) : wD ws ++ [.str (SX.S a)] = wD (ws ++ [a]) := by simp [wD]
@[simp] theorem wD_length (ws : List (List Nat)) : (wD ws).length = ws.length := by simp [wD]
end Dn
namespace Lw
open PySem PySem.Spec PyProof.Rows L2 Dn
theorem divisor_eq (a b : Int) : m_divisor [cI a, cI b] = .ok (.im (.int (Int.gcd a b))) [cI a, cI b] := by
  obtain ⟨g, hg, e⟩ := gcd_loop b.natAbs a b (Nat.le_refl _)
  have hab : (if g < 0 then -g else g) = (Int.gcd a b : Int) := by rw [← hg]; split <;> omega
  simp only [m_divisor, b_divisor, b_divisor_l1, dDef_eq, dSeq_eq]
  simp [e, hab]
def wholeD : D → Bool
  | .int _ => true
  | _ => false
theorem is_whole_eq (d : D) : m_is_whole [cD d] = .ok (.im (.bool (wholeD d))) [cD d] := by
  simp only [m_is_whole, b_is_whole, dDef_eq, dSeq_eq]
  cases d <;> simp [isTy, wholeD]
def numD : D → Bool
  | .tuple [.int t, .int b] => decide (0 < b) && decide (Int.gcd t b = 1)
  | _ => false
theorem is_number_eq (d : D) : m_is_number [cD d] = .ok (.im (.bool (numD d))) [cD d] := by
  have no : (∀ ds, d ≠ .tuple ds) → m_is_number [cD d] = .ok (.im (.bool false)) [cD d] ∧ numD d = false := fun h => by
    simp only [m_is_number, b_is_number, dDef_eq, dSeq_eq]
    cases d with
    | tuple ds => exact absurd rfl (h ds)
    | _ => exact ⟨by simp [isTy], rfl⟩
  cases d with
  | tuple ds =>
    by_cases hl : ds.length = 2
    · obtain ⟨a, b, rfl⟩ : ∃ a b, ds = [a, b] := by
        match ds, hl with
        | [a, b], _ => exact ⟨a, b, rfl⟩
      have wa := is_whole_eq a
      have wb := is_whole_eq b
      simp only [m_is_number, b_is_number, dDef_eq, dSeq_eq]
      cases ha : wholeD a with
      | false =>
        have : numD (.tuple [a, b]) = false := by cases a <;> first | rfl | cases ha
        rw [ha] at wa
        rw [this]
        simp [isTy, gLen1, gTupD, gsCons, gsNil, wa]
      | true =>
        cases hb : wholeD b with
        | false =>
          have : numD (.tuple [a, b]) = false := by cases a <;> first | (cases ha; done) | (cases b <;> first | rfl | cases hb)
          rw [ha] at wa
          rw [hb] at wb
          rw [this]
          simp [isTy, gLen1, gTupD, gsCons, gsNil, wa, wb]
        | true =>
          rw [ha] at wa
          rw [hb] at wb
          cases a <;> first | (cases ha; done) | skip
          cases b <;> first | (cases hb; done) | skip
          rename_i t b
          by_cases h0 : 0 < b
          · simp [isTy, gLen1, gTupD, gsCons, gsNil, wa, wb, numD, h0, divisor_eq]
            omega
          · simp [isTy, gLen1, gTupD, gsCons, gsNil, wa, wb, numD, h0]
    · have e : numD (.tuple ds) = false := by
        match ds with
        | [] => rfl
        | [a] => cases a <;> rfl
        | [a, b] => exact absurd rfl hl
        | a :: b :: c :: t => cases a <;> cases b <;> rfl
      have h2 : ¬ (ds.length : Int) = 2 := by omega
      rw [e]
      simp only [m_is_number, b_is_number, dDef_eq, dSeq_eq]
      simp [isTy, gLen1, h2]
  | _ => obtain ⟨h1, h2⟩ := no (by intro ds h; cases h); rw [h2]; exact h1
def toldD : D → Bool
  | .tuple [.int t, .int b] => decide (0 < b) && decide (Int.gcd t b = 1) && decide (t.natAbs < 10 ^ 18) && decide (b ≤ 60)
  | _ => false
theorem toldD_of (d : D) (h : numD d = false) : toldD d = false := by
  unfold numD at h
  split at h
  · simp [toldD]
    simp at h
    intro h1 h2
    exact absurd h2 (h h1)
  · unfold toldD
    split
    · rename_i h2; exact absurd rfl (h2 _ _)
    · rfl
theorem numD_ex {d : D} (h : numD d = true) : ∃ t b : Int, d = nD t b ∧ 0 < b ∧ Int.gcd t b = 1 := by
  unfold numD at h
  split at h
  · simp at h; exact ⟨_, _, rfl, h.1, h.2⟩
  · cases h
theorem toldD_ex {d : D} (h : toldD d = true) : ∃ t b : Int, d = nD t b ∧ 0 < b ∧ Int.gcd t b = 1 ∧ t.natAbs < 10 ^ 18 ∧ b ≤ 60 := by
  unfold toldD at h
  split at h
  · simp at h
    exact ⟨_, _, rfl, by simpa using h.1.1.1, h.1.1.2, by simpa using h.1.2, h.2⟩
  · cases h
theorem is_told_eq (d : D) : m_is_told [cD d] = .ok (.im (.bool (toldD d))) [cD d] := by
  have n := is_number_eq d
  have p : gPow (.int 10) (.int 18) = some (.int (10 ^ 18)) := gPow_of (by decide) (by decide) (by decide)
  simp only [m_is_told, b_is_told, dDef_eq, dSeq_eq]
  cases h : numD d with
  | false =>
    rw [h] at n
    rw [toldD_of d h]
    simp [n]
  | true =>
    rw [h] at n
    obtain ⟨t, b, rfl, h1, h2⟩ := numD_ex h
    have e : ((if t < 0 then -t else t) < 10 ^ 18) = (t.natAbs < 10 ^ 18) := by
      apply propext
      split <;> omega
    by_cases h3 : t.natAbs < 10 ^ 18
    · simp [-Int.reducePow, -Nat.reducePow, n, p, e, toldD, h1, h2, h3]
    · simp [-Int.reducePow, -Nat.reducePow, n, p, e, toldD, h1, h2, h3]
theorem under_eq {a b c d : Int} (ha : a.natAbs < 2 ^ 200) (hb : b.natAbs < 2 ^ 200) (hc : c.natAbs < 2 ^ 200) (hd : d.natAbs < 2 ^ 200) : m_under [cD (nD a b), cD (nD c d)] = .ok (.im (.bool (decide (a * d < c * b)))) [cD (nD a b), cD (nD c d)] := by
  have g1 := gmul ha hd
  have g2 := gmul hc hb
  simp only [m_under, b_under, dDef_eq, dSeq_eq]
  simp [g1, g2]
def wordD : D → Bool
  | .str s => decide (isW s.cps.toList)
  | _ => false
theorem is_word_eq (d : D) (hd : ∀ s, d = .str s → s.length ≤ 1000000) : m_is_word [cD d] = .ok (.im (.bool (wordD d))) [cD d] := by
  cases d with
  | str s =>
    obtain ⟨a, rfl⟩ : ∃ a, s = SX.S a := ⟨s.cps.toList, (S_of s).symm⟩
    have hl : a.length ≤ 1000000 := by have := hd _ rfl; rwa [SX.S_len] at this
    have gl := gLen_S hl
    have e : wordD (.str (SX.S a)) = decide (isW a) := rfl
    rw [e]
    have lc := lcL_map (t := b_is_word_l1) (vs := [1]) (f := fun d => match d with | .str s => .bool (decide (s.cps.toList.getD 0 0 ∈ abc)) | _ => .none) (ρ := [cS a, none]) (ds := strD (SX.S a)) (fun d hd => by
      rw [strD_S] at hd
      obtain ⟨c, hc, rfl⟩ := List.mem_map.mp hd
      refine ⟨[cS a, cS [c]], ?_, by simp [restE]⟩
      have := gIn_S c abc
      rw [← str_abc] at this
      simp [b_is_word_l1, wipeE, this]) (by rw [strD_S]; simp; exact sLine hl)
    have em : (strD (SX.S a)).map (fun d => match d with | .str s => PyData.bool (decide (s.cps.toList.getD 0 0 ∈ abc)) | _ => .none) = (a.map fun c => decide (c ∈ abc)).map PyData.bool := by
      rw [strD_S, List.map_map, List.map_map]
      rfl
    rw [em] at lc
    simp only [m_is_word, b_is_word, dDef_eq, dSeq_eq]
    by_cases h1 : 1 ≤ a.length ∧ a.length ≤ 8
    · have h2 : (1 : Int) ≤ a.length := by omega
      have h3 : (a.length : Int) ≤ 8 := by omega
      simp [isTy, gl, h2, h3, immE, lc, -List.map_map]
      rw [Bool.eq_iff_iff]
      simp [isW, h1]
    · have h2 : ¬ isW a := fun h => h1 ⟨h.1, h.2.1⟩
      by_cases h3 : (1 : Int) ≤ a.length
      · have h4 : ¬ (a.length : Int) ≤ 8 := by omega
        simp [isTy, gl, h2, h3, h4]
      · simp [isTy, gl, h2, h3]
  | _ =>
    simp only [m_is_word, b_is_word, dDef_eq, dSeq_eq]
    simp [isTy, wordD]
inductive Kd where
  | num
  | word
  | day
def Kd.e : Kd → D
  | .num => .str "number"
  | .word => .str "word"
  | .day => .str "day"
def sNumber : List Nat := [110, 117, 109, 98, 101, 114]
def sWord : List Nat := [119, 111, 114, 100]
def sDay : List Nat := [100, 97, 121]
theorem strNumber : ("number" : Str) = SX.S sNumber := by rfl
theorem strWord : ("word" : Str) = SX.S sWord := by rfl
theorem strDay : ("day" : Str) = SX.S sDay := by rfl
theorem kn (k : Kd) : gEq k.e (.str "number") = some (match k with | .num => true | _ => false) := by
  cases k <;> simp only [Kd.e, strNumber, strWord, strDay] <;> rw [gEq_S (by unfold okS; decide) (by unfold okS; decide)] <;> rfl
theorem kw (k : Kd) : gEq k.e (.str "word") = some (match k with | .word => true | _ => false) := by
  cases k <;> simp only [Kd.e, strNumber, strWord, strDay] <;> rw [gEq_S (by unfold okS; decide) (by unfold okS; decide)] <;> rfl
theorem kday (k : Kd) : gEq k.e (.str "day") = some (match k with | .day => true | _ => false) := by
  cases k <;> simp only [Kd.e, strNumber, strWord, strDay] <;> rw [gEq_S (by unfold okS; decide) (by unfold okS; decide)] <;> rfl
def dayD : D → Bool
  | .int i => decide (364877 ≤ i) && decide (i ≤ 3286816)
  | _ => false
theorem ahead1000 : m_ahead_of [cI 1000] = .ok (.im (.int 364877)) [cI 1000] := by
  have m : gMul (.int 365) (.int 999) = some (.int 364635) := by rw [gmul (by decide) (by decide)]; rfl
  have a : gFdiv (.int 999) (.int 4) = some (.int 249) := by rw [gFdiv_pos (n := 30) (by decide) (by decide) (by decide) (by decide)]; rfl
  have b : gFdiv (.int 999) (.int 100) = some (.int 9) := by rw [gFdiv_pos (n := 30) (by decide) (by decide) (by decide) (by decide)]; rfl
  have c : gFdiv (.int 999) (.int 400) = some (.int 2) := by rw [gFdiv_pos (n := 30) (by decide) (by decide) (by decide) (by decide)]; rfl
  simp only [m_ahead_of, b_ahead_of, dDef_eq, dSeq_eq]
  simp [m, a, b, c]
theorem ahead9000 : m_ahead_of [cI 9000] = .ok (.im (.int 3286817)) [cI 9000] := by
  have m : gMul (.int 365) (.int 8999) = some (.int 3284635) := by rw [gmul (by decide) (by decide)]; rfl
  have a : gFdiv (.int 8999) (.int 4) = some (.int 2249) := by rw [gFdiv_pos (n := 30) (by decide) (by decide) (by decide) (by decide)]; rfl
  have b : gFdiv (.int 8999) (.int 100) = some (.int 89) := by rw [gFdiv_pos (n := 30) (by decide) (by decide) (by decide) (by decide)]; rfl
  have c : gFdiv (.int 8999) (.int 400) = some (.int 22) := by rw [gFdiv_pos (n := 30) (by decide) (by decide) (by decide) (by decide)]; rfl
  simp only [m_ahead_of, b_ahead_of, dDef_eq, dSeq_eq]
  simp [m, a, b, c]
def dayW : D → Bool
  | .int i => decide (0 ≤ i) && decide (i ≤ 3652058)
  | _ => false
theorem is_day_eq (d : D) : m_is_day [cD d] = .ok (.im (.bool (dayW d))) [cD d] := by
  have w := is_whole_eq d
  simp only [m_is_day, b_is_day, dDef_eq, dSeq_eq]
  cases d with
  | int i =>
    by_cases h : 0 ≤ i
    · simp [w, wholeD, dayW, h]
    · simp [w, wholeD, dayW, h]
  | _ => simp [w, wholeD, dayW]
theorem is_told_day_eq (d : D) : m_is_told_day [cD d] = .ok (.im (.bool (dayD d))) [cD d] := by
  have w := is_day_eq d
  simp only [m_is_told_day, b_is_told_day, dDef_eq, dSeq_eq]
  cases d with
  | int i =>
    by_cases h : 0 ≤ i
    · by_cases h2 : i ≤ 3652058
      · by_cases h3 : 364877 ≤ i
        · simp [w, dayW, h, h2, ahead1000, ahead9000, dayD, h3]
          omega
        · simp [w, dayW, h, h2, ahead1000, ahead9000, dayD, h3]
      · have : ¬ i ≤ 3286816 := by omega
        simp [w, dayW, h, h2, dayD, this]
    · have : ¬ 364877 ≤ i := by omega
      simp [w, dayW, h, dayD, this]
  | _ => simp [w, dayW, dayD]
def cellT (k : Kd) (d : D) : Bool := match d with
  | .none => true
  | d => match k with
    | .num => toldD d
    | .word => wordD d
    | .day => dayD d
def OKD (d : D) : Prop := ∀ s, d = .str s → s.length ≤ 1000000
theorem nonD {d : D} (h : d ≠ .none) (k : Kd) : cellT k d = (match k with | .num => toldD d | .word => wordD d | .day => dayD d) := by
  cases d with
  | none => exact absurd rfl h
  | _ => rfl
theorem isn {d : D} (h : d ≠ .none) : gIs d .none = some false := by
  cases d with
  | none => exact absurd rfl h
  | _ => rfl
theorem is_cell_eq (k : Kd) (d : D) (hd : OKD d) : m_is_cell [cD k.e, cD d] = .ok (.im (.bool (cellT k d))) [cD k.e, cD d] := by
  have e1 := kn k
  have e2 := kw k
  have t := is_told_eq d
  have w := is_word_eq d hd
  have y := is_told_day_eq d
  by_cases h : d = .none
  · subst h
    generalize k.e = K at *
    simp only [m_is_cell, b_is_cell, dDef_eq, dSeq_eq]
    simp [cellT]
  · rw [nonD h k]
    have gi := isn h
    generalize hk : k.e = K at *
    simp only [m_is_cell, b_is_cell, dDef_eq, dSeq_eq]
    cases k <;> simp [gi, e1, e2, t, w, y, -gIs_none]
theorem law_whole_eq (d : D) : m_law_whole [cD d] = .ok (.im (.bool (wholeD d))) [cD d] := by
  simp only [m_law_whole, b_law_whole, dDef_eq, dSeq_eq]
  cases d <;> simp [isTy, wholeD]
theorem law_divisor_eq (a b : Int) : m_law_divisor [cI a, cI b] = .ok (.im (.int (Int.gcd a b))) [cI a, cI b] := by
  obtain ⟨g, hg, e⟩ := gcd_loop b.natAbs a b (Nat.le_refl _)
  have hab : (if g < 0 then -g else g) = (Int.gcd a b : Int) := by rw [← hg]; split <;> omega
  simp only [m_law_divisor, b_law_divisor, b_law_divisor_l1, dDef_eq, dSeq_eq]
  simp [e, hab]

theorem toldD_bad {ds : List D} (h : ds.length ≠ 2) : toldD (.tuple ds) = false := by
  match ds, h with
  | [], _ => rfl
  | [a], _ => cases a <;> rfl
  | [a, b], h => exact absurd rfl h
  | a :: b :: c :: t, _ => cases a <;> cases b <;> rfl
theorem toldD_no {d : D} (h : ∀ ds, d ≠ .tuple ds) : toldD d = false := by
  cases d with
  | tuple ds => exact absurd rfl (h ds)
  | _ => rfl
theorem toldD_two (a b : D) : toldD (.tuple [a, b]) = (match a, b with | .int t, .int b => decide (0 < b) && decide (Int.gcd t b = 1) && decide (t.natAbs < 10 ^ 18) && decide (b ≤ 60) | _, _ => false) := by
  cases a <;> cases b <;> rfl
theorem law_told_eq (k : Kd) (d : D) (hd : OKD d) : m_law_told [cD k.e, cD d] = .ok (.im (.bool (cellT k d))) [cD k.e, cD d] := by
  have e2 := kw k
  have e3 := kday k
  have p18 : gPow (.int 10) (.int 18) = some (.int (10 ^ 18)) := gPow_of (by decide) (by decide) (by decide)
  by_cases h : d = .none
  · subst h
    generalize k.e = K at *
    simp only [m_law_told, b_law_told, dDef_eq, dSeq_eq]
    simp [cellT]
  · rw [nonD h k]
    have gi := isn h
    cases k with
    | word =>
      generalize hk : Kd.word.e = K at *
      cases d with
      | str s =>
        obtain ⟨a, rfl⟩ : ∃ a, s = SX.S a := ⟨s.cps.toList, (S_of s).symm⟩
        have hl : a.length ≤ 1000000 := by have := hd _ rfl; rwa [SX.S_len] at this
        have gl := gLen_S hl
        have e : wordD (.str (SX.S a)) = decide (isW a) := rfl
        simp only [e]
        have lc := lcL_map (t := b_law_told_l1) (vs := [2]) (f := fun d => match d with | .str s => .bool (decide (s.cps.toList.getD 0 0 ∈ abc)) | _ => .none) (ρ := [cD K, cS a, none]) (ds := strD (SX.S a)) (fun d hd => by
          rw [strD_S] at hd
          obtain ⟨c, hc, rfl⟩ := List.mem_map.mp hd
          refine ⟨[cD K, cS a, cS [c]], ?_, by simp [restE]⟩
          have := gIn_S c abc
          rw [← str_abc] at this
          simp [b_law_told_l1, wipeE, this]) (by rw [strD_S]; simp; exact sLine hl)
        have em : (strD (SX.S a)).map (fun d => match d with | .str s => PyData.bool (decide (s.cps.toList.getD 0 0 ∈ abc)) | _ => .none) = (a.map fun c => decide (c ∈ abc)).map PyData.bool := by
          rw [strD_S, List.map_map, List.map_map]
          rfl
        rw [em] at lc
        simp only [m_law_told, b_law_told, dDef_eq, dSeq_eq]
        by_cases h1 : 1 ≤ a.length ∧ a.length ≤ 8
        · have h2 : ¬ (a.length : Int) < 1 := by omega
          have h3 : ¬ (8 : Int) < a.length := by omega
          simp [isTy, gi, e2, gl, h2, h3, immE, lc, -List.map_map, -gIs_none]
          rw [Bool.eq_iff_iff]
          simp [isW, h1]
        · have h2 : ¬ isW a := fun h => h1 ⟨h.1, h.2.1⟩
          by_cases h3 : (a.length : Int) < 1
          · simp [isTy, gi, e2, gl, h2, h3, -gIs_none]
          · have h4 : (8 : Int) < a.length := by omega
            simp [isTy, gi, e2, gl, h2, h3, h4, -gIs_none]
      | _ =>
        simp only [m_law_told, b_law_told, dDef_eq, dSeq_eq]
        simp [isTy, gi, e2, wordD, -gIs_none]
    | day =>
      have w := law_whole_eq d
      generalize hk : Kd.day.e = K at *
      simp only [m_law_told, b_law_told, dDef_eq, dSeq_eq]
      cases d with
      | int i =>
        by_cases h3 : 364877 ≤ i
        · simp [gi, e2, e3, w, wholeD, dayD, h3, -gIs_none]
        · simp [gi, e2, e3, w, wholeD, dayD, h3, -gIs_none]
      | _ => simp [gi, e2, e3, w, wholeD, dayD, -gIs_none]
    | num =>
      generalize hk : Kd.num.e = K at *
      by_cases ht : ∃ ds, d = .tuple ds
      · obtain ⟨ds, rfl⟩ := ht
        by_cases hl : ds.length = 2
        · obtain ⟨a, b, rfl⟩ : ∃ a b, ds = [a, b] := by
            match ds, hl with
            | [a, b], _ => exact ⟨a, b, rfl⟩
          have wa := law_whole_eq a
          have wb := law_whole_eq b
          simp only [toldD_two]
          simp only [m_law_told, b_law_told, dDef_eq, dSeq_eq]
          cases a with
          | int t =>
            cases b with
            | int u =>
              have dv := law_divisor_eq t u
              have ea : ((if t < 0 then -t else t) < 10 ^ 18) = (t.natAbs < 10 ^ 18) := by
                apply propext
                split <;> omega
              by_cases h1 : u < 1
              · have : ¬ 0 < u := by omega
                simp [isTy, gi, e2, e3, gLen1, wa, wb, wholeD, h1, this, -gIs_none]
              · have h0 : 0 < u := by omega
                by_cases h2 : 60 < u
                · have : ¬ u ≤ 60 := by omega
                  simp [isTy, gi, e2, e3, gLen1, wa, wb, wholeD, h1, h2, this, -gIs_none]
                · have h3 : u ≤ 60 := by omega
                  by_cases h4 : t.natAbs < 10 ^ 18
                  · simp [-Int.reducePow, -Nat.reducePow, isTy, gi, e2, e3, gLen1, wa, wb, wholeD, h1, h2, h0, h3, p18, ea, h4, dv, -gIs_none]
                    omega
                  · simp [-Int.reducePow, -Nat.reducePow, isTy, gi, e2, e3, gLen1, wa, wb, wholeD, h1, h2, h0, h3, p18, ea, h4, dv, -gIs_none]
            | _ => simp [isTy, gi, e2, e3, gLen1, wa, wb, wholeD, -gIs_none]
          | _ => simp [isTy, gi, e2, e3, gLen1, wa, wb, wholeD, -gIs_none]
        · simp only [toldD_bad hl]
          have h2 : ¬ (ds.length : Int) = 2 := by omega
          simp only [m_law_told, b_law_told, dDef_eq, dSeq_eq]
          simp [isTy, gi, e2, e3, gLen1, h2, -gIs_none]
      · have hn : ∀ ds, d ≠ .tuple ds := fun ds z => ht ⟨ds, z⟩
        simp only [toldD_no hn]
        have it : isTy "tuple" d = false := by
          cases d with
          | tuple ds => exact absurd rfl (hn ds)
          | _ => rfl
        simp only [m_law_told, b_law_told, dDef_eq, dSeq_eq]
        simp [it, gi, e2, e3, -gIs_none]
end Lw
namespace Lw
open PySem PySem.Spec PyProof.Rows L2 Dn
theorem signs_in {l : List Nat} : ∀ {ys : List D}, (∀ y ∈ ys, ∃ c ∈ l, y = .str (SX.S [c])) → ∃ cs : List Nat, (∀ c ∈ cs, c ∈ l) ∧ cs.length = ys.length ∧ ys = cs.map fun c => .str (SX.S [c])
  | [], _ => ⟨[], fun c h => by simp at h, rfl, rfl⟩
  | y :: ys, h => by
    obtain ⟨c, hc, rfl⟩ := h y List.mem_cons_self
    obtain ⟨cs, h1, h2, rfl⟩ := signs_in (ys := ys) fun y hy => h y (List.mem_cons_of_mem _ hy)
    exact ⟨c :: cs, fun d hd => (List.mem_cons.mp hd).elim (fun q => by subst q; exact hc) (h1 d), by simp, rfl⟩
theorem abc_at {v : Int} (h0 : 0 ≤ v) (h1 : v < 26) : ∃ c ∈ abc, gIx (.str (SX.S abc)) (.int v) = some (.str (SX.S [c])) := by
  obtain ⟨n, rfl⟩ : ∃ n : Nat, v = n := ⟨v.toNat, by omega⟩
  have hl : abc.length = 26 := rfl
  have hn : n < abc.length := by omega
  exact ⟨_, List.getElem_mem hn, gIx_S (a := abc) (by omega) (k := n) hn⟩
theorem pick2 {p q : D} {v : Int} (h0 : 0 ≤ v) (h1 : v < 2) : gIx (.list [p, q]) (.int v) = some (if v = 0 then p else q) := by
  have : v = 0 ∨ v = 1 := by omega
  rcases this with rfl | rfl <;> simp
/-! draws -/
def topsL : List Int := [3, 1000000, 840, 8, 2, 26, 26, 26, 26, 26, 26, 26, 26, 2, 4, 1000000000, 1000000000, 90, 8000, 12, 31]
theorem tops_at {i : Nat} (h : i < 21) : ∃ t : Int, topsL.getD i 1 = t ∧ 0 < t ∧ t ≤ 1000000000 ∧ gIx (.list (topsL.map PyData.int)) (.int (i : Int)) = some (.int t) := by
  have hl : topsL.length = 21 := rfl
  have hi : i < topsL.length := by omega
  have all : ∀ t ∈ topsL, 0 < t ∧ t ≤ 1000000000 := by decide
  refine ⟨topsL[i], by simp [hi], (all _ (List.getElem_mem hi)).1, (all _ (List.getElem_mem hi)).2, ?_⟩
  rw [gIx_lst]; exact atI_of (by simp [hi])
def inT (v : List Int) : Prop := ∀ (j : Nat) (x : Int), v[j]? = some x → 0 ≤ x ∧ x < topsL.getD j 1
theorem inT.add {v : List Int} (h : inT v) {x : Int} (h0 : 0 ≤ x) (h1 : x < topsL.getD v.length 1) : inT (v ++ [x]) := fun j y e => by
  by_cases hj : j < v.length
  · rw [List.getElem?_append_left hj] at e; exact h j y e
  · rw [List.getElem?_append_right (by omega)] at e
    have : j - v.length = 0 := by
      have := (List.getElem?_eq_some_iff.mp e).1
      simpa using this
    rw [this] at e; cases e
    have : j = v.length := by omega
    subst this
    exact ⟨h0, h1⟩
theorem draws_turn (c : Int) (i : Nat) (hi : i < 21) (v : List Int) (hl : v.length = i) (hv : inT v) (left mixed : Int) (l0 : 0 ≤ left) (m0 : 0 ≤ mixed) (m1 : mixed < 2147483647) :
    ∃ (left' mixed' x : Int), 0 ≤ left' ∧ 0 ≤ mixed' ∧ mixed' < 2147483647 ∧ inT (v ++ [x]) ∧
    b_law_draws_l1 [cI c, cD (.list (topsL.map PyData.int)), some (.ow (v.map PyData.int)), cI left, cI mixed, cI i] = .ok .nx [cI c, cD (.list (topsL.map PyData.int)), some (.ow ((v ++ [x]).map PyData.int)), cI left', cI mixed', cI i] := by
  have p18 : gPow (.int 10) (.int 18) = some (.int (10 ^ 18)) := gPow_of (by decide) (by decide) (by decide)
  obtain ⟨t, ht, t0, t1, g⟩ := tops_at hi
  have hs : v.length < sizeLine := by have := PySem.sizeLine_eq; omega
  obtain ⟨a, ha⟩ : ∃ a : Int, a = (if c < 0 then -c else c) := ⟨_, rfl⟩
  by_cases hc : 10 ^ 18 ≤ a
  · have f1 : gMod (.int left) (.int t) = some (.int (left % t)) := gMod_pos t0
    have f2 : gFdiv (.int left) (.int t) = some (.int (left / t)) := gFdiv_pos (n := 40) t0 (by omega) (by decide) (by decide)
    refine ⟨left / t, mixed, left % t, Int.ediv_nonneg l0 (by omega), m0, m1, hv.add (Int.emod_nonneg _ (by omega)) (by rw [hl, ht]; exact Int.emod_lt_of_pos _ t0), ?_⟩
    generalize topsL.map PyData.int = TD at g ⊢
    generalize left % t = x1 at f1 ⊢
    generalize left / t = x2 at f2 ⊢
    simp [-Int.reducePow, b_law_draws_l1, ← ha, p18, hc, g, f1, f2, hs, -gIx_lst]
  · have a1 : gMul (.int mixed) (.int mixed) = some (.int (mixed * mixed)) := gmul (by omega) (by omega)
    have a2 : gMul (.int 69621) (.int mixed) = some (.int (69621 * mixed)) := gmul (by decide) (by omega)
    have a3 : gMul (.int 7919) (.int (i : Int)) = some (.int (7919 * (i : Int))) := gmul (by decide) (by omega)
    obtain ⟨y, hy⟩ : ∃ y, y = (mixed * mixed + 69621 * mixed + 7919 * (i : Int) + 11) % 2147483647 := ⟨_, rfl⟩
    have y0 : 0 ≤ y := by rw [hy]; exact Int.emod_nonneg _ (by decide)
    have y1 : y < 2147483647 := by rw [hy]; exact Int.emod_lt_of_pos _ (by decide)
    have a4 : gMod (.int (mixed * mixed + 69621 * mixed + 7919 * (i : Int) + 11)) (.int 2147483647) = some (.int y) := by rw [gMod_pos (by decide), hy]
    have a5 : gMul (.int y) (.int 16807) = some (.int (y * 16807)) := gmul (by omega) (by decide)
    have a6 : gMod (.int (y * 16807)) (.int 2147483629) = some (.int (y * 16807 % 2147483629)) := gMod_pos (by decide)
    have a7 : gMod (.int (y * 16807 % 2147483629)) (.int t) = some (.int (y * 16807 % 2147483629 % t)) := gMod_pos t0
    refine ⟨left, y, y * 16807 % 2147483629 % t, l0, y0, y1, hv.add (Int.emod_nonneg _ (by omega)) (by rw [hl, ht]; exact Int.emod_lt_of_pos _ t0), ?_⟩
    generalize topsL.map PyData.int = TD at g ⊢
    generalize y * 16807 % 2147483629 % t = z at a7 ⊢
    generalize y * 16807 % 2147483629 = z2 at a6 a7
    generalize y * 16807 = z3 at a5 a6
    generalize mixed * mixed = m2 at a1 a4
    generalize 69621 * mixed = m3 at a2 a4
    generalize 7919 * (i : Int) = m4 at a3 a4
    clear hy
    simp [-Int.reducePow, b_law_draws_l1, ← ha, p18, hc, g, a1, a2, a3, a4, a5, a6, a7, hs, -gIx_lst]
theorem law_draws_ex (c : Int) (hc : c.natAbs < 2 ^ 1048576) : ∃ v : List Int, v.length = 21 ∧ inT v ∧ m_law_draws [cI c, cD (.list (topsL.map PyData.int))] = .ok (.ow (v.map PyData.int)) [cI c, cD (.list (topsL.map PyData.int))] := by
  have g1 : gMul (.int c) (.int 48271) = some (.int (c * 48271)) := gMul_big hc (n := 20) (by decide) (by decide) (by decide) (by decide)
  have g2 : gMod (.int (c * 48271)) (.int 2147483647) = some (.int (c * 48271 % 2147483647)) := gMod_pos (by decide)
  obtain ⟨y, hy⟩ : ∃ y, y = c * 48271 % 2147483647 := ⟨_, rfl⟩
  have y0 : 0 ≤ y := by rw [hy]; exact Int.emod_nonneg _ (by decide)
  have y1 : y < 2147483647 := by rw [hy]; exact Int.emod_lt_of_pos _ (by decide)
  rw [← hy] at g2
  obtain ⟨a, ha, a0⟩ : ∃ a : Int, a = (if c < 0 then -c else c) ∧ 0 ≤ a := ⟨_, rfl, by split <;> omega⟩
  obtain ⟨ρ', LP, left, mixed, v, x5, l0, m0, m1, hl, hv, f5, rfl⟩ := forL_rng (g := putIm 5) (b := b_law_draws_l1) (lo := 0) (n := 21)
    (P := fun i ρ => ∃ (left mixed : Int) (v : List Int) (x5 : Option Dn.L), 0 ≤ left ∧ 0 ≤ mixed ∧ mixed < 2147483647 ∧ v.length = i ∧ inT v ∧ free (some x5) = true ∧ ρ = [cI c, cD (.list (topsL.map PyData.int)), some (.ow (v.map PyData.int)), cI left, cI mixed, x5])
    (fun i hi ρ ⟨left, mixed, v, x5, l0, m0, m1, hl, hv, f5, e⟩ => by
      subst e
      obtain ⟨left', mixed', x, k0, k1, k2, k3, e⟩ := draws_turn c i hi v hl hv left mixed l0 m0 m1
      exact ⟨[cI c, cD (.list (topsL.map PyData.int)), some (.ow (v.map PyData.int)), cI left, cI mixed, cI (0 + (i : Int))], _, by simp [f5], by rw [Int.zero_add]; exact e, left', mixed', v ++ [x], cI i, k0, k1, k2, by simp [hl], k3, rfl, rfl⟩)
    [cI c, cD (.list (topsL.map PyData.int)), some (.ow []), cI a, cI y, none] ⟨a, y, [], none, a0, y0, y1, rfl, fun j x e => by simp at e, rfl, rfl⟩
  have gl : gLen1 (.list (topsL.map PyData.int)) = some (.int 21) := rfl
  have I : Dn.inR 21 := inR_of (by decide) (by decide)
  refine ⟨v, hl, hv, ?_⟩
  generalize PyData.list (topsL.map PyData.int) = TD at gl LP ⊢
  simp only [m_law_draws, b_law_draws, dDef_eq, dSeq_eq]
  simp [← ha, g1, g2, gl, I, LP]
end Lw
namespace Lw
open PySem PySem.Spec PyProof.Rows L2 Dn
abbrev iL (v : List Int) : D := .list (v.map PyData.int)
theorem ixL {v : List Int} {i : Nat} (h : i < v.length) : ∃ x : Int, v[i]? = some x ∧ gIx (iL v) (.int (i : Int)) = some (.int x) := ⟨v[i], by simp [h], by rw [gIx_lst]; exact atI_of (by simp [h])⟩
theorem word_turn (w : List Int) (hl : w.length = 10) (m : Int) (hm : gIx (iL w) (.int 1) = some (.int m)) (m0 : 0 ≤ m) (m1 : m < 2) (k : Nat) (hk : k < 8) : ∃ y ρ3, b_law_word_l1 (.int (k : Int)) (wipeE [cD (iL w), cS abc, none] [2]) = .ok (some y) ρ3 ∧ (∃ c ∈ abc, y = .str (SX.S [c])) ∧ restE [cD (iL w), cS abc, none] ρ3 [2] = [cD (iL w), cS abc, none] := by
  obtain ⟨x, _, gx⟩ := ixL (v := w) (i := 2 + k) (by omega)
  have gx' : gIx (iL w) (.int (2 + (k : Int))) = some (.int x) := gx
  obtain ⟨z, hz, z0, z1⟩ : ∃ z : Int, gIx (.list [.int 26, .int 2]) (.int m) = some (.int z) ∧ 0 < z ∧ z ≤ 26 := by
    rw [pick2 m0 m1]; split <;> exact ⟨_, rfl, by decide, by decide⟩
  have f2 : gMod (.int x) (.int z) = some (.int (x % z)) := gMod_pos z0
  obtain ⟨s, hs, e⟩ := abc_at (v := x % z) (Int.emod_nonneg _ (by omega)) (by have := Int.emod_lt_of_pos x z0; omega)
  generalize x % z = q at f2 e
  generalize hab : abc = ab at e hs
  generalize iL w = W at *
  refine ⟨.str (SX.S [s]), [cD W, cS ab, cI k], ?_, ⟨s, hs, rfl⟩, by simp [restE]⟩
  simp [b_law_word_l1, wipeE, gx', hm, hz, f2, e, -gIx_lst]
theorem law_word_ex (w : List Int) (hl : w.length = 10) (n m : Int) (hn : gIx (iL w) (.int 0) = some (.int n)) (hm : gIx (iL w) (.int 1) = some (.int m)) (n0 : 0 ≤ n) (n1 : n < 8) (m0 : 0 ≤ m) (m1 : m < 2) :
    ∃ cs : List Nat, isW cs ∧ m_law_word [cD (iL w)] = .ok (.im (.str (SX.S cs))) [cD (iL w)] := by
  obtain ⟨t, rfl⟩ : ∃ t : Nat, n = t := ⟨n.toNat, by omega⟩
  have hr : (rngD 0 (1 + t)).length = 1 + t := by simp [rngD]
  obtain ⟨ys, ρ', LC, l2, s2, rfl⟩ := lcL_inv (t := b_law_word_l1) (vs := [2]) (ds := rngD 0 (1 + t)) (acc := []) (ρ := [cD (iL w), cS abc, none]) (P := fun ρ => ρ = [cD (iL w), cS abc, none]) (S := fun y => ∃ c ∈ abc, y = .str (SX.S [c]))
    (fun d hd ρ hp => by
      subst hp
      simp only [rngD, List.mem_map, List.mem_range] at hd
      obtain ⟨i, hi, rfl⟩ := hd
      rw [Int.zero_add]
      exact word_turn w hl m hm m0 m1 i (by omega)) rfl (by have := PySem.sizeLine_eq; rw [hr]; simp; omega)
  obtain ⟨cs, o1, o2, rfl⟩ := signs_in s2
  have J := gJoin_signs (cs := cs) (by omega)
  have I : Dn.inR (1 + (t : Int)) := inR_of (by omega) (by omega)
  have e : (1 + (t : Int)).toNat = 1 + t := by omega
  rw [List.nil_append] at LC
  generalize iL w = W at *
  refine ⟨cs, ⟨by omega, by omega, o1⟩, ?_⟩
  simp only [m_law_word, b_law_word, dDef_eq]
  refine (congrArg _ (seq_nx (ρ1 := [cD W, cS abc, none]) (by rw [str_abc]; simp) rfl)).trans ?_
  rw [str0]
  simp [hn, I, e, immE, LC, J, -gIx_lst]
theorem div_small (a g : Int) (hg : 0 < g) : (a / g).natAbs ≤ a.natAbs := Int.natAbs_ediv_le_natAbs a g
theorem law_number_ex (s w n1 n2 b : Int) (hs : 0 ≤ s ∧ s < 2) (hw : 0 ≤ w ∧ w < 4) (h1 : 0 ≤ n1 ∧ n1 < 1000000000) (h2 : 0 ≤ n2 ∧ n2 < 1000000000) (hb : 0 ≤ b ∧ b < 90) :
    ∃ t u : Int, t.natAbs < 2 ^ 70 ∧ u.natAbs < 2 ^ 70 ∧ 0 ≤ u ∧ m_law_number [cD (.list [.int s, .int w, .int n1, .int n2, .int b])] = .ok (.im (nD t u)) [cD (.list [.int s, .int w, .int n1, .int n2, .int b])] := by
  have e9 : gPow (.int 10) (.int 9) = some (.int 1000000000) := by rw [gPow_of (by decide) (by decide) (by decide)]; rfl
  have a1 : gMod (.int n1) (.int 10) = some (.int (n1 % 10)) := gMod_pos (by decide)
  have a2 : gMod (.int n1) (.int 1000) = some (.int (n1 % 1000)) := gMod_pos (by decide)
  have a3 : gMul (.int n1) (.int 1000000000) = some (.int (n1 * 1000000000)) := gmul (by omega) (by decide)
  obtain ⟨z, hz, z0, z1⟩ : ∃ z : Int, gIx (.list [.int (n1 % 10), .int (n1 % 1000), .int n1, .int (n1 * 1000000000 + n2)]) (.int w) = some (.int z) ∧ 0 ≤ z ∧ z < 1000000000000000000 := by
    have : w = 0 ∨ w = 1 ∨ w = 2 ∨ w = 3 := by omega
    rcases this with rfl | rfl | rfl | rfl
    · exact ⟨n1 % 10, by simp, by omega, by omega⟩
    · exact ⟨n1 % 1000, by simp, by omega, by omega⟩
    · exact ⟨n1, by simp, by omega, by omega⟩
    · exact ⟨n1 * 1000000000 + n2, by rw [gIx_lst]; exact atI_of (i := 3) rfl, by omega, by omega⟩
  obtain ⟨y, hy, y0, y1⟩ : ∃ y : Int, gIx (.list [.int (b + 1), .int 1]) (.int (if 60 ≤ b then 1 else 0)) = some (.int y) ∧ 0 < y ∧ y ≤ 60 := by
    by_cases h : 60 ≤ b
    · rw [if_pos h]; exact ⟨1, by simp, by decide, by decide⟩
    · rw [if_neg h]; exact ⟨b + 1, by simp, by omega, by omega⟩
  have dv := law_divisor_eq z y
  have hgp : 0 < Int.gcd z y := Int.gcd_pos_of_ne_zero_right _ (by omega)
  have hgl : Int.gcd z y ≤ 60 := by
    have hd : Int.gcd z y ∣ y.natAbs := by have := Int.natAbs_dvd_natAbs.mpr (Int.gcd_dvd_right z y); simpa using this
    have := Nat.le_of_dvd (by omega) hd
    omega
  obtain ⟨g, hg⟩ : ∃ g : Int, g = (Int.gcd z y : Int) := ⟨_, rfl⟩
  rw [← hg] at dv
  have g0 : 0 < g := by omega
  have g1 : g ≤ 60 := by omega
  have a4 : gMul (.int 2) (.int s) = some (.int (2 * s)) := gmul (by decide) (by omega)
  have a5 : gMul (.int (1 - 2 * s)) (.int z) = some (.int ((1 - 2 * s) * z)) := gmul (by omega) (by omega)
  have a6 : gFdiv (.int ((1 - 2 * s) * z)) (.int g) = some (.int ((1 - 2 * s) * z / g)) := gFdiv_pos (n := 40) g0 (by omega) (by decide) (by decide)
  have a7 : gFdiv (.int y) (.int g) = some (.int (y / g)) := gFdiv_pos (n := 40) g0 (by omega) (by decide) (by decide)
  have b1 : ((1 - 2 * s) * z / g).natAbs < 2 ^ 70 := by
    have := div_small ((1 - 2 * s) * z) g g0
    have : ((1 - 2 * s) * z).natAbs < 2 ^ (2 + 62) := mul_lt (by omega) (by omega)
    omega
  have b2 : (y / g).natAbs < 2 ^ 70 := by
    have := div_small y g g0
    omega
  have b3 : 0 ≤ y / g := Int.ediv_nonneg (by omega) (by omega)
  refine ⟨(1 - 2 * s) * z / g, y / g, b1, b2, b3, ?_⟩
  have i0 : gIx (.list [.int s, .int w, .int n1, .int n2, .int b]) (.int 0) = some (.int s) := by simp
  have i1 : gIx (.list [.int s, .int w, .int n1, .int n2, .int b]) (.int 1) = some (.int w) := by simp
  have i2 : gIx (.list [.int s, .int w, .int n1, .int n2, .int b]) (.int 2) = some (.int n1) := by simp
  have i3 : gIx (.list [.int s, .int w, .int n1, .int n2, .int b]) (.int 3) = some (.int n2) := by rw [gIx_lst]; exact atI_of (i := 3) rfl
  have i4 : gIx (.list [.int s, .int w, .int n1, .int n2, .int b]) (.int 4) = some (.int b) := by rw [gIx_lst]; exact atI_of (i := 4) rfl
  generalize PyData.list [.int s, .int w, .int n1, .int n2, .int b] = LL at i0 i1 i2 i3 i4 ⊢
  generalize (1 - 2 * s) * z / g = q1 at a6 ⊢
  generalize (1 - 2 * s) * z = q2 at a5 a6
  generalize y / g = q3 at a7 ⊢
  generalize n1 * 1000000000 = q4 at a3 hz
  simp only [m_law_number, b_law_number, dDef_eq, dSeq_eq]
  simp [i0, i1, i2, i3, i4, e9, a1, a2, a3, hz, hy, dv, a4, a5, a6, a7, -gIx_lst]
theorem lengths_ex (y : Int) : ∃ f : Int, 28 ≤ f ∧ f ≤ 29 ∧ m_law_lengths [cI y] = .ok (.ow [.int 31, .int f, .int 31, .int 30, .int 31, .int 30, .int 31, .int 31, .int 30, .int 31, .int 30, .int 31]) [cI y] := by
  have m1 : gMod (.int y) (.int 4) = some (.int (y % 4)) := gMod_pos (by decide)
  have m2 : gMod (.int y) (.int 100) = some (.int (y % 100)) := gMod_pos (by decide)
  have m3 : gMod (.int y) (.int 400) = some (.int (y % 400)) := gMod_pos (by decide)
  simp only [m_law_lengths, b_law_lengths, dDef_eq, dSeq_eq]
  by_cases h1 : y % 4 = 0
  · by_cases h2 : y % 100 = 0
    · by_cases h3 : y % 400 = 0
      · exact ⟨29, by decide, by decide, by simp [m1, m2, m3, h1, h2, h3]⟩
      · exact ⟨28, by decide, by decide, by simp [m1, m2, m3, h1, h2, h3]⟩
    · exact ⟨29, by decide, by decide, by simp [m1, m2, h1, h2]⟩
  · exact ⟨28, by decide, by decide, by simp [m1, h1]⟩
theorem law_day_ex (y m dd : Int) (hy : 0 ≤ y ∧ y < 8000) (hm : 0 ≤ m ∧ m < 12) (hd : 0 ≤ dd ∧ dd < 31) : ∃ z : Int, z.natAbs < 2 ^ 40 ∧ 0 ≤ z ∧ m_law_day [cD (.list [.int y, .int m, .int dd])] = .ok (.im (.int z)) [cD (.list [.int y, .int m, .int dd])] := by
  obtain ⟨f, f0, f1, L⟩ := lengths_ex (1000 + y)
  have q1 : gMul (.int 365) (.int (1000 + y - 1)) = some (.int (365 * (1000 + y - 1))) := gmul (by decide) (by omega)
  have q2 : gFdiv (.int (1000 + y - 1)) (.int 4) = some (.int ((1000 + y - 1) / 4)) := gFdiv_pos (n := 40) (by decide) (by decide) (by decide) (by decide)
  have q3 : gFdiv (.int (1000 + y - 1)) (.int 100) = some (.int ((1000 + y - 1) / 100)) := gFdiv_pos (n := 40) (by decide) (by decide) (by decide) (by decide)
  have q4 : gFdiv (.int (1000 + y - 1)) (.int 400) = some (.int ((1000 + y - 1) / 400)) := gFdiv_pos (n := 40) (by decide) (by decide) (by decide) (by decide)
  obtain ⟨mn, rfl⟩ : ∃ mn : Nat, m = mn := ⟨m.toNat, by omega⟩
  have hl : ([31, f, 31, 30, 31, 30, 31, 31, 30, 31, 30, 31] : List Int).length = 12 := rfl
  have hsl : gSl (iL [31, f, 31, 30, 31, 30, 31, 31, 30, 31, 30, 31]) none (some (mn : Int)) = some (iL (([31, f, 31, 30, 31, 30, 31, 31, 30, 31, 30, 31] : List Int).take mn)) := by
    rw [gSl_take]; simp [List.map_take]
  have hsum : ∃ S : Int, 0 ≤ S ∧ S ≤ 372 ∧ gSum [iL (([31, f, 31, 30, 31, 30, 31, 31, 30, 31, 30, 31] : List Int).take mn)] = some (.int S) := by
    have : mn = 0 ∨ mn = 1 ∨ mn = 2 ∨ mn = 3 ∨ mn = 4 ∨ mn = 5 ∨ mn = 6 ∨ mn = 7 ∨ mn = 8 ∨ mn = 9 ∨ mn = 10 ∨ mn = 11 := by omega
    refine ⟨(([31, f, 31, 30, 31, 30, 31, 31, 30, 31, 30, 31] : List Int).take mn).sum, ?_, ?_, by rw [gSum_list, Dn.ints_map]; rfl⟩
    · rcases this with rfl | rfl | rfl | rfl | rfl | rfl | rfl | rfl | rfl | rfl | rfl | rfl <;> simp <;> omega
    · rcases this with rfl | rfl | rfl | rfl | rfl | rfl | rfl | rfl | rfl | rfl | rfl | rfl <;> simp <;> omega
  obtain ⟨S, S0, S1, hS⟩ := hsum
  obtain ⟨x, hx, gx⟩ := ixL (v := [31, f, 31, 30, 31, 30, 31, 31, 30, 31, 30, 31]) (i := mn) (by rw [hl]; omega)
  have x0 : 0 < x ∧ x ≤ 31 := by
    have hx' := List.mem_of_getElem? hx
    simp at hx'
    omega
  have md : gMod (.int dd) (.int x) = some (.int (dd % x)) := gMod_pos x0.1
  have r0 := Int.emod_nonneg dd (show x ≠ 0 by omega)
  have r1 := Int.emod_lt_of_pos dd x0.1
  refine ⟨365 * (1000 + y - 1) + (1000 + y - 1) / 4 - (1000 + y - 1) / 100 + (1000 + y - 1) / 400 + S + dd % x, by omega, by omega, ?_⟩
  have i0 : gIx (.list [.int y, .int (mn : Int), .int dd]) (.int 0) = some (.int y) := by simp
  have i1 : gIx (.list [.int y, .int (mn : Int), .int dd]) (.int 1) = some (.int (mn : Int)) := by simp
  have i2 : gIx (.list [.int y, .int (mn : Int), .int dd]) (.int 2) = some (.int dd) := by simp
  generalize PyData.list [.int y, .int (mn : Int), .int dd] = LL at i0 i1 i2 ⊢
  have L' : m_law_lengths [cI (1000 + y)] = .ok (.ow (([31, f, 31, 30, 31, 30, 31, 31, 30, 31, 30, 31] : List Int).map PyData.int)) [cI (1000 + y)] := L
  simp only [iL] at hsl hS gx
  generalize ([31, f, 31, 30, 31, 30, 31, 31, 30, 31, 30, 31] : List Int).map PyData.int = ML at L' hsl gx
  generalize (([31, f, 31, 30, 31, 30, 31, 31, 30, 31, 30, 31] : List Int).take mn).map PyData.int = MT at hsl hS
  simp only [m_law_day, b_law_day, dDef_eq, dSeq_eq]
  simp [i0, i1, i2, L', q1, q2, q3, q4, hsl, hS, gx, md, -gIx_lst, -gSum_list]
end Lw
namespace Lw
open PySem PySem.Spec PyProof.Rows L2 Dn
theorem OKD_no {d : D} (h : ∀ s, d ≠ .str s) : OKD d := fun s e => absurd e (h s)
theorem gIx_mem {l : List D} {v : Int} (h0 : 0 ≤ v) (h1 : v < l.length) : ∃ d ∈ l, gIx (.list l) (.int v) = some d := by
  obtain ⟨d, e, g⟩ := gIx_pick h0 h1
  exact ⟨d, List.mem_of_getElem? e, g⟩
theorem odd_number_ex (t u way at_ : Int) (ht : t.natAbs < 2 ^ 70) (hu : u.natAbs < 2 ^ 70) : ∃ d : D, OKD d ∧ m_law_odd_number [cD (nD t u), cI way, cI at_] = .ok (.im d) [cD (nD t u), cI way, cI at_] := by
  have p18 : gPow (.int 10) (.int 18) = some (.int (10 ^ 18)) := gPow_of (by decide) (by decide) (by decide)
  have p29 : gPow (.int 10) (.int 29) = some (.int (10 ^ 29)) := gPow_of (by decide) (by decide) (by decide)
  have p20 : gPow (.int 10) (.int 20) = some (.int (10 ^ 20)) := gPow_of (by decide) (by decide) (by decide)
  have g1 : gMul (.int 2) (.int t) = some (.int (2 * t)) := gmul (by decide) (by omega)
  have g2 : gMul (.int 2) (.int u) = some (.int (2 * u)) := gmul (by decide) (by omega)
  have g3 : gMod (.int at_) (.int 2) = some (.int (at_ % 2)) := gMod_pos (by decide)
  have g4 : gFdiv (.int at_) (.int 2) = some (.int (at_ / 2)) := gFdiv_pos (n := 30) (by decide) (by decide) (by decide) (by decide)
  have g5 : gStr [.int t] = some (.str (SX.S (intL t))) := gStr_int (k := 70) ht (by decide) (by decide)
  have g6 : gStr [.int u] = some (.str (SX.S (intL u))) := gStr_int (k := 70) hu (by decide) (by decide)
  have g7 : gMod (.int way) (.int 21) = some (.int (way % 21)) := gMod_pos (by decide)
  generalize SX.S (intL t) = S1 at g5
  generalize SX.S (intL u) = S2 at g6
  generalize (2 * t) = t2 at g1
  generalize (2 * u) = u2 at g2
  generalize at_ % 2 = am at g3
  generalize at_ / 2 = ad at g4
  generalize ((10 : Int) ^ 18) = P18 at p18
  generalize ((10 : Int) ^ 29) = P29 at p29
  generalize ((10 : Int) ^ 20) = P20 at p20
  obtain ⟨L1, hL1⟩ : ∃ L1 : List D, L1 = [nD t u, .tuple [.int t, .int u, .int 1], .list [.int t, .int u], .tuple [.int t2, .int u2], .tuple [.int t, .int (-u)], .tuple [.int t, .int 0]] := ⟨_, rfl⟩
  obtain ⟨L2, hL2⟩ : ∃ L2 : List D, L2 = [.tuple [.bool true, .int u], .tuple [.int t, .bool true], .tuple [.int (P18 - am), .int 1], .tuple [.int (1 - P18), .int 1], .tuple [.int (-P18), .int 1]] := ⟨_, rfl⟩
  obtain ⟨L3, hL3⟩ : ∃ L3 : List D, L3 = [.tuple [.int (1 + ad), .int (60 + am)], .int t, .tuple [.str S1, .int u], .tuple [.none, .int 1], .tuple [], .tuple [.int t], .bool true] := ⟨_, rfl⟩
  obtain ⟨L4, hL4⟩ : ∃ L4 : List D, L4 = [.tuple [.int t, .str S2], .tuple [.int (t + P29), .int u], .tuple [.int t, .int (u + P20)]] := ⟨_, rfl⟩
  have a1 : gAdd (.list L1) (.list L2) = some (.list (L1 ++ L2)) := gAddL (by rw [hL1, hL2]; simp)
  have a2 : gAdd (.list (L1 ++ L2)) (.list L3) = some (.list (L1 ++ L2 ++ L3)) := gAddL (by rw [hL1, hL2, hL3]; simp)
  have a3 : gAdd (.list (L1 ++ L2 ++ L3)) (.list L4) = some (.list (L1 ++ L2 ++ L3 ++ L4)) := gAddL (by rw [hL1, hL2, hL3, hL4]; simp)
  obtain ⟨d, hd, gd⟩ := gIx_mem (l := L1 ++ L2 ++ L3 ++ L4) (v := way % 21) (Int.emod_nonneg _ (by decide)) (by
    have := Int.emod_lt_of_pos way (show (0 : Int) < 21 by decide)
    rw [hL1, hL2, hL3, hL4]; simp; omega)
  have ok : OKD d := by
    refine OKD_no fun s e => ?_
    subst e
    rw [hL1, hL2, hL3, hL4] at hd
    simp at hd
  refine ⟨d, ok, ?_⟩
  generalize way % 21 = w21 at g7 gd
  have st1 : dAsg (gTupD 2 (gsCons (putIm 3) (gsCons (putIm 4) gsNil))) (dVar 0) [cD (nD t u), cI way, cI at_, none, none, none] = .ok .nx [cD (nD t u), cI way, cI at_, cI t, cI u, none] := by simp [gTupD, gsCons, gsNil]
  simp only [m_law_odd_number, b_law_odd_number, dDef_eq]
  refine (congrArg _ (seq_nx st1 (seq_nx (ρ1 := [cD (nD t u), cI way, cI at_, cI t, cI u, cD (.list L1)]) (by rw [hL1]; simp [g1, g2])
    (seq_nx (ρ1 := [cD (nD t u), cI way, cI at_, cI t, cI u, cD (.list (L1 ++ L2))]) ?_
    (seq_nx (ρ1 := [cD (nD t u), cI way, cI at_, cI t, cI u, cD (.list (L1 ++ L2 ++ L3))]) ?_
    (seq_nx (ρ1 := [cD (nD t u), cI way, cI at_, cI t, cI u, cD (.list (L1 ++ L2 ++ L3 ++ L4))]) ?_ rfl)))))).trans ?_
  · clear hL1
    subst hL2
    simp [p18, g3, a1]
  · clear hL1 hL2 a1 gd hd
    subst hL3
    generalize L1 ++ L2 = L12 at a2 ⊢
    simp [g3, g4, g5, a2]
  · clear hL1 hL2 hL3 a1 a2 gd hd
    subst hL4
    generalize L1 ++ L2 ++ L3 = L123 at a3 ⊢
    simp [p29, p20, g6, a3]
  · generalize L1 ++ L2 ++ L3 ++ L4 = LL at gd ⊢
    simp [g7, gd, -gIx_lst]
theorem intL_len {t : Int} (h : t.natAbs < 2 ^ 70) : (intL t).length ≤ 1000 := by
  have := TL.numL_len (n := t.natAbs) (k := 30) (by decide) (by have : (2 : Nat) ^ 70 < 10 ^ 30 := by decide
                                                                omega)
  unfold intL
  split
  · simp; omega
  · omega
theorem odd_day_ex (z way at_ : Int) (hz : z.natAbs < 2 ^ 40) : ∃ d : D, OKD d ∧ m_law_odd_day [cI z, cI way, cI at_] = .ok (.im d) [cI z, cI way, cI at_] := by
  have g3 : gMod (.int at_) (.int 2) = some (.int (at_ % 2)) := gMod_pos (by decide)
  have g5 : gStr [.int z] = some (.str (SX.S (intL z))) := gStr_int (k := 70) (by omega) (by decide) (by decide)
  have g7 : gMod (.int way) (.int 10) = some (.int (way % 10)) := gMod_pos (by decide)
  have hlen := intL_len (t := z) (by omega)
  obtain ⟨L1, hL1⟩ : ∃ L1 : List D, L1 = [.int z, .int (364876 + at_ % 2), .int (3286816 + at_ % 2), .int (-z), .int 0, .bool true, .str (SX.S (intL z)), .tuple [.int z, .int 1], .list [.int z], .int (z + 3000000)] := ⟨_, rfl⟩
  obtain ⟨d, hd, gd⟩ := gIx_mem (l := L1) (v := way % 10) (Int.emod_nonneg _ (by decide)) (by
    have := Int.emod_lt_of_pos way (show (0 : Int) < 10 by decide)
    rw [hL1]; simp; omega)
  have ok : OKD d := fun s e => by
    subst e
    rw [hL1] at hd
    simp at hd
    subst hd
    rw [SX.S_len]; omega
  refine ⟨d, ok, ?_⟩
  generalize way % 10 = w21 at g7 gd
  simp only [m_law_odd_day, b_law_odd_day, dDef_eq]
  refine (congrArg _ (seq_nx (ρ1 := [cI z, cI way, cI at_, cD (.list L1)]) (by rw [hL1]; simp [g3, g5]) rfl)).trans ?_
  simp [g7, gd, -gIx_lst]
def sOdd : List Nat := [65, 66, 90, 48, 49, 57, 32, 45, 95, 46, 44, 59, 58, 47, 64, 91, 96, 123, 124, 125, 126, 10, 34, 39, 33, 35, 36, 38, 40, 41, 42, 43, 60, 61, 62, 63, 94]
theorem strOdd : ("ABZ019 -_.,;:/\u0040[`{|}~\n\"'!#$&()*+<=>?^" : Str) = SX.S sOdd := by rfl
theorem strA : ("a" : Str) = SX.S [97] := by rfl
theorem odd_word_ex (w : List Nat) (hw : isW w) (way at_ : Int) (h0 : 0 ≤ at_) (h1 : at_ < 1000000) : ∃ d : D, OKD d ∧ m_law_odd_word [cS w, cI way, cI at_] = .ok (.im d) [cS w, cI way, cI at_] := by
  have hwl := hw.2.1
  have gl : gLen1 (.str (SX.S sOdd)) = some (.int 37) := gLen_S (a := sOdd) (by decide)
  have glw := gLen_S (a := w) (by omega)
  have m1 : gMod (.int at_) (.int 37) = some (.int (at_ % 37)) := gMod_pos (by decide)
  have m2 : gFdiv (.int at_) (.int 37) = some (.int (at_ / 37)) := gFdiv_pos (n := 30) (by decide) (by decide) (by decide) (by decide)
  have m3 : gMod (.int (at_ / 37)) (.int ((w.length : Int) + 1)) = some (.int (at_ / 37 % ((w.length : Int) + 1))) := gMod_pos (by omega)
  have m4 : gMod (.int way) (.int 9) = some (.int (way % 9)) := gMod_pos (by decide)
  obtain ⟨k, hk, k1⟩ : ∃ k : Nat, at_ / 37 % ((w.length : Int) + 1) = k ∧ k ≤ w.length := by
    have a := Int.emod_nonneg (at_ / 37) (show (w.length : Int) + 1 ≠ 0 by omega)
    have b := Int.emod_lt_of_pos (at_ / 37) (show (0 : Int) < (w.length : Int) + 1 by omega)
    exact ⟨(at_ / 37 % ((w.length : Int) + 1)).toNat, by omega, by omega⟩
  rw [hk] at m3
  obtain ⟨s, gs⟩ : ∃ s : Nat, gIx (.str (SX.S sOdd)) (.int (at_ % 37)) = some (.str (SX.S [s])) := by
    obtain ⟨n, hn⟩ : ∃ n : Nat, at_ % 37 = n := ⟨(at_ % 37).toNat, by omega⟩
    rw [hn]
    exact ⟨_, gIx_S (a := sOdd) (by decide) (k := n) (by show n < 37; omega)⟩
  have t1 := gSl_to (a := w) (by omega) k
  have t2 := gSl_from (a := w) (by omega) k
  have t3 := gSl_from (a := w) (by omega) (k + 1)
  have t3' : gSl (.str (SX.S w)) (some ((k : Int) + 1)) none = some (.str (SX.S (w.drop (k + 1)))) := t3
  have hk8 : (w.take k).length ≤ 8 := by simp; omega
  have hd8 : (w.drop k).length ≤ 8 := by simp; omega
  have he8 : (w.drop (k + 1)).length ≤ 8 := by simp; omega
  generalize w.take k = A at t1 hk8
  generalize w.drop k = B at t2 hd8
  generalize w.drop (k + 1) = C at t3' hk8 he8
  have c1 := gAdd_S (a := A) (b := [s]) (by simp; omega)
  have c2 := gAdd_S (a := A ++ [s]) (b := B) (by simp; omega)
  have c3 := gAdd_S (a := A) (b := [97]) (by simp; omega)
  have c4 := gAdd_S (a := A ++ [97]) (b := B) (by simp; omega)
  have c5 := gAdd_S (a := A ++ [s]) (b := C) (by simp; omega)
  have c6 := gAdd_S (a := w) (b := w) (by omega)
  obtain ⟨L1, hL1⟩ : ∃ L1 : List D, L1 = [.str (SX.S w), .str (SX.S (A ++ [s] ++ B)), .str (SX.S (A ++ [97] ++ B)), .str (SX.S (w ++ w)), .str "", .list [.str (SX.S w)], .tuple [.str (SX.S w)], .str (SX.S (A ++ [s] ++ C))] := ⟨_, rfl⟩
  have hs : L1.length < sizeLine := by have := PySem.sizeLine_eq; rw [hL1]; simp; omega
  obtain ⟨d, hd, gd⟩ := gIx_mem (l := L1 ++ [.dict []]) (v := way % 9) (Int.emod_nonneg _ (by decide)) (by
    have := Int.emod_lt_of_pos way (show (0 : Int) < 9 by decide)
    rw [hL1]; simp; omega)
  have ok : OKD d := fun x e => by
    subst e
    rw [hL1, str0] at hd
    simp at hd
    rcases hd with rfl | rfl | rfl | rfl | rfl | rfl <;> (rw [SX.S_len]; first | omega | (simp only [List.length_append, List.length_cons, List.length_nil]; omega))
  refine ⟨d, ok, ?_⟩
  clear t3
  generalize way % 9 = w9 at m4 gd
  generalize hv : at_ % 37 = v37 at m1 gs
  generalize at_ / 37 = d37 at m2 m3
  generalize hO : SX.S sOdd = OD at gl gs
  have hlit : ("ABZ019 -_.,;:/\u0040[`{|}~\n\"'!#$&()*+<=>?^" : Str) = OD := by rw [strOdd, hO]
  simp only [m_law_odd_word, b_law_odd_word, dDef_eq]
  rw [hlit]
  have base : ∀ x3 x4 x5 x6 x7 x8 : Option Dn.L, [cS w, cI way, cI at_, x3, x4, x5, x6, x7, x8] = [cS w, cI way, cI at_, x3, x4, x5, x6, x7, x8] := fun _ _ _ _ _ _ => rfl
  refine (congrArg _ (seq_nx (ρ1 := [cS w, cI way, cI at_, cD (.str OD), none, none, none, none, none]) (by simp)
    (seq_nx (ρ1 := [cS w, cI way, cI at_, cD (.str OD), cS [s], none, none, none, none]) (by simp [gl, m1, gs])
    (seq_nx (ρ1 := [cS w, cI way, cI at_, cD (.str OD), cS [s], cI k, none, none, none]) (by simp [gl, m2, glw, m3])
    (seq_nx (ρ1 := [cS w, cI way, cI at_, cD (.str OD), cS [s], cI k, cS (A ++ [s] ++ B), none, none]) ?_
    (seq_nx (ρ1 := [cS w, cI way, cI at_, cD (.str OD), cS [s], cI k, cS (A ++ [s] ++ B), cS (A ++ [97] ++ B), none]) ?_
    (seq_nx (ρ1 := [cS w, cI way, cI at_, cD (.str OD), cS [s], cI k, cS (A ++ [s] ++ B), cS (A ++ [97] ++ B), some (.ow L1)]) ?_
    (seq_nx (ρ1 := [cS w, cI way, cI at_, cD (.str OD), cS [s], cI k, cS (A ++ [s] ++ B), cS (A ++ [97] ++ B), some (.ow (L1 ++ [.dict []]))]) (by simp [hs]) rfl)))))))).trans ?_
  · generalize A ++ [s] ++ B = Z at c2 ⊢
    generalize A ++ [s] = Y at c1 c2
    simp [t1, t2, c1, c2]
  · rw [strA]
    generalize A ++ [97] ++ B = Z at c4 ⊢
    generalize A ++ [97] = Y at c3 c4
    simp [t1, t2, c3, c4]
  · rw [hL1]
    generalize A ++ [s] ++ B = Z
    generalize A ++ [97] ++ B = Z'
    generalize A ++ [s] ++ C = Z2 at c5 ⊢
    generalize A ++ [s] = Y at c1 c5
    simp [t1, t3', c1, c5, c6]
  · generalize L1 ++ [PyData.dict []] = LL at gd ⊢
    simp [m4, gd, -gIx_lst]
end Lw
namespace Lw
open PySem PySem.Spec PyProof.Rows L2 Dn
theorem before_num {a b c d : Int} (ha : a.natAbs < 2 ^ 70) (hb : b.natAbs < 2 ^ 70) (hc : c.natAbs < 2 ^ 70) (hd : d.natAbs < 2 ^ 70) : m_comes_before [cD (nD a b), cD (nD c d)] = .ok (.im (.bool (decide (a * d < c * b)))) [cD (nD a b), cD (nD c d)] ∧ m_law_before [cD Kd.num.e, cD (nD a b), cD (nD c d)] = .ok (.im (.bool (decide (a * d < c * b)))) [cD Kd.num.e, cD (nD a b), cD (nD c d)] := by
  have u := under_eq (a := a) (b := b) (c := c) (d := d) (by omega) (by omega) (by omega) (by omega)
  have g1 : gMul (.int a) (.int d) = some (.int (a * d)) := gmul (by omega) (by omega)
  have g2 : gMul (.int c) (.int b) = some (.int (c * b)) := gmul (by omega) (by omega)
  have e := kn .num
  constructor
  · simp only [m_comes_before, b_comes_before, dDef_eq, dSeq_eq]
    simp [isTy, u]
  · generalize Kd.num.e = K at *
    simp only [m_law_before, b_law_before, dDef_eq, dSeq_eq]
    simp [e, g1, g2]
def GoodK (k : Kd) (d : D) : Prop := match k with
  | .num => ∃ t u : Int, t.natAbs < 2 ^ 70 ∧ u.natAbs < 2 ^ 70 ∧ d = nD t u
  | .word => ∃ s, d = .str s
  | .day => ∃ z, d = .int z
theorem before_eq (k : Kd) {x y : D} (hx : GoodK k x) (hy : GoodK k y) : ∃ b : Bool, m_comes_before [cD x, cD y] = .ok (.im (.bool b)) [cD x, cD y] ∧ m_law_before [cD k.e, cD x, cD y] = .ok (.im (.bool b)) [cD k.e, cD x, cD y] := by
  cases k with
  | num =>
    obtain ⟨t, u, h1, h2, rfl⟩ := hx
    obtain ⟨t', u', h3, h4, rfl⟩ := hy
    exact ⟨_, before_num h1 h2 h3 h4⟩
  | word =>
    obtain ⟨s, rfl⟩ := hx
    obtain ⟨z, rfl⟩ := hy
    have g : gLt (.str s) (.str z) = some (decide (s.cps.toList < z.cps.toList)) := rfl
    have e := kn .word
    refine ⟨decide (s.cps.toList < z.cps.toList), ?_, ?_⟩
    · simp only [m_comes_before, b_comes_before, dDef_eq, dSeq_eq]
      simp [isTy, g]
    · generalize Kd.word.e = K at *
      simp only [m_law_before, b_law_before, dDef_eq, dSeq_eq]
      simp [e, g]
  | day =>
    obtain ⟨s, rfl⟩ := hx
    obtain ⟨z, rfl⟩ := hy
    have e := kn .day
    refine ⟨decide (s < z), ?_, ?_⟩
    · simp only [m_comes_before, b_comes_before, dDef_eq, dSeq_eq]
      simp [isTy]
    · generalize Kd.day.e = K at *
      simp only [m_law_before, b_law_before, dDef_eq, dSeq_eq]
      simp [e]
/-! columns -/
abbrev colD (p : List Nat × D) : D := .tuple [.str (SX.S p.1), p.2]
theorem col_loop (P : List (List Nat × D)) (ok : ∀ p ∈ P, okS p.1) (n : List Nat) (on : okS n) : ∀ (m k : Nat) (x2 : Option Dn.L), k + m = P.length → free (some x2) = true →
    ((∀ i (h : i < P.length), k ≤ i → P[i].1 ≠ n) ∧ ∃ ρ', dForL (putIm 2) b_column_at_l1 ((List.range' k m).map fun (i : Nat) => PyData.int (0 + (i : Int))) [cD (.list (P.map colD)), cS n, x2] = .ok .nx ρ') ∨
    ∃ j, ∃ h : j < P.length, P[j].1 = n ∧ (∀ i (h : i < P.length), k ≤ i → i < j → P[i].1 ≠ n) ∧ ∃ ρ', dForL (putIm 2) b_column_at_l1 ((List.range' k m).map fun (i : Nat) => PyData.int (0 + (i : Int))) [cD (.list (P.map colD)), cS n, x2] = .ok (.rt (.int (j : Int))) ρ'
  | 0, k, x2, hl, _ => .inl ⟨fun i h hk => by omega, _, rfl⟩
  | m + 1, k, x2, hl, hf => by
    have hk : k < P.length := by omega
    have ix : gIx (.list (P.map colD)) (.int (k : Int)) = some (colD P[k]) := by rw [gIx_lst]; exact atI_of (by simp [hk])
    have e := gEq_S (ok _ (List.getElem_mem hk)) on
    have i0 : gIx (colD P[k]) (.int 0) = some (.str (SX.S P[k].1)) := by simp
    have step : dForL (putIm 2) b_column_at_l1 ((List.range' k (m + 1)).map fun (i : Nat) => PyData.int (0 + (i : Int))) [cD (.list (P.map colD)), cS n, x2] = (b_column_at_l1 [cD (.list (P.map colD)), cS n, cI k]).bind fun fl ρ2 => match fl with
        | .nx => dForL (putIm 2) b_column_at_l1 ((List.range' (k + 1) m).map fun (i : Nat) => PyData.int (0 + (i : Int))) ρ2
        | .ct => dForL (putIm 2) b_column_at_l1 ((List.range' (k + 1) m).map fun (i : Nat) => PyData.int (0 + (i : Int))) ρ2
        | .bk => .ok .nx ρ2
        | .rt d => .ok (.rt d) ρ2
        | .rl ds => .ok (.rl ds) ρ2 := by
      rw [List.range'_succ, List.map_cons, Int.zero_add]
      have : putIm 2 (.int (k : Int)) [cD (.list (P.map colD)), cS n, x2] = .ok () [cD (.list (P.map colD)), cS n, cI k] := by simp [hf]
      show (putIm 2 (.int (k : Int)) [cD (.list (P.map colD)), cS n, x2]).bind _ = _
      rw [this]
      rfl
    rw [step]
    by_cases h : P[k].1 = n
    · refine .inr ⟨k, hk, h, fun i h1 h2 h3 => by omega, [cD (.list (P.map colD)), cS n, cI k], ?_⟩
      have eb : b_column_at_l1 [cD (.list (P.map colD)), cS n, cI k] = .ok (.rt (.int (k : Int))) [cD (.list (P.map colD)), cS n, cI k] := by
        rw [decide_eq_true h] at e
        generalize colD P[k] = cc at ix i0
        generalize P.map colD = PD at ix ⊢
        simp [b_column_at_l1, ix, i0, e, -gIx_lst, -gIx_tup]
      rw [eb]; rfl
    · have eb : b_column_at_l1 [cD (.list (P.map colD)), cS n, cI k] = .ok .nx [cD (.list (P.map colD)), cS n, cI k] := by
        rw [decide_eq_false h] at e
        generalize colD P[k] = cc at ix i0
        generalize P.map colD = PD at ix ⊢
        simp [b_column_at_l1, ix, i0, e, -gIx_lst, -gIx_tup]
      rw [eb]
      rcases col_loop P ok n on m (k + 1) (cI k) (by omega) rfl with ⟨h1, ρ', e'⟩ | ⟨j, hj, h1, h2, ρ', e'⟩
      · refine .inl ⟨fun i hi hki => ?_, ρ', e'⟩
        by_cases z : i = k
        · subst z; exact h
        · exact h1 i hi (by omega)
      · refine .inr ⟨j, hj, h1, fun i hi hki hij => ?_, ρ', e'⟩
        by_cases z : i = k
        · subst z; exact h
        · exact h2 i hi (by omega) hij
theorem column_at_eq (P : List (List Nat × D)) (ok : ∀ p ∈ P, okS p.1) (hl : P.length ≤ 1000) (n : List Nat) (on : okS n) :
    (n ∉ P.map (·.1) ∧ m_column_at [cD (.list (P.map colD)), cS n] = .ok (.im .none) [cD (.list (P.map colD)), cS n]) ∨
    ∃ j : Nat, n ∈ P.map (·.1) ∧ gIndex (wD (P.map (·.1))) (.str (SX.S n)) = some (.int (j : Int)) ∧ m_column_at [cD (.list (P.map colD)), cS n] = .ok (.im (.int (j : Int))) [cD (.list (P.map colD)), cS n] := by
  have C := col_loop P ok n on P.length 0 none (by omega) rfl
  rw [← List.range_eq_range'] at C
  have gl : gLen1 (.list (P.map colD)) = some (.int P.length) := by simp [gLen1]
  have I : Dn.inR (P.length : Int) := inR_of (by omega) (by omega)
  rcases C with ⟨h, ρ', e⟩ | ⟨j, hj, h1, h2, ρ', e⟩
  · refine .inl ⟨fun z => ?_, ?_⟩
    · obtain ⟨p, hp, e2⟩ := List.mem_map.mp z
      obtain ⟨i, hi, rfl⟩ := List.getElem_of_mem hp
      exact h i hi (Nat.zero_le _) e2
    · have e' : dForL (putIm 2) b_column_at_l1 (rngD 0 P.length) [cD (.list (P.map colD)), cS n, none] = .ok .nx ρ' := e
      generalize P.map colD = PD at gl e' ⊢
      simp only [m_column_at, b_column_at, dDef_eq, dSeq_eq]
      simp [gl, I, e']
      exact backE_id (by simp)
  · refine .inr ⟨j, List.mem_map.mpr ⟨P[j], List.getElem_mem hj, h1⟩, ?_, ?_⟩
    · have hs : shp (.list (wD (P.map (·.1)))) = true := shp_words fun a ha => by
        obtain ⟨p, hp, rfl⟩ := List.mem_map.mp ha
        exact ok p hp
      have : gIndex (wD (P.map (·.1))) (.str (SX.S n)) = ((wD (P.map (·.1))).findIdx? fun z => PyData.eqv z (.str (SX.S n))).map fun (j : Nat) => PyData.int j := if_pos ⟨hs, shpS on⟩
      rw [this]
      have f : ((wD (P.map (·.1))).findIdx? fun z => PyData.eqv z (.str (SX.S n))) = some j := by
        rw [List.findIdx?_eq_some_iff_getElem]
        refine ⟨by simpa [wD] using hj, ?_, fun i hi => ?_⟩
        · simp [wD, eqv_ss, h1]
        · have := h2 i (by omega) (Nat.zero_le _) hi
          simp [wD, eqv_ss, S_iff, this]
      rw [f]; rfl
    · have e' : dForL (putIm 2) b_column_at_l1 (rngD 0 P.length) [cD (.list (P.map colD)), cS n, none] = .ok (.rt (.int (j : Int))) ρ' := e
      generalize P.map colD = PD at gl e' ⊢
      simp only [m_column_at, b_column_at, dDef_eq, dSeq_eq]
      simp [gl, I, e']
      exact backE_id (by simp)
end Lw
namespace Lw
open PySem PySem.Spec PyProof.Rows L2 Dn
theorem forL_inv {g : D → En → R Unit} {b : En → R Fl} {I : En → Prop} : ∀ (ds : List D), (∀ d ∈ ds, ∀ ρ, I ρ → ∃ ρ1 ρ2, g d ρ = .ok () ρ1 ∧ b ρ1 = .ok .nx ρ2 ∧ I ρ2) → ∀ ρ, I ρ → ∃ ρ', dForL g b ds ρ = .ok .nx ρ' ∧ I ρ'
  | [], _, ρ, h => ⟨ρ, rfl, h⟩
  | d :: ds, h, ρ, hi => by
    obtain ⟨ρ1, ρ2, e1, e2, i2⟩ := h d List.mem_cons_self ρ hi
    obtain ⟨ρ', e, i'⟩ := forL_inv ds (fun z hz => h z (List.mem_cons_of_mem _ hz)) ρ2 i2
    refine ⟨ρ', ?_, i'⟩
    show (g d ρ).bind _ = _
    rw [e1]
    show (b ρ1).bind _ = _
    rw [e2]
    exact e
structure ColOK (P : List (List Nat × D)) : Prop where
  ok : ∀ p ∈ P, okS p.1
  kd : ∀ p ∈ P, ∃ k : Kd, p.2 = k.e
  len : P.length ≤ 12
theorem kinds3 (i : Int) : ∃ k : Kd, gIx (.list [.str "number", .str "word", .str "day"]) (.int (i % 3)) = some k.e := by
  have : i % 3 = 0 ∨ i % 3 = 1 ∨ i % 3 = 2 := by omega
  rcases this with h | h | h <;> rw [h]
  · exact ⟨.num, by simp [Kd.e]⟩
  · exact ⟨.word, by simp [Kd.e]⟩
  · exact ⟨.day, by simp [Kd.e]⟩
theorem cols_turn1 (ws : List (List Nat)) (hw : ∀ a ∈ ws, okS a) (P : List (List Nat × D)) (hP : ColOK P) (k : Nat) (hk : k < ws.length) (hk2 : k < 1000) (x4 x5 x6 : Option Dn.L) :
    ∃ P', ColOK P' ∧ b_law_columns_l1 [cD (.list (wD ws)), some (.ow (wD (P.map (·.1)))), some (.ow (P.map colD)), cI k, x4, x5, x6] = .ok .nx [cD (.list (wD ws)), some (.ow (wD (P'.map (·.1)))), some (.ow (P'.map colD)), cI k, x4, x5, x6] := by
  have oa := hw _ (List.getElem_mem hk)
  have ix : gIx (.list (wD ws)) (.int (k : Int)) = some (.str (SX.S ws[k])) := by rw [gIx_lst]; exact atI_of (by simp [wD, hk])
  have ni := gNotIn_words (ws := P.map (·.1)) (fun a ha => by obtain ⟨p, hp, rfl⟩ := List.mem_map.mp ha; exact hP.ok p hp) oa
  have gl : gLen1 (.list (wD (P.map (·.1)))) = some (.int (P.length : Int)) := by simp [gLen1]
  have md : gMod (.int (k : Int)) (.int 3) = some (.int ((k : Int) % 3)) := gMod_pos (by decide)
  obtain ⟨kd, hkd⟩ := kinds3 (k : Int)
  have z1 : (wD (P.map (·.1))).length < sizeLine := by have := PySem.sizeLine_eq; have := hP.len; simp; omega
  have z2 : (P.map colD).length < sizeLine := by have := PySem.sizeLine_eq; have := hP.len; simp; omega
  generalize ws[k] = a at oa ix ni
  by_cases hin : a ∈ P.map (·.1)
  · refine ⟨P, hP, ?_⟩
    rw [decide_eq_true hin] at ni
    generalize wD ws = W at ix ⊢
    generalize wD (P.map (·.1)) = N at ni ⊢
    simp [b_law_columns_l1, ix, ni, -gIx_lst]
  · rw [decide_eq_false hin] at ni
    by_cases h12 : P.length < 12
    · refine ⟨P ++ [(a, kd.e)], ⟨fun p hp => ?_, fun p hp => ?_, by simp; omega⟩, ?_⟩
      · rcases List.mem_append.mp hp with h | h
        · exact hP.ok p h
        · simp at h; subst h; exact oa
      · rcases List.mem_append.mp hp with h | h
        · exact hP.kd p h
        · simp at h; subst h; exact ⟨kd, rfl⟩
      · have e1 : wD ((P ++ [(a, kd.e)]).map (·.1)) = wD (P.map (·.1)) ++ [.str (SX.S a)] := by simp [wD]
        have e2 : (P ++ [(a, kd.e)]).map colD = P.map colD ++ [.tuple [.str (SX.S a), kd.e]] := by simp
        rw [e1, e2]
        have h12' : (P.length : Int) < 12 := by omega
        generalize wD ws = W at ix ⊢
        generalize wD (P.map (·.1)) = N at ni gl z1 ⊢
        generalize P.map colD = PD at z2 ⊢
        generalize kd.e = KE at hkd ⊢
        generalize (k : Int) % 3 = k3 at md hkd
        simp [b_law_columns_l1, ix, ni, gl, h12', z1, z2, md, hkd, -gIx_lst]
    · refine ⟨P, hP, ?_⟩
      have h12' : ¬ (P.length : Int) < 12 := by omega
      generalize wD ws = W at ix ⊢
      generalize wD (P.map (·.1)) = N at ni gl ⊢
      simp [b_law_columns_l1, ix, ni, gl, h12', -gIx_lst]
theorem cols_turn2 (W KP : D) (P : List (List Nat × D)) (hP : ColOK P) (a : List Nat) (oa : okS a) (x1 x3 x6 : Option Dn.L) (h1 : x1 = some (.ow (wD (P.map (·.1)))) ∨ x1 = cD (.list (wD (P.map (·.1))))) (f6 : free (some x6) = true) :
    ∃ y1 y6 : Option Dn.L, (y1 = some (.ow (wD (P.map (·.1)))) ∨ y1 = cD (.list (wD (P.map (·.1))))) ∧ free (some y6) = true ∧
    b_law_columns_l2 [cD W, x1, cD (.list (P.map colD)), x3, cD KP, cS a, x6] = .ok .nx [cD W, y1, cD (.list (P.map colD)), x3, cD KP, cS a, y6] := by
  have ni := gNotIn_words (ws := P.map (·.1)) (fun a ha => by obtain ⟨p, hp, rfl⟩ := List.mem_map.mp ha; exact hP.ok p hp) oa
  rcases column_at_eq P hP.ok (by have := hP.len; omega) a oa with ⟨hn, C⟩ | ⟨j, hn, G, C⟩
  · rw [decide_eq_false hn] at ni
    refine ⟨x1, cD .none, h1, rfl, ?_⟩
    generalize wD (P.map (·.1)) = N at ni h1
    generalize P.map colD = PD at C ⊢
    unfold b_law_columns_l2
    refine seq_nx (ρ1 := [cD W, x1, cD (.list PD), x3, cD KP, cS a, cD .none]) (by simp [C, f6]) ?_
    rcases h1 with rfl | rfl <;> simp [ni]
  · rw [decide_eq_true hn] at ni
    have wj := law_whole_eq (.int (j : Int))
    refine ⟨cD (.list (wD (P.map (·.1)))), cI j, .inr rfl, rfl, ?_⟩
    generalize wD (P.map (·.1)) = N at ni h1 G ⊢
    generalize P.map colD = PD at C ⊢
    unfold b_law_columns_l2
    refine seq_nx (ρ1 := [cD W, x1, cD (.list PD), x3, cD KP, cS a, cI j]) (by simp [C, f6]) ?_
    rcases h1 with rfl | rfl <;> simp [ni, wj, wholeD, G, frz]
theorem shp_cols (P : List (List Nat × D)) (hP : ColOK P) : shp (.list (P.map colD)) = true := by
  have key : ∀ P : List (List Nat × D), (∀ p ∈ P, okS p.1) → (∀ p ∈ P, ∃ k : Kd, p.2 = k.e) → PyData.canLayAll0 (P.map colD) = true ∧ PyData.depthAll (P.map colD) ≤ 3 := by
    intro P
    induction P with
    | nil => exact fun _ _ => ⟨rfl, Nat.zero_le _⟩
    | cons p P ih =>
      intro h1 h2
      obtain ⟨i1, i2⟩ := ih (fun q hq => h1 q (List.mem_cons_of_mem _ hq)) (fun q hq => h2 q (List.mem_cons_of_mem _ hq))
      have c1 := SeqAt.canLay_of_shaped (shpS (h1 p List.mem_cons_self))
      obtain ⟨k, hk⟩ := h2 p List.mem_cons_self
      have c2 : PyData.canLay0 p.2 = true ∧ PyData.depth p.2 ≤ 1 := by
        rw [hk]
        cases k <;> simp only [Kd.e, strNumber, strWord, strDay]
        · exact ⟨SeqAt.canLay_of_shaped (shpS (a := sNumber) (by unfold okS; decide)), by simp [PyData.depth]⟩
        · exact ⟨SeqAt.canLay_of_shaped (shpS (a := sWord) (by unfold okS; decide)), by simp [PyData.depth]⟩
        · exact ⟨SeqAt.canLay_of_shaped (shpS (a := sDay) (by unfold okS; decide)), by simp [PyData.depth]⟩
      refine ⟨?_, ?_⟩
      · show (PyData.canLay0 (colD p) && PyData.canLayAll0 (P.map colD)) = true
        rw [i1]
        simp [colD, PyData.canLay0, PyData.canLayAll0, c1, c2.1]
        simpa [PyData.canLay0] using c1
      · show max (PyData.depth (colD p)) (PyData.depthAll (P.map colD)) ≤ 3
        have : PyData.depth (colD p) ≤ 3 := by
          simp only [colD, PyData.depth, PyData.depthAll]
          omega
        omega
  obtain ⟨h1, h2⟩ := key P hP.ok hP.kd
  unfold shp SeqAt.shaped
  simp only [PyData.canLay0, PyData.depth, h1]
  simp
  omega
end Lw
namespace Lw
open PySem PySem.Spec PyProof.Rows L2 Dn
theorem strZ : ("z" : Str) = SX.S [122] := by rfl
theorem strQ : ("q" : Str) = SX.S [113] := by rfl
theorem law_columns_eq (ws : List (List Nat)) (hw : ∀ a ∈ ws, isW a) (h0 : 0 < ws.length) (hl : ws.length ≤ 900) : m_law_columns [cD (.list (wD ws))] = .ok (.im (.bool true)) [cD (.list (wD ws))] := by
  have ok : ∀ a ∈ ws, okS a := fun a ha => (hw a ha).ok
  obtain ⟨ρ', L1, P, x3, hP, f3, rfl⟩ := forL_rng (g := putIm 3) (b := b_law_columns_l1) (lo := 0) (n := ws.length)
    (P := fun i ρ => ∃ (P : List (List Nat × D)) (x3 : Option Dn.L), ColOK P ∧ free (some x3) = true ∧ ρ = [cD (.list (wD ws)), some (.ow (wD (P.map (·.1)))), some (.ow (P.map colD)), x3, none, none, none])
    (fun i hi ρ ⟨P, x3, hP, f3, e⟩ => by
      subst e
      obtain ⟨P', hP', e⟩ := cols_turn1 ws ok P hP i hi (by omega) none none none
      exact ⟨[cD (.list (wD ws)), some (.ow (wD (P.map (·.1)))), some (.ow (P.map colD)), cI (0 + (i : Int)), none, none, none], _, by simp [f3], by rw [Int.zero_add]; exact e, P', cI i, hP', rfl, rfl⟩)
    [cD (.list (wD ws)), some (.ow []), some (.ow []), none, none, none, none] ⟨[], none, ⟨fun p h => by simp at h, fun p h => by simp at h, by simp⟩, rfl, rfl⟩
  have gl : gLen1 (.list (wD ws)) = some (.int ws.length) := by simp [gLen1]
  have I : Dn.inR (ws.length : Int) := inR_of (by omega) (by omega)
  obtain ⟨a0, ha0⟩ : ∃ a0, ws[0]? = some a0 := ⟨ws[0], List.getElem?_eq_getElem h0⟩
  have wa := hw a0 (List.mem_of_getElem? ha0)
  have ix0 : gIx (.list (wD ws)) (.int 0) = some (.str (SX.S a0)) := by rw [gIx_lst]; exact atI_of (i := 0) (by simp [wD, ha0])
  have c1 := gAdd_S (a := a0) (b := [122]) (by have := wa.2.1; simp; omega)
  obtain ⟨b1, ob1, hb1, s1⟩ := gSl_any (a := a0 ++ [122]) (by have := wa.2.1; simp; omega) (wa.ok.app (by unfold okS; decide)) (some (-8)) none
  obtain ⟨b2, ob2, hb2, s2⟩ := gSl_any (a := a0) (by have := wa.2.1; omega) wa.ok (some 1) none
  have c2 := gAdd_S (a := b2) (b := [113]) (by have := wa.2.1; simp; omega)
  have ob2' : okS (b2 ++ [113]) := ob2.app (by unfold okS; decide)
  have ca : gAdd (.list (wD ws)) (.list [.str (SX.S b1), .str (SX.S (b2 ++ [113]))]) = some (.list (wD (ws ++ [b1, b2 ++ [113]]))) := by
    rw [gAddL (by simp; omega)]; simp [wD]
  have okA : ∀ a ∈ ws ++ [b1, b2 ++ [113]], okS a := fun a ha => by
    rcases List.mem_append.mp ha with h | h
    · exact ok a h
    · simp at h; rcases h with rfl | rfl
      · exact ob1
      · exact ob2'
  obtain ⟨ρ2, L2, y1, y5, y6, h1, f5, f6, rfl⟩ := forL_inv (g := putIm 5) (b := b_law_columns_l2) (I := fun ρ => ∃ (x1 x5 x6 : Option Dn.L), (x1 = some (.ow (wD (P.map (·.1)))) ∨ x1 = cD (.list (wD (P.map (·.1))))) ∧ free (some x5) = true ∧ free (some x6) = true ∧ ρ = [cD (.list (wD ws)), x1, cD (.list (P.map colD)), x3, cD (.list (P.map colD)), x5, x6])
    (wD (ws ++ [b1, b2 ++ [113]])) (fun d hd ρ ⟨x1, x5, x6, h1, f5, f6, e⟩ => by
      subst e
      obtain ⟨a, ha, rfl⟩ := List.mem_map.mp hd
      obtain ⟨y1, y6, k1, k6, e⟩ := cols_turn2 (.list (wD ws)) (.list (P.map colD)) P hP a (okA a ha) x1 x3 x6 h1 f6
      exact ⟨[cD (.list (wD ws)), x1, cD (.list (P.map colD)), x3, cD (.list (P.map colD)), cS a, x6], _, by simp [f5], e, y1, cS a, y6, k1, rfl, k6, rfl⟩)
    [cD (.list (wD ws)), some (.ow (wD (P.map (·.1)))), cD (.list (P.map colD)), x3, cD (.list (P.map colD)), none, none] ⟨_, none, none, .inl rfl, rfl, rfl, rfl⟩
  have eqc := gEq_self (shp_cols P hP)
  clear h1 hw ok okA hP
  generalize wD (ws ++ [b1, b2 ++ [113]]) = WA at L2 ca
  generalize b2 ++ [113] = b3 at ca c2
  generalize a0 ++ [122] = a1 at c1 s1
  generalize wD ws = W at *
  generalize wD (P.map (·.1)) = N at *
  generalize P.map colD = PD at *
  simp only [m_law_columns, b_law_columns, dDef_eq]
  refine (congrArg _ (seq_nx (ρ1 := [cD (.list W), some (.ow []), none, none, none, none, none]) (by simp) (seq_nx (ρ1 := [cD (.list W), some (.ow []), some (.ow []), none, none, none, none]) (by simp)
    (seq_nx (ρ1 := [cD (.list W), some (.ow N), some (.ow PD), x3, none, none, none]) ?_
    (seq_nx (ρ1 := [cD (.list W), some (.ow N), cD (.list PD), x3, cD (.list PD), none, none]) (by simp [frz])
    (seq_nx (ρ1 := [cD (.list W), y1, cD (.list PD), x3, cD (.list PD), y5, y6]) ?_ rfl)))))).trans ?_
  · rw [dFor_eq]; simp [gl, I, L1]
  · rw [dFor_eq, strZ, strQ]
    simp [ix0, c1, s1, s2, c2, ca, L2, -gIx_lst]
  · simp [eqc]
end Lw
namespace Lw
open PySem PySem.Spec PyProof.Rows L2 Dn
abbrev K3 : List D := [.str "number", .str "word", .str "day"]
theorem gNe_bb (b : Bool) : gNe (.bool b) (.bool b) = some false := gNe_self rfl
theorem l1_turn (s k1 kn dr c dv wd gd od x10 x12 x13 x14 : Option Dn.L) (f10 : free (some x10) = true) (k : Kd) (th : D) (ok : OKD th) : b_law_l1 [s, k1, kn, dr, c, dv, wd, gd, od, cD th, x10, cD k.e, x12, x13, x14] = .ok .nx [s, k1, kn, dr, c, dv, wd, gd, od, cD th, cD (.bool (cellT k th)), cD k.e, x12, x13, x14] := by
  have e1 := is_cell_eq k th ok
  have e2 := law_told_eq k th ok
  have e3 := gNe_bb (cellT k th)
  generalize cellT k th = b at *
  generalize k.e = K at *
  simp [b_law_l1, e1, f10, isTy, e2, e3]
theorem l1_loop (s k1 kn dr c dv wd gd od x10 x11 x12 x13 x14 : Option Dn.L) (f10 : free (some x10) = true) (f11 : free (some x11) = true) (th : D) (ok : OKD th) : ∃ y10 y11 : Option Dn.L, free (some y10) = true ∧ free (some y11) = true ∧
    dForL (putIm 11) b_law_l1 K3 [s, k1, kn, dr, c, dv, wd, gd, od, cD th, x10, x11, x12, x13, x14] = .ok .nx [s, k1, kn, dr, c, dv, wd, gd, od, cD th, y10, y11, x12, x13, x14] := by
  have t1 := l1_turn s k1 kn dr c dv wd gd od x10 x12 x13 x14 f10 .num th ok
  have t2 := l1_turn s k1 kn dr c dv wd gd od (cD (.bool (cellT .num th))) x12 x13 x14 rfl .word th ok
  have t3 := l1_turn s k1 kn dr c dv wd gd od (cD (.bool (cellT .word th))) x12 x13 x14 rfl .day th ok
  refine ⟨cD (.bool (cellT .day th)), cD Kd.day.e, rfl, rfl, ?_⟩
  generalize cellT .num th = b1 at *
  generalize cellT .word th = b2 at *
  generalize cellT .day th = b3 at *
  simp only [Kd.e] at t1 t2 t3 ⊢
  simp [dForL, f11, t1, t2, t3]
theorem l2_turn (s kn dr c dv wd gd od x10 x11 x12 x13 x14 : Option Dn.L) (f10 : free (some x10) = true) (f11 : free (some x11) = true) (th : D) (ok : OKD th) : ∃ y10 y11 : Option Dn.L, free (some y10) = true ∧ free (some y11) = true ∧
    b_law_l2 [s, cD (.list K3), kn, dr, c, dv, wd, gd, od, cD th, x10, x11, x12, x13, x14] = .ok .nx [s, cD (.list K3), kn, dr, c, dv, wd, gd, od, cD th, y10, y11, x12, x13, x14] := by
  obtain ⟨y10, y11, g10, g11, L⟩ := l1_loop s (cD (.list K3)) kn dr c dv wd gd od (cD (.bool (wordD th))) x11 x12 x13 x14 rfl f11 th ok
  refine ⟨y10, y11, g10, g11, ?_⟩
  have e1 := is_word_eq th ok
  have e2 := law_told_eq .word th ok
  have e3 := gNe_bb (wordD th)
  have lit : Kd.word.e = .str "word" := rfl
  rw [lit] at e2
  unfold b_law_l2
  refine seq_nx (ρ1 := [s, cD (.list K3), kn, dr, c, dv, wd, gd, od, cD th, cD (.bool (wordD th)), x11, x12, x13, x14]) (by simp [e1, f10])
    (seq_nx (ρ1 := [s, cD (.list K3), kn, dr, c, dv, wd, gd, od, cD th, cD (.bool (wordD th)), x11, x12, x13, x14]) ?_ ?_)
  · by_cases h : th = .none
    · subst h
      have e3' : gNe (.bool (wordD .none)) (.bool false) = some false := gNe_bb false
      simp [isTy, e3']
    · have gi : gIsNot th .none = some true := by
        show (gIs th .none).map _ = _
        rw [isn h]; rfl
      have ct : cellT .word th = wordD th := nonD h .word
      rw [ct] at e2
      generalize wordD th = b at *
      simp [isTy, gi, e2, e3, -gIsNot_none]
  · rw [dFor_eq]
    generalize wordD th = b at *
    simp [L]
def sel (k : Kd) (x y z : D) : D := match k with
  | .num => x
  | .word => y
  | .day => z
theorem kind_at {q : Int} (h0 : 0 ≤ q) (h1 : q < 3) : ∃ k : Kd, gIx (.list K3) (.int q) = some k.e ∧ (∀ x y z : D, gIx (.list [x, y, z]) (.int q) = some (sel k x y z)) ∧ q = (match k with | .num => 0 | .word => 1 | .day => 2) := by
  have : q = 0 ∨ q = 1 ∨ q = 2 := by omega
  rcases this with rfl | rfl | rfl
  · exact ⟨.num, by simp [Kd.e], fun x y z => by simp [sel], rfl⟩
  · exact ⟨.word, by simp [Kd.e], fun x y z => by simp [sel], rfl⟩
  · exact ⟨.day, by simp [Kd.e], fun x y z => by simp [sel], rfl⟩
theorem l3_turn (s kn dr c wd gd od x9 x10 x11 x12 : Option Dn.L) (f10 : free (some x10) = true) (V : D) (q : Int) (hq : gIx V (.int 0) = some (.int q)) (k : Kd) (hk : gIx (.list K3) (.int q) = some k.e) (x y : D) (hx : GoodK k x) (hy : GoodK k y) : ∃ b : Bool,
    b_law_l3 [s, cD (.list K3), kn, dr, c, cD V, wd, gd, od, x9, x10, x11, x12, cD x, cD y] = .ok .nx [s, cD (.list K3), kn, dr, c, cD V, wd, gd, od, x9, cD (.bool b), x11, x12, cD x, cD y] := by
  obtain ⟨b, e1, e2⟩ := before_eq k hx hy
  have e3 := gNe_bb b
  refine ⟨b, ?_⟩
  generalize PyData.list K3 = KK at hk ⊢
  generalize k.e = K at *
  unfold b_law_l3
  refine seq_nx (ρ1 := [s, cD KK, kn, dr, c, cD V, wd, gd, od, x9, cD (.bool b), x11, x12, cD x, cD y]) (by simp [e1, f10]) ?_
  simp [isTy, hq, hk, e2, e3]
theorem l4_turn (s kn dr c wd od x9 x10 x11 x13 x14 : Option Dn.L) (f10 : free (some x10) = true) (f13 : free (some x13) = true) (f14 : free (some x14) = true) (V GD : D) (q : Int) (hq : gIx V (.int 0) = some (.int q)) (k : Kd) (hk : gIx (.list K3) (.int q) = some k.e) (g o : D) (hgd : gIx GD (.int q) = some g) (hx : GoodK k g) (hy : GoodK k o) : ∃ y10 y13 y14 : Option Dn.L, free (some y10) = true ∧ free (some y13) = true ∧ free (some y14) = true ∧
    b_law_l4 [s, cD (.list K3), kn, dr, c, cD V, wd, cD GD, od, x9, x10, x11, cD o, x13, x14] = .ok .nx [s, cD (.list K3), kn, dr, c, cD V, wd, cD GD, od, x9, y10, x11, cD o, y13, y14] := by
  obtain ⟨b1, t1⟩ := l3_turn s kn dr c wd (cD GD) od x9 x10 x11 (cD o) f10 V q hq k hk g o hx hy
  obtain ⟨b2, t2⟩ := l3_turn s kn dr c wd (cD GD) od x9 (cD (.bool b1)) x11 (cD o) rfl V q hq k hk o g hy hx
  refine ⟨cD (.bool b2), cD o, cD g, rfl, rfl, rfl, ?_⟩
  generalize PyData.list K3 = KK at *
  unfold b_law_l4
  rw [dFor_eq]
  simp [hq, hgd]
  simp [dForL, gTupD, gsCons, gsNil, f13, f14, t1, t2]
end Lw
namespace Lw
open PySem PySem.Spec PyProof.Rows L2 Dn
def KT (A B C : List D) : Tr := .ls [.ls (A.map .im), .ls (B.map .im), .ls (C.map .im)]
abbrev PP : En → Option (List Nat) := pIx 2 pVar (qOp gIx (qVar 5) (qC (.int 0)))
theorem itT_at {l : List D} {j : Nat} (h : j < l.length) : itT (some (.ls (l.map .im))) (some (.int (j : Int))) = some l[j] := by
  unfold itT
  have : L2.atI (l.map Tr.im) (j : Int) = some (.im l[j]) := by
    rw [L2.atI_nat]; simp [h]
  simp only [this]
theorem itT_last {l : List D} (h : 0 < l.length) : ∃ x ∈ l, itT (some (.ls (l.map .im))) (some (.int (-1))) = some x := by
  refine ⟨l[l.length - 1], List.getElem_mem _, ?_⟩
  have e : ixN (l.map Tr.im).length (-1) = some (l.length - 1) := by
    rw [List.length_map]
    unfold ixN
    simp
    omega
  have : L2.atI (l.map Tr.im) (-1) = some (.im l[l.length - 1]) := by
    unfold L2.atI
    rw [e]
    simp [List.getElem?_eq_getElem (show l.length - 1 < l.length by omega)]
  unfold itT
  simp only [this]
theorem lenT_at (l : List D) : lenT (some (.ls (l.map .im))) = some (.int (l.length : Int)) := by
  unfold lenT; simp
theorem app_turn (s k1 dr c wd od x9 x10 x11 x12 x13 x14 : Option Dn.L) (V GD : D) (A B C : List D) (q : Int) (hq : gIx V (.int 0) = some (.int q)) (h0 : 0 ≤ q) (h1 : q < 3) (k : Kd) (kq : q = (match k with | .num => 0 | .word => 1 | .day => 2)) (g : D) (hgd : gIx GD (.int q) = some g)
    (hA : ∀ d ∈ A, GoodK .num d) (hB : ∀ d ∈ B, GoodK .word d) (hC : ∀ d ∈ C, GoodK .day d) (hg : GoodK k g) (la : A.length < 1000) (lb : B.length < 1000) (lc : C.length < 1000) :
    ∃ (A' B' C' Lq : List D), (∀ d ∈ A', GoodK .num d) ∧ (∀ d ∈ B', GoodK .word d) ∧ (∀ d ∈ C', GoodK .day d) ∧ A'.length ≤ A.length + 1 ∧ B'.length ≤ B.length + 1 ∧ C'.length ≤ C.length + 1 ∧ 0 < Lq.length ∧ Lq.length ≤ 1001 ∧ (∀ d ∈ Lq, GoodK k d) ∧
    dAppT 2 PP (qOp gIx (qVar 7) (qOp gIx (qVar 5) (qC (.int 0)))) [s, k1, some (.ot (KT A B C)), dr, c, cD V, wd, cD GD, od, x9, x10, x11, x12, x13, x14] = .ok .nx [s, k1, some (.ot (KT A' B' C')), dr, c, cD V, wd, cD GD, od, x9, x10, x11, x12, x13, x14] ∧
    nodeQ 2 PP [s, k1, some (.ot (KT A' B' C')), dr, c, cD V, wd, cD GD, od, x9, x10, x11, x12, x13, x14] = some (.ls (Lq.map .im)) ∧
    (∀ y12 y10 y13 y14 : Option Dn.L, nodeQ 2 PP [s, k1, some (.ot (KT A' B' C')), dr, c, cD V, wd, cD GD, od, x9, y10, x11, y12, y13, y14] = some (.ls (Lq.map .im))) := by
  have i0 : ixN 3 0 = some 0 := rfl
  have i1 : ixN 3 1 = some 1 := rfl
  have i2 : ixN 3 2 = some 2 := rfl
  have sa : A.length < sizeLine := by have := PySem.sizeLine_eq; omega
  have sb : B.length < sizeLine := by have := PySem.sizeLine_eq; omega
  have sc : C.length < sizeLine := by have := PySem.sizeLine_eq; omega
  have mem : ∀ {l : List D} {k : Kd}, (∀ d ∈ l, GoodK k d) → GoodK k g → ∀ d ∈ l ++ [g], GoodK k d := fun h hg d hd => by
    rcases List.mem_append.mp hd with z | z
    · exact h d z
    · simp at z; subst z; exact hg
  cases k with
  | num =>
    subst kq
    refine ⟨A ++ [g], B, C, A ++ [g], mem hA hg, hB, hC, by simp, by simp, by simp, by simp, by simp; omega, mem hA hg, ?_, ?_, ?_⟩
    · simp [hq, hgd, KT, ixT, i0, appT, subT, updT, sa, -gIx_lst]
    · simp [hq, hgd, KT, ixT, i0, subT, -gIx_lst]
    · intro _ _ _ _
      simp [hq, hgd, KT, ixT, i0, subT, -gIx_lst]
  | word =>
    subst kq
    refine ⟨A, B ++ [g], C, B ++ [g], hA, mem hB hg, hC, by simp, by simp, by simp, by simp, by simp; omega, mem hB hg, ?_, ?_, ?_⟩
    · simp [hq, hgd, KT, ixT, i1, appT, subT, updT, sb, -gIx_lst]
    · simp [hq, hgd, KT, ixT, i1, subT, -gIx_lst]
    · intro _ _ _ _
      simp [hq, hgd, KT, ixT, i1, subT, -gIx_lst]
  | day =>
    subst kq
    refine ⟨A, B, C ++ [g], C ++ [g], hA, hB, mem hC hg, by simp, by simp, by simp, by simp, by simp; omega, mem hC hg, ?_, ?_, ?_⟩
    · simp [hq, hgd, KT, ixT, i2, appT, subT, updT, sc, -gIx_lst]
    · simp [hq, hgd, KT, ixT, i2, subT, -gIx_lst]
    · intro _ _ _ _
      simp [hq, hgd, KT, ixT, i2, subT, -gIx_lst]
end Lw
namespace Lw
open PySem PySem.Spec PyProof.Rows L2 Dn
theorem gSlL_mid (ds : List D) (i j : Nat) : gSl (.list ds) (some (i : Int)) (some (j : Int)) = some (.list ((ds.take j).drop i)) := by
  show some (PyData.list _) = _
  rw [cut_mid]
theorem bd {v : List Int} (hv : inT v) (j : Nat) (x t : Int) (e : v[j]? = some x) (ht : topsL.getD j 1 = t) : 0 ≤ x ∧ x < t := by
  have := hv j x e
  rw [ht] at this; exact this
theorem rep8 : repL [.int 26] (.int 8) = some (.list [.int 26, .int 26, .int 26, .int 26, .int 26, .int 26, .int 26, .int 26]) := by
  have h : 1 * 8 ≤ sizeLine := by have := PySem.sizeLine_eq; omega
  show (if (0 : Int) ≤ 8 ∧ (8 : Int) ≤ 10000 ∧ 1 * 8 ≤ sizeLine then some (PyData.list (List.replicate (8 : Int).toNat [PyData.int 26]).flatten) else none) = _
  rw [if_pos ⟨by decide, by decide, h⟩]
  rfl
/-- what a cell draws -/
theorem drawn_ex (c : Int) (hc : c.natAbs < 2 ^ 1048576) : ∃ (V W NM DY : D) (q at_ way : Int) (cs : List Nat) (t u z : Int),
    0 ≤ q ∧ q < 3 ∧ 0 ≤ at_ ∧ at_ < 1000000 ∧ isW cs ∧ t.natAbs < 2 ^ 70 ∧ u.natAbs < 2 ^ 70 ∧ z.natAbs < 2 ^ 40 ∧
    gIx V (.int 0) = some (.int q) ∧ gIx V (.int 1) = some (.int at_) ∧ gIx V (.int 2) = some (.int way) ∧
    (∃ ds, V = .list ds ∧ m_law_draws [cI c, cD (.list (topsL.map PyData.int))] = .ok (.ow ds) [cI c, cD (.list (topsL.map PyData.int))]) ∧
    gSl V (some 3) (some 13) = some W ∧ gSl V (some 13) (some 18) = some NM ∧ gSl V (some 18) (some 21) = some DY ∧
    m_law_word [cD W] = .ok (.im (.str (SX.S cs))) [cD W] ∧ m_law_number [cD NM] = .ok (.im (nD t u)) [cD NM] ∧ m_law_day [cD DY] = .ok (.im (.int z)) [cD DY] := by
  obtain ⟨v, hl, hv, L⟩ := law_draws_ex c hc
  obtain ⟨v0, v1, v2, v3, v4, v5, v6, v7, v8, v9, v10, v11, v12, v13, v14, v15, v16, v17, v18, v19, v20, rfl⟩ : ∃ v0 v1 v2 v3 v4 v5 v6 v7 v8 v9 v10 v11 v12 v13 v14 v15 v16 v17 v18 v19 v20, v = [v0, v1, v2, v3, v4, v5, v6, v7, v8, v9, v10, v11, v12, v13, v14, v15, v16, v17, v18, v19, v20] := by
    match v, hl with
    | [v0, v1, v2, v3, v4, v5, v6, v7, v8, v9, v10, v11, v12, v13, v14, v15, v16, v17, v18, v19, v20], _ => exact ⟨_, _, _, _, _, _, _, _, _, _, _, _, _, _, _, _, _, _, _, _, _, rfl⟩
  have b0 := bd hv 0 v0 3 rfl rfl
  have b1 := bd hv 1 v1 1000000 rfl rfl
  have b3 := bd hv 3 v3 8 rfl rfl
  have b4 := bd hv 4 v4 2 rfl rfl
  have b13 := bd hv 13 v13 2 rfl rfl
  have b14 := bd hv 14 v14 4 rfl rfl
  have b15 := bd hv 15 v15 1000000000 rfl rfl
  have b16 := bd hv 16 v16 1000000000 rfl rfl
  have b17 := bd hv 17 v17 90 rfl rfl
  have b18 := bd hv 18 v18 8000 rfl rfl
  have b19 := bd hv 19 v19 12 rfl rfl
  have b20 := bd hv 20 v20 31 rfl rfl
  obtain ⟨cs, hcs, Wd⟩ := law_word_ex [v3, v4, v5, v6, v7, v8, v9, v10, v11, v12] rfl v3 v4 (by simp) (by simp) b3.1 b3.2 b4.1 b4.2
  obtain ⟨t, u, ht, hu, _, Nm⟩ := law_number_ex v13 v14 v15 v16 v17 b13 b14 b15 b16 b17
  obtain ⟨z, hz, _, Dy⟩ := law_day_ex v18 v19 v20 b18 b19 b20
  refine ⟨_, _, _, _, v0, v1, v2, cs, t, u, z, b0.1, b0.2, b1.1, b1.2, hcs, ht, hu, hz, ?_, ?_, ?_, ⟨_, rfl, L⟩, gSlL_mid _ 3 13, gSlL_mid _ 13 18, gSlL_mid _ 18 21, Wd, Nm, Dy⟩
  · simp
  · simp
  · simp
theorem l2_three (s kn dr c dv wd gd od x9 x10 x11 x12 x13 x14 : Option Dn.L) (f9 : free (some x9) = true) (f10 : free (some x10) = true) (f11 : free (some x11) = true) (a b : D) (oa : OKD a) (ob : OKD b) : ∃ y9 y10 y11 : Option Dn.L, free (some y9) = true ∧ free (some y10) = true ∧ free (some y11) = true ∧
    dForL (putIm 9) b_law_l2 [a, b, .none] [s, cD (.list K3), kn, dr, c, dv, wd, gd, od, x9, x10, x11, x12, x13, x14] = .ok .nx [s, cD (.list K3), kn, dr, c, dv, wd, gd, od, y9, y10, y11, x12, x13, x14] := by
  obtain ⟨p10, p11, g10, g11, t1⟩ := l2_turn s kn dr c dv wd gd od x10 x11 x12 x13 x14 f10 f11 a oa
  obtain ⟨q10, q11, h10, h11, t2⟩ := l2_turn s kn dr c dv wd gd od p10 p11 x12 x13 x14 g10 g11 b ob
  obtain ⟨r10, r11, k10, k11, t3⟩ := l2_turn s kn dr c dv wd gd od q10 q11 x12 x13 x14 h10 h11 .none (fun s e => by cases e)
  refine ⟨cD .none, r10, r11, rfl, k10, k11, ?_⟩
  generalize PyData.list K3 = KK at *
  simp [dForL, f9, t1, t2, t3]
theorem l4_three (s kn dr c wd od x9 x10 x11 x12 x13 x14 : Option Dn.L) (f10 : free (some x10) = true) (f12 : free (some x12) = true) (f13 : free (some x13) = true) (f14 : free (some x14) = true) (V GD : D) (q : Int) (hq : gIx V (.int 0) = some (.int q)) (k : Kd) (hk : gIx (.list K3) (.int q) = some k.e) (g : D) (hgd : gIx GD (.int q) = some g) (hx : GoodK k g) (a b e : D) (ga : GoodK k a) (gb : GoodK k b) (ge : GoodK k e) :
    ∃ y10 y12 y13 y14 : Option Dn.L, free (some y10) = true ∧ free (some y12) = true ∧ free (some y13) = true ∧ free (some y14) = true ∧
    dForL (putIm 12) b_law_l4 [a, b, e] [s, cD (.list K3), kn, dr, c, cD V, wd, cD GD, od, x9, x10, x11, x12, x13, x14] = .ok .nx [s, cD (.list K3), kn, dr, c, cD V, wd, cD GD, od, x9, y10, x11, y12, y13, y14] := by
  obtain ⟨p10, p13, p14, g10, g13, g14, t1⟩ := l4_turn s kn dr c wd od x9 x10 x11 x13 x14 f10 f13 f14 V GD q hq k hk g a hgd hx ga
  obtain ⟨q10, q13, q14, h10, h13, h14, t2⟩ := l4_turn s kn dr c wd od x9 p10 x11 p13 p14 g10 g13 g14 V GD q hq k hk g b hgd hx gb
  obtain ⟨r10, r13, r14, k10, k13, k14, t3⟩ := l4_turn s kn dr c wd od x9 q10 x11 q13 q14 h10 h13 h14 V GD q hq k hk g e hgd hx ge
  refine ⟨r10, cD e, r13, r14, k10, rfl, k13, k14, ?_⟩
  generalize PyData.list K3 = KK at *
  simp [dForL, f12, t1, t2, t3]
theorem l5_turn (s x5 x6 x7 x8 x9 x10 x11 x12 x13 x14 : Option Dn.L) (f5 : free (some x5) = true) (f6 : free (some x6) = true) (f7 : free (some x7) = true) (f8 : free (some x8) = true) (f9 : free (some x9) = true) (f10 : free (some x10) = true) (f11 : free (some x11) = true) (f12 : free (some x12) = true) (f13 : free (some x13) = true) (f14 : free (some x14) = true)
    (c : Int) (hc : c.natAbs < 2 ^ 1048576) (A B C : List D) (ws : List (List Nat)) (hA : ∀ d ∈ A, GoodK .num d) (hB : ∀ d ∈ B, GoodK .word d) (hC : ∀ d ∈ C, GoodK .day d) (la : A.length < 1000) (lb : B.length < 1000) (lc : C.length < 1000) (lw : ws.length < 1000) :
    ∃ (A' B' C' : List D) (cs : List Nat) (y5 y6 y7 y8 y9 y10 y11 y12 y13 y14 : Option Dn.L), isW cs ∧ (∀ d ∈ A', GoodK .num d) ∧ (∀ d ∈ B', GoodK .word d) ∧ (∀ d ∈ C', GoodK .day d) ∧ A'.length ≤ A.length + 1 ∧ B'.length ≤ B.length + 1 ∧ C'.length ≤ C.length + 1 ∧
    free (some y5) = true ∧ free (some y6) = true ∧ free (some y7) = true ∧ free (some y8) = true ∧ free (some y9) = true ∧ free (some y10) = true ∧ free (some y11) = true ∧ free (some y12) = true ∧ free (some y13) = true ∧ free (some y14) = true ∧
    b_law_l5 [s, cD (.list K3), some (.ot (KT A B C)), some (.ow (wD ws)), cI c, x5, x6, x7, x8, x9, x10, x11, x12, x13, x14] = .ok .nx [s, cD (.list K3), some (.ot (KT A' B' C')), some (.ow (wD (ws ++ [cs]))), cI c, y5, y6, y7, y8, y9, y10, y11, y12, y13, y14] := by
  obtain ⟨V, W, NM, DY, q, at_, way, cs, t, u, z, q0, q1, a0, a1, hcs, ht, hu, hz, g0, g1, g2, ⟨ds, hV, DR⟩, s1, s2, s3, Wd, Nm, Dy⟩ := drawn_ex c hc
  obtain ⟨o1, ok1, O1⟩ := odd_number_ex t u way at_ ht hu
  obtain ⟨o2, ok2, O2⟩ := odd_word_ex cs hcs way at_ a0 a1
  obtain ⟨o3, ok3, O3⟩ := odd_day_ex z way at_ hz
  obtain ⟨k, hk, pk, kq⟩ := kind_at q0 q1
  have e6 : gPow (.int 10) (.int 6) = some (.int 1000000) := by rw [gPow_of (by decide) (by decide) (by decide)]; rfl
  have e9 : gPow (.int 10) (.int 9) = some (.int 1000000000) := by rw [gPow_of (by decide) (by decide) (by decide)]; rfl
  have c1 : gAdd (.list [.int 3, .int 1000000, .int 840]) (.list [.int 8, .int 2]) = some (.list [.int 3, .int 1000000, .int 840, .int 8, .int 2]) := gAddL (by simp)
  have c2 : gAdd (.list [.int 3, .int 1000000, .int 840, .int 8, .int 2]) (.list [.int 26, .int 26, .int 26, .int 26, .int 26, .int 26, .int 26, .int 26]) = some (.list [.int 3, .int 1000000, .int 840, .int 8, .int 2, .int 26, .int 26, .int 26, .int 26, .int 26, .int 26, .int 26, .int 26]) := gAddL (by simp)
  have c3 : gAdd (.list [.int 3, .int 1000000, .int 840, .int 8, .int 2, .int 26, .int 26, .int 26, .int 26, .int 26, .int 26, .int 26, .int 26]) (.list [.int 2, .int 4, .int 1000000000, .int 1000000000, .int 90]) = some (.list [.int 3, .int 1000000, .int 840, .int 8, .int 2, .int 26, .int 26, .int 26, .int 26, .int 26, .int 26, .int 26, .int 26, .int 2, .int 4, .int 1000000000, .int 1000000000, .int 90]) := gAddL (by simp)
  have c4 : gAdd (.list [.int 3, .int 1000000, .int 840, .int 8, .int 2, .int 26, .int 26, .int 26, .int 26, .int 26, .int 26, .int 26, .int 26, .int 2, .int 4, .int 1000000000, .int 1000000000, .int 90]) (.list [.int 8000, .int 12, .int 31]) = some (.list (topsL.map PyData.int)) := gAddL (by simp)
  have hgd := pk (nD t u) (.str (SX.S cs)) (.int z)
  have hod := pk o1 o2 o3
  have hG : GoodK k (sel k (nD t u) (.str (SX.S cs)) (.int z)) := by
    cases k
    · exact ⟨t, u, ht, hu, rfl⟩
    · exact ⟨_, rfl⟩
    · exact ⟨_, rfl⟩
  have okG : OKD (sel k (nD t u) (.str (SX.S cs)) (.int z)) := by
    intro x e
    cases k
    · cases e
    · cases e; rw [SX.S_len]; have := hcs.2.1; omega
    · cases e
  have okO : OKD (sel k o1 o2 o3) := by cases k <;> assumption
  generalize (sel k (nD t u) (.str (SX.S cs)) (.int z)) = g at hgd hG okG
  generalize (sel k o1 o2 o3) = o at hod okO
  obtain ⟨y9, y10, y11, k9, k10, k11, T2⟩ := l2_three s (some (.ot (KT A B C))) (some (.ow (wD (ws ++ [cs])))) (cI c) (cD V) (cS cs) (cD (.list [nD t u, .str (SX.S cs), .int z])) (cD (.list [o1, o2, o3])) x9 x10 x11 x12 x13 x14 f9 f10 f11 o g okO okG
  obtain ⟨A', B', C', Lq, hA', hB', hC', la', lb', lc', lq0, lq1, hLq, AP, N0, N1⟩ := app_turn s (cD (.list K3)) (some (.ow (wD (ws ++ [cs])))) (cI c) (cS cs) (cD (.list [o1, o2, o3])) y9 y10 y11 x12 x13 x14 V (.list [nD t u, .str (SX.S cs), .int z]) A B C q g0 q0 q1 k kq g hgd hA hB hC hG la lb lc
  have it0 := itT_at lq0
  obtain ⟨xl, hxl, it1⟩ := itT_last lq0
  have lh : Lq.length / 2 < Lq.length := by omega
  have it2 := itT_at lh
  have lT := lenT_at Lq
  have fd : gFdiv (.int (Lq.length : Int)) (.int 2) = some (.int ((Lq.length / 2 : Nat) : Int)) := by rw [gFdiv_pos (n := 30) (by decide) (by decide) (by decide) (by decide)]; rfl
  obtain ⟨z10, z12, z13, z14, h10, h12, h13, h14, T4⟩ := l4_three s (some (.ot (KT A' B' C'))) (some (.ow (wD (ws ++ [cs])))) (cI c) (cS cs) (cD (.list [o1, o2, o3])) y9 y10 y11 x12 x13 x14 k10 f12 f13 f14 V (.list [nD t u, .str (SX.S cs), .int z]) q g0 k hk g hgd hG Lq[0] xl Lq[Lq.length / 2] (hLq _ (List.getElem_mem _)) (hLq _ hxl) (hLq _ (List.getElem_mem _))
  refine ⟨A', B', C', cs, cD V, cS cs, cD (.list [nD t u, .str (SX.S cs), .int z]), cD (.list [o1, o2, o3]), y9, z10, y11, z12, z13, z14, hcs, hA', hB', hC', la', lb', lc', rfl, rfl, rfl, rfl, k9, h10, k11, h12, h13, h14, ?_⟩
  have hs : (wD ws).length < sizeLine := by have := PySem.sizeLine_eq; simp; omega
  have ew : wD (ws ++ [cs]) = wD ws ++ [.str (SX.S cs)] := by simp [wD]
  rw [ew] at T2 AP N0 N1 T4 ⊢
  obtain ⟨rfl⟩ : V = .list ds := hV
  generalize wD ws = WS at *
  have N0' := N0
  simp only [PP] at AP N0'
  generalize hKK : (PyData.list K3) = KK at *
  generalize KT A' B' C' = T' at *
  have it0' : itT (some (.ls (Lq.map .im))) (some (.int 0)) = some Lq[0] := it0
  generalize hh : ((Lq.length / 2 : Nat) : Int) = h2 at fd it2
  generalize hn : (Lq.length : Int) = hn at fd lT
  generalize hLM : Lq.map Tr.im = LM at *
  generalize Lq[0] = e0 at *
  generalize Lq[Lq.length / 2] = e2 at *
  generalize hTD : PyData.list (topsL.map PyData.int) = TD at *
  generalize hVV : PyData.list ds = V at *
  unfold b_law_l5
  refine seq_nx (ρ1 := [s, cD KK, some (.ot (KT A B C)), some (.ow WS), cI c, cD V, x6, x7, x8, x9, x10, x11, x12, x13, x14]) ?_
    (seq_nx (ρ1 := [s, cD KK, some (.ot (KT A B C)), some (.ow WS), cI c, cD V, cS cs, x7, x8, x9, x10, x11, x12, x13, x14]) (by simp [s1, Wd, f6])
    (seq_nx (ρ1 := [s, cD KK, some (.ot (KT A B C)), some (.ow WS), cI c, cD V, cS cs, cD (.list [nD t u, .str (SX.S cs), .int z]), x8, x9, x10, x11, x12, x13, x14]) (by simp [s2, s3, Nm, Dy, f7])
    (seq_nx (ρ1 := [s, cD KK, some (.ot (KT A B C)), some (.ow WS), cI c, cD V, cS cs, cD (.list [nD t u, .str (SX.S cs), .int z]), cD (.list [o1, o2, o3]), x9, x10, x11, x12, x13, x14]) (by simp [g1, g2, O1, O2, O3, f8])
    (seq_nx (ρ1 := [s, cD KK, some (.ot (KT A B C)), some (.ow (WS ++ [.str (SX.S cs)])), cI c, cD V, cS cs, cD (.list [nD t u, .str (SX.S cs), .int z]), cD (.list [o1, o2, o3]), x9, x10, x11, x12, x13, x14]) (by simp [hs])
    (seq_nx (ρ1 := [s, cD KK, some (.ot (KT A B C)), some (.ow (WS ++ [.str (SX.S cs)])), cI c, cD V, cS cs, cD (.list [nD t u, .str (SX.S cs), .int z]), cD (.list [o1, o2, o3]), y9, y10, y11, x12, x13, x14]) ?_
    (seq_nx AP ?_))))))
  · simp [e6, e9, rep8, c1, c2, c3, c4, DR, hVV, f5]
  · rw [dFor_eq]
    generalize PyData.list [nD t u, .str (SX.S cs), .int z] = GD at *
    generalize PyData.list [o1, o2, o3] = OD at *
    simp [g0, hod, hgd, T2, -gIx_lst]
  · rw [dFor_eq]
    generalize PyData.list [nD t u, .str (SX.S cs), .int z] = GD at *
    generalize PyData.list [o1, o2, o3] = OD at *
    simp [N0', it0', it1, it2, lT, fd, T4, -gIx_lst, -nodeQ_eq, -pIx_eq]
end Lw
namespace Lw
open PySem PySem.Spec PyProof.Rows L2 Dn
theorem forL_invN {g : D → En → R Unit} {b : En → R Fl} {I : Nat → En → Prop} : ∀ (ds : List D) (k : Nat), (∀ d ∈ ds, ∀ i, i < k + ds.length → ∀ ρ, I i ρ → ∃ ρ1 ρ2, g d ρ = .ok () ρ1 ∧ b ρ1 = .ok .nx ρ2 ∧ I (i + 1) ρ2) → ∀ ρ, I k ρ → ∃ ρ', dForL g b ds ρ = .ok .nx ρ' ∧ I (k + ds.length) ρ'
  | [], k, _, ρ, h => ⟨ρ, rfl, h⟩
  | d :: ds, k, h, ρ, hi => by
    obtain ⟨ρ1, ρ2, e1, e2, i2⟩ := h d List.mem_cons_self k (by simp) ρ hi
    obtain ⟨ρ', e, i'⟩ := forL_invN ds (k + 1) (fun z hz i hi => h z (List.mem_cons_of_mem _ hz) i (by simp; omega)) ρ2 i2
    refine ⟨ρ', ?_, by rw [List.length_cons, show k + (ds.length + 1) = k + 1 + ds.length by omega]; exact i'⟩
    show (g d ρ).bind _ = _
    rw [e1]
    show (b ρ1).bind _ = _
    rw [e2]
    exact e
theorem law_true (ns : List Int) (hl : ns.length ≤ 63) (hb : ∀ z ∈ ns, z.natAbs < 2 ^ 1048576) : ∃ ls', m_law [cD (scriptD ns)] = .ok (.im (.bool true)) ls' := by
  have ca : gAdd (scriptD ns) (.list [.int 0]) = some (.list ((ns ++ [0]).map PyData.int)) := by
    unfold scriptD
    rw [gAddL (by simp; omega)]; simp
  have cs : gSl (.list ((ns ++ [0]).map PyData.int)) none (some 64) = some (.list ((ns ++ [0]).map PyData.int)) := by
    have := gSl_take ((ns ++ [0]).map PyData.int) 64
    rw [List.take_of_length_le (by simp; omega)] at this
    exact this
  have z3 : 3 ≤ sizeLine := by have := PySem.sizeLine_eq; omega
  obtain ⟨ρ', LP, A, B, C, ws, x4, x5, x6, x7, x8, x9, x10, x11, x12, x13, x14, hA, hB, hC, la, lb, lc, hw, lw, f4, f5, f6, f7, f8, f9, f10, f11, f12, f13, f14, rfl⟩ := forL_invN (g := putIm 4) (b := b_law_l5)
    (I := fun i ρ => ∃ (A B C : List D) (ws : List (List Nat)) (x4 x5 x6 x7 x8 x9 x10 x11 x12 x13 x14 : Option Dn.L), (∀ d ∈ A, GoodK .num d) ∧ (∀ d ∈ B, GoodK .word d) ∧ (∀ d ∈ C, GoodK .day d) ∧ A.length ≤ i ∧ B.length ≤ i ∧ C.length ≤ i ∧ (∀ a ∈ ws, isW a) ∧ ws.length = i ∧
      free (some x4) = true ∧ free (some x5) = true ∧ free (some x6) = true ∧ free (some x7) = true ∧ free (some x8) = true ∧ free (some x9) = true ∧ free (some x10) = true ∧ free (some x11) = true ∧ free (some x12) = true ∧ free (some x13) = true ∧ free (some x14) = true ∧
      ρ = [cD (scriptD ns), cD (.list K3), some (.ot (KT A B C)), some (.ow (wD ws)), x4, x5, x6, x7, x8, x9, x10, x11, x12, x13, x14])
    ((ns ++ [0]).map PyData.int) 0 (fun d hd i hi ρ ⟨A, B, C, ws, x4, x5, x6, x7, x8, x9, x10, x11, x12, x13, x14, hA, hB, hC, la, lb, lc, hw, lw, f4, f5, f6, f7, f8, f9, f10, f11, f12, f13, f14, e⟩ => by
      subst e
      obtain ⟨c, hc, rfl⟩ := List.mem_map.mp hd
      have hcb : c.natAbs < 2 ^ 1048576 := by
        rcases List.mem_append.mp hc with h | h
        · exact hb c h
        · simp at h; subst h; exact Nat.pow_pos (by decide)
      have hi' : i < 64 := by simp at hi; omega
      obtain ⟨A', B', C', w, y5, y6, y7, y8, y9, y10, y11, y12, y13, y14, hwW, hA', hB', hC', la', lb', lc', k5, k6, k7, k8, k9, k10, k11, k12, k13, k14, T⟩ := l5_turn (cD (scriptD ns)) x5 x6 x7 x8 x9 x10 x11 x12 x13 x14 f5 f6 f7 f8 f9 f10 f11 f12 f13 f14 c hcb A B C ws hA hB hC (by omega) (by omega) (by omega) (by omega)
      refine ⟨[cD (scriptD ns), cD (.list K3), some (.ot (KT A B C)), some (.ow (wD ws)), cI c, x5, x6, x7, x8, x9, x10, x11, x12, x13, x14], _, by simp [f4], T, A', B', C', ws ++ [w], cI c, y5, y6, y7, y8, y9, y10, y11, y12, y13, y14, hA', hB', hC', by omega, by omega, by omega, fun a ha => ?_, by simp [lw], rfl, k5, k6, k7, k8, k9, k10, k11, k12, k13, k14, rfl⟩
      rcases List.mem_append.mp ha with h | h
      · exact hw a h
      · simp at h; subst h; exact hwW)
    [cD (scriptD ns), cD (.list K3), some (.ot (KT [] [] [])), some (.ow []), none, none, none, none, none, none, none, none, none, none, none]
    ⟨[], [], [], [], none, none, none, none, none, none, none, none, none, none, none, fun d h => by simp at h, fun d h => by simp at h, fun d h => by simp at h, Nat.le_refl _, Nat.le_refl _, Nat.le_refl _, fun d h => by simp at h, rfl, rfl, rfl, rfl, rfl, rfl, rfl, rfl, rfl, rfl, rfl, rfl, rfl⟩
  have hlen : (0 : Nat) + ((ns ++ [0]).map PyData.int).length = ns.length + 1 := by simp
  rw [hlen] at lw
  have LC := law_columns_eq ws hw (by omega) (by omega)
  have hKT : KT [] [] [] = .ls [.ls [], .ls [], .ls []] := rfl
  rw [hKT] at LP
  refine ⟨[cD (scriptD ns)], ?_⟩
  generalize (ns ++ [0]).map PyData.int = LL at ca cs LP
  generalize scriptD ns = s at *
  generalize wD ws = W at LP LC
  simp only [m_law, b_law, dDef_eq]
  rw [show ([cD s] ++ List.replicate (15 - [cD s].length) none : En) = [cD s, none, none, none, none, none, none, none, none, none, none, none, none, none, none] from rfl]
  refine (congrArg _ (seq_nx (ρ1 := [cD s, cD (.list K3), none, none, none, none, none, none, none, none, none, none, none, none, none]) (by simp)
    (seq_nx (ρ1 := [cD s, cD (.list K3), some (.ot (.ls [.ls [], .ls [], .ls []])), none, none, none, none, none, none, none, none, none, none, none, none]) (by simp)
    (seq_nx (ρ1 := [cD s, cD (.list K3), some (.ot (.ls [.ls [], .ls [], .ls []])), some (.ow []), none, none, none, none, none, none, none, none, none, none, none]) (by simp)
    (seq_nx (ρ1 := [cD s, cD (.list K3), some (.ot (KT A B C)), some (.ow W), x4, x5, x6, x7, x8, x9, x10, x11, x12, x13, x14]) ?_ rfl))))).trans ?_
  · rw [dFor_eq]
    simp [ca, cs, LP]
  · simp [LC]
end Lw
namespace Lw
open PySem PySem.Spec PyProof.Rows L2 Dn
/-! the head -/
abbrev Rw : PySem.W.OpenRow := PySem.W.OpenLaw.row PySem.Challenge.rw_twobytwo_k09_words_and_cells
abbrev hkL : PySem.W.Hook := He.hookD 4 faL fnL
def obL (s : PySem.W.SharedT) : He.AlD := He.obsDG 4 faL fnL (HandSHeadRun.getT s)
theorem obL_eq (s : PySem.W.SharedT) : obL s = hkL.obs s.abs := He.obsDG_eq (HandSHeadRun.getT_eq s)
theorem runL (w : World) : HandSHeadRun.RunEq Rw (PySem.W.view Rw.prog [32]) hkL obL 2380 [("is_whole" : PySem.Str), ("divisor" : PySem.Str), ("is_number" : PySem.Str), ("under" : PySem.Str), ("is_told" : PySem.Str), ("LAST" : PySem.Str), ("ahead_of" : PySem.Str), ("is_day" : PySem.Str), ("is_told_day" : PySem.Str), ("LETTERS" : PySem.Str), ("is_word" : PySem.Str), ("is_cell" : PySem.Str), ("column_at" : PySem.Str), ("comes_before" : PySem.Str), ("_law_draws" : PySem.Str), ("_law_whole" : PySem.Str), ("_law_divisor" : PySem.Str), ("_law_lengths" : PySem.Str), ("_law_number" : PySem.Str), ("_law_word" : PySem.Str), ("_law_day" : PySem.Str), ("_law_told" : PySem.Str), ("_law_odd_word" : PySem.Str), ("_law_odd_number" : PySem.Str), ("_law_odd_day" : PySem.Str), ("_law_before" : PySem.Str), ("_law_columns" : PySem.Str)] w := by
  intro os
  kernel_rfl
theorem tx_of {K : PySem.W.Frag} {h : Heap} {mg : Str → Option Value} (X : K.In h) (G : h.Ns mainGlobals mg) (c : He.SaysD faL fnL K) : Tx K mg :=
  ⟨c, fun x q => He.glo_ok X G q, fun x q => He.free_ok X G q, fun x z q => He.str_ok X G q, fun x z q => He.int_ok X G q⟩
end Lw
open PySem PySem.W PySem.Calls PyProof.Rows
set_option maxHeartbeats 0 in
theorem PySem.Challenge.cw_twobytwo_k09_words_and_cells_holds : PySem.Challenge.rw_twobytwo_k09_words_and_cells.Holds := by
  w_on; o_law
  refine HandSHeadRun.head_any (r := OpenLaw.row PySem.Challenge.rw_twobytwo_k09_words_and_cells) (q := view (OpenLaw.row PySem.Challenge.rw_twobytwo_k09_words_and_cells).prog [32]) (H := Lw.hkL) (ob := Lw.obL) (M := 2380) (loose := [("is_whole" : PySem.Str), ("divisor" : PySem.Str), ("is_number" : PySem.Str), ("under" : PySem.Str), ("is_told" : PySem.Str), ("LAST" : PySem.Str), ("ahead_of" : PySem.Str), ("is_day" : PySem.Str), ("is_told_day" : PySem.Str), ("LETTERS" : PySem.Str), ("is_word" : PySem.Str), ("is_cell" : PySem.Str), ("column_at" : PySem.Str), ("comes_before" : PySem.Str), ("_law_draws" : PySem.Str), ("_law_whole" : PySem.Str), ("_law_divisor" : PySem.Str), ("_law_lengths" : PySem.Str), ("_law_number" : PySem.Str), ("_law_word" : PySem.Str), ("_law_day" : PySem.Str), ("_law_told" : PySem.Str), ("_law_odd_word" : PySem.Str), ("_law_odd_number" : PySem.Str), ("_law_odd_day" : PySem.Str), ("_law_before" : PySem.Str), ("_law_columns" : PySem.Str)]) (d := HandSHeadRun.topDef (OpenLaw.row PySem.Challenge.rw_twobytwo_k09_words_and_cells).prog 32) (kwd := []) Lw.obL_eq
    (by kernel_rfl) (fun s => by kernel_rfl) Lw.runL (by kernel_rfl) (by kernel_rfl) (by kernel_rfl) (by rfl) (by first | assumption | decide +kernel) (by decide +kernel) ⟨rfl, rfl, rfl, rfl, rfl, by decide +kernel⟩ ?hw ?hc
  case hw => w_witness2
  case hc =>
    refine Dn.walk_ofEB (l := PySem.Challenge.rw_twobytwo_k09_words_and_cells) (n := 63) (k := 5) (x := "script") (CX := fun w => L2.CX (PySem.Challenge.rw_twobytwo_k09_words_and_cells).prog w) rfl (by decide) (by kernel_rfl) ⟨rfl, by decide, by decide⟩ ?F (fun _ _ _ _ _ z => by obtain ⟨_, _, _, _, _, _, _, _, _, _, _, _, q⟩ := z; exact q)
    intro w mg fa h Y G hmg0
    obtain ⟨K, KX, c⟩ := Y
    have hmg : mg ("law" : PySem.Str) = some (.ref fa) := by
      have e : (HandSHeadRun.topDef (OpenLaw.row PySem.Challenge.rw_twobytwo_k09_words_and_cells).prog 32).name = ("law" : PySem.Str) := by kernel_rfl
      rw [← e]
      exact hmg0
    have T := Lw.tx_of KX G c
    have ef := hmg.symm.trans (Lw.g_law T)
    cases ef
    refine ⟨K, Lw.fd_law T, Dn.spD K (Dn.caK [] K) 1 Lw.m_law, KX, fun s v => (L2.FunD.bindsA (ps := ["script"]) (Lw.F_law T) fun _ _ _ _ _ _ us hl => match us, hl with | [_], _ => rfl) s [v] rfl, fun H a ns hl hb hS => ?_, fun base _ _ => Lw.ok_law T⟩
    obtain ⟨ls', e⟩ := Lw.law_true ns hl fun z hz => Dn.bits_lt (hb z hz)
    exact Dn.law_sp hS e
