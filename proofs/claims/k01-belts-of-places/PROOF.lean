import PyProof.Rows.All
import Wide.All
import OpenK.AllK
import Wide.FinOn
import HandS.ForMost
import HandS.ForExc
import HandS.Wide
import HandS.Walk
import HandS.CallSlots
import HandS.IsInst
import HandS.Style
import HandS.Deep
import HandS.Codes
import HandS.StrMore
import HandS.StrSplit
import HandS.WideBits
import HandS.TupAny
import HandS.NoneIn
import HandS.Defaults
import HandS.Head0
import HandS.Head1
import HandS.Head2
import HandS.HeadEnd
import HandS.HeadHook1
import HandS.HeadHook2
import HandS.EndBits
import HandS.WordsExc
import HandS.Comp
import HandS.More
import HandS.SortKw
import PyProof.WalkInts
import PyProof.AutoSeq1
import HandS.SortInts
import HandS.ExcInit
import HandS.ExcField
import HandS.ExcIs
import KE.KExcIs
import HandS.HeadHook4
import KE.KEqDict
import PyProof.ListMulRoad
import HandS.SuiteRaise
import HandS.RaiseFrom
import HandS.ExcInitHot
import HandS.Zip
import HandS.Conv
import PySem.Challenge.RW_twobytwo_k01_belts_of_places
set_option Elab.async false
set_option linter.all false
set_option maxRecDepth 100000
set_option maxHeartbeats 4000000
namespace Dn
open PySem PySem.Spec PyProof.Rows L2

/-! ### data, cells, results -/
abbrev D := PyData
structure Exn where
  cls : String
  arg : Option (Str × D)
/-- what may change within -/
inductive Tr where
  | im (d : D)
  | ls (ts : List Tr)
inductive L where
  | im (d : D)
  | ow (ds : List D)
  | bo (ds : List D)
  | ot (t : Tr)
  | bt (t : Tr)
  | xn (a : Addr) (dx : Option Addr) (c : Exn)
def L.own : L → Bool
  | .ow _ => true
  | .ot _ => true
  | .xn _ _ _ => true
  | _ => false
def L.mu : L → Bool
  | .im _ => false
  | .xn _ _ _ => false
  | _ => true
abbrev En := List (Option L)
inductive R (α : Type) where
  | ok (a : α) (ρ : En)
  | ex (c : Exn) (ρ : En)
  | no
def R.bind {α β : Type} : R α → (α → En → R β) → R β
  | .ok a ρ, g => g a ρ
  | .ex c ρ, _ => .ex c ρ
  | .no, _ => .no

/-! ### how data stands in a heap -/
def kD : Key → PyData
  | .inl i => .int i
  | .inr s => .str s
mutual
inductive DR (K : PySem.W.Frag) (H : Hp) : V → PyData → Prop
  | non : DR K H .non .none
  | bl (b : Bool) : DR K H (.bl b) (.bool b)
  | int (i : Int) : DR K H (.int i) (.int i)
  | str (x : Str) : DR K H (.str x) (.str x)
  | lst {a : Addr} {xs : List V} {ds : List PyData} : SqL K H a xs → DRs K H xs ds → DR K H (.ref a) (.list ds)
  | tup {a : Addr} {xs : List V} {ds : List PyData} : SqT K H a xs → DRs K H xs ds → DR K H (.ref a) (.tuple ds)
  | dic {a : Addr} {kvs : List (Key × V)} {ds : List PyData} : H a = some (.dK kvs) → DRs K H (kvs.map (·.2)) ds → DR K H (.ref a) (.dict ((kvs.map fun p => kD p.1).zip ds))
inductive DRs (K : PySem.W.Frag) (H : Hp) : List V → List PyData → Prop
  | nil : DRs K H [] []
  | cons {v : V} {vs : List V} {d : PyData} {ds : List PyData} : DR K H v d → DRs K H vs ds → DRs K H (v :: vs) (d :: ds)
end

theorem Same.rd {H H' : Hp} {a : Addr} {o : HO} (e : Same H H') (h : Rd H a o) : Rd H' a o := by
  rcases h with h | ⟨o, h⟩
  · exact .inl (e _ _ h)
  · exact .inr ⟨o, e _ _ h⟩
theorem Same.tup {K : PySem.W.Frag} {H H' : Hp} {a : Addr} {xs : List V} (e : Same H H') (h : SqT K H a xs) : SqT K H' a xs := by
  rcases h with (h | ⟨o, h⟩) | h
  · exact .inl (.inl (e _ _ h))
  · exact .inl (.inr ⟨o, e _ _ h⟩)
  · exact .inr h
section
variable {K : PySem.W.Frag} {G H H' : Hp}
mutual
theorem DR.mono (e : Same H H') : ∀ {v : V} {d : PyData}, DR K H v d → DR K H' v d
  | _, _, .non => .non
  | _, _, .bl b => .bl b
  | _, _, .int i => .int i
  | _, _, .str x => .str x
  | _, _, .lst h hs => .lst (e.seq h) (DRs.mono e hs)
  | _, _, .tup h hs => .tup (Same.tup e h) (DRs.mono e hs)
  | _, _, .dic h hs => .dic (e _ _ h) (DRs.mono e hs)
theorem DRs.mono (e : Same H H') : ∀ {vs : List V} {ds : List PyData}, DRs K H vs ds → DRs K H' vs ds
  | _, _, .nil => .nil
  | _, _, .cons h t => .cons (DR.mono e h) (DRs.mono e t)
end
theorem DRs.length : ∀ {vs : List V} {ds : List PyData}, DRs K H vs ds → vs.length = ds.length
  | _, _, .nil => rfl
  | _, _, .cons _ t => by rw [List.length_cons, List.length_cons, DRs.length t]
theorem DRs.get : ∀ {vs : List V} {ds : List PyData} {i : Nat} {d : PyData}, DRs K H vs ds → ds[i]? = some d → ∃ v, vs[i]? = some v ∧ DR K H v d
  | _, _, _, _, .nil, e => by simp at e
  | _, _, 0, _, .cons h _, e => by simp at e; subst e; exact ⟨_, rfl, h⟩
  | _, _, i + 1, _, .cons _ t, e => by
    obtain ⟨v, h1, h2⟩ := DRs.get (i := i) t (by simpa using e)
    exact ⟨v, by simpa using h1, h2⟩
theorem DRs.append : ∀ {vs ws : List V} {ds es : List PyData}, DRs K H vs ds → DRs K H ws es → DRs K H (vs ++ ws) (ds ++ es)
  | _, _, _, _, .nil, s => s
  | _, _, _, _, .cons h t, s => .cons h (DRs.append t s)
theorem DRs.take : ∀ {vs : List V} {ds : List PyData} (n : Nat), DRs K H vs ds → DRs K H (vs.take n) (ds.take n)
  | _, _, 0, _ => .nil
  | _, _, _ + 1, .nil => .nil
  | _, _, n + 1, .cons h t => .cons h (DRs.take n t)
theorem DRs.drop : ∀ {vs : List V} {ds : List PyData} (n : Nat), DRs K H vs ds → DRs K H (vs.drop n) (ds.drop n)
  | _, _, 0, r => r
  | _, _, _ + 1, .nil => .nil
  | _, _, n + 1, .cons _ t => DRs.drop n t
theorem DRs.set {v : V} {d : PyData} (hv : DR K H v d) : ∀ {vs : List V} {ds : List PyData} (i : Nat), DRs K H vs ds → DRs K H (vs.set i v) (ds.set i d)
  | _, _, _, .nil => .nil
  | _, _, 0, .cons _ t => .cons hv t
  | _, _, i + 1, .cons h t => .cons h (DRs.set hv i t)
theorem DRs.erase : ∀ {vs : List V} {ds : List PyData} (i : Nat), DRs K H vs ds → DRs K H (vs.eraseIdx i) (ds.eraseIdx i)
  | _, _, _, .nil => .nil
  | _, _, 0, .cons _ t => t
  | _, _, i + 1, .cons h t => .cons h (DRs.erase i t)
theorem DRs.dropLast : ∀ {vs : List V} {ds : List PyData}, DRs K H vs ds → DRs K H vs.dropLast ds.dropLast := fun {vs ds} h => by
  rw [List.dropLast_eq_take, List.dropLast_eq_take, h.length]
  exact h.take _
theorem DRs.reverse : ∀ {vs : List V} {ds : List PyData}, DRs K H vs ds → DRs K H vs.reverse ds.reverse
  | _, _, .nil => .nil
  | _, _, .cons h t => by
    rw [List.reverse_cons, List.reverse_cons]
    exact DRs.append (DRs.reverse t) (.cons h .nil)
theorem DRs.ints : ∀ {vs : List V} {ns : List Int}, DRs K H vs (ns.map PyData.int) → vs = ns.map V.int
  | _, [], .nil => rfl
  | _, n :: r, .cons h t => by
    cases h
    rw [DRs.ints t]
    rfl
theorem DRs.ofInts : ∀ (ns : List Int), DRs K H (ns.map V.int) (ns.map PyData.int)
  | [] => .nil
  | n :: r => .cons (.int n) (DRs.ofInts r)
theorem DRs.strs : ∀ {vs : List V} {ns : List Str}, DRs K H vs (ns.map PyData.str) → vs = ns.map V.str
  | _, [], .nil => rfl
  | _, n :: r, .cons h t => by
    cases h
    rw [DRs.strs t]
    rfl
theorem DRs.ofStrs : ∀ (ns : List Str), DRs K H (ns.map V.str) (ns.map PyData.str)
  | [] => .nil
  | n :: r => .cons (.str n) (DRs.ofStrs r)
theorem DRs.bools : ∀ {vs : List V} {ns : List Bool}, DRs K H vs (ns.map PyData.bool) → vs = ns.map V.bl
  | _, [], .nil => rfl
  | _, n :: r, .cons h t => by
    cases h
    rw [DRs.bools t]
    rfl
end

/-! ### the frame's relation -/
/-- the addresses of what may change -/
inductive Foot (H : Hp) : V → Tr → Addr → Prop
  | here {a : Addr} {ts : List Tr} : Foot H (.ref a) (.ls ts) a
  | sub {o : Addr} {vs : List V} {ts : List Tr} {k : Nat} {v : V} {t : Tr} {a : Addr} : H o = some (.lst vs) → vs[k]? = some v → ts[k]? = some t → Foot H v t a → Foot H (.ref o) (.ls ts) a
inductive TR (K : PySem.W.Frag) (G H : Hp) : V → Tr → Prop
  | im {v : V} {d : D} : DR K G v d → TR K G H v (.im d)
  | ls {o : Addr} {vs : List V} {ts : List Tr} : G o = none → H o = some (.lst vs) → vs.length = ts.length → (∀ (k : Nat) (v : V) (t : Tr), vs[k]? = some v → ts[k]? = some t → TR K G H v t) →
      (∀ (k : Nat) (v : V) (t : Tr), vs[k]? = some v → ts[k]? = some t → ¬ Foot H v t o) →
      (∀ (j k : Nat) (v u : V) (t s : Tr) (a : Addr), vs[j]? = some v → ts[j]? = some t → vs[k]? = some u → ts[k]? = some s → Foot H v t a → Foot H u s a → j = k) → TR K G H (.ref o) (.ls ts)
section
variable {K : PySem.W.Frag} {G H G' H' : Hp}
theorem TR.foot {v : V} {t : Tr} {a : Addr} (r : TR K G H v t) (f : Foot H v t a) : G a = none ∧ ∃ vs, H a = some (.lst vs) := by
  induction f with
  | here => cases r with | ls g h _ _ _ _ => exact ⟨g, _, h⟩
  | sub h e1 e2 _ ih =>
    cases r with
    | ls g h' _ c _ _ =>
      rw [h] at h'; cases h'
      exact ih (c _ _ _ e1 e2)
theorem Foot.to {v : V} {t : Tr} {a : Addr} (f : Foot H v t a) : (∀ a, Foot H v t a → H' a = H a) → Foot H' v t a := by
  induction f with
  | here => exact fun _ => .here
  | sub h e1 e2 _ ih => exact fun k => .sub (by rw [k _ .here]; exact h) e1 e2 (ih fun a q => k a (.sub h e1 e2 q))
theorem Foot.from {v : V} {t : Tr} {a : Addr} (f : Foot H' v t a) : (∀ a, Foot H v t a → H' a = H a) → Foot H v t a := by
  induction f with
  | here => exact fun _ => .here
  | sub h e1 e2 _ ih =>
    intro k
    have h' := h
    rw [k _ .here] at h'
    exact .sub h' e1 e2 (ih fun a q => k a (.sub h' e1 e2 q))
theorem TR.keep {v : V} {t : Tr} (r : TR K G H v t) (sg : Same G G') : (∀ a, Foot H v t a → G' a = none) → (∀ a, Foot H v t a → H' a = H a) → TR K G' H' v t := by
  induction r with
  | im h => exact fun _ _ => .im (h.mono sg)
  | @ls o vs ts g h l c n d ih =>
    intro hg hk
    have ck : ∀ (k : Nat) (v : V) (t : Tr), vs[k]? = some v → ts[k]? = some t → ∀ a, Foot H v t a → H' a = H a := fun k v t e1 e2 a q => hk a (.sub h e1 e2 q)
    exact .ls (hg _ .here) (by rw [hk _ .here]; exact h) l (fun k v t e1 e2 => ih k v t e1 e2 (fun a q => hg a (.sub h e1 e2 q)) (ck k v t e1 e2))
      (fun k v t e1 e2 q => n k v t e1 e2 (q.from (ck k v t e1 e2))) (fun j k v u t s a e1 e2 e3 e4 q1 q2 => d j k v u t s a e1 e2 e3 e4 (q1.from (ck j v t e1 e2)) (q2.from (ck k u s e3 e4)))
def cellR (K : PySem.W.Frag) (G H : Hp) (v : V) : L → Prop
  | .im d => DR K G v d
  | .ow ds => ∃ o vs, v = .ref o ∧ G o = none ∧ H o = some (.lst vs) ∧ DRs K G vs ds
  | .bo ds => ∃ o vs, v = .ref o ∧ G o = none ∧ H o = some (.lst vs) ∧ DRs K G vs ds
  | .ot t => TR K G H v t
  | .bt t => TR K G H v t
  | .xn a dx c => v = .ref a ∧ ∀ f d, c.arg = some (f, d) → ∃ o y, dx = some o ∧ G o = some (.xd [(f, y)]) ∧ DR K G y d
def Fo (H : Hp) (l : L) (v : V) (a : Addr) : Prop := match l with
  | .im _ => False
  | .ow _ => v = .ref a
  | .bo _ => v = .ref a
  | .ot t => Foot H v t a
  | .bt t => Foot H v t a
  | .xn _ _ _ => False
theorem Fo.some {l : L} {v : V} {a : Addr} (c : cellR K G H v l) (f : Fo H l v a) : G a = none ∧ ∃ vs, H a = some (.lst vs) := by
  cases l with
  | im d => exact f.elim
  | ow ds => obtain ⟨o, vs, e, g, q, _⟩ := c; subst e; cases (show V.ref o = V.ref a from f); exact ⟨g, vs, q⟩
  | bo ds => obtain ⟨o, vs, e, g, q, _⟩ := c; subst e; cases (show V.ref o = V.ref a from f); exact ⟨g, vs, q⟩
  | ot t => exact TR.foot c f
  | bt t => exact TR.foot c f
  | xn _ _ _ => exact f.elim
theorem Fo.to {l : L} {v : V} {a : Addr} (f : Fo H l v a) (k : ∀ a, Fo H l v a → H' a = H a) : Fo H' l v a := by
  cases l with
  | ot t => exact Foot.to f k
  | bt t => exact Foot.to f k
  | _ => exact f
theorem Fo.from {l : L} {v : V} {a : Addr} (f : Fo H' l v a) (k : ∀ a, Fo H l v a → H' a = H a) : Fo H l v a := by
  cases l with
  | ot t => exact Foot.from f k
  | bt t => exact Foot.from f k
  | _ => exact f
theorem Fo.mu {l : L} {v : V} {a : Addr} (f : Fo H l v a) : l.mu = true := by cases l <;> first | rfl | exact f.elim
theorem cell_keep {l : L} {v : V} (c : cellR K G H v l) (sg : Same G G') (hg : ∀ a, Fo H l v a → G' a = none) (hk : ∀ a, Fo H l v a → H' a = H a) : cellR K G' H' v l := by
  cases l with
  | im d => exact DR.mono sg c
  | ow ds => obtain ⟨o, vs, e, g, q, hd⟩ := c; subst e; exact ⟨o, vs, rfl, hg o rfl, by rw [hk o rfl]; exact q, DRs.mono sg hd⟩
  | bo ds => obtain ⟨o, vs, e, g, q, hd⟩ := c; subst e; exact ⟨o, vs, rfl, hg o rfl, by rw [hk o rfl]; exact q, DRs.mono sg hd⟩
  | ot t => exact TR.keep c sg hg hk
  | bt t => exact TR.keep c sg hg hk
  | xn a dx c0 => exact ⟨c.1, fun f d e => by obtain ⟨o, y, h1, h2, h3⟩ := c.2 f d e; exact ⟨o, y, h1, sg _ _ h2, DR.mono sg h3⟩⟩
end
/-- the mutable ones' addresses -/
def Own (H : Hp) (σ : L2.St) (ρ : En) (a : Addr) : Prop := ∃ (i : Nat) (l : L) (v : V), ρ[i]? = some (some l) ∧ σ[i]? = some (some v) ∧ Fo H l v a
/-- those of the other slots -/
def OwnX (H : Hp) (σ : L2.St) (ρ : En) (i : Nat) (a : Addr) : Prop := ∃ (j : Nat) (l : L) (v : V), j ≠ i ∧ ρ[j]? = some (some l) ∧ σ[j]? = some (some v) ∧ Fo H l v a
structure Rel (K : PySem.W.Frag) (G H : Hp) (σ : L2.St) (ρ : En) : Prop where
  sub : Same G H
  len : σ.length = ρ.length
  cell : ∀ (i : Nat) (l : L), ρ[i]? = some (some l) → ∃ v, σ[i]? = some (some v) ∧ cellR K G H v l
  apart : ∀ (i j : Nat) (l m : L) (v u : V) (a : Addr), ρ[i]? = some (some l) → ρ[j]? = some (some m) → σ[i]? = some (some v) → σ[j]? = some (some u) → Fo H l v a → Fo H m u a → i = j
structure Stp (G H : Hp) (σ : L2.St) (ρ : En) (G' H' : Hp) (σ' : L2.St) (ρ' : En) : Prop where
  g : Same G G'
  h : ∀ a o, H a = some o → ¬ Own H σ ρ a → H' a = some o
  fr : ∀ a, G' a ≠ none → G a ≠ none ∨ H a = none ∨ Own H σ ρ a
  ow : ∀ a, Own H' σ' ρ' a → Own H σ ρ a ∨ H a = none
  tr : ∀ a, H a ≠ none → H' a ≠ none
  ln : ρ'.length = ρ.length
  bo : ∀ (i : Nat) (ds : List D), ρ[i]? = some (some (L.bo ds)) → σ'[i]? = σ[i]? ∧ ∃ ds', ρ'[i]? = some (some (L.bo ds'))
  bt : ∀ (i : Nat) (t : Tr), ρ[i]? = some (some (L.bt t)) → σ'[i]? = σ[i]? ∧ ∃ t', ρ'[i]? = some (some (L.bt t')) ∧ ∀ v a, σ[i]? = some (some v) → Foot H v t a → Foot H' v t' a

section
variable {K : PySem.W.Frag} {G H G1 H1 G2 H2 G' H' : Hp} {σ σ1 σ2 : L2.St} {ρ ρ1 ρ2 : En}
theorem tracked_upd {p : Addr} {o : HO} : ∀ a, H a ≠ none → upd H p o a ≠ none := fun a h => by
  by_cases e : a = p
  · subst e; rw [upd_same]; exact fun z => nomatch z
  · rw [upd_ne e]; exact h
theorem Rel.at_ (r : Rel K G H σ ρ) {i : Nat} {l : L} {v : V} (e : ρ[i]? = some (some l)) (s : σ[i]? = some (some v)) : cellR K G H v l := by
  obtain ⟨v', s', c⟩ := r.cell i l e
  rw [s] at s'; cases s'; exact c
theorem Rel.own (r : Rel K G H σ ρ) {a : Addr} (h : Own H σ ρ a) : G a = none ∧ ∃ vs, H a = some (.lst vs) := by
  obtain ⟨i, l, v, e, s, f⟩ := h
  exact f.some (r.at_ e s)
theorem OwnX.own {i : Nat} {a : Addr} (h : OwnX H σ ρ i a) : Own H σ ρ a := let ⟨j, l, v, _, e, s, f⟩ := h; ⟨j, l, v, e, s, f⟩
theorem Rel.notX (r : Rel K G H σ ρ) {i : Nat} {l : L} {v : V} {a : Addr} (e : ρ[i]? = some (some l)) (s : σ[i]? = some (some v)) (f : Fo H l v a) : ¬ OwnX H σ ρ i a := fun ⟨j, m, u, hj, e', s', f'⟩ => hj (r.apart j i m l u v a e' e s' s f' f)
theorem Stp.refl : Stp G H σ ρ G H σ ρ := ⟨Same.refl _, fun _ _ h _ => h, fun _ h => .inl h, fun _ h => .inl h, fun _ h => h, rfl, fun _ ds h => ⟨rfl, ds, h⟩, fun _ t h => ⟨rfl, t, h, fun _ _ _ f => f⟩⟩
theorem Stp.trans (r : Rel K G H σ ρ) (a : Stp G H σ ρ G1 H1 σ1 ρ1) (b : Stp G1 H1 σ1 ρ1 G2 H2 σ2 ρ2) : Stp G H σ ρ G2 H2 σ2 ρ2 := by
  refine ⟨a.g.trans b.g, fun x o h n => ?_, fun x h => ?_, fun x h => ?_, fun x h => b.tr x (a.tr x h), b.ln.trans a.ln, fun i ds h => ?_, fun i t h => ?_⟩
  · refine b.h x o (a.h x o h n) fun h1 => ?_
    rcases a.ow x h1 with z | z
    · exact n z
    · rw [h] at z; cases z
  · by_cases hx : Own H σ ρ x
    · exact .inr (.inr hx)
    · rcases b.fr x h with z | z | z
      · exact a.fr x z
      · cases q : H x with
        | none => exact .inr (.inl rfl)
        | some o => rw [a.h x o q hx] at z; cases z
      · rcases a.ow x z with z | z
        · exact .inr (.inr z)
        · exact .inr (.inl z)
  · by_cases hx : Own H σ ρ x
    · exact .inl hx
    · rcases b.ow x h with z | z
      · exact a.ow x z
      · cases q : H x with
        | none => exact .inr rfl
        | some o => rw [a.h x o q hx] at z; cases z
  · obtain ⟨e1, ds1, h1⟩ := a.bo i ds h
    obtain ⟨e2, ds2, h2⟩ := b.bo i ds1 h1
    exact ⟨e2.trans e1, ds2, h2⟩
  · obtain ⟨e1, t1, h1, f1⟩ := a.bt i t h
    obtain ⟨e2, t2, h2, f2⟩ := b.bt i t1 h1
    exact ⟨e2.trans e1, t2, h2, fun v x s f => f2 v x (e1.trans s) (f1 v x s f)⟩
/-- what the immutable part knows stays -/
theorem Rel.g_h (r : Rel K G H σ ρ) : Same G H := r.sub
/-- what the slots own is not touched -/
theorem Rel.keep (r : Rel K G H σ ρ) (sg : Same G G') (sb : Same G' H') (hg : ∀ a, Own H σ ρ a → G' a = none) (hk : ∀ a, Own H σ ρ a → H' a = H a) : Rel K G' H' σ ρ ∧ ∀ a, Own H' σ ρ a ↔ Own H σ ρ a := by
  have ck : ∀ (i : Nat) (l : L) (v : V), ρ[i]? = some (some l) → σ[i]? = some (some v) → ∀ a, Fo H l v a → H' a = H a := fun i l v e s a f => hk a ⟨i, l, v, e, s, f⟩
  refine ⟨⟨sb, r.len, fun i l e => ?_, fun i j l m v u a ei ej si sj fi fj => r.apart i j l m v u a ei ej si sj (fi.from (ck i l v ei si)) (fj.from (ck j m u ej sj))⟩, fun a => ⟨fun ⟨i, l, v, e, s, f⟩ => ⟨i, l, v, e, s, f.from (ck i l v e s)⟩, fun ⟨i, l, v, e, s, f⟩ => ⟨i, l, v, e, s, f.to (ck i l v e s)⟩⟩⟩
  obtain ⟨v, s, c⟩ := r.cell i l e
  exact ⟨v, s, cell_keep c sg (fun a f => hg a ⟨i, l, v, e, s, f⟩) (ck i l v e s)⟩
theorem ne_own (r : Rel K G H σ ρ) {p a : Addr} (hp : H p = none) (h : Own H σ ρ a) : a ≠ p := fun z => by
  obtain ⟨_, vs, q⟩ := r.own h
  rw [z, hp] at q; cases q
/-- a new immutable object -/
theorem Rel.laid (r : Rel K G H σ ρ) {p : Addr} {o : HO} (hp : H p = none) : Rel K (upd G p o) (upd H p o) σ ρ ∧ Stp G H σ ρ (upd G p o) (upd H p o) σ ρ := by
  have hg : G p = none := Same.free r.sub hp
  have sg : Same G (upd G p o) := fun b x e => by rw [upd_ne (ne_of_none e hg)]; exact e
  have sh : Same H (upd H p o) := fun b x e => by rw [upd_ne (ne_of_none e hp)]; exact e
  obtain ⟨r', ow⟩ := r.keep (G' := upd G p o) (H' := upd H p o) sg (fun b x e => by
    by_cases hb : b = p
    · subst hb; rw [upd_same] at e; rw [upd_same]; exact e
    · rw [upd_ne hb] at e; rw [upd_ne hb]; exact r.sub b x e) (fun a h => by rw [upd_ne (ne_own r hp h)]; exact (r.own h).1) (fun a h => upd_ne (ne_own r hp h))
  refine ⟨r', ⟨sg, fun a x e _ => sh a x e, fun a h => ?_, fun a h => .inl ((ow a).mp h), tracked_upd, rfl, fun i ds h => ⟨rfl, ds, h⟩, fun i t h => ⟨rfl, t, h, fun v a s f => f.to fun b q => upd_ne (ne_own r hp ⟨i, _, v, h, s, q⟩)⟩⟩⟩
  by_cases ha : a = p
  · subst ha; exact .inr (.inl hp)
  · rw [upd_ne ha] at h; exact .inl h
/-- a new mutable object, not yet at a slot -/
theorem Rel.laidM (r : Rel K G H σ ρ) {p : Addr} {o : HO} (hp : H p = none) : Rel K G (upd H p o) σ ρ ∧ Stp G H σ ρ G (upd H p o) σ ρ := by
  have sh : Same H (upd H p o) := fun b x e => by rw [upd_ne (ne_of_none e hp)]; exact e
  obtain ⟨r', ow⟩ := r.keep (G' := G) (H' := upd H p o) (Same.refl _) (fun b x e => sh b x (r.sub b x e)) (fun a h => (r.own h).1) (fun a h => upd_ne (ne_own r hp h))
  exact ⟨r', ⟨Same.refl _, fun a x e _ => sh a x e, fun a h => .inl h, fun a h => .inl ((ow a).mp h), tracked_upd, rfl, fun i ds h => ⟨rfl, ds, h⟩, fun i t h => ⟨rfl, t, h, fun v a s f => f.to fun b q => upd_ne (ne_own r hp ⟨i, _, v, h, s, q⟩)⟩⟩⟩
theorem own_upd (r : Rel K G H σ ρ) {p : Addr} {o : HO} (hp : H p = none) (a : Addr) : Own (upd H p o) σ ρ a ↔ Own H σ ρ a :=
  (r.keep (G' := G) (H' := upd H p o) (Same.refl _) (fun b x e => by rw [upd_ne (ne_of_none (r.sub b x e) hp)]; exact r.sub b x e) (fun a h => (r.own h).1) (fun a h => upd_ne (ne_own r hp h))).2 a
theorem not_own (r : Rel K G H σ ρ) {p : Addr} (hp : H p = none) : ¬ Own H σ ρ p := fun h => ne_own r hp h rfl
/-- one slot is stored into -/
theorem Rel.set1 (r : Rel K G H σ ρ) {i : Nat} {c : Option L} (hi : ρ[i]? = some c) {v' : V} {l' : L} (sg : Same G G') (sb : Same G' H') (hg : ∀ a, OwnX H σ ρ i a → G' a = none) (hk : ∀ a, OwnX H σ ρ i a → H' a = H a)
    (hc : cellR K G' H' v' l') (hd : ∀ a, Fo H' l' v' a → ¬ OwnX H σ ρ i a) : Rel K G' H' (σ.set i (some v')) (ρ.set i (some l')) ∧ ∀ a, Own H' (σ.set i (some v')) (ρ.set i (some l')) a → OwnX H σ ρ i a ∨ Fo H' l' v' a := by
  have hσ : i < σ.length := by rw [r.len]; exact (List.getElem?_eq_some_iff.mp hi).1
  have lk : ∀ j, j ≠ i → (ρ.set i (some l'))[j]? = ρ[j]? := fun j hj => List.getElem?_set_ne (Ne.symm hj)
  have ls : ∀ j, j ≠ i → (σ.set i (some v'))[j]? = σ[j]? := fun j hj => List.getElem?_set_ne (Ne.symm hj)
  have lki : (ρ.set i (some l'))[i]? = some (some l') := List.getElem?_set_self (List.getElem?_eq_some_iff.mp hi).1
  have lsi : (σ.set i (some v'))[i]? = some (some v') := List.getElem?_set_self hσ
  have ck : ∀ (j : Nat) (l : L) (v : V), j ≠ i → ρ[j]? = some (some l) → σ[j]? = some (some v) → ∀ a, Fo H l v a → H' a = H a := fun j l v hj e s a f => hk a ⟨j, l, v, hj, e, s, f⟩
  refine ⟨⟨sb, by rw [List.length_set, List.length_set]; exact r.len, fun j l e => ?_, fun j k l m v u a ej ek sj sk fj fk => ?_⟩, fun a ⟨j, l, v, e, s, f⟩ => ?_⟩
  · by_cases hj : j = i
    · subst hj; rw [lki] at e; cases e; exact ⟨v', lsi, hc⟩
    · rw [lk j hj] at e
      obtain ⟨v, s, c⟩ := r.cell j l e
      exact ⟨v, by rw [ls j hj]; exact s, cell_keep c sg (fun a f => hg a ⟨j, l, v, hj, e, s, f⟩) (ck j l v hj e s)⟩
  · by_cases hj : j = i
    · by_cases hk' : k = i
      · rw [hj, hk']
      · subst hj
        rw [lki] at ej; cases ej
        rw [lsi] at sj; cases sj
        rw [lk k hk'] at ek; rw [ls k hk'] at sk
        exact absurd ⟨k, m, u, hk', ek, sk, fk.from (ck k m u hk' ek sk)⟩ (hd a fj)
    · rw [lk j hj] at ej; rw [ls j hj] at sj
      by_cases hk' : k = i
      · subst hk'
        rw [lki] at ek; cases ek
        rw [lsi] at sk; cases sk
        exact absurd ⟨j, l, v, hj, ej, sj, fj.from (ck j l v hj ej sj)⟩ (hd a fk)
      · rw [lk k hk'] at ek; rw [ls k hk'] at sk
        exact r.apart j k l m v u a ej ek sj sk (fj.from (ck j l v hj ej sj)) (fk.from (ck k m u hk' ek sk))
  · by_cases hj : j = i
    · subst hj; rw [lki] at e; cases e; rw [lsi] at s; cases s; exact .inr f
    · rw [lk j hj] at e; rw [ls j hj] at s
      exact .inl ⟨j, l, v, hj, e, s, f.from (ck j l v hj e s)⟩
theorem set_id {α : Type} {l : List α} {i : Nat} {a : α} (h : l[i]? = some a) : l.set i a = l := by
  obtain ⟨hi, e⟩ := List.getElem?_eq_some_iff.mp h
  rw [← e]; exact List.set_getElem_self hi
end
end Dn
namespace Dn
open PySem PySem.Spec PyProof.Rows L2

theorem PE.imp {X : Cx} {e : Expr} {t t' : TE} (h : PE X e t) (i : ∀ σ H Q, t' σ H Q → t σ H Q) : PE X e t' := ⟨fun pins s σ H Q I q => h.run pins s σ H Q I (i _ _ _ q)⟩
theorem PT.imp {X : Cx} {e : Expr} {t t' : TT} (h : PT X e t) (i : ∀ σ H Q, t' σ H Q → t σ H Q) : PT X e t' := ⟨fun pins s σ H Q I q => h.run pins s σ H Q I (i _ _ _ q)⟩
theorem PW.imp {X : Cx} {e : Expr} {t t' : TT} (h : PW X e t) (i : ∀ σ H Q, t' σ H Q → t σ H Q) : PW X e t' := ⟨fun w pins s σ H Q I q => h.run w pins s σ H Q I (i _ _ _ q)⟩
theorem PA.imp {X : Cx} {es : List Expr} {t t' : TA} (h : PA X es t) (i : ∀ σ H Q, t' σ H Q → t σ H Q) : PA X es t' := ⟨fun p pins s σ H Q I q => h.run p pins s σ H Q I (i _ _ _ q)⟩
theorem PS.imp {X : Cx} {e : Stmt} {t t' : TS} (h : PS X e t) (i : ∀ D σ H, t' D σ H → t D σ H) : PS X e t' := ⟨fun pins s σ H D I q => h.run pins s σ H D I (i _ _ _ q)⟩
theorem PSs.imp {X : Cx} {e : List Stmt} {t t' : TS} (h : PSs X e t) (i : ∀ D σ H, t' D σ H → t D σ H) : PSs X e t' := ⟨fun pins s σ H D I q => h.run pins s σ H D I (i _ _ _ q)⟩
theorem PO.imp {X : Cx} {e : Option Expr} {t t' : TO} (h : PO X e t) (i : ∀ σ H Q, t' σ H Q → t σ H Q) : PO X e t' := ⟨fun pins s σ H Q I q => h.run pins s σ H Q I (i _ _ _ q)⟩

/-! ### what is wanted: of exceptions too -/
structure Wh where
  ca : String → Option Value
  W : WX
/-- an exception as it lies -/
structure ExR (K : PySem.W.Frag) (w : Wh) (G H : Hp) (c : Exn) (cls : Value) (dx : Option Addr) : Prop where
  hc : w.ca c.cls = some cls
  hn : c.arg = none → dx = none ∨ ∃ n, cls = Value.type n
  hs : ∀ f d, c.arg = some (f, d) → ∃ a v, dx = some a ∧ G a = some (.xd [(f, v)]) ∧ DR K G v d
section
variable {α β : Type}
def Fn (K : PySem.W.Frag) (w : Wh) (G H : Hp) (σ : L2.St) (ρ : En) (r : R α) (P : Hp → Hp → En → α → Prop) : Prop :=
  match r with
  | .no => False
  | .ok a ρ' => ∀ G' H', Rel K G' H' σ ρ' → Stp G H σ ρ G' H' σ ρ' → P G' H' ρ' a
  | .ex c ρ' => ∀ G' H' cls dx, Rel K G' H' σ ρ' → Stp G H σ ρ G' H' σ ρ' → ExR K w G' H' c cls dx → w.W cls dx σ H'
variable {K : PySem.W.Frag} {w : Wh} {G H : Hp} {σ : L2.St} {ρ : En}
theorem Fn.imp {r : R α} {P P' : Hp → Hp → En → α → Prop} (h : Fn K w G H σ ρ r P) (i : ∀ G' H' ρ' a, P G' H' ρ' a → P' G' H' ρ' a) : Fn K w G H σ ρ r P' := by
  cases r with
  | no => exact h
  | ok a ρ' => exact fun G' H' r s => i _ _ _ _ (h G' H' r s)
  | ex c ρ' => exact h
theorem Fn.bind {r : R α} {g : α → En → R β} {P : Hp → Hp → En → β → Prop} (rel : Rel K G H σ ρ) (h : Fn K w G H σ ρ (r.bind g) P) :
    Fn K w G H σ ρ r (fun G1 H1 ρ1 a => Rel K G1 H1 σ ρ1 ∧ Stp G H σ ρ G1 H1 σ ρ1 ∧ Fn K w G1 H1 σ ρ1 (g a ρ1) P) := by
  cases r with
  | no => exact h
  | ex c ρ' => exact h
  | ok a ρ' =>
    intro G1 H1 r1 s1
    refine ⟨r1, s1, ?_⟩
    have h' : Fn K w G H σ ρ (g a ρ') P := h
    cases q : g a ρ' with
    | no => rw [q] at h'; exact h'
    | ex c ρ2 => rw [q] at h'; exact fun G' H' cls dx r2 s2 => h' G' H' cls dx r2 (s1.trans rel s2)
    | ok b ρ2 => rw [q] at h'; exact fun G' H' r2 s2 => h' G' H' r2 (s1.trans rel s2)
def lift (o : Option α) (ρ : En) : R α := match o with
  | some a => .ok a ρ
  | none => .no
theorem Fn.lift {o : Option α} {P : Hp → Hp → En → α → Prop} (h : Fn K w G H σ ρ (lift o ρ) P) : ∃ a, o = some a ∧ ∀ G' H', Rel K G' H' σ ρ → Stp G H σ ρ G' H' σ ρ → P G' H' ρ a := by
  cases o with
  | none => exact h.elim
  | some a => exact ⟨a, rfl, h⟩
theorem Fn.ok {a : α} {P : Hp → Hp → En → α → Prop} (h : Fn K w G H σ ρ (.ok a ρ) P) (rel : Rel K G H σ ρ) : P G H ρ a := h G H rel Stp.refl
end

/-! ### the judgements -/
/-- what is wanted of a value -/
abbrev QD (K : PySem.W.Frag) (Q : VK) : Hp → Hp → En → D → Prop := fun G' H' _ d => ∀ v, DR K G' v d → Q v H'
abbrev QB (Q : Bool → Hp → Prop) : Hp → Hp → En → Bool → Prop := fun _ H' _ b => Q b H'
/-- a new list, nobody else's -/
structure NewL (K : PySem.W.Frag) (H : Hp) (σ : L2.St) (G' H' : Hp) (ρ' : En) (p : Addr) (ds : List D) : Prop where
  g : G' p = none
  own : ¬ Own H' σ ρ' p
  here : ∃ vs, H' p = some (.lst vs) ∧ DRs K G' vs ds
  new : H p = none
abbrev QN (K : PySem.W.Frag) (H : Hp) (σ : L2.St) (Q : VK) : Hp → Hp → En → List D → Prop := fun G' H' ρ' ds => ∀ p, NewL K H σ G' H' ρ' p ds → Q (.ref p) H'
/-- an argument: a value, or a slot lent -/
inductive AV where
  | im (d : D)
  | sl (i : Nat)
inductive AVs (K : PySem.W.Frag) (G : Hp) (σ : L2.St) : List V → List AV → Prop
  | nil : AVs K G σ [] []
  | im {v : V} {vs : List V} {d : D} {as : List AV} : DR K G v d → AVs K G σ vs as → AVs K G σ (v :: vs) (.im d :: as)
  | sl {v : V} {vs : List V} {i : Nat} {as : List AV} : σ[i]? = some (some v) → AVs K G σ vs as → AVs K G σ (v :: vs) (.sl i :: as)
abbrev QA (K : PySem.W.Frag) (σ : L2.St) (Q : List V → Hp → Prop) : Hp → Hp → En → List AV → Prop := fun G' H' _ as => ∀ vs, AVs K G' σ vs as → Q vs H'
abbrev QO (Q : Option Int → Hp → Prop) : Hp → Hp → En → Option Int → Prop := fun _ H' _ b => Q b H'

abbrev teD (K : PySem.W.Frag) (w : Wh) (f : En → R D) : TE := fun σ H Q => ∃ G ρ, Rel K G H σ ρ ∧ Fn K w G H σ ρ (f ρ) (QD K Q)
abbrev teN (K : PySem.W.Frag) (w : Wh) (f : En → R (List D)) : TE := fun σ H Q => ∃ G ρ, Rel K G H σ ρ ∧ Fn K w G H σ ρ (f ρ) (QN K H σ Q)
abbrev teB (K : PySem.W.Frag) (w : Wh) (f : En → R Bool) : TT := fun σ H Q => ∃ G ρ, Rel K G H σ ρ ∧ Fn K w G H σ ρ (f ρ) (QB Q)
abbrev teA (K : PySem.W.Frag) (w : Wh) (f : En → R (List AV)) : TA := fun σ H Q => ∃ G ρ, Rel K G H σ ρ ∧ Fn K w G H σ ρ (f ρ) (QA K σ Q)
abbrev teO (K : PySem.W.Frag) (w : Wh) (f : En → R (Option Int)) : TO := fun σ H Q => ∃ G ρ, Rel K G H σ ρ ∧ Fn K w G H σ ρ (f ρ) (QO Q)
abbrev VE (X : Cx) (w : Wh) (e : Expr) (f : En → R D) : Prop := PE X e (teD X.K w f)
abbrev VN (X : Cx) (w : Wh) (e : Expr) (f : En → R (List D)) : Prop := PE X e (teN X.K w f)
abbrev VT (X : Cx) (w : Wh) (e : Expr) (f : En → R Bool) : Prop := PT X e (teB X.K w f)
abbrev VW (X : Cx) (w : Wh) (e : Expr) (f : En → R Bool) : Prop := PW X e (teB X.K w f)
abbrev VA (X : Cx) (w : Wh) (es : List Expr) (f : En → R (List AV)) : Prop := PA X es (teA X.K w f)
abbrev VO (X : Cx) (w : Wh) (e : Option Expr) (f : En → R (Option Int)) : Prop := PO X e (teO X.K w f)

/-! ### names and constants -/
def frz (i : Nat) (ds : List D) (ρ : En) : En := ρ.set i (some (.im (.list ds)))
def dVar (i : Nat) : En → R D := fun ρ => match ρ[i]? with
  | some (some (.im d)) => .ok d ρ
  | some (some (.ow ds)) => .ok (.list ds) (frz i ds ρ)
  | _ => .no
def dC (d : D) : En → R D := fun ρ => .ok d ρ
section
variable {K : PySem.W.Frag} {G H : Hp} {σ : L2.St} {ρ : En}
/-- a slot's list becomes a datum -/
theorem Rel.freeze (r : Rel K G H σ ρ) {i : Nat} {ds : List D} (h : ρ[i]? = some (some (L.ow ds))) :
    ∃ G' o, σ[i]? = some (some (V.ref o)) ∧ Rel K G' H σ (frz i ds ρ) ∧ Stp G H σ ρ G' H σ (frz i ds ρ) ∧ DR K G' (.ref o) (.list ds) := by
  obtain ⟨v, s, c⟩ := r.cell i _ h
  obtain ⟨o, vs, rfl, g, q, hd⟩ := c
  have sg : Same G (upd G o (.lst vs)) := fun b x e => by rw [upd_ne (ne_of_none e g)]; exact e
  have hDR : DR K (upd G o (.lst vs)) (.ref o) (.list ds) := .lst (.inl (.inl upd_same)) (DRs.mono sg hd)
  have own_o : Own H σ ρ o := ⟨i, _, _, h, s, rfl⟩
  obtain ⟨r', ow⟩ := r.set1 (G' := upd G o (.lst vs)) (H' := H) (v' := .ref o) (l' := .im (.list ds)) h sg (fun b x e => by
    by_cases hb : b = o
    · subst hb; rw [upd_same] at e; cases e; exact q
    · rw [upd_ne hb] at e; exact r.sub b x e) (fun a ha => by
    have : a ≠ o := fun z => by subst z; exact r.notX h s rfl ha
    rw [upd_ne this]; exact (r.own ha.own).1) (fun a ha => rfl) hDR (fun a f => f.elim)
  rw [set_id s] at r' ow
  refine ⟨upd G o (.lst vs), o, s, r', ⟨sg, fun a x e _ => e, fun a ha => ?_, fun a ha => ?_, fun _ h => h, by unfold frz; rw [List.length_set], fun j es e => ⟨rfl, es, ?_⟩, fun j t e => ⟨rfl, t, ?_, fun _ _ _ f => f⟩⟩, hDR⟩
  · by_cases hb : a = o
    · subst hb; exact .inr (.inr own_o)
    · rw [upd_ne hb] at ha; exact .inl ha
  · rcases ow a ha with z | z
    · exact .inl z.own
    · exact z.elim
  · have hj : j ≠ i := fun z => by subst z; rw [h] at e; cases e
    unfold frz; rw [List.getElem?_set_ne (Ne.symm hj)]; exact e
  · have hj : j ≠ i := fun z => by subst z; rw [h] at e; cases e
    unfold frz; rw [List.getElem?_set_ne (Ne.symm hj)]; exact e
end
section
variable {X : Cx} {w : Wh}
theorem ve_var (i : Nat) {x : Str} {pos : Pos} (hN : X.N[i]? = some x := by rfl) (hv : Vis X.env.scope x := by first | exact Or.inl rfl | exact Or.inr (Or.inl rfl) | exact Or.inr (Or.inr rfl)) (hd : (x == ("__debug__" : Str)) = false := by decide)
    (hcd : (x == ("__classdict__" : Str)) = false := by decide) : VE X w (.Name x pos) (dVar i) := by
  refine PE.imp (pe_var hN hv hd hcd) fun σ H Q ⟨G, ρ, r, h⟩ => ?_
  unfold dVar at h
  cases e : ρ[i]? with
  | none => rw [e] at h; exact h.elim
  | some o =>
    rw [e] at h
    cases o with
    | none => exact h.elim
    | some l =>
      cases l with
      | im d =>
        obtain ⟨v, s, c⟩ := r.cell i _ e
        exact ⟨v, s, h.ok r v c⟩
      | ow ds =>
        obtain ⟨G', o, s, r', st, hd⟩ := r.freeze e
        exact ⟨.ref o, s, h G' H r' st _ hd⟩
      | _ => exact h.elim
theorem ve_int {i : Int} {j : Nat} {pos : Pos} : VE X w (.Constant (.int i) j pos) (dC (.int i)) := PE.imp pe_int fun _ _ _ ⟨_, _, r, h⟩ => h.ok r _ (.int i)
end
end Dn
namespace Dn
open PySem PySem.Spec PyProof.Rows L2

/-! ### what operators do to data -/
def gAdd : D → D → Option D
  | .int i, .int j => some (.int (i + j))
  | .str a, .str b => if a.length + b.length ≤ sizeLine then some (.str (a ++ b)) else none
  | .list a, .list b => if a.length + b.length ≤ sizeLine then some (.list (a ++ b)) else none
  | .tuple a, .tuple b => if a.length + b.length ≤ sizeLine then some (.tuple (a ++ b)) else none
  | _, _ => none
def gSub : D → D → Option D
  | .int i, .int j => some (.int (i - j))
  | _, _ => none
def gMul : D → D → Option D
  | .int i, .int j => if i.natAbs.log2 + j.natAbs.log2 < 100000000 then some (.int (i * j)) else none
  | _, _ => none
def gFdiv : D → D → Option D
  | .int i, .int j => if j ≠ 0 ∧ j.natAbs.log2 < 9000 then some (.int (i.fdiv j)) else none
  | _, _ => none
def gMod : D → D → Option D
  | .int i, .int j => if j ≠ 0 then some (.int (i.fmod j)) else none
  | _, _ => none
def gPow : D → D → Option D
  | .int i, .int j => if 0 ≤ j ∧ (Builtin.Int.intBits i : Int) * j ≤ 2 ^ 27 then some (.int (i ^ j.toNat)) else none
  | _, _ => none
def OpS (K : PySem.W.Frag) (r : R2) (g : D → D → Option D) : Prop :=
  ∀ (w : Wh) (x y : V) (dx dy d : D) (G H : Hp) (σ : L2.St) (ρ : En) (Q : VK), Rel K G H σ ρ → DR K G x dx → DR K G y dy → g dx dy = some d →
    (∀ G' H', Rel K G' H' σ ρ → Stp G H σ ρ G' H' σ ρ → ∀ v, DR K G' v d → Q v H') → r x y H Q
def dOp (g : D → D → Option D) (fa fb : En → R D) : En → R D := fun ρ => (fa ρ).bind fun x ρ1 => (fb ρ1).bind fun y ρ2 => lift (g x y) ρ2
section
variable {K : PySem.W.Frag} {G H : Hp} {σ : L2.St} {ρ : En}
/-- a new immutable thing is handed on -/
theorem hand_new (r : Rel K G H σ ρ) {Q : VK} {d : D} (q : ∀ G' H', Rel K G' H' σ ρ → Stp G H σ ρ G' H' σ ρ → ∀ v, DR K G' v d → Q v H') {o : HO}
    (mk : ∀ p, H p = none → DR K (upd G p o) (.ref p) d) : ∀ p, H p = none → Q (.ref p) (upd H p o) := fun p hp => by
  obtain ⟨r', s'⟩ := r.laid (o := o) hp
  exact q _ _ r' s' _ (mk p hp)
theorem same_laid (r : Rel K G H σ ρ) {p : Addr} {o : HO} (hp : H p = none) : Same G (upd G p o) := (r.laid (o := o) hp).2.g
theorem DR.newT (r : Rel K G H σ ρ) {vs : List V} {ds : List D} (h : DRs K G vs ds) : ∀ p, H p = none → DR K (upd G p (.tup vs)) (.ref p) (.tuple ds) := fun p hp =>
  .tup (.inl (.inl upd_same)) (h.mono (same_laid r hp))
theorem DR.newL (r : Rel K G H σ ρ) {vs : List V} {ds : List D} (h : DRs K G vs ds) : ∀ p, H p = none → DR K (upd G p (.lst vs)) (.ref p) (.list ds) := fun p hp =>
  .lst (.inl (.inl upd_same)) (h.mono (same_laid r hp))
end
section
variable {X : Cx} {w : Wh}
/-- lists that are read -/
def rCatR (K : PySem.W.Frag) : R2 := fun x y H Q => ∃ l b xs zs, x = .ref l ∧ y = .ref b ∧ SqL K H l xs ∧ SqL K H b zs ∧ xs.length + zs.length ≤ sizeLine ∧ ∀ p, H p = none → Q (.ref p) (upd H p (.lst (xs ++ zs)))
theorem op_catR : OpR X (binaryOp .Add) (rCatR X.K) := by
  intro pins s σ H x y v u Q I rx ry h
  obtain ⟨l, b, xs, zs, rfl, rfl, hH, hB, hz, q⟩ := h
  cases rx
  cases ry
  obtain ⟨its, r, ⟨⟨cls, dd, data, sl⟩, n, ho, hc, hdn, hd⟩, z⟩ := I.list hH
  obtain ⟨its2, r2, ⟨⟨cls2, dd2, data2, sl2⟩, n2, ho2, hc2, hdn2, hd2⟩, z2⟩ := I.list hB
  simp only at hc hd hc2 hd2
  subst hc hd hc2 hd2
  have hl := r.length
  have hl2 := r2.length
  have ea : its.toArray ++ its2.toArray = (its ++ its2).toArray := by simp
  refine concat_meets ⟨_, ho, rfl⟩ ⟨_, ho2, rfl⟩ noFill_list_add seq_list_add PySem.F.slot_list_add PySem.F.entry_list_add (PySem.F.args_list_add_2 _ _) (list_addW l b its.toArray its2.toArray n n2 dd dd2 sl sl2 (by rw [List.size_toArray, List.size_toArray]; omega)) ⟨ho, ho2, ?_⟩
  rw [ea]
  exact ⟨.ref _, _, I.lnew (t' := s.toks) (r.append r2) (by rw [List.length_append]; omega), rfl, q _ I.fresh⟩
def rAddA (K : PySem.W.Frag) : R2 := fun x y H Q => (∃ i j, x = .int i ∧ y = .int j ∧ Q (.int (i + j)) H) ∨ (∃ i j, x = .str i ∧ y = .str j ∧ i.length + j.length ≤ sizeLine ∧ Q (.str (i ++ j)) H) ∨ rCatR K x y H Q ∨ rCatA K x y H Q
theorem op_addA : OpR X (binaryOp .Add) (rAddA X.K) := op_add.or (op_add_str.or (op_catR.or op_catA))
theorem os_add : OpS X.K (rAddA X.K) gAdd := by
  intro w x y dx dy d G H σ ρ Q r hx hy e q
  cases hx with
  | int i =>
    cases hy with
    | int j => cases e; exact .inl ⟨i, j, rfl, rfl, q _ _ r Stp.refl _ (.int _)⟩
    | _ => cases e
  | str a =>
    cases hy with
    | str b =>
      simp only [gAdd] at e
      split at e
      · cases e; exact .inr (.inl ⟨a, b, rfl, rfl, ‹_›, q _ _ r Stp.refl _ (.str _)⟩)
      · cases e
    | _ => cases e
  | @lst a xs ds h hs =>
    cases hy with
    | @lst b ys es h' hs' =>
      simp only [gAdd] at e
      split at e
      · rename_i hz
        cases e
        refine .inr (.inr (.inl ⟨a, b, xs, ys, rfl, rfl, r.sub.seq h, r.sub.seq h', ?_, hand_new r q (DR.newL r (hs.append hs'))⟩))
        rw [hs.length, hs'.length]; exact hz
      · cases e
    | _ => cases e
  | @tup a xs ds h hs =>
    cases hy with
    | @tup b ys es h' hs' =>
      simp only [gAdd] at e
      split at e
      · rename_i hz
        cases e
        refine .inr (.inr (.inr ⟨a, b, xs, ys, rfl, rfl, Same.tup r.sub h, Same.tup r.sub h', ?_, fun hn => ?_, fun _ hn => ?_, fun _ _ => hand_new r q (DR.newT r (hs.append hs'))⟩))
        · rw [hs.length, hs'.length]; exact hz
        · subst hn; cases hs
          rw [List.nil_append] at q
          exact q _ _ r Stp.refl _ (.tup h' hs')
        · subst hn; cases hs'
          rw [List.append_nil] at q
          exact q _ _ r Stp.refl _ (.tup h hs)
      · cases e
    | _ => cases e
  | _ => cases e
/-- ints alone -/
theorem os_int {C : Int → Int → Prop} {g : Int → Int → Int} {gd : D → D → Option D} {K : PySem.W.Frag} (hg : ∀ a b d, gd a b = some d → ∃ i j, a = .int i ∧ b = .int j ∧ C i j ∧ d = .int (g i j)) : OpS K (rI C fun i j => .int (g i j)) gd := by
  intro w x y dx dy d G H σ ρ Q r hx hy e q
  obtain ⟨i, j, rfl, rfl, c, rfl⟩ := hg _ _ _ e
  cases hx
  cases hy
  exact ⟨i, j, rfl, rfl, c, q _ _ r Stp.refl _ (.int _)⟩
theorem op_subA : OpR X (binaryOp .Sub) (rI (fun _ _ => True) fun i j => .int (i - j)) := opI fun _ _ _ _ _ _ _ _ q => sub_int q
theorem os_sub {K : PySem.W.Frag} : OpS K (rI (fun _ _ => True) fun i j => .int (i - j)) gSub := os_int fun a b d e => by
  cases a <;> cases b <;> first | (cases e; done) | (cases e; exact ⟨_, _, rfl, rfl, trivial, rfl⟩)
theorem mulX_log {i j : Int} (h : i.natAbs.log2 + j.natAbs.log2 < 100000000) : CMulX i j :=
  mulx_ok (a := i.natAbs.log2 + 1) (b := j.natAbs.log2 + 1) Nat.lt_log2_self Nat.lt_log2_self (by omega)
theorem os_mul {K : PySem.W.Frag} : OpS K (rI CMulX fun i j => .int (i * j)) gMul := os_int fun a b d e => by
  cases a <;> cases b <;> first | (cases e; done) | (simp only [gMul] at e; split at e <;> cases e; exact ⟨_, _, rfl, rfl, mulX_log ‹_›, rfl⟩)
def CDivX (_ j : Int) : Prop := j ≠ 0 ∧ j.natAbs.log2 < 9000
theorem op_fdivX : OpR X (binaryOp .FloorDiv) (rI CDivX fun i j => .int (i.fdiv j)) := opI fun _ _ _ _ _ _ _ hc q => floordiv_int hc.1 q (.inl (PyProof.noPylong_of_log2 hc.2))
theorem os_fdiv {K : PySem.W.Frag} : OpS K (rI CDivX fun i j => .int (i.fdiv j)) gFdiv := os_int fun a b d e => by
  cases a <;> cases b <;> first | (cases e; done) | (simp only [gFdiv] at e; split at e <;> cases e; exact ⟨_, _, rfl, rfl, ‹_›, rfl⟩)
theorem os_mod {K : PySem.W.Frag} : OpS K (rI (fun _ j => j ≠ 0) fun i j => .int (i.fmod j)) gMod := os_int fun a b d e => by
  cases a <;> cases b <;> first | (cases e; done) | (simp only [gMod] at e; split at e <;> cases e; exact ⟨_, _, rfl, rfl, ‹_›, rfl⟩)
theorem op_powB : OpR X (binaryOp .Pow) (rI (fun i j => 0 ≤ j ∧ (Builtin.Int.intBits i : Int) * j ≤ 2 ^ 27) fun i j => .int (i ^ j.toNat)) := opI fun _ _ _ _ _ _ _ hc q => pow_int hc.1 hc.2 q
theorem os_pow {K : PySem.W.Frag} : OpS K (rI (fun i j => 0 ≤ j ∧ (Builtin.Int.intBits i : Int) * j ≤ 2 ^ 27) fun i j => .int (i ^ j.toNat)) gPow := os_int fun a b d e => by
  cases a <;> cases b <;> first | (cases e; done) | (simp only [gPow] at e; split at e <;> cases e; exact ⟨_, _, rfl, rfl, ‹_›, rfl⟩)

theorem ve_op {op : Operator} {r : R2} {g : D → D → Option D} {a b : Expr} {fa fb : En → R D} {pos : Pos} (ho : OpR X (binaryOp op) r) (hs : OpS X.K r g) (ha : VE X w a fa) (hb : VE X w b fb) : VE X w (.BinOp a op b pos) (dOp g fa fb) := by
  refine PE.imp (pe_op ho ha hb) fun σ H Q ⟨G, ρ, rel, h⟩ => ⟨G, ρ, rel, (Fn.bind rel h).imp fun G1 H1 ρ1 dx ⟨r1, s1, h1⟩ x hx => ⟨G1, ρ1, r1, (Fn.bind r1 h1).imp fun G2 H2 ρ2 dy ⟨r2, s2, h2⟩ y hy => ?_⟩⟩
  obtain ⟨d, e, q⟩ := Fn.lift h2
  exact hs w x y dx dy d G2 H2 σ ρ2 Q r2 (hx.mono s2.g) hy e q
theorem ve_add {a b : Expr} {fa fb : En → R D} {pos : Pos} (ha : VE X w a fa) (hb : VE X w b fb) : VE X w (.BinOp a .Add b pos) (dOp gAdd fa fb) := ve_op op_addA os_add ha hb
theorem ve_sub {a b : Expr} {fa fb : En → R D} {pos : Pos} (ha : VE X w a fa) (hb : VE X w b fb) : VE X w (.BinOp a .Sub b pos) (dOp gSub fa fb) := ve_op op_subA os_sub ha hb
theorem ve_mul {a b : Expr} {fa fb : En → R D} {pos : Pos} (ha : VE X w a fa) (hb : VE X w b fb) : VE X w (.BinOp a .Mult b pos) (dOp gMul fa fb) := ve_op op_mulX os_mul ha hb
theorem ve_fdiv {a b : Expr} {fa fb : En → R D} {pos : Pos} (ha : VE X w a fa) (hb : VE X w b fb) : VE X w (.BinOp a .FloorDiv b pos) (dOp gFdiv fa fb) := ve_op op_fdivX os_fdiv ha hb
theorem ve_mod {a b : Expr} {fa fb : En → R D} {pos : Pos} (ha : VE X w a fa) (hb : VE X w b fb) : VE X w (.BinOp a .Mod b pos) (dOp gMod fa fb) := ve_op op_modN os_mod ha hb
theorem ve_pow {a b : Expr} {fa fb : En → R D} {pos : Pos} (ha : VE X w a fa) (hb : VE X w b fb) : VE X w (.BinOp a .Pow b pos) (dOp gPow fa fb) := ve_op op_powB os_pow ha hb

/-! ### one-place operators -/
def gNeg : D → Option D
  | .int i => some (.int (-i))
  | _ => none
def d1 (g : D → Option D) (fa : En → R D) : En → R D := fun ρ => (fa ρ).bind fun x ρ1 => lift (g x) ρ1
theorem ve_neg {a : Expr} {fa : En → R D} {pos : Pos} (ha : VE X w a fa) : VE X w (.UnaryOp .USub a pos) (d1 gNeg fa) := by
  refine PE.imp (pe_un un_neg ha) fun σ H Q ⟨G, ρ, rel, h⟩ => ⟨G, ρ, rel, (Fn.bind rel h).imp fun G1 H1 ρ1 dx ⟨r1, s1, h1⟩ x hx => ?_⟩
  obtain ⟨d, e, q⟩ := Fn.lift h1
  cases hx with
  | int i => cases e; exact ⟨i, rfl, q _ _ r1 Stp.refl _ (.int _)⟩
  | _ => cases e

/-! ### comparisons -/
def shp (d : D) : Bool := SeqAt.shaped d
def gEq (a b : D) : Option Bool := if shp a = true ∧ shp b = true then some (PyData.eqv a b) else none
def gNe (a b : D) : Option Bool := (gEq a b).map (!·)
def gLt : D → D → Option Bool
  | .int i, .int j => some (decide (i < j))
  | .str a, .str b => some (decide (a.cps.toList < b.cps.toList))
  | _, _ => none
def gLe : D → D → Option Bool
  | .int i, .int j => some (decide (i ≤ j))
  | .str a, .str b => some (!decide (b.cps.toList < a.cps.toList))
  | _, _ => none
def gGt : D → D → Option Bool
  | .int i, .int j => some (decide (j < i))
  | .str a, .str b => some (decide (b.cps.toList < a.cps.toList))
  | _, _ => none
def gGe : D → D → Option Bool
  | .int i, .int j => some (decide (j ≤ i))
  | .str a, .str b => some (!decide (a.cps.toList < b.cps.toList))
  | _, _ => none
def gIs : D → D → Option Bool
  | x, .none => some (match x with | .none => true | _ => false)
  | .bool a, .bool b => some (decide (a = b))
  | .none, .bool _ => some false
  | .tuple _, .bool _ => some false
  | .list _, .bool _ => some false
  | _, _ => none
def gIsNot (a b : D) : Option Bool := (gIs a b).map (!·)
def OpB (K : PySem.W.Frag) (r : R2) (g : D → D → Option Bool) : Prop :=
  ∀ (x y : V) (dx dy : D) (b : Bool) (H : Hp) (Q : VK), DR K H x dx → DR K H y dy → g dx dy = some b → Q (.bl b) H → r x y H Q
def dCmp (g : D → D → Option Bool) (fa fb : En → R D) : En → R Bool := fun ρ => (fa ρ).bind fun x ρ1 => (fb ρ1).bind fun y ρ2 => lift (g x y) ρ2
/-- a truth as a value -/
def dB (f : En → R Bool) : En → R D := fun ρ => (f ρ).bind fun b ρ1 => .ok (.bool b) ρ1
theorem vt_cmp {op : CmpOp} {r : R2} {g : D → D → Option Bool} {a b : Expr} {fa fb : En → R D} {pos : Pos} (ho : OpR X (compareOp op) r) (hs : OpB X.K r g) (ha : VE X w a fa) (hb : VE X w b fb) (hm : behindInMarks op b = false) :
    VT X w (.Compare a [op] [b] pos) (dCmp g fa fb) := by
  refine PT.imp (pt_cmpR ho ha hb hm) fun σ H Q ⟨G, ρ, rel, h⟩ => ⟨G, ρ, rel, (Fn.bind rel h).imp fun G1 H1 ρ1 dx ⟨r1, s1, h1⟩ x hx => ⟨G1, ρ1, r1, (Fn.bind r1 h1).imp fun G2 H2 ρ2 dy ⟨r2, s2, h2⟩ y hy => ?_⟩⟩
  obtain ⟨d, e, q⟩ := Fn.lift h2
  exact hs x y dx dy d H2 _ ((hx.mono s2.g).mono r2.sub) (hy.mono r2.sub) e ⟨d, rfl, q _ _ r2 Stp.refl⟩
theorem ve_cmp {op : CmpOp} {r : R2} {g : D → D → Option Bool} {a b : Expr} {fa fb : En → R D} {pos : Pos} (ho : OpR X (compareOp op) r) (hs : OpB X.K r g) (ha : VE X w a fa) (hb : VE X w b fb) (hm : behindInMarks op b = false) :
    VE X w (.Compare a [op] [b] pos) (dB (dCmp g fa fb)) := by
  refine PE.imp (pe_cmpR ho ha hb hm) fun σ H Q ⟨G, ρ, rel, h⟩ => ⟨G, ρ, rel, (Fn.bind rel (Fn.bind rel h |>.imp (P' := fun G1 H1 ρ1 (b : Bool) => ∀ v, DR X.K G1 v (.bool b) → Q v H1) (fun G1 H1 ρ1 b ⟨r1, s1, h1⟩ => fun v hv => h1.ok r1 v hv))).imp fun G1 H1 ρ1 dx ⟨r1, s1, h1⟩ x hx => ⟨G1, ρ1, r1, (Fn.bind r1 h1).imp fun G2 H2 ρ2 dy ⟨r2, s2, h2⟩ y hy => ?_⟩⟩
  obtain ⟨d, e, q⟩ := Fn.lift h2
  exact hs x y dx dy d H2 _ ((hx.mono s2.g).mono r2.sub) (hy.mono r2.sub) e (q _ _ r2 Stp.refl _ (.bl d))
end
end Dn
namespace Dn
open PySem PySem.Spec PyProof.Rows L2

/-! ### data that == and in take -/
section
variable {K : PySem.W.Frag} {H : Hp}
mutual
theorem DR.dp : ∀ {d : PyData} {v : V}, DR K H v d → d.canLay0 = true → Dp K H v d
  | _, _, .non, _ => .non
  | _, _, .bl b, _ => .bl b
  | _, _, .int i, _ => .int i
  | _, _, .str x, _ => .str x
  | _, _, .lst h hs, c => .lst h (DRs.dp hs (by simpa [PyData.canLay0] using c))
  | _, _, .tup h hs, c => .tup h (DRs.dp hs (by simpa [PyData.canLay0] using c))
  | _, _, .dic _ _, c => by simp [PyData.canLay0] at c
theorem DRs.dp : ∀ {ds : List PyData} {vs : List V}, DRs K H vs ds → PyData.canLayAll0 ds = true → DpAll K H vs ds
  | _, _, .nil, _ => .nil
  | _, _, .cons h t, c => by
    have c' := c
    simp only [PyData.canLayAll0, Bool.and_eq_true] at c'
    exact .cons (DR.dp h c'.1) (DRs.dp t c'.2)
end
theorem shp_can {d : PyData} (h : shp d = true) : d.canLay0 = true := SeqAt.canLay_of_shaped h
end
theorem room_in_shaped' {A : Around} {xs : List PyData} {d : PyData} (hd : shp d = true) (hu : A.units + 65 < cLine) : A.units + 1 + min (PyData.depthAll xs) d.depth < cLine := by
  have h1 : d.depth ≤ 64 := SeqAt.depth_of_shaped hd
  have h2 : min (PyData.depthAll xs) d.depth ≤ d.depth := Nat.min_le_right _ _
  omega
def gInD (x : D) (y : D) : Option Bool := match y with
  | .list ds => if shp x = true ∧ shp (.list ds) = true then some (ds.any fun z => PyData.eqv z x) else none
  | .tuple ds => if shp x = true ∧ shp (.tuple ds) = true then some (ds.any fun z => PyData.eqv z x) else none
  | _ => none
def gInS (x : D) (y : D) : Option Bool := match x, y with
  | .str a, .str b => some (match a.cps.toList with
    | [c] => decide (c ∈ b.cps.toList)
    | _ => !(Builtin.Str.occurrences b a 0 b.length 1).isEmpty)
  | _, _ => none
def gIn (x y : D) : Option Bool := match y with
  | .str _ => gInS x y
  | _ => gInD x y
def gNotIn (x y : D) : Option Bool := (gIn x y).map (!·)
section
variable {X : Cx} {w : Wh}
theorem ob_eq : OpB X.K (rEqD X.K) gEq := by
  intro x y dx dy b H Q hx hy e q
  simp only [gEq] at e
  split at e
  · rename_i h
    cases e
    exact ⟨dx, dy, hx.dp (shp_can h.1), hy.dp (shp_can h.2), h.1, h.2, q⟩
  · cases e
theorem ob_ne : OpB X.K (rNeD X.K) gNe := by
  intro x y dx dy b H Q hx hy e q
  simp only [gNe, gEq] at e
  split at e
  · rename_i h
    cases e
    exact ⟨dx, dy, hx.dp (shp_can h.1), hy.dp (shp_can h.2), h.1, h.2, q⟩
  · cases e
def rOrdA (p : Int → Int → Bool) (q : Str → Str → Bool) : R2 := fun x y H Q => (∃ i j, x = .int i ∧ y = .int j ∧ Q (.bl (p i j)) H) ∨ (∃ i j, x = .str i ∧ y = .str j ∧ Q (.bl (q i j)) H)
theorem op_ltA : OpR X (compareOp .Lt) (rOrdA (fun i j => decide (i < j)) fun a b => decide (a.cps.toList < b.cps.toList)) := op_lt.or op_lt_str
theorem op_leA : OpR X (compareOp .LtE) (rOrdA (fun i j => decide (i ≤ j)) fun a b => !decide (b.cps.toList < a.cps.toList)) := op_le.or op_le_str
theorem op_gtA : OpR X (compareOp .Gt) (rOrdA (fun i j => decide (j < i)) fun a b => decide (b.cps.toList < a.cps.toList)) := op_gt.or op_gt_str
theorem op_geA : OpR X (compareOp .GtE) (rOrdA (fun i j => decide (j ≤ i)) fun a b => !decide (a.cps.toList < b.cps.toList)) := op_ge.or op_ge_str
theorem ob_ord {p : Int → Int → Bool} {q : Str → Str → Bool} {g : D → D → Option Bool} {K : PySem.W.Frag} (h1 : ∀ i j, g (.int i) (.int j) = some (p i j)) (h2 : ∀ i j, g (.str i) (.str j) = some (q i j))
    (h3 : ∀ x y b, g x y = some b → (∃ i j, x = .int i ∧ y = .int j) ∨ ∃ i j, x = .str i ∧ y = .str j) : OpB K (rOrdA p q) g := by
  intro x y dx dy b H Q hx hy e k
  rcases h3 _ _ _ e with ⟨i, j, rfl, rfl⟩ | ⟨i, j, rfl, rfl⟩
  · cases hx; cases hy
    rw [h1] at e; cases e
    exact .inl ⟨i, j, rfl, rfl, k⟩
  · cases hx; cases hy
    rw [h2] at e; cases e
    exact .inr ⟨i, j, rfl, rfl, k⟩
theorem ob_lt {K : PySem.W.Frag} : OpB K (rOrdA (fun i j => decide (i < j)) fun a b => decide (a.cps.toList < b.cps.toList)) gLt := ob_ord (fun _ _ => rfl) (fun _ _ => rfl) fun x y b e => by
  cases x <;> cases y <;> first | (cases e; done) | exact .inl ⟨_, _, rfl, rfl⟩ | exact .inr ⟨_, _, rfl, rfl⟩
theorem ob_le {K : PySem.W.Frag} : OpB K (rOrdA (fun i j => decide (i ≤ j)) fun a b => !decide (b.cps.toList < a.cps.toList)) gLe := ob_ord (fun _ _ => rfl) (fun _ _ => rfl) fun x y b e => by
  cases x <;> cases y <;> first | (cases e; done) | exact .inl ⟨_, _, rfl, rfl⟩ | exact .inr ⟨_, _, rfl, rfl⟩
theorem ob_gt {K : PySem.W.Frag} : OpB K (rOrdA (fun i j => decide (j < i)) fun a b => decide (b.cps.toList < a.cps.toList)) gGt := ob_ord (fun _ _ => rfl) (fun _ _ => rfl) fun x y b e => by
  cases x <;> cases y <;> first | (cases e; done) | exact .inl ⟨_, _, rfl, rfl⟩ | exact .inr ⟨_, _, rfl, rfl⟩
theorem ob_ge {K : PySem.W.Frag} : OpB K (rOrdA (fun i j => decide (j ≤ i)) fun a b => !decide (a.cps.toList < b.cps.toList)) gGe := ob_ord (fun _ _ => rfl) (fun _ _ => rfl) fun x y b e => by
  cases x <;> cases y <;> first | (cases e; done) | exact .inl ⟨_, _, rfl, rfl⟩ | exact .inr ⟨_, _, rfl, rfl⟩

/-! #### is -/
def plV : V → V → Bool
  | _, .non => true
  | .non, .bl _ => true
  | .bl _, .bl _ => true
  | .ref _, .bl _ => true
  | _, _ => false
def rIsP (neg : Bool) : R2 := fun x y H Q => plV x y = true ∧ Q (.bl (if neg then !decide (x = y) else decide (x = y))) H
theorem plV_is {x y : V} {v u : Value} (h : plV x y = true) (rx : RelV x v) (ry : RelV y u) : plainIs v u = true ∧ (v = u ↔ x = y) := by
  cases y with
  | non =>
    cases (show u = Value.none from ry)
    cases x with
    | non => cases (show v = Value.none from rx); exact ⟨rfl, by simp⟩
    | bl b => cases (show v = Value.bool b from rx); exact ⟨rfl, by simp⟩
    | int i => obtain ⟨t, rfl⟩ := rx; exact ⟨rfl, by simp⟩
    | str i => obtain ⟨t, rfl⟩ := rx; exact ⟨rfl, by simp⟩
    | byt i => obtain ⟨t, rfl⟩ := rx; exact ⟨rfl, by simp⟩
    | flt i => obtain ⟨t, rfl⟩ := rx; exact ⟨rfl, by simp⟩
    | ref a => cases (show v = Value.ref a from rx); exact ⟨rfl, by simp⟩
    | ty n => cases (show v = Value.type n from rx); exact ⟨rfl, by simp⟩
  | bl c =>
    cases (show u = Value.bool c from ry)
    cases x with
    | non => cases (show v = Value.none from rx); exact ⟨rfl, by simp⟩
    | bl b => cases (show v = Value.bool b from rx); exact ⟨rfl, by simp⟩
    | ref a => cases (show v = Value.ref a from rx); exact ⟨rfl, by simp⟩
    | _ => cases h
  | _ => cases x <;> cases h
theorem op_isP : OpR X (compareOp .Is) (rIsP false) := by
  intro pins s σ H x y v u Q I rx ry h
  obtain ⟨hp, q⟩ := h
  obtain ⟨h1, h2⟩ := plV_is hp rx ry
  refine wpAny_is_plain h1 ⟨.bl (decide (x = y)), H, I, ?_, q⟩
  show _ = Value.bool _
  congr 1
  rw [Bool.eq_iff_iff]; simp [h2]
theorem op_isNotP : OpR X (compareOp .IsNot) (rIsP true) := by
  intro pins s σ H x y v u Q I rx ry h
  obtain ⟨hp, q⟩ := h
  obtain ⟨h1, h2⟩ := plV_is hp rx ry
  refine wpAny_isNot_plain h1 ⟨.bl (!decide (x = y)), H, I, ?_, q⟩
  show _ = Value.bool _
  congr 2
  rw [Bool.eq_iff_iff]; simp [h2]
theorem gIs_ok {K : PySem.W.Frag} {H : Hp} {x y : V} {dx dy : D} {b : Bool} (hx : DR K H x dx) (hy : DR K H y dy) (e : gIs dx dy = some b) : plV x y = true ∧ decide (x = y) = b := by
  cases hy with
  | non => cases hx <;> (cases e; exact ⟨rfl, by simp⟩)
  | bl c => cases hx <;> first | (cases e; done) | (cases e; exact ⟨rfl, by simp⟩)
  | _ => cases hx <;> cases e
theorem ob_is {K : PySem.W.Frag} : OpB K (rIsP false) gIs := fun x y dx dy b H Q hx hy e q => by
  obtain ⟨h1, h2⟩ := gIs_ok hx hy e
  exact ⟨h1, by rw [if_neg Bool.false_ne_true, h2]; exact q⟩
theorem ob_isNot {K : PySem.W.Frag} : OpB K (rIsP true) gIsNot := fun x y dx dy b H Q hx hy e q => by
  simp only [gIsNot, Option.map_eq_some_iff] at e
  obtain ⟨c, e, rfl⟩ := e
  obtain ⟨h1, h2⟩ := gIs_ok hx hy e
  exact ⟨h1, by rw [if_pos rfl, h2]; exact q⟩

/-! #### in -/
def rInS (neg : Bool) : R2 := fun x y H Q => ∃ i j : Str, x = .str i ∧ y = .str j ∧ ∃ b, gInS (.str i) (.str j) = some b ∧ Q (.bl (if neg then !b else b)) H
theorem op_inS : OpR X (compareOp .In) (rInS false) := by
  intro pins s σ H x y v u Q I rx ry h
  obtain ⟨i, j, rfl, rfl, b, e, q⟩ := h
  simp only [gInS] at e
  split at e
  · rename_i c hc
    cases e
    have ei : i = ⟨#[c]⟩ := by
      obtain ⟨⟨l⟩⟩ := i
      have hc : l = [c] := hc
      subst hc
      rfl
    subst ei
    exact op_in_sign pins s σ H _ _ v u Q I rx ry ⟨c, j, rfl, rfl, q⟩
  · cases e
    exact op_in_str pins s σ H _ _ v u Q I rx ry ⟨i, j, rfl, rfl, q⟩
theorem op_notInS : OpR X (compareOp .NotIn) (rInS true) := by
  intro pins s σ H x y v u Q I rx ry h
  obtain ⟨i, j, rfl, rfl, b, e, q⟩ := h
  simp only [gInS] at e
  split at e
  · rename_i c hc
    cases e
    have ei : i = ⟨#[c]⟩ := by
      obtain ⟨⟨l⟩⟩ := i
      have hc : l = [c] := hc
      subst hc
      rfl
    subst ei
    exact op_notIn_sign pins s σ H _ _ v u Q I rx ry ⟨c, j, rfl, rfl, q⟩
  · cases e
    exact op_notin_str pins s σ H _ _ v u Q I rx ry ⟨i, j, rfl, rfl, q⟩
def rInT (K : PySem.W.Frag) (neg : Bool) : R2 := fun x y H Q => ∃ d e b, Dp K H x d ∧ Dp K H y e ∧ gInD d e = some b ∧ Q (.bl (if neg then !b else b)) H
theorem op_inT (hu : X.A.units + 65 < cLine) : OpR X (compareOp .In) (rInT X.K false) := by
  intro pins s σ H x y v u Q I rx ry h
  obtain ⟨d, e, b, hd, he, eb, q⟩ := h
  obtain ⟨as, r1⟩ := Dp.reads I d x v hd rx
  obtain ⟨bs, r2⟩ := Dp.reads I e y u he ry
  cases e with
  | list ds =>
    simp only [gInD] at eb
    split at eb
    · rename_i h; cases eb
      exact SeqAt.in_list_reads r2 r1 (shp_can h.2) (shp_can h.1) (room_in_shaped' h.1 hu) ⟨.bl _, H, I, rfl, q⟩
    · cases eb
  | tuple ds =>
    simp only [gInD] at eb
    split at eb
    · rename_i h; cases eb
      exact SeqAt.in_tuple_reads r2 r1 (shp_can h.2) (shp_can h.1) (room_in_shaped' h.1 hu) ⟨.bl _, H, I, rfl, q⟩
    · cases eb
  | _ => cases eb
theorem op_notInT (hu : X.A.units + 65 < cLine) : OpR X (compareOp .NotIn) (rInT X.K true) := by
  intro pins s σ H x y v u Q I rx ry h
  obtain ⟨d, e, b, hd, he, eb, q⟩ := h
  obtain ⟨as, r1⟩ := Dp.reads I d x v hd rx
  obtain ⟨bs, r2⟩ := Dp.reads I e y u he ry
  cases e with
  | list ds =>
    simp only [gInD] at eb
    split at eb
    · rename_i h; cases eb
      exact SeqAt.notIn_list_reads r2 r1 (shp_can h.2) (shp_can h.1) (room_in_shaped' h.1 hu) ⟨.bl _, H, I, rfl, q⟩
    · cases eb
  | tuple ds =>
    simp only [gInD] at eb
    split at eb
    · rename_i h; cases eb
      exact SeqAt.notIn_tuple_reads r2 r1 (shp_can h.2) (shp_can h.1) (room_in_shaped' h.1 hu) ⟨.bl _, H, I, rfl, q⟩
    · cases eb
  | _ => cases eb
def rInA (K : PySem.W.Frag) (neg : Bool) : R2 := fun x y H Q => rInS neg x y H Q ∨ rInT K neg x y H Q
theorem op_inA (hu : X.A.units + 65 < cLine) : OpR X (compareOp .In) (rInA X.K false) := op_inS.or (op_inT hu)
theorem op_notInA (hu : X.A.units + 65 < cLine) : OpR X (compareOp .NotIn) (rInA X.K true) := op_notInS.or (op_notInT hu)
theorem gInD_can {x y : D} {b : Bool} (e : gInD x y = some b) : x.canLay0 = true ∧ y.canLay0 = true := by
  cases y with
  | list ds =>
    simp only [gInD] at e
    split at e
    · rename_i h; exact ⟨shp_can h.1, shp_can h.2⟩
    · cases e
  | tuple ds =>
    simp only [gInD] at e
    split at e
    · rename_i h; exact ⟨shp_can h.1, shp_can h.2⟩
    · cases e
  | _ => cases e
theorem gIn_ok {K : PySem.W.Frag} {H : Hp} {x y : V} {dx dy : D} {b : Bool} {neg : Bool} {Q : VK} (hx : DR K H x dx) (hy : DR K H y dy) (e : gIn dx dy = some b) (q : Q (.bl (if neg then !b else b)) H) : rInA K neg x y H Q := by
  cases dy with
  | str j =>
    simp only [gIn] at e
    cases dx with
    | str i => cases hx; cases hy; exact .inl ⟨i, j, rfl, rfl, b, e, q⟩
    | _ => cases e
  | list ds =>
    have e' : gInD dx (.list ds) = some b := e
    exact .inr ⟨dx, _, b, hx.dp (gInD_can e').1, hy.dp (gInD_can e').2, e', q⟩
  | tuple ds =>
    have e' : gInD dx (.tuple ds) = some b := e
    exact .inr ⟨dx, _, b, hx.dp (gInD_can e').1, hy.dp (gInD_can e').2, e', q⟩
  | _ => cases e
theorem ob_in {K : PySem.W.Frag} : OpB K (rInA K false) gIn := fun x y dx dy b H Q hx hy e q => gIn_ok hx hy e (by rw [if_neg Bool.false_ne_true]; exact q)
theorem ob_notIn {K : PySem.W.Frag} : OpB K (rInA K true) gNotIn := fun x y dx dy b H Q hx hy e q => by
  simp only [gNotIn, Option.map_eq_some_iff] at e
  obtain ⟨c, e, rfl⟩ := e
  exact gIn_ok hx hy e (by rw [if_pos rfl]; exact q)

/-! ### truths: and, or, not, if else -/
def dNot (f : En → R Bool) : En → R Bool := fun ρ => (f ρ).bind fun b ρ1 => .ok (!b) ρ1
def dAnd (f g : En → R Bool) : En → R Bool := fun ρ => (f ρ).bind fun b ρ1 => if b = true then g ρ1 else .ok false ρ1
def dOr (f g : En → R Bool) : En → R Bool := fun ρ => (f ρ).bind fun b ρ1 => if b = true then .ok true ρ1 else g ρ1
def dIfE {α : Type} (c : En → R Bool) (f g : En → R α) : En → R α := fun ρ => (c ρ).bind fun b ρ1 => if b = true then f ρ1 else g ρ1
variable {a b c e : Expr} {rest : List Expr} {fa fb fc : En → R D} {ga gb gc : En → R Bool} {pos : Pos}
theorem vt_not (ha : VT X w a ga) : VT X w (.UnaryOp .Not a pos) (dNot ga) :=
  PT.imp (pt_not ha) fun σ H Q ⟨G, ρ, rel, h⟩ => ⟨G, ρ, rel, (Fn.bind rel h).imp fun G1 H1 ρ1 b ⟨r1, s1, h1⟩ => h1.ok r1⟩
theorem vw_and1 (ha : VT X w a ga) : VW X w (.BoolOp .And [a] pos) ga := pw_and1 ha
theorem vw_or1 (ha : VT X w a ga) : VW X w (.BoolOp .Or [a] pos) ga := pw_or1 ha
theorem vw_and (ha : VT X w a ga) (hb : VW X w (.BoolOp .And (b :: rest) pos) gb) : VW X w (.BoolOp .And (a :: b :: rest) pos) (dAnd ga gb) :=
  PW.imp (pw_and ha hb) fun σ H Q ⟨G, ρ, rel, h⟩ => ⟨G, ρ, rel, (Fn.bind rel h).imp fun G1 H1 ρ1 b ⟨r1, s1, h1⟩ => by
    cases b with
    | true => exact iteT ⟨G1, ρ1, r1, h1⟩
    | false => exact iteF (Fn.ok (show Fn X.K w G1 H1 σ ρ1 (.ok false ρ1) (QB Q) from h1) r1)⟩
theorem vw_or (ha : VT X w a ga) (hb : VW X w (.BoolOp .Or (b :: rest) pos) gb) : VW X w (.BoolOp .Or (a :: b :: rest) pos) (dOr ga gb) :=
  PW.imp (pw_or ha hb) fun σ H Q ⟨G, ρ, rel, h⟩ => ⟨G, ρ, rel, (Fn.bind rel h).imp fun G1 H1 ρ1 b ⟨r1, s1, h1⟩ => by
    cases b with
    | true => exact iteT (Fn.ok (show Fn X.K w G1 H1 σ ρ1 (.ok true ρ1) (QB Q) from h1) r1)
    | false => exact iteF ⟨G1, ρ1, r1, h1⟩⟩
theorem vt_w (h : VW X w e ga) : VT X w e ga := PW.pt h
/-- a truth that is a value -/
theorem Fn.dB {K : PySem.W.Frag} {G H : Hp} {σ : L2.St} {ρ : En} {Q : VK} (rel : Rel K G H σ ρ) (h : Fn K w G H σ ρ (dB ga ρ) (QD K Q)) : Fn K w G H σ ρ (ga ρ) (fun G1 H1 ρ1 b => Rel K G1 H1 σ ρ1 ∧ Stp G H σ ρ G1 H1 σ ρ1 ∧ Q (.bl b) H1) :=
  (Fn.bind rel h).imp fun G1 H1 ρ1 b ⟨r1, s1, h1⟩ => ⟨r1, s1, h1.ok r1 _ (.bl b)⟩
theorem Fn.toB {K : PySem.W.Frag} {G H : Hp} {σ : L2.St} {ρ : En} {P : Hp → Hp → En → D → Prop} {g : En → R Bool} (rel : Rel K G H σ ρ) (h : Fn K w G H σ ρ (g ρ) (fun G1 H1 ρ1 b => P G1 H1 ρ1 (.bool b))) : Fn K w G H σ ρ (Dn.dB g ρ) P := by
  unfold Dn.dB
  cases q : g ρ with
  | no => rw [q] at h; exact h
  | ex c ρ' => rw [q] at h; exact h
  | ok b ρ' => rw [q] at h; exact h
theorem ve_not (ha : VE X w a (dB ga)) : VE X w (.UnaryOp .Not a pos) (dB (dNot ga)) :=
  PE.imp (pe_not ha) fun σ H Q ⟨G, ρ, rel, h⟩ => ⟨G, ρ, rel, Fn.toB rel ((Fn.bind rel (Fn.dB rel h)).imp fun G1 H1 ρ1 b ⟨r1, s1, h1⟩ v hv => by
    cases hv
    exact ⟨b, rfl, (h1.ok r1).2.2⟩)⟩
theorem ve_and1 (ha : VE X w a fa) : VE X w (.BoolOp .And [a] pos) fa := pe_one ha
theorem ve_or1 (ha : VE X w a fa) : VE X w (.BoolOp .Or [a] pos) fa := pe_one ha
def dAndV (f : En → R Bool) (g : En → R D) : En → R D := fun ρ => (f ρ).bind fun b ρ1 => if b = true then g ρ1 else .ok (.bool false) ρ1
def dOrV (f : En → R Bool) (g : En → R D) : En → R D := fun ρ => (f ρ).bind fun b ρ1 => if b = true then .ok (.bool true) ρ1 else g ρ1
theorem ve_and (ha : VE X w a (dB ga)) (hb : VE X w (.BoolOp .And (b :: rest) pos) fb) : VE X w (.BoolOp .And (a :: b :: rest) pos) (dAndV ga fb) :=
  PE.imp (pe_and ha hb) fun σ H Q ⟨G, ρ, rel, h⟩ => ⟨G, ρ, rel, Fn.toB rel ((Fn.bind rel h).imp fun G1 H1 ρ1 b ⟨r1, s1, h1⟩ v hv => by
    cases hv
    refine ⟨b, rfl, ?_⟩
    cases b with
    | true => exact iteT ⟨G1, ρ1, r1, h1⟩
    | false => exact iteF (Fn.ok (show Fn X.K w G1 H1 σ ρ1 (.ok (.bool false) ρ1) (QD X.K Q) from h1) r1 _ (.bl false)))⟩
theorem ve_or (ha : VE X w a (dB ga)) (hb : VE X w (.BoolOp .Or (b :: rest) pos) fb) : VE X w (.BoolOp .Or (a :: b :: rest) pos) (dOrV ga fb) :=
  PE.imp (pe_or ha hb) fun σ H Q ⟨G, ρ, rel, h⟩ => ⟨G, ρ, rel, Fn.toB rel ((Fn.bind rel h).imp fun G1 H1 ρ1 b ⟨r1, s1, h1⟩ v hv => by
    cases hv
    refine ⟨b, rfl, ?_⟩
    cases b with
    | true => exact iteT (Fn.ok (show Fn X.K w G1 H1 σ ρ1 (.ok (.bool true) ρ1) (QD X.K Q) from h1) r1 _ (.bl true))
    | false => exact iteF ⟨G1, ρ1, r1, h1⟩)⟩
theorem ve_ifE (hc : VT X w c gc) (ha : VE X w a fa) (hb : VE X w b fb) : VE X w (.IfExp c a b pos) (dIfE gc fa fb) :=
  PE.imp (pe_ifExp hc ha hb) fun σ H Q ⟨G, ρ, rel, h⟩ => ⟨G, ρ, rel, (Fn.bind rel h).imp fun G1 H1 ρ1 b ⟨r1, s1, h1⟩ => by
    cases b with
    | true => exact iteT ⟨G1, ρ1, r1, h1⟩
    | false => exact iteF ⟨G1, ρ1, r1, h1⟩⟩
/-- a value's truth -/
def truD : D → Option Bool
  | .none => some false
  | .bool b => some b
  | .int i => some (i != 0)
  | .str s => if s.length ≤ sizeLine then some ((s.length : Int) != 0) else none
  | .list l => some (!l.isEmpty)
  | .tuple l => some (!l.isEmpty)
  | .dict _ => none
def asB : D → Option Bool
  | .bool b => some b
  | _ => none
/-- a value that is a truth, as one -/
def dUB (f : En → R D) : En → R Bool := fun ρ => (f ρ).bind fun d ρ1 => lift (asB d) ρ1
def dTru (f : En → R D) : En → R Bool := fun ρ => (f ρ).bind fun d ρ1 => lift (truD d) ρ1
theorem DRs.emp {K : PySem.W.Frag} {H : Hp} {vs : List V} {ds : List D} (h : DRs K H vs ds) : vs.isEmpty = ds.isEmpty := by cases h <;> rfl
theorem truD_ok {K : PySem.W.Frag} {H : Hp} {v : V} {d : D} {b : Bool} (h : DR K H v d) (e : truD d = some b) : TruV K v H b := by
  cases h with
  | non => cases e; rfl
  | bl b => cases e; rfl
  | int i => cases e; rfl
  | str s =>
    simp only [truD] at e
    split at e
    · cases e; exact ⟨‹_›, rfl⟩
    · cases e
  | lst h hs => cases e; exact .inl ⟨_, h, by rw [hs.emp]⟩
  | tup h hs => cases e; exact .inr (.inl ⟨_, h, by rw [hs.emp]⟩)
  | dic _ _ => cases e
theorem vt_tru (ha : VE X w a fa) (he : ∀ whole, isTrue a X.env whole = (do let v ← whole; standAt a.pos; holding [v] (truthy v)) := by intro _; rfl) : VT X w a (dTru fa) :=
  PT.imp (pt_truth ha he) fun σ H Q ⟨G, ρ, rel, h⟩ => ⟨G, ρ, rel, (Fn.bind rel h).imp fun G1 H1 ρ1 d ⟨r1, s1, h1⟩ v hv => by
    obtain ⟨b, e, q⟩ := Fn.lift h1
    exact ⟨b, truD_ok (hv.mono r1.sub) e, q _ _ r1 Stp.refl⟩⟩
/-- a value seen as a truth -/
theorem ve_ub (ha : VE X w a fa) : VE X w a (dB (dUB fa)) :=
  PE.imp ha fun σ H Q ⟨G, ρ, rel, h⟩ => ⟨G, ρ, rel, (Fn.bind rel (Fn.dB rel h)).imp fun G1 H1 ρ1 d ⟨r1, s1, h1⟩ v hv => by
    obtain ⟨b, e, q⟩ := Fn.lift h1
    cases hv with
    | bl c => cases e; exact (q _ _ r1 Stp.refl).2.2
    | _ => cases e⟩
end
end Dn
namespace Dn
open PySem PySem.Spec PyProof.Rows L2

/-! ### reading -/
def L.toD : L → D
  | .im d => d
  | .ow ds => .list ds
  | .bo ds => .list ds
  | .ot _ => .none
  | .bt _ => .none
  | .xn _ _ _ => .none
def L.tree : L → Bool
  | .ot _ => true
  | .bt _ => true
  | .xn _ _ _ => true
  | _ => false
/-- what may be read as d now -/
inductive DV (K : PySem.W.Frag) (G H : Hp) : V → D → Prop where
  | im {v : V} {d : D} (h : DR K G v d) : DV K G H v d
  | mu {o : Addr} {vs : List V} {ds : List D} (e : H o = some (.lst vs)) (h : DRs K G vs ds) : DV K G H (.ref o) (.list ds)
section
variable {K : PySem.W.Frag} {G H : Hp} {σ : L2.St} {ρ : En}
theorem Rel.view (r : Rel K G H σ ρ) {i : Nat} {l : L} (h : ρ[i]? = some (some l)) (hf : l.tree = false) : ∃ v, σ[i]? = some (some v) ∧ DV K G H v l.toD := by
  obtain ⟨v, s, c⟩ := r.cell i l h
  refine ⟨v, s, ?_⟩
  cases l with
  | im d => exact .im c
  | ow ds => obtain ⟨o, vs, rfl, g, q, hd⟩ := c; exact .mu q hd
  | bo ds => obtain ⟨o, vs, rfl, g, q, hd⟩ := c; exact .mu q hd
  | ot t => cases hf
  | bt t => cases hf
  | xn _ _ _ => cases hf
/-- a list or a tuple that is read -/
theorem DV.list (r : Rel K G H σ ρ) {v : V} {ds : List D} (h : DV K G H v (.list ds)) : ∃ o vs, v = .ref o ∧ SqL K H o vs ∧ DRs K G vs ds := by
  cases h with
  | im h => cases h with | lst h hs => exact ⟨_, _, rfl, r.sub.seq h, hs⟩
  | mu e h => exact ⟨_, _, rfl, .inl (.inl e), h⟩
theorem DV.tuple (r : Rel K G H σ ρ) {v : V} {ds : List D} (h : DV K G H v (.tuple ds)) : ∃ o vs, v = .ref o ∧ SqT K H o vs ∧ DRs K G vs ds := by
  cases h with
  | im h => cases h with | tup h hs => exact ⟨_, _, rfl, Same.tup r.sub h, hs⟩
theorem DV.str {v : V} {s : Str} (h : DV K G H v (.str s)) : v = .str s := by
  cases h with
  | im h => cases h; rfl
theorem DV.int {v : V} {s : Int} (h : DV K G H v (.int s)) : v = .int s := by
  cases h with
  | im h => cases h; rfl
theorem DV.bool {v : V} {s : Bool} (h : DV K G H v (.bool s)) : v = .bl s := by
  cases h with
  | im h => cases h; rfl
end
def gIx : D → D → Option D
  | .list ds, .int i => atI ds i
  | .tuple ds, .int i => atI ds i
  | .str s, .int i => if s.length ≤ sizeLine then (atI s.cps.toList i).map fun c => .str ⟨#[c]⟩ else none
  | _, _ => none
theorem DRs.atI {K : PySem.W.Frag} {G : Hp} {vs : List V} {ds : List D} {i : Int} {d : D} (h : DRs K G vs ds) (e : L2.atI ds i = some d) : ∃ v, L2.atI vs i = some v ∧ DR K G v d := by
  unfold L2.atI at e ⊢
  rw [h.length]
  cases q : ixN ds.length i with
  | none => rw [q] at e; cases e
  | some j =>
    rw [q] at e
    exact h.get e
theorem gIx_ok {K : PySem.W.Frag} {G H : Hp} {σ : L2.St} {ρ : En} {x y : V} {dx dy d : D} {Q : VK} (r : Rel K G H σ ρ) (hx : DV K G H x dx) (hy : DR K G y dy) (e : gIx dx dy = some d) (q : ∀ v, DR K G v d → Q v H) : rIx K x y H Q := by
  cases dy with
  | int i =>
    cases hy
    cases dx with
    | list ds =>
      obtain ⟨o, vs, rfl, h, hs⟩ := hx.list r
      obtain ⟨v, e', hv⟩ := hs.atI e
      exact .inl ⟨o, vs, i, v, rfl, rfl, h, e', q v hv⟩
    | tuple ds =>
      obtain ⟨o, vs, rfl, h, hs⟩ := hx.tuple r
      obtain ⟨v, e', hv⟩ := hs.atI e
      exact .inr (.inl ⟨o, vs, i, v, rfl, rfl, h, e', q v hv⟩)
    | str s =>
      have := hx.str
      subst this
      simp only [gIx] at e
      split at e
      · simp only [Option.map_eq_some_iff] at e
        obtain ⟨c, e, rfl⟩ := e
        exact .inr (.inr ⟨s, i, c, rfl, rfl, ‹_›, e, q _ (.str _)⟩)
      · cases e
    | _ => cases e
  | _ => cases dx <;> cases e
/-- the slot i, read when what follows is done -/
def atSlot {α β : Type} (i : Nat) (f : En → R β) (g : L → β → En → R α) : En → R α := fun ρ => match ρ[i]? with
  | some (some _) => (f ρ).bind fun y ρ1 => match ρ1[i]? with
    | some (some l) => if l.tree = true then .no else g l y ρ1
    | _ => .no
  | _ => .no
section
variable {X : Cx} {w : Wh} {a b : Expr} {fa fb : En → R D} {pos : Pos}
theorem ve_ix (ha : VE X w a fa) (hb : VE X w b fb) (hp : PlainIx b := by exact fun _ _ => rfl) : VE X w (.Subscript a b pos) (dOp gIx fa fb) := by
  refine PE.imp (pe_ix ix_seq ha hb hp) fun σ H Q ⟨G, ρ, rel, h⟩ => ⟨G, ρ, rel, (Fn.bind rel h).imp fun G1 H1 ρ1 dx ⟨r1, s1, h1⟩ x hx => ⟨G1, ρ1, r1, (Fn.bind r1 h1).imp fun G2 H2 ρ2 dy ⟨r2, s2, h2⟩ y hy => ?_⟩⟩
  obtain ⟨d, e, q⟩ := Fn.lift h2
  exact gIx_ok r2 (.im (hx.mono s2.g)) hy e fun v hv => q _ _ r2 Stp.refl v hv
theorem Fn.slot {α β : Type} {K : PySem.W.Frag} {G H : Hp} {σ : L2.St} {ρ : En} {i : Nat} {f : En → R β} {g : L → β → En → R α} {P : Hp → Hp → En → α → Prop} (rel : Rel K G H σ ρ) (h : Fn K w G H σ ρ (atSlot i f g ρ) P) :
    ∃ v, σ[i]? = some (some v) ∧ Fn K w G H σ ρ (f ρ) (fun G1 H1 ρ1 y => ∃ l, ρ1[i]? = some (some l) ∧ DV K G1 H1 v l.toD ∧ Rel K G1 H1 σ ρ1 ∧ Stp G H σ ρ G1 H1 σ ρ1 ∧ Fn K w G1 H1 σ ρ1 (g l y ρ1) P) := by
  unfold atSlot at h
  split at h
  · rename_i l0 e0
    obtain ⟨v, s, _⟩ := rel.cell i _ e0
    refine ⟨v, s, (Fn.bind rel h).imp fun G1 H1 ρ1 y ⟨r1, s1, h1⟩ => ?_⟩
    split at h1
    · rename_i l e1
      split at h1
      · exact h1.elim
      · rename_i hf
        obtain ⟨v', s', dv⟩ := r1.view e1 (by simpa using hf)
        rw [s] at s'; cases s'
        exact ⟨l, e1, dv, r1, s1, h1⟩
    · exact h1.elim
  · exact h.elim
def dIxN (i : Nat) (fb : En → R D) : En → R D := atSlot i fb fun l y ρ => lift (gIx l.toD y) ρ
theorem ve_ixN (i : Nat) {x : Str} {p : Pos} (hb : VE X w b fb) (hN : X.N[i]? = some x := by rfl) (hv : Vis X.env.scope x := by first | exact Or.inl rfl | exact Or.inr (Or.inl rfl) | exact Or.inr (Or.inr rfl))
    (hp : PlainIx b := by exact fun _ _ => rfl) (hd : (x == ("__debug__" : Str)) = false := by decide) (hcd : (x == ("__classdict__" : Str)) = false := by decide) : VE X w (.Subscript (.Name x p) b pos) (dIxN i fb) := by
  refine PE.imp (pe_ix ix_seq (pe_var hN hv hd hcd) hb hp) fun σ H Q ⟨G, ρ, rel, h⟩ => ?_
  obtain ⟨v, s, h⟩ := Fn.slot rel h
  refine ⟨v, s, G, ρ, rel, h.imp fun G1 H1 ρ1 dy ⟨l, e, dv, r1, s1, h1⟩ y hy => ?_⟩
  obtain ⟨d, e', q⟩ := Fn.lift h1
  exact gIx_ok r1 dv hy e' fun v hv => q _ _ r1 Stp.refl v hv

/-! ### slices -/
def gSl : D → Option Int → Option Int → Option D
  | .list ds, lo, hi => some (.list ((ds.drop (HT.sIx ds.length 0 lo)).take (HT.sIx ds.length ds.length hi - HT.sIx ds.length 0 lo)))
  | .tuple ds, lo, hi => some (.tuple ((ds.drop (HT.sIx ds.length 0 lo)).take (HT.sIx ds.length ds.length hi - HT.sIx ds.length 0 lo)))
  | .str s, lo, hi => if s.length ≤ sizeLine then some (.str (cutS s lo hi)) else none
  | _, _, _ => none
def rSlA (K : PySem.W.Frag) : V → Option Int → Option Int → Hp → VK → Prop := fun x lo hi H Q => rSlL K x lo hi H Q ∨ L2.rSlA K x lo hi H Q ∨ rSlS x lo hi H Q
theorem sl_all : SlR X (rSlA X.K) := sl_list.or (sl_tupA.or sl_str)
theorem DRs.cut {K : PySem.W.Frag} {G : Hp} {vs : List V} {ds : List D} (h : DRs K G vs ds) (lo hi : Option Int) : DRs K G (cutV vs lo hi) ((ds.drop (HT.sIx ds.length 0 lo)).take (HT.sIx ds.length ds.length hi - HT.sIx ds.length 0 lo)) := by
  unfold cutV
  rw [h.length]
  exact (h.drop _).take _
theorem gSl_ok {K : PySem.W.Frag} {G H : Hp} {σ : L2.St} {ρ : En} {x : V} {dx d : D} {lo hi : Option Int} {Q : VK} (r : Rel K G H σ ρ) (hx : DV K G H x dx) (e : gSl dx lo hi = some d)
    (q : ∀ G' H', Rel K G' H' σ ρ → Stp G H σ ρ G' H' σ ρ → ∀ v, DR K G' v d → Q v H') : rSlA K x lo hi H Q := by
  cases dx with
  | list ds =>
    cases e
    obtain ⟨o, vs, rfl, h, hs⟩ := hx.list r
    exact .inl ⟨o, vs, rfl, h, hand_new r q (DR.newL r (hs.cut lo hi))⟩
  | tuple ds =>
    cases e
    obtain ⟨o, vs, rfl, h, hs⟩ := hx.tuple r
    refine .inr (.inl ⟨o, vs, rfl, h, fun hw => ?_, fun _ => hand_new r q (DR.newT r (hs.cut lo hi))⟩)
    rw [hs.length] at hw
    rw [hw.1, hw.2, Nat.sub_zero, List.drop_zero, List.take_length] at q
    cases hx with
    | im hx => exact q _ _ r Stp.refl _ hx
  | str s =>
    simp only [gSl] at e
    split at e
    · cases e
      have := hx.str
      subst this
      exact .inr (.inr ⟨s, rfl, ‹_›, q _ _ r Stp.refl _ (.str _)⟩)
    · cases e
  | _ => cases e
def oN : En → R (Option Int) := fun ρ => .ok none ρ
def asI : D → Option Int
  | .int i => some i
  | _ => none
def oI (f : En → R D) : En → R (Option Int) := fun ρ => (f ρ).bind fun d ρ1 => lift ((asI d).map some) ρ1
theorem vo_none : VO X w none oN := PO.imp po_none fun σ H Q ⟨G, ρ, rel, h⟩ => Fn.ok (show Fn X.K w G H σ ρ (.ok none ρ) (QO Q) from h) rel
theorem vo_some {e : Expr} {f : En → R D} (he : VE X w e f) : VO X w (some e) (oI f) :=
  PO.imp (po_some he) fun σ H Q ⟨G, ρ, rel, h⟩ => ⟨G, ρ, rel, (Fn.bind rel h).imp fun G1 H1 ρ1 d ⟨r1, s1, h1⟩ v hv => by
    obtain ⟨o, e', q⟩ := Fn.lift h1
    simp only [Option.map_eq_some_iff] at e'
    obtain ⟨i, ei, rfl⟩ := e'
    cases hv with
    | int j => cases ei; exact ⟨i, rfl, q _ _ r1 Stp.refl⟩
    | _ => cases ei⟩
def dPair {α β : Type} (f : En → R α) (g : En → R β) : En → R (α × β) := fun ρ => (f ρ).bind fun a ρ1 => (g ρ1).bind fun b ρ2 => .ok (a, b) ρ2
def dSl (fa : En → R D) (l u : En → R (Option Int)) : En → R D := fun ρ => (fa ρ).bind fun x ρ1 => (l ρ1).bind fun lo ρ2 => (u ρ2).bind fun hi ρ3 => lift (gSl x lo hi) ρ3
theorem ve_sl {lo hi : Option Expr} {l u : En → R (Option Int)} {p2 : Pos} (ha : VE X w a fa) (hl : VO X w lo l) (hu : VO X w hi u) : VE X w (.Subscript a (.Slice lo hi none p2) pos) (dSl fa l u) := by
  refine PE.imp (pe_slice sl_all ha hl hu) fun σ H Q ⟨G, ρ, rel, h⟩ => ⟨G, ρ, rel, (Fn.bind rel h).imp fun G1 H1 ρ1 dx ⟨r1, s1, h1⟩ x hx => ⟨G1, ρ1, r1, (Fn.bind r1 h1).imp fun G2 H2 ρ2 lo ⟨r2, s2, h2⟩ => ⟨G2, ρ2, r2, (Fn.bind r2 h2).imp fun G3 H3 ρ3 hi ⟨r3, s3, h3⟩ => ?_⟩⟩⟩
  obtain ⟨d, e, q⟩ := Fn.lift h3
  exact gSl_ok r3 (.im ((hx.mono s2.g).mono s3.g)) e q
def dSlN (i : Nat) (l u : En → R (Option Int)) : En → R D := atSlot i (dPair l u) fun x p ρ => lift (gSl x.toD p.1 p.2) ρ
theorem ve_slN (i : Nat) {x : Str} {p : Pos} {lo hi : Option Expr} {l u : En → R (Option Int)} {p2 : Pos} (hl : VO X w lo l) (hu : VO X w hi u) (hN : X.N[i]? = some x := by rfl) (hv : Vis X.env.scope x := by first | exact Or.inl rfl | exact Or.inr (Or.inl rfl) | exact Or.inr (Or.inr rfl))
    (hd : (x == ("__debug__" : Str)) = false := by decide) (hcd : (x == ("__classdict__" : Str)) = false := by decide) : VE X w (.Subscript (.Name x p) (.Slice lo hi none p2) pos) (dSlN i l u) := by
  refine PE.imp (pe_slice sl_all (pe_var hN hv hd hcd) hl hu) fun σ H Q ⟨G, ρ, rel, h⟩ => ?_
  obtain ⟨v, s, h⟩ := Fn.slot rel h
  refine ⟨v, s, G, ρ, rel, (Fn.bind rel h).imp fun G1 H1 ρ1 lo ⟨r1, s1, h1⟩ => ⟨G1, ρ1, r1, (Fn.bind r1 h1).imp fun G2 H2 ρ2 hi ⟨r2, s2, h2⟩ => ?_⟩⟩
  obtain ⟨L, e, dv, r3, s3, h3⟩ := h2.ok r2
  obtain ⟨d, e', q⟩ := Fn.lift h3
  exact gSl_ok r3 dv e' q

/-! ### arguments, displays -/
def aNil : En → R (List AV) := fun ρ => .ok [] ρ
def aIm (f : En → R D) (g : En → R (List AV)) : En → R (List AV) := fun ρ => (f ρ).bind fun d ρ1 => (g ρ1).bind fun as ρ2 => .ok (.im d :: as) ρ2
def aSl (i : Nat) (g : En → R (List AV)) : En → R (List AV) := fun ρ => match ρ[i]? with
  | some (some _) => (g ρ).bind fun as ρ2 => .ok (.sl i :: as) ρ2
  | _ => .no
theorem AVs.mono {K : PySem.W.Frag} {G G' : Hp} {σ : L2.St} (e : Same G G') : ∀ {vs : List V} {as : List AV}, AVs K G σ vs as → AVs K G' σ vs as
  | _, _, .nil => .nil
  | _, _, .im h t => .im (h.mono e) (AVs.mono e t)
  | _, _, .sl h t => .sl h (AVs.mono e t)
variable {e : Expr} {es : List Expr} {f : En → R D} {ga : En → R (List AV)}
theorem va_nil : VA X w [] aNil := PA.imp pa_nil fun σ H Q ⟨G, ρ, rel, h⟩ => Fn.ok (show Fn X.K w G H σ ρ (.ok [] ρ) (QA X.K σ Q) from h) rel _ .nil
theorem va_im (he : VE X w e f) (ht : VA X w es ga) (hs : starEach (e :: es) X.env = (false, eval e X.env) :: starEach es X.env := by rfl) : VA X w (e :: es) (aIm f ga) :=
  PA.imp (pa_cons he ht hs) fun σ H Q ⟨G, ρ, rel, h⟩ => ⟨G, ρ, rel, (Fn.bind rel h).imp fun G1 H1 ρ1 d ⟨r1, s1, h1⟩ v hv => ⟨G1, ρ1, r1, (Fn.bind r1 h1).imp fun G2 H2 ρ2 as ⟨r2, s2, h2⟩ vs hvs =>
    Fn.ok (show Fn X.K w G2 H2 σ ρ2 (.ok (AV.im d :: as) ρ2) (QA X.K σ Q) from h2) r2 _ (.im (hv.mono s2.g) hvs)⟩⟩
theorem va_sl (i : Nat) {x : Str} {p : Pos} (ht : VA X w es ga) (hN : X.N[i]? = some x := by rfl) (hv : Vis X.env.scope x := by first | exact Or.inl rfl | exact Or.inr (Or.inl rfl) | exact Or.inr (Or.inr rfl))
    (hd : (x == ("__debug__" : Str)) = false := by decide) (hcd : (x == ("__classdict__" : Str)) = false := by decide) (hs : starEach (.Name x p :: es) X.env = (false, eval (.Name x p) X.env) :: starEach es X.env := by rfl) : VA X w (.Name x p :: es) (aSl i ga) :=
  PA.imp (pa_cons (pe_var hN hv hd hcd) ht hs) fun σ H Q ⟨G, ρ, rel, h⟩ => by
    unfold aSl at h
    split at h
    · rename_i l el
      obtain ⟨v, s, _⟩ := rel.cell i _ el
      exact ⟨v, s, G, ρ, rel, (Fn.bind rel h).imp fun G2 H2 ρ2 as ⟨r2, s2, h2⟩ vs hvs => Fn.ok (show Fn X.K w G2 H2 σ ρ2 (.ok (AV.sl i :: as) ρ2) (QA X.K σ Q) from h2) r2 _ (.sl s hvs)⟩
    · exact h.elim
/-- all are values -/
def allIm : List AV → Option (List D)
  | [] => some []
  | .im d :: r => (allIm r).map (d :: ·)
  | .sl _ :: _ => none
theorem AVs.all {K : PySem.W.Frag} {G : Hp} {σ : L2.St} : ∀ {vs : List V} {as : List AV} {ds : List D}, AVs K G σ vs as → allIm as = some ds → DRs K G vs ds
  | _, _, _, .nil, e => by cases e; exact .nil
  | _, _, _, .im h t, e => by
    simp only [allIm, Option.map_eq_some_iff] at e
    obtain ⟨r, e, rfl⟩ := e
    exact .cons h (AVs.all t e)
  | _, _, _, .sl _ _, e => by cases e
def dAll (g : En → R (List AV)) : En → R (List D) := fun ρ => (g ρ).bind fun as ρ1 => lift (allIm as) ρ1
def dTup (g : En → R (List AV)) : En → R D := fun ρ => (dAll g ρ).bind fun ds ρ1 => if ds.length ≤ sizeLine then .ok (.tuple ds) ρ1 else .no
def dLst (g : En → R (List AV)) : En → R D := fun ρ => (dAll g ρ).bind fun ds ρ1 => if ds.length ≤ sizeLine then .ok (.list ds) ρ1 else .no
def nLst (g : En → R (List AV)) : En → R (List D) := fun ρ => (dAll g ρ).bind fun ds ρ1 => if ds.length ≤ sizeLine then .ok ds ρ1 else .no
theorem Fn.all {α : Type} {K : PySem.W.Frag} {G H : Hp} {σ : L2.St} {ρ : En} {g : List D → En → R α} {P : Hp → Hp → En → α → Prop} (rel : Rel K G H σ ρ) (h : Fn K w G H σ ρ ((dAll ga ρ).bind g) P) :
    Fn K w G H σ ρ (ga ρ) (fun G1 H1 ρ1 as => Rel K G1 H1 σ ρ1 ∧ Stp G H σ ρ G1 H1 σ ρ1 ∧ ∃ ds, allIm as = some ds ∧ Fn K w G1 H1 σ ρ1 (g ds ρ1) P) := by
  have h' : Fn K w G H σ ρ ((ga ρ).bind fun as ρ1 => (Dn.lift (allIm as) ρ1 : R (List D)).bind g) P := by
    have : (dAll ga ρ).bind g = (ga ρ).bind fun as ρ1 => (Dn.lift (allIm as) ρ1 : R (List D)).bind g := by
      unfold dAll
      cases ga ρ <;> rfl
    rw [← this]; exact h
  refine (Fn.bind rel h').imp fun G1 H1 ρ1 as ⟨r1, s1, h1⟩ => ⟨r1, s1, ?_⟩
  cases q : allIm as with
  | none => rw [q] at h1; exact h1.elim
  | some ds => rw [q] at h1; exact ⟨ds, rfl, h1⟩
theorem ve_tup {k : Nat} (h : VA X w es ga) : VE X w (.Tuple es k pos) (dTup ga) :=
  PE.imp (pe_tup h) fun σ H Q ⟨G, ρ, rel, h⟩ => ⟨G, ρ, rel, (Fn.all rel h).imp fun G1 H1 ρ1 as ⟨r1, s1, ds, e, h1⟩ vs hvs => by
    have hd := hvs.all e
    split at h1
    · exact ⟨by rw [hd.length]; assumption, hand_new r1 h1 (DR.newT r1 hd)⟩
    · exact h1.elim⟩
theorem ve_lst (h : VA X w es ga) : VE X w (.List es pos) (dLst ga) :=
  PE.imp (pe_lst h) fun σ H Q ⟨G, ρ, rel, h⟩ => ⟨G, ρ, rel, (Fn.all rel h).imp fun G1 H1 ρ1 as ⟨r1, s1, ds, e, h1⟩ vs hvs => by
    have hd := hvs.all e
    split at h1
    · exact ⟨by rw [hd.length]; assumption, hand_new r1 h1 (DR.newL r1 hd)⟩
    · exact h1.elim⟩
theorem NewL.of {K : PySem.W.Frag} {G H G1 H1 : Hp} {σ : L2.St} {ρ ρ1 : En} {p : Addr} {vs : List V} {ds : List D} (rel : Rel K G H σ ρ) (r1 : Rel K G1 H1 σ ρ1) (s1 : Stp G H σ ρ G1 H1 σ ρ1) (hp : H1 p = none) (hd : DRs K G1 vs ds) :
    NewL K H σ G1 (upd H1 p (.lst vs)) ρ1 p ds := by
  refine ⟨Same.free r1.sub hp, fun ho => ?_, ⟨vs, upd_same, hd⟩, ?_⟩
  · exact not_own r1 hp ((own_upd r1 hp p).mp ho)
  · cases q : H p with
    | none => rfl
    | some o => exact absurd hp (s1.tr p (by rw [q]; exact fun z => nomatch z))
theorem vn_lst (h : VA X w es ga) : VN X w (.List es pos) (nLst ga) :=
  PE.imp (pe_lst h) fun σ H Q ⟨G, ρ, rel, h⟩ => ⟨G, ρ, rel, (Fn.all rel h).imp fun G1 H1 ρ1 as ⟨r1, s1, ds, e, h1⟩ vs hvs => by
    have hd := hvs.all e
    split at h1
    · refine ⟨by rw [hd.length]; assumption, fun p hp => ?_⟩
      obtain ⟨r2, s2⟩ := r1.laidM (o := .lst vs) hp
      exact h1 _ _ r2 s2 p (NewL.of rel r1 s1 hp hd)
    · exact h1.elim⟩
end
end Dn
namespace Dn
open PySem PySem.Spec PyProof.Rows L2

/-! ### calls of what is built in -/
def CallS (K : PySem.W.Frag) (r : List V → Hp → VK → Prop) (g : List D → Option D) : Prop :=
  ∀ (vs : List V) (ds : List D) (d : D) (G H : Hp) (σ : L2.St) (ρ : En) (Q : VK), Rel K G H σ ρ → DRs K G vs ds → g ds = some d →
    (∀ G' H', Rel K G' H' σ ρ → Stp G H σ ρ G' H' σ ρ → ∀ v, DR K G' v d → Q v H') → r vs H Q
def dCall (g : List D → Option D) (ga : En → R (List AV)) : En → R D := fun ρ => (dAll ga ρ).bind fun ds ρ1 => lift (g ds) ρ1
section
variable {X : Cx} {w : Wh} {x : Str} {p pos : Pos} {e : Expr} {es : List Expr} {ga : En → R (List AV)} {id T : String} {r : List V → Hp → VK → Prop} {g : List D → Option D}
theorem CallS.run {K : PySem.W.Frag} (hs : CallS K r g) {G H : Hp} {σ : L2.St} {ρ : En} {Q : VK} (rel : Rel K G H σ ρ) (h : Fn K w G H σ ρ (dCall g ga ρ) (QD K Q)) :
    Fn K w G H σ ρ (ga ρ) (QA K σ fun vs H1 => r vs H1 Q) := (Fn.all rel h).imp fun G1 H1 ρ1 as ⟨r1, s1, ds, e, h1⟩ vs hvs => by
  obtain ⟨d, e', q⟩ := Fn.lift h1
  exact hs vs ds d G1 H1 σ ρ1 Q r1 (hvs.all e) e' q
theorem ve_cB (hc : CallR X (.builtin id) r) (hs : CallS X.K r g) (hg : Gl X x) (hm : X.mg x = none) (hv : bootBuiltins x = some (.builtin id)) (ha : VA X w (e :: es) ga) (hn : x ≠ "__name__" := by decide) (hdb : (x == ("__debug__" : Str)) = false := by decide)
    (he : starEach (e :: es) X.env = (false, eval e X.env) :: starEach es X.env := by rfl) (hpl : (backTo pos (starEach es X.env)).any (·.1) = false := by rfl) : VE X w (.Call (.Name x p) (e :: es) [] pos) (dCall g ga) :=
  PE.imp (pe_callB hc hg hm hv ha hn hdb he hpl) fun σ H Q ⟨G, ρ, rel, h⟩ => ⟨G, ρ, rel, hs.run rel h⟩
theorem ve_cT (hc : CallR X (.type T) r) (hs : CallS X.K r g) (hg : Gl X x) (hm : X.mg x = none) (hv : bootBuiltins x = some (.type T)) (ha : VA X w (e :: es) ga) (hn : x ≠ "__name__" := by decide) (hdb : (x == ("__debug__" : Str)) = false := by decide)
    (he : starEach (e :: es) X.env = (false, eval e X.env) :: starEach es X.env := by rfl) (hpl : (backTo pos (starEach es X.env)).any (·.1) = false := by rfl) : VE X w (.Call (.Name x p) (e :: es) [] pos) (dCall g ga) :=
  PE.imp (pe_callTy hc hg hm hv ha hn hdb he hpl) fun σ H Q ⟨G, ρ, rel, h⟩ => ⟨G, ρ, rel, hs.run rel h⟩

/-! #### len -/
def gLen1 : D → Option D
  | .str s => if s.length ≤ sizeLine then some (.int s.length) else none
  | .list l => some (.int l.length)
  | .tuple l => some (.int l.length)
  | _ => none
def gLen : List D → Option D
  | [d] => gLen1 d
  | _ => none
abbrev rLen (K : PySem.W.Frag) : List V → Hp → VK → Prop := fun xs H Q => ∃ x n, xs = [x] ∧ LenV K x H n ∧ Q (.int n) H
theorem gLen_ok {K : PySem.W.Frag} {G H : Hp} {σ : L2.St} {ρ : En} {v : V} {d d' : D} {Q : VK} (r : Rel K G H σ ρ) (hv : DV K G H v d) (e : gLen1 d = some d') (q : ∀ v, DR K G v d' → Q v H) : rLen K [v] H Q := by
  cases d with
  | str s =>
    have := hv.str
    subst this
    simp only [gLen1] at e
    split at e
    · cases e; exact ⟨_, s.length, rfl, ⟨‹_›, rfl⟩, q _ (.int _)⟩
    · cases e
  | list l =>
    cases e
    obtain ⟨o, vs, rfl, h, hs⟩ := hv.list r
    exact ⟨_, l.length, rfl, .inl ⟨vs, h, hs.length.symm⟩, q _ (.int _)⟩
  | tuple l =>
    cases e
    obtain ⟨o, vs, rfl, h, hs⟩ := hv.tuple r
    exact ⟨_, l.length, rfl, .inr ⟨vs, h, hs.length.symm⟩, q _ (.int _)⟩
  | _ => cases e
theorem cs_len {K : PySem.W.Frag} : CallS K (rLen K) gLen := fun vs ds d G H σ ρ Q r h e q => by
  cases h with
  | nil => cases e
  | cons h1 t =>
    cases t with
    | nil => exact gLen_ok r (.im h1) e (q _ _ r Stp.refl)
    | cons _ _ => cases e
theorem ve_len (hg : Gl X "len") (hm : X.mg "len" = none) (ha : VA X w (e :: es) ga) (he : starEach (e :: es) X.env = (false, eval e X.env) :: starEach es X.env := by rfl) (hpl : (backTo pos (starEach es X.env)).any (·.1) = false := by rfl) :
    VE X w (.Call (.Name "len" p) (e :: es) [] pos) (dCall gLen ga) := ve_cB call_len cs_len hg hm PySem.boot_len ha (by decide) (by decide) he hpl
def dLenN (i : Nat) : En → R D := atSlot i (fun ρ => .ok () ρ) fun l _ ρ => lift (gLen1 l.toD) ρ
theorem ve_lenN (i : Nat) {y : Str} {p2 : Pos} (hg : Gl X "len") (hm : X.mg "len" = none) (hN : X.N[i]? = some y := by rfl) (hv : Vis X.env.scope y := by first | exact Or.inl rfl | exact Or.inr (Or.inl rfl) | exact Or.inr (Or.inr rfl))
    (hd : (y == ("__debug__" : Str)) = false := by decide) (hcd : (y == ("__classdict__" : Str)) = false := by decide)
    (he : starEach [Expr.Name y p2] X.env = [(false, eval (.Name y p2) X.env)] := by rfl) : VE X w (.Call (.Name "len" p) [.Name y p2] [] pos) (dLenN i) := by
  refine PE.imp (pe_callB call_len hg hm PySem.boot_len (pa_cons (pe_var hN hv hd hcd) pa_nil (by rw [he]; rfl)) (by decide) (by decide) (by rw [he]; rfl) (by rfl)) fun σ H Q ⟨G, ρ, rel, h⟩ => ?_
  obtain ⟨v, s, h⟩ := Fn.slot rel h
  obtain ⟨l, e, dv, r1, s1, h1⟩ := h.ok rel
  obtain ⟨d, e', q⟩ := Fn.lift h1
  exact ⟨v, s, gLen_ok r1 dv e' (q _ _ r1 Stp.refl)⟩

/-! #### ints -/
def gAbs : List D → Option D
  | [.int i] => some (.int (if i < 0 then -i else i))
  | _ => none
def gInt : List D → Option D
  | [.int i] => some (.int i)
  | [.bool k] => some (.int (if k then 1 else 0))
  | [.str s] => if s.length ≤ 640 then (PySem.intText? s).map .int else none
  | _ => none
def gStr : List D → Option D
  | [.int i] => if i.natAbs.log2 < 1920 then some (.str (toString i)) else none
  | _ => none
def gMax2 : List D → Option D
  | [.int i, .int j] => some (.int (if j > i then j else i))
  | _ => none
def gMin2 : List D → Option D
  | [.int i, .int j] => some (.int (if j < i then j else i))
  | _ => none
theorem cs1 {K : PySem.W.Frag} {r : List V → Hp → VK → Prop} {g : List D → Option D} (hg : ∀ ds d, g ds = some d → ∃ x, ds = [x])
    (h : ∀ v x d G H σ ρ Q, Rel K G H σ ρ → DR K G v x → g [x] = some d → (∀ v, DR K G v d → Q v H) → r [v] H Q) : CallS K r g := fun vs ds d G H σ ρ Q rel hv e q => by
  obtain ⟨x, rfl⟩ := hg _ _ e
  cases hv with
  | cons h1 t =>
    cases t
    exact h _ x d G H σ ρ Q rel h1 e (q _ _ rel Stp.refl)
theorem cs2 {K : PySem.W.Frag} {r : List V → Hp → VK → Prop} {g : List D → Option D} (hg : ∀ ds d, g ds = some d → ∃ x y, ds = [x, y])
    (h : ∀ v u x y d G H σ ρ Q, Rel K G H σ ρ → DR K G v x → DR K G u y → g [x, y] = some d → (∀ v, DR K G v d → Q v H) → r [v, u] H Q) : CallS K r g := fun vs ds d G H σ ρ Q rel hv e q => by
  obtain ⟨x, y, rfl⟩ := hg _ _ e
  cases hv with
  | cons h1 t =>
    cases t with
    | cons h2 t => cases t; exact h _ _ x y d G H σ ρ Q rel h1 h2 e (q _ _ rel Stp.refl)
theorem cs_abs {K : PySem.W.Frag} : CallS K (fun xs H Q => ∃ i, xs = [.int i] ∧ Q (.int (if i < 0 then -i else i)) H) gAbs :=
  cs1 (fun ds d e => by rcases ds with _ | ⟨x, _ | ⟨y, t⟩⟩ <;> first | exact ⟨_, rfl⟩ | (cases e; done) | (cases x <;> cases e)) fun v x d G H σ ρ Q rel h e q => by
    cases h with
    | int i => cases e; exact ⟨i, rfl, q _ (.int _)⟩
    | _ => cases e
theorem cs_max2 {K : PySem.W.Frag} : CallS K (fun xs H Q => ∃ i j, xs = [.int i, .int j] ∧ Q (.int (if j > i then j else i)) H) gMax2 :=
  cs2 (fun ds d e => by rcases ds with _ | ⟨x, _ | ⟨y, _ | ⟨z, t⟩⟩⟩ <;> first | exact ⟨_, _, rfl⟩ | (cases e; done) | (cases x <;> cases e; done) | (cases x <;> cases y <;> cases e)) fun v u x y d G H σ ρ Q rel h1 h2 e q => by
    cases h1 with
    | int i =>
      cases h2 with
      | int j => cases e; exact ⟨i, j, rfl, q _ (.int _)⟩
      | _ => cases e
    | _ => cases h2 <;> cases e
theorem cs_min2 {K : PySem.W.Frag} : CallS K (fun xs H Q => ∃ i j, xs = [.int i, .int j] ∧ Q (.int (if j < i then j else i)) H) gMin2 :=
  cs2 (fun ds d e => by rcases ds with _ | ⟨x, _ | ⟨y, _ | ⟨z, t⟩⟩⟩ <;> first | exact ⟨_, _, rfl⟩ | (cases e; done) | (cases x <;> cases e; done) | (cases x <;> cases y <;> cases e)) fun v u x y d G H σ ρ Q rel h1 h2 e q => by
    cases h1 with
    | int i =>
      cases h2 with
      | int j => cases e; exact ⟨i, j, rfl, q _ (.int _)⟩
      | _ => cases e
    | _ => cases h2 <;> cases e
abbrev rInt : List V → Hp → VK → Prop := fun xs H Q => ((∃ i, xs = [.int i] ∧ Q (.int i) H) ∨ ∃ k, xs = [.bl k] ∧ Q (.int (if k then 1 else 0)) H) ∨ (∃ a n, xs = [.str a] ∧ PySem.intText? a = some n ∧ a.length ≤ 640 ∧ Q (.int n) H)
theorem call_intA : CallR X (.type "int") rInt := call_int1.or call_int_str
theorem cs_int {K : PySem.W.Frag} : CallS K rInt gInt :=
  cs1 (fun ds d e => by rcases ds with _ | ⟨x, _ | ⟨y, t⟩⟩ <;> first | exact ⟨_, rfl⟩ | (cases e; done) | (cases x <;> cases e)) fun v x d G H σ ρ Q rel h e q => by
    cases h with
    | int i => cases e; exact .inl (.inl ⟨i, rfl, q _ (.int _)⟩)
    | bl k => cases e; exact .inl (.inr ⟨k, rfl, q _ (.int _)⟩)
    | str s =>
      simp only [gInt] at e
      split at e
      · simp only [Option.map_eq_some_iff] at e
        obtain ⟨n, e, rfl⟩ := e
        exact .inr ⟨s, n, rfl, e, ‹_›, q _ (.int _)⟩
      · cases e
    | _ => cases e
theorem cs_str {K : PySem.W.Frag} : CallS K (fun xs H Q => ∃ i, xs = [.int i] ∧ i.natAbs.log2 < 1920 ∧ Q (.str (toString i)) H) gStr :=
  cs1 (fun ds d e => by rcases ds with _ | ⟨x, _ | ⟨y, t⟩⟩ <;> first | exact ⟨_, rfl⟩ | (cases e; done) | (cases x <;> cases e)) fun v x d G H σ ρ Q rel h e q => by
    cases h with
    | int i =>
      simp only [gStr] at e
      split at e
      · cases e; exact ⟨i, rfl, ‹_›, q _ (.str _)⟩
      · cases e
    | _ => cases e

/-! #### isinstance -/
def tyN : D → String
  | .none => "NoneType" | .bool _ => "bool" | .int _ => "int" | .str _ => "str" | .list _ => "list" | .tuple _ => "tuple" | .dict _ => "dict"
def isTy (t : String) : D → Bool
  | .none => t == "NoneType" | .bool _ => t == "bool" || t == "int" | .int _ => t == "int" | .str _ => t == "str" | .list _ => t == "list" | .tuple _ => t == "tuple" | .dict _ => t == "dict"
def dIsi (t : String) (f : En → R D) : En → R Bool := fun ρ => (f ρ).bind fun d ρ1 => .ok (isTy t d) ρ1
theorem DR.ty {K : PySem.W.Frag} {H : Hp} {v : V} {d : D} (h : DR K H v d) : TyX K H v (.type (tyN d)) := by
  cases h with
  | non => exact .base .non
  | bl b => exact .base (.bl b)
  | int i => exact .base (.int i)
  | str s => exact .base (.str s)
  | lst h hs =>
    rcases h with (h | ⟨o, h⟩) | ⟨o, its, n, hk, hc, _⟩
    · exact .base (.lst h)
    · exact .base (.frz h)
    · exact .kList hk hc
  | tup h hs =>
    rcases h with (h | ⟨o, h⟩) | ⟨o, its, n, hk, hc, _⟩
    · exact .base (.tup h)
    · exact .fTuple h
    · exact .kTuple hk hc
  | dic h hs => exact .base (.dK h)
def tyOk (t : String) : Bool := t == "NoneType" || t == "bool" || t == "int" || t == "str" || t == "list" || t == "tuple" || t == "dict"
def isTyS (t n : String) : Bool := t == n || (n == "bool" && t == "int")
theorem isTy_S (t : String) (d : D) : isTy t d = isTyS t (tyN d) := by
  cases d <;> simp [isTy, isTyS, tyN]
theorem isTy_kit {t : String} (ht : tyOk t = true) (d : D) : kitB (tyN d) t = some (isTy t d) := by
  have h : t = "NoneType" ∨ t = "bool" ∨ t = "int" ∨ t = "str" ∨ t = "list" ∨ t = "tuple" ∨ t = "dict" := by
    simpa [tyOk, or_assoc] using ht
  have hn : tyN d = "NoneType" ∨ tyN d = "bool" ∨ tyN d = "int" ∨ tyN d = "str" ∨ tyN d = "list" ∨ tyN d = "tuple" ∨ tyN d = "dict" := by
    cases d <;> simp [tyN]
  rw [isTy_S]
  generalize tyN d = n at hn
  rcases h with rfl | rfl | rfl | rfl | rfl | rfl | rfl <;> rcases hn with rfl | rfl | rfl | rfl | rfl | rfl | rfl <;> decide +kernel
theorem ve_isi {a : Expr} {f : En → R D} {y : Str} {t : String} {p2 : Pos} (hg : Gl X "isinstance") (hm : X.mg "isinstance" = none) (ha : VE X w a f) (hgy : Gl X y) (hmy : X.mg y = none) (hvy : bootBuiltins y = some (.type t)) (ht : tyOk t = true := by rfl)
    (hn : y ≠ "__name__" := by decide) (hdy : (y == ("__debug__" : Str)) = false := by decide)
    (he : starEach [a, Expr.Name y p2] X.env = [(false, eval a X.env), (false, eval (.Name y p2) X.env)] := by rfl)
    (he2 : starEach [Expr.Name y p2] X.env = [(false, eval (.Name y p2) X.env)] := by rfl) :
    VE X w (.Call (.Name "isinstance" p) [a, .Name y p2] [] pos) (dB (dIsi t f)) := by
  refine PE.imp (pe_callB call_isi hg hm (by decide +kernel) (pa_cons ha (pa_cons (pe_bltn (v := .ty t) hgy hmy hvy rfl hn hdy) pa_nil (by rw [he2]; rfl)) (by rw [he, he2])) (by decide) (by decide) (by rw [he, he2]) (by rw [he2]; rfl)) fun σ H Q ⟨G, ρ, rel, h⟩ => ?_
  refine ⟨G, ρ, rel, (Fn.bind rel (Fn.dB rel h)).imp fun G1 H1 ρ1 d ⟨r1, s1, h1⟩ v hv => ?_⟩
  exact ⟨v, .ty t, _, _, _, rfl, .ty t, (hv.mono r1.sub).ty, kit_ty (isTy_kit ht d), (h1.ok r1).2.2⟩
end
end Dn
namespace Dn
open PySem PySem.Spec PyProof.Rows L2

/-! ### statements -/
inductive Fl where
  | nx | bk | ct
  | rt (d : D)
  | rl (ds : List D)
/-- a list that is handed out, nobody else's -/
structure OutL (K : PySem.W.Frag) (G H : Hp) (σ : L2.St) (ρ : En) (G' H' : Hp) (σ' : L2.St) (ρ' : En) (p : Addr) (ds : List D) : Prop where
  g : G' p = none
  own : ¬ Own H' σ' ρ' p
  here : ∃ vs, H' p = some (.lst vs) ∧ DRs K G' vs ds
  new : H p = none ∨ ∃ (i : Nat) (l : L) (v : V), ρ[i]? = some (some l) ∧ l.own = true ∧ σ[i]? = some (some v) ∧ Fo H l v p
def FnS (K : PySem.W.Frag) (w : Wh) (G H : Hp) (σ : L2.St) (ρ : En) (r : R Fl) (D : Ends) : Prop :=
  match r with
  | .no => False
  | .ok .nx ρ' => ∀ G' H' σ', Rel K G' H' σ' ρ' → Stp G H σ ρ G' H' σ' ρ' → D.nx σ' H'
  | .ok .bk ρ' => ∀ G' H' σ', Rel K G' H' σ' ρ' → Stp G H σ ρ G' H' σ' ρ' → D.bk σ' H'
  | .ok .ct ρ' => ∀ G' H' σ', Rel K G' H' σ' ρ' → Stp G H σ ρ G' H' σ' ρ' → D.ct σ' H'
  | .ok (.rt d) ρ' => ∀ G' H' σ' v, Rel K G' H' σ' ρ' → Stp G H σ ρ G' H' σ' ρ' → DR K G' v d → D.rt v H'
  | .ok (.rl ds) ρ' => ∀ G' H' σ' p, Rel K G' H' σ' ρ' → Stp G H σ ρ G' H' σ' ρ' → OutL K G H σ ρ G' H' σ' ρ' p ds → D.rt (.ref p) H'
  | .ex c ρ' => ∀ G' H' σ' cls dx, Rel K G' H' σ' ρ' → Stp G H σ ρ G' H' σ' ρ' → ExR K w G' H' c cls dx → w.W cls dx σ' H'
abbrev tsS (K : PySem.W.Frag) (w : Wh) (f : En → R Fl) : TS := fun D σ H => ∃ G ρ, Rel K G H σ ρ ∧ FnS K w G H σ ρ (f ρ) D
abbrev VS (X : Cx) (w : Wh) (st : Stmt) (f : En → R Fl) : Prop := PS X st (tsS X.K w f)
abbrev VSs (X : Cx) (w : Wh) (sts : List Stmt) (f : En → R Fl) : Prop := PSs X sts (tsS X.K w f)

section
variable {K : PySem.W.Frag} {w : Wh} {G H G1 H1 G2 H2 : Hp} {σ σ1 σ2 : L2.St} {ρ ρ1 ρ2 : En}
/-- an own slot keeps being own and at its place, or goes; here: what is moved out of a later state was new or own before -/
theorem OutL.back (rel : Rel K G H σ ρ) (r1 : Rel K G1 H1 σ1 ρ1) (s1 : Stp G H σ ρ G1 H1 σ1 ρ1) {p : Addr} {ds : List D} (h : OutL K G1 H1 σ1 ρ1 G2 H2 σ2 ρ2 p ds) : OutL K G H σ ρ G2 H2 σ2 ρ2 p ds := by
  refine ⟨h.g, h.own, h.here, ?_⟩
  cases q : H p with
  | none => exact .inl rfl
  | some o =>
    rcases h.new with z | ⟨i, l1, v1, e, lo, s, f1⟩
    · exact absurd z (s1.tr p (by rw [q]; exact fun z => nomatch z))
    · rcases s1.ow p ⟨i, l1, v1, e, s, f1⟩ with ⟨j, l, v, ej, sj, fj⟩ | z
      · have key : ∀ l', ρ1[j]? = some (some l') → σ1[j]? = σ[j]? → Fo H1 l' v p → l' = l1 := fun l' e2 e1 f2 => by
          have := r1.apart i j _ _ _ v p e e2 s (e1.trans sj) f1 f2
          subst this
          rw [e] at e2; cases e2; rfl
        cases l with
        | im d => exact fj.elim
        | xn _ _ _ => exact fj.elim
        | ow es' => exact .inr ⟨j, _, v, ej, rfl, sj, fj⟩
        | ot t => exact .inr ⟨j, _, v, ej, rfl, sj, fj⟩
        | bo es' =>
          obtain ⟨e1, ds', e2⟩ := s1.bo j es' ej
          have := key _ e2 e1 fj
          subst this
          cases lo
        | bt t =>
          obtain ⟨e1, t', e2, f2⟩ := s1.bt j t ej
          have := key _ e2 e1 (f2 v p sj fj)
          subst this
          cases lo
      · rw [q] at z; cases z
/-- behind a first step -/
theorem FnS.after (rel : Rel K G H σ ρ) (r1 : Rel K G1 H1 σ1 ρ1) (s1 : Stp G H σ ρ G1 H1 σ1 ρ1) {r : R Fl} {D : Ends} (h : FnS K w G H σ ρ r D) : FnS K w G1 H1 σ1 ρ1 r D := by
  cases r with
  | no => exact h
  | ex c ρ' => exact fun G' H' σ' cls dx r2 s2 => h G' H' σ' cls dx r2 (s1.trans rel s2)
  | ok f ρ' =>
    cases f with
    | nx => exact fun G' H' σ' r2 s2 => h G' H' σ' r2 (s1.trans rel s2)
    | bk => exact fun G' H' σ' r2 s2 => h G' H' σ' r2 (s1.trans rel s2)
    | ct => exact fun G' H' σ' r2 s2 => h G' H' σ' r2 (s1.trans rel s2)
    | rt d => exact fun G' H' σ' v r2 s2 => h G' H' σ' v r2 (s1.trans rel s2)
    | rl ds => exact fun G' H' σ' p r2 s2 ho => h G' H' σ' p r2 (s1.trans rel s2) (ho.back rel r1 s1)
/-- first an expression -/
theorem FnS.bind {α : Type} {r : R α} {g : α → En → R Fl} {D : Ends} (rel : Rel K G H σ ρ) (h : FnS K w G H σ ρ (r.bind g) D) :
    Fn K w G H σ ρ r (fun G1 H1 ρ1 a => Rel K G1 H1 σ ρ1 ∧ Stp G H σ ρ G1 H1 σ ρ1 ∧ FnS K w G1 H1 σ ρ1 (g a ρ1) D) := by
  cases r with
  | no => exact h
  | ex c ρ' => exact fun G' H' cls dx r1 s1 x => h G' H' σ cls dx r1 s1 x
  | ok a ρ' => exact fun G1 H1 r1 s1 => ⟨r1, s1, FnS.after rel r1 s1 (show FnS K w G H σ ρ (g a ρ') D from h)⟩
theorem FnS.lift {α : Type} {o : Option α} {g : α → R Fl} {D : Ends} (h : FnS K w G H σ ρ (match o with | some a => g a | none => .no) D) : ∃ a, o = some a ∧ FnS K w G H σ ρ (g a) D := by
  cases o with
  | none => exact h.elim
  | some a => exact ⟨a, rfl, h⟩
theorem FnS.nx {D : Ends} (h : FnS K w G H σ ρ (.ok .nx ρ1) D) {σ' : L2.St} (r : Rel K G1 H1 σ' ρ1) (s : Stp G H σ ρ G1 H1 σ' ρ1) : D.nx σ' H1 := h _ _ _ r s
/-- a block's first statement -/
theorem FnS.seq {f g : En → R Fl} {D : Ends} (rel : Rel K G H σ ρ) (h : FnS K w G H σ ρ ((f ρ).bind fun fl ρ1 => match fl with | .nx => g ρ1 | fl => .ok fl ρ1) D) :
    FnS K w G H σ ρ (f ρ) { D with nx := fun σ1 H1 => ∃ G1 ρ1, Rel K G1 H1 σ1 ρ1 ∧ FnS K w G1 H1 σ1 ρ1 (g ρ1) D } := by
  cases q : f ρ with
  | no => rw [q] at h; exact h
  | ex c ρ' => rw [q] at h; exact h
  | ok fl ρ' =>
    rw [q] at h
    cases fl with
    | nx => exact fun G1 H1 σ1 r1 s1 => ⟨G1, ρ', r1, FnS.after rel r1 s1 (show FnS K w G H σ ρ (g ρ') D from h)⟩
    | bk => exact h
    | ct => exact h
    | rt d => exact h
    | rl ds => exact h
end
def dSeq (f g : En → R Fl) : En → R Fl := fun ρ => (f ρ).bind fun fl ρ1 => match fl with
  | .nx => g ρ1
  | fl => .ok fl ρ1
def dNx : En → R Fl := fun ρ => .ok .nx ρ
def dBk : En → R Fl := fun ρ => .ok .bk ρ
def dCt : En → R Fl := fun ρ => .ok .ct ρ
def dRet (f : En → R D) : En → R Fl := fun ρ => (f ρ).bind fun d ρ1 => .ok (.rt d) ρ1
def dRetL (f : En → R (List D)) : En → R Fl := fun ρ => (f ρ).bind fun d ρ1 => .ok (.rl d) ρ1
def dDrop (f : En → R D) : En → R Fl := fun ρ => (f ρ).bind fun _ ρ1 => .ok .nx ρ1
def dIf (c : En → R Bool) (f g : En → R Fl) : En → R Fl := fun ρ => (c ρ).bind fun b ρ1 => if b = true then f ρ1 else g ρ1
section
variable {X : Cx} {w : Wh} {st : Stmt} {rest : List Stmt} {f g : En → R Fl} {pos : Pos} {e : Expr} {fe : En → R D}
theorem vss_nil : VSs X w [] dNx := PSs.imp pss_nil fun D σ H ⟨G, ρ, rel, h⟩ => FnS.nx (show FnS X.K w G H σ ρ (.ok .nx ρ) D from h) rel Stp.refl
theorem vss_cons (h1 : VS X w st f) (h2 : VSs X w rest g) : VSs X w (st :: rest) (dSeq f g) := PSs.imp (pss_cons h1 h2) fun D σ H ⟨G, ρ, rel, h⟩ => ⟨G, ρ, rel, FnS.seq rel h⟩
theorem vss_one (h1 : VS X w st f) : VSs X w [st] f := pss_one h1
theorem vs_pass : VS X w (.Pass pos) dNx := PS.imp ps_pass fun D σ H ⟨G, ρ, rel, h⟩ => FnS.nx (show FnS X.K w G H σ ρ (.ok .nx ρ) D from h) rel Stp.refl
theorem vs_break : VS X w (.Break pos) dBk := PS.imp ps_break fun D σ H ⟨G, ρ, rel, h⟩ => (show FnS X.K w G H σ ρ (.ok .bk ρ) D from h) _ _ _ rel Stp.refl
theorem vs_cont : VS X w (.Continue pos) dCt := PS.imp ps_continue fun D σ H ⟨G, ρ, rel, h⟩ => (show FnS X.K w G H σ ρ (.ok .ct ρ) D from h) _ _ _ rel Stp.refl
theorem vs_ret (he : VE X w e fe) : VS X w (.Return (some e) pos) (dRet fe) := PS.imp (ps_ret he) fun D σ H ⟨G, ρ, rel, h⟩ => ⟨G, ρ, rel, (FnS.bind rel h).imp fun G1 H1 ρ1 d ⟨r1, s1, h1⟩ v hv =>
  (show FnS X.K w G1 H1 σ ρ1 (.ok (.rt d) ρ1) D from h1) _ _ _ _ r1 Stp.refl hv⟩
theorem vs_retN : VS X w (.Return none pos) (dRet (dC .none)) := PS.imp ps_retN fun D σ H ⟨G, ρ, rel, h⟩ => (show FnS X.K w G H σ ρ (.ok (.rt .none) ρ) D from h) _ _ _ _ rel Stp.refl .non
theorem vs_expr (he : VE X w e fe) (hs : swapsWith e none pos.line X.env = pure false := by rfl) : VS X w (.Expr e pos) (dDrop fe) := PS.imp (ps_expr he hs) fun D σ H ⟨G, ρ, rel, h⟩ => ⟨G, ρ, rel, (FnS.bind rel h).imp fun G1 H1 ρ1 d ⟨r1, s1, h1⟩ v hv =>
  FnS.nx (show FnS X.K w G1 H1 σ ρ1 (.ok .nx ρ1) D from h1) r1 Stp.refl⟩
theorem vs_if {c : Expr} {a b : List Stmt} {gc : En → R Bool} (hc : VT X w c gc) (ha : VSs X w a f) (hb : VSs X w b g) : VS X w (.If c a b pos) (dIf gc f g) := PS.imp (ps_if hc ha hb) fun D σ H ⟨G, ρ, rel, h⟩ => ⟨G, ρ, rel, (FnS.bind rel h).imp fun G1 H1 ρ1 b ⟨r1, s1, h1⟩ => by
  cases b with
  | true => exact iteT ⟨G1, ρ1, r1, h1⟩
  | false => exact iteF ⟨G1, ρ1, r1, h1⟩⟩
theorem vs_retL {fl : En → R (List D)} (he : VN X w e fl) : VS X w (.Return (some e) pos) (dRetL fl) := PS.imp (ps_ret he) fun D σ H ⟨G, ρ, rel, h⟩ => ⟨G, ρ, rel, by
  unfold dRetL at h
  cases q : fl ρ with
  | no => rw [q] at h; exact h
  | ex c ρ' => rw [q] at h; exact fun G' H' cls dx r1 s1 x => h G' H' σ cls dx r1 s1 x
  | ok ds ρ' =>
    rw [q] at h
    exact fun G1 H1 r1 s1 p n => h G1 H1 σ p r1 s1 ⟨n.g, n.own, n.here, .inl n.new⟩⟩
end

/-! ### stores into slots -/
section
variable {K : PySem.W.Frag} {G H : Hp} {σ : L2.St} {ρ : En}
theorem set_same {α : Type} {l : List α} {i : Nat} {a b : α} (h : l[i]? = some b) : (l.set i a)[i]? = some a := List.getElem?_set_self (List.getElem?_eq_some_iff.mp h).1
/-- the slot i takes a datum -/
theorem Rel.put (r : Rel K G H σ ρ) {i : Nat} {c : Option L} (hi : ρ[i]? = some c) (hb : ∀ ds, c ≠ some (L.bo ds)) (ht : ∀ t, c ≠ some (L.bt t)) {v : V} {d : D} (hv : DR K G v d) :
    Rel K G H (σ.set i (some v)) (ρ.set i (some (.im d))) ∧ Stp G H σ ρ G H (σ.set i (some v)) (ρ.set i (some (.im d))) := by
  obtain ⟨r', ow⟩ := r.set1 (G' := G) (H' := H) (v' := v) (l' := .im d) hi (Same.refl _) r.sub (fun a h => (r.own h.own).1) (fun a _ => rfl) hv (fun a f => f.elim)
  refine ⟨r', ⟨Same.refl _, fun _ _ h _ => h, fun _ h => .inl h, fun a h => .inl ?_, fun _ h => h, by rw [List.length_set], fun j ds e => ?_, fun j t e => ?_⟩⟩
  · rcases ow a h with z | z
    · exact z.own
    · exact z.elim
  · have hj : j ≠ i := fun z => by subst z; rw [hi] at e; exact hb ds (Option.some.inj e)
    exact ⟨List.getElem?_set_ne (Ne.symm hj), ds, by rw [List.getElem?_set_ne (Ne.symm hj)]; exact e⟩
  · have hj : j ≠ i := fun z => by subst z; rw [hi] at e; exact ht t (Option.some.inj e)
    exact ⟨List.getElem?_set_ne (Ne.symm hj), t, by rw [List.getElem?_set_ne (Ne.symm hj)]; exact e, fun _ _ _ f => f⟩
/-- the slot i takes a new list of its own -/
theorem Rel.putL (r : Rel K G H σ ρ) {i : Nat} {c : Option L} (hi : ρ[i]? = some c) {p : Addr} {ds : List D} (hg : G p = none) (ho : ¬ Own H σ ρ p) (hh : ∃ vs, H p = some (.lst vs) ∧ DRs K G vs ds) :
    Rel K G H (σ.set i (some (.ref p))) (ρ.set i (some (.ow ds))) ∧ ∀ a, Own H (σ.set i (some (.ref p))) (ρ.set i (some (.ow ds))) a → Own H σ ρ a ∨ a = p := by
  obtain ⟨vs, hp, hd⟩ := hh
  obtain ⟨r', ow⟩ := r.set1 (G' := G) (H' := H) (v' := .ref p) (l' := .ow ds) hi (Same.refl _) r.sub (fun a h => (r.own h.own).1) (fun a _ => rfl) ⟨p, vs, rfl, hg, hp, hd⟩ (fun a f z => by
    cases (show V.ref p = V.ref a from f); exact ho z.own)
  refine ⟨r', fun a h => ?_⟩
  rcases ow a h with z | z
  · exact .inl z.own
  · cases (show V.ref p = V.ref a from z); exact .inr rfl
theorem Stp.putL {G0 H0 : Hp} {σ0 : L2.St} {ρ0 : En} (s : Stp G0 H0 σ0 ρ0 G H σ ρ) (r : Rel K G H σ ρ) {i : Nat} {c : Option L} (hi : ρ[i]? = some c) (hb : ∀ ds, c ≠ some (L.bo ds)) (ht : ∀ t, c ≠ some (L.bt t)) {p : Addr} {ds : List D} (hg : G p = none) (ho : ¬ Own H σ ρ p) (hh : ∃ vs, H p = some (.lst vs) ∧ DRs K G vs ds) (hn : H0 p = none) :
    Stp G0 H0 σ0 ρ0 G H (σ.set i (some (.ref p))) (ρ.set i (some (.ow ds))) := by
  obtain ⟨_, ow⟩ := r.putL hi hg ho hh
  refine ⟨s.g, s.h, s.fr, fun a h => ?_, s.tr, by rw [List.length_set]; exact s.ln, fun j es e => ?_, fun j t e => ?_⟩
  · rcases ow a h with z | rfl
    · exact s.ow a z
    · exact .inr hn
  · obtain ⟨e1, ds', e2⟩ := s.bo j es e
    have hj : j ≠ i := fun z => by subst z; rw [hi] at e2; exact hb ds' (Option.some.inj e2)
    exact ⟨(List.getElem?_set_ne (Ne.symm hj)).trans e1, ds', by rw [List.getElem?_set_ne (Ne.symm hj)]; exact e2⟩
  · obtain ⟨e1, t', e2, f2⟩ := s.bt j t e
    have hj : j ≠ i := fun z => by subst z; rw [hi] at e2; exact ht t' (Option.some.inj e2)
    exact ⟨(List.getElem?_set_ne (Ne.symm hj)).trans e1, t', by rw [List.getElem?_set_ne (Ne.symm hj)]; exact e2, f2⟩
end
/-- no lent slot is stored into -/
def free (c : Option (Option L)) : Bool := match c with
  | none => false
  | some (some (.bo _)) => false
  | some (some (.bt _)) => false
  | _ => true
theorem free_ok {ρ : En} {i : Nat} (h : free ρ[i]? = true) : ∃ c, ρ[i]? = some c ∧ (∀ ds, c ≠ some (L.bo ds)) ∧ ∀ t, c ≠ some (L.bt t) := by
  cases q : ρ[i]? with
  | none => rw [q] at h; cases h
  | some c =>
    refine ⟨c, rfl, fun ds e => ?_, fun t e => ?_⟩
    · subst e; rw [q] at h; cases h
    · subst e; rw [q] at h; cases h
def putIm (i : Nat) (d : D) (ρ : En) : R Unit := if free ρ[i]? = true then .ok () (ρ.set i (some (.im d))) else .no
def putOw (i : Nat) (ds : List D) (ρ : En) : R Unit := if free ρ[i]? = true then .ok () (ρ.set i (some (.ow ds))) else .no
/-! targets -/
def FnG (K : PySem.W.Frag) (G H : Hp) (σ : L2.St) (ρ : En) (r : R Unit) (Q : L2.St → Hp → Prop) : Prop :=
  match r with
  | .ok _ ρ' => ∀ G' H' σ', Rel K G' H' σ' ρ' → Stp G H σ ρ G' H' σ' ρ' → Q σ' H'
  | _ => False
abbrev VG (X : Cx) (tg : Expr) (g : D → En → R Unit) : Prop := PG X tg (fun v σ H Q => ∃ G ρ d, Rel X.K G H σ ρ ∧ DR X.K G v d ∧ FnG X.K G H σ ρ (g d ρ) Q)
abbrev VGs (X : Cx) (tgs : List Expr) (g : List D → En → R Unit) : Prop := PGs X tgs (fun vs σ H Q => ∃ G ρ ds, Rel X.K G H σ ρ ∧ DRs X.K G vs ds ∧ FnG X.K G H σ ρ (g ds ρ) Q)
theorem PG.imp {X : Cx} {e : Expr} {t t' : TG} (h : PG X e t) (i : ∀ v σ H Q, t' v σ H Q → t v σ H Q) : PG X e t' := ⟨fun pins s σ H v u Q I r q => h.run pins s σ H v u Q I r (i _ _ _ _ q)⟩
theorem PGs.imp {X : Cx} {e : List Expr} {t t' : TGs} (h : PGs X e t) (i : ∀ v σ H Q, t' v σ H Q → t v σ H Q) : PGs X e t' := ⟨fun pins s σ H v u Q I r q => h.run pins s σ H v u Q I r (i _ _ _ _ q)⟩
def gsNil : List D → En → R Unit := fun ds ρ => match ds with
  | [] => .ok () ρ
  | _ => .no
def gsCons (g : D → En → R Unit) (h : List D → En → R Unit) : List D → En → R Unit := fun ds ρ => match ds with
  | d :: r => (g d ρ).bind fun _ ρ1 => h r ρ1
  | [] => .no
def gTupD (n : Nat) (h : List D → En → R Unit) : D → En → R Unit := fun d ρ => match d with
  | .tuple ds => if ds.length = n then h ds ρ else .no
  | .list ds => if ds.length = n then h ds ρ else .no
  | _ => .no
theorem pgOr {X : Cx} {e : Expr} {t t' : TG} (h : PG X e t) (h' : PG X e t') : PG X e (fun v σ H Q => t v σ H Q ∨ t' v σ H Q) :=
  ⟨fun pins s σ H v u Q I r q => q.elim (fun q => h.run pins s σ H v u Q I r q) (fun q => h'.run pins s σ H v u Q I r q)⟩
section
variable {X : Cx} {w : Wh} {x : Str} {pos p : Pos} {e : Expr} {es : List Expr} {fe : En → R D} {g : D → En → R Unit} {h : List D → En → R Unit}
theorem FnG.put {K : PySem.W.Frag} {G H : Hp} {σ : L2.St} {ρ : En} {i : Nat} {v : V} {d : D} {Q : L2.St → Hp → Prop} (rel : Rel K G H σ ρ) (hv : DR K G v d) (q : FnG K G H σ ρ (putIm i d ρ) Q) : Q (σ.set i (some v)) H := by
  unfold putIm at q
  split at q
  · rename_i hf
    obtain ⟨c, hc, hb, ht⟩ := free_ok hf
    obtain ⟨r1, s1⟩ := rel.put hc hb ht hv
    exact q _ _ _ r1 s1
  · exact q.elim
theorem vg_name (i : Nat) (hN : X.N.Nodup) (hi : X.N[i]? = some x := by rfl) (hx : Loc X.env.scope x := by first | exact Or.inl rfl | exact Or.inr rfl) (hf : X.fn x = true ∨ X.env.scope.names.lookup x = some .local := by first | exact .inl rfl | exact .inr rfl | assumption) : VG X (.Name x pos) (putIm i) :=
  PG.imp (pg_name hN hi hx hf) fun v σ H Q ⟨G, ρ, d, rel, hv, q⟩ => FnG.put rel hv q
theorem vgs_nil : VGs X [] gsNil := PGs.imp pgs_nil fun vs σ H Q ⟨G, ρ, ds, rel, hv, q⟩ => by
  cases hv with
  | nil => exact ⟨rfl, q _ _ _ rel Stp.refl⟩
  | cons _ _ => exact q.elim
theorem vgs_cons (h1 : VG X e g) (h2 : VGs X es h) (hs : (assignEach (e :: es) X.env).map (·.2) = assign e X.env :: (assignEach es X.env).map (·.2) := by rfl) : VGs X (e :: es) (gsCons g h) :=
  PGs.imp (pgs_cons h1 h2 hs) fun vs σ H Q ⟨G, ρ, ds, rel, hv, q⟩ => by
    cases hv with
    | nil => exact q.elim
    | @cons v vs d ds hv1 hvs =>
      have q' : FnG X.K G H σ ρ ((g d ρ).bind fun _ ρ1 => h ds ρ1) Q := q
      refine ⟨v, vs, rfl, G, ρ, d, rel, hv1, ?_⟩
      cases e1 : g d ρ with
      | no => rw [e1] at q'; exact q'
      | ex c ρ' => rw [e1] at q'; exact q'
      | ok u ρ' =>
        rw [e1] at q'
        intro G1 H1 σ1 r1 s1
        refine ⟨G1, ρ', ds, r1, hvs.mono s1.g, ?_⟩
        have q2 : FnG X.K G H σ ρ (h ds ρ') Q := q'
        cases e2 : h ds ρ' with
        | no => rw [e2] at q2; exact q2
        | ex c ρ'' => rw [e2] at q2; exact q2
        | ok u' ρ'' => rw [e2] at q2; exact fun G2 H2 σ2 r2 s2 => q2 G2 H2 σ2 r2 (s1.trans rel s2)
theorem vg_tup {k : Nat} {n : Nat} (hc : X.calm = true) (hs : VGs X es h) (hn : (assignEach es X.env).length = n := by rfl) (hst : (assignEach es X.env).findIdx? (·.1) = none := by rfl) : VG X (.Tuple es k pos) (gTupD n h) :=
  PG.imp (pgOr (pg_tup hc hs hn hst) (pg_unl hc hs hn hst)) fun v σ H Q ⟨G, ρ, d, rel, hv, q⟩ => by
    cases hv with
    | @lst a xs ds hq hds =>
      have q' : FnG X.K G H σ ρ (if ds.length = n then h ds ρ else .no) Q := q
      split at q'
      · rename_i hl
        exact .inr ⟨a, xs, rfl, rel.sub.seq hq, by rw [hds.length]; exact hl, G, ρ, ds, rel, hds, q'⟩
      · exact q'.elim
    | @tup a xs ds hq hds =>
      have q' : FnG X.K G H σ ρ (if ds.length = n then h ds ρ else .no) Q := q
      split at q'
      · rename_i hl
        exact .inl ⟨a, xs, rfl, Same.tup rel.sub hq, by rw [hds.length]; exact hl, G, ρ, ds, rel, hds, q'⟩
      · exact q'.elim
    | _ => exact q.elim
def dAsg (g : D → En → R Unit) (f : En → R D) : En → R Fl := fun ρ => (f ρ).bind fun d ρ1 => (g d ρ1).bind fun _ ρ2 => .ok .nx ρ2
theorem FnS.tg {K : PySem.W.Frag} {G H : Hp} {σ : L2.St} {ρ : En} {r : R Unit} {D : Ends} (h : FnS K w G H σ ρ (r.bind fun _ ρ2 => .ok .nx ρ2) D) (hx : ∀ c ρ', r ≠ .ex c ρ') : FnG K G H σ ρ r D.nx := by
  cases r with
  | no => exact h
  | ex c ρ' => exact absurd rfl (hx c ρ')
  | ok u ρ' => exact h
/-- no target raises -/
def NoX (g : D → En → R Unit) : Prop := ∀ d ρ c ρ', g d ρ ≠ .ex c ρ'
theorem nox_put {i : Nat} : NoX (putIm i) := fun d ρ c ρ' => by
  unfold putIm; split <;> exact fun z => nomatch z
theorem vs_asg {tg : Expr} (he : VE X w e fe) (hg : VG X tg g) (hx : NoX g) (hs : swapsWithSole [tg] e pos.line X.env = pure false := by rfl) (hw : swappedStores [tg] e X.env = pure none := by rfl)
    (h1 : (assignEach [tg] X.env).map (·.2) = [assign tg X.env] := by rfl) : VS X w (.Assign [tg] e pos) (dAsg g fe) :=
  PS.imp (ps_asg he hg hs hw h1) fun D σ H ⟨G, ρ, rel, h⟩ => ⟨G, ρ, rel, (FnS.bind rel h).imp fun G1 H1 ρ1 d ⟨r1, s1, h1⟩ v hv => ⟨G1, ρ1, d, r1, hv, FnS.tg h1 (hx d ρ1)⟩⟩
theorem vs_set (i : Nat) {pos' : Pos} (hN : X.N.Nodup) (he : VE X w e fe) (hi : X.N[i]? = some x := by rfl) (hx : Loc X.env.scope x := by first | exact Or.inl rfl | exact Or.inr rfl) (hs : swapsWith e (some (.Name x pos')) pos.line X.env = pure false := by rfl)
    (hf : X.fn x = true ∨ X.env.scope.names.lookup x = some .local := by first | exact .inl rfl | exact .inr rfl | assumption) : VS X w (.Assign [.Name x pos'] e pos) (dAsg (putIm i) fe) :=
  PS.imp (ps_set hN hi hx he hs hf) fun D σ H ⟨G, ρ, rel, h⟩ => ⟨G, ρ, rel, (FnS.bind rel h).imp fun G1 H1 ρ1 d ⟨r1, s1, h1⟩ v hv => FnG.put r1 hv (FnS.tg h1 (nox_put d ρ1))⟩
def dAsgL (i : Nat) (f : En → R (List D)) : En → R Fl := fun ρ => (f ρ).bind fun ds ρ1 => (putOw i ds ρ1).bind fun _ ρ2 => .ok .nx ρ2
theorem vs_setL (i : Nat) {pos' : Pos} {fl : En → R (List D)} (hN : X.N.Nodup) (he : VN X w e fl) (hi : X.N[i]? = some x := by rfl) (hx : Loc X.env.scope x := by first | exact Or.inl rfl | exact Or.inr rfl) (hs : swapsWith e (some (.Name x pos')) pos.line X.env = pure false := by rfl)
    (hf : X.fn x = true ∨ X.env.scope.names.lookup x = some .local := by first | exact .inl rfl | exact .inr rfl | assumption) : VS X w (.Assign [.Name x pos'] e pos) (dAsgL i fl) :=
  PS.imp (ps_set hN hi hx he hs hf) fun D σ H ⟨G, ρ, rel, h⟩ => ⟨G, ρ, rel, by
    unfold dAsgL at h
    cases q : fl ρ with
    | no => rw [q] at h; exact h
    | ex c ρ' => rw [q] at h; exact fun G' H' cls dx r1 s1 x => h G' H' σ cls dx r1 s1 x
    | ok ds ρ' =>
      rw [q] at h
      intro G1 H1 r1 s1 p n
      have h' : FnS X.K w G H σ ρ ((putOw i ds ρ').bind fun _ ρ2 => .ok .nx ρ2) D := h
      unfold putOw at h'
      split at h'
      · rename_i hf
        obtain ⟨c, hc, hb, ht⟩ := free_ok hf
        exact FnS.nx (show FnS X.K w G H σ ρ (.ok .nx (ρ'.set i (some (.ow ds)))) D from h') (r1.putL hc n.g n.own n.here).1 (s1.putL r1 hc hb ht n.g n.own n.here n.new)
      · exact h'.elim⟩
/-- a, b = x, y -/
def dPar (i j : Nat) (ga : En → R (List AV)) : En → R Fl := fun ρ => (dAll ga ρ).bind fun ds ρ1 => match ds with
  | [a, b] => (putIm i a ρ1).bind fun _ ρ2 => (putIm j b ρ2).bind fun _ ρ3 => .ok .nx ρ3
  | _ => .no
theorem FnS.all {K : PySem.W.Frag} {G H : Hp} {σ : L2.St} {ρ : En} {ga : En → R (List AV)} {g : List D → En → R Fl} {Z : Ends} (rel : Rel K G H σ ρ) (h : FnS K w G H σ ρ ((dAll ga ρ).bind g) Z) :
    Fn K w G H σ ρ (ga ρ) (fun G1 H1 ρ1 as => Rel K G1 H1 σ ρ1 ∧ Stp G H σ ρ G1 H1 σ ρ1 ∧ ∃ ds, allIm as = some ds ∧ FnS K w G1 H1 σ ρ1 (g ds ρ1) Z) := by
  have h' : FnS K w G H σ ρ ((ga ρ).bind fun as ρ1 => (Dn.lift (allIm as) ρ1 : R (List D)).bind g) Z := by
    have : (dAll ga ρ).bind g = (ga ρ).bind fun as ρ1 => (Dn.lift (allIm as) ρ1 : R (List D)).bind g := by
      unfold dAll
      cases ga ρ <;> rfl
    rw [← this]; exact h
  refine (FnS.bind rel h').imp fun G1 H1 ρ1 as ⟨r1, s1, h1⟩ => ⟨r1, s1, ?_⟩
  cases q : allIm as with
  | none => rw [q] at h1; exact h1.elim
  | some ds => rw [q] at h1; exact ⟨ds, rfl, h1⟩
theorem vs_par (i j : Nat) {y : Str} {a b : Expr} {ga : En → R (List AV)} {px py pt : Pos} {kt k2 : Nat} {pt2 : Pos} (hc : X.calm = true) (hN : X.N.Nodup) (ha : VA X w [a, b] ga) (hi : X.N[i]? = some x := by rfl) (hj : X.N[j]? = some y := by rfl) (hij : i ≠ j := by decide)
    (hx : X.env.scope.names.lookup x = some .local := by rfl) (hy : X.env.scope.names.lookup y = some .local := by rfl)
    (hw : swappedStores [.Tuple [.Name x px, .Name y py] kt pt] (.Tuple [a, b] k2 pt2) X.env = pure (some [x, y]) := by rfl)
    (hs : swapsWithSole [.Tuple [.Name x px, .Name y py] kt pt] (.Tuple [a, b] k2 pt2) pos.line X.env = pure false := by rfl) :
    VS X w (.Assign [.Tuple [.Name x px, .Name y py] kt pt] (.Tuple [a, b] k2 pt2) pos) (dPar i j ga) :=
  PS.imp (ps_par hc hN hi hj hij hx hy ha hw hs) fun D σ H ⟨G, ρ, rel, h⟩ => ⟨G, ρ, rel, (FnS.all rel h).imp fun G1 H1 ρ1 as ⟨r1, s1, ds, e, h1⟩ vs hvs => by
    have hd := hvs.all e
    cases hd with
    | nil => exact h1.elim
    | @cons v vs d ds hv hvs' =>
      cases hvs' with
      | nil => exact h1.elim
      | @cons u vs d' ds hu t =>
        cases t with
        | cons _ _ => exact h1.elim
        | nil =>
          refine ⟨v, u, rfl, ?_⟩
          have h2 : FnS X.K w G1 H1 σ ρ1 ((putIm i d ρ1).bind fun _ ρ2 => (putIm j d' ρ2).bind fun _ ρ3 => .ok .nx ρ3) D := h1
          unfold putIm at h2
          split at h2
          · rename_i hf
            obtain ⟨c, hc', hb, ht⟩ := free_ok hf
            obtain ⟨r2, s2⟩ := r1.put hc' hb ht hv
            have h3 : FnS X.K w G1 H1 σ ρ1 ((if free (ρ1.set i (some (.im d)))[j]? = true then R.ok () ((ρ1.set i (some (.im d))).set j (some (.im d'))) else .no).bind fun _ ρ3 => .ok .nx ρ3) D := h2
            split at h3
            · rename_i hf2
              obtain ⟨c2, hc2, hb2, ht2⟩ := free_ok hf2
              obtain ⟨r3, s3⟩ := r2.put hc2 hb2 ht2 hu
              exact FnS.nx (show FnS X.K w G1 H1 σ ρ1 (.ok .nx _) D from h3) r3 (s2.trans r1 s3)
            · exact h3.elim
          · exact h2.elim⟩
end
end Dn
namespace Dn
open PySem PySem.Spec PyProof.Rows L2

/-! ### lists that change -/
def L.put : L → List D → L
  | .ow _, ds => .ow ds
  | .bo _, ds => .bo ds
  | l, _ => l
def L.mine : L → Option (List D)
  | .ow ds => some ds
  | .bo ds => some ds
  | _ => none
section
variable {K : PySem.W.Frag} {w : Wh} {G H : Hp} {σ : L2.St} {ρ : En}
theorem Rel.mine (r : Rel K G H σ ρ) {i : Nat} {l : L} {ds : List D} (h : ρ[i]? = some (some l)) (m : l.mine = some ds) : ∃ o vs, σ[i]? = some (some (V.ref o)) ∧ G o = none ∧ H o = some (.lst vs) ∧ DRs K G vs ds := by
  obtain ⟨v, s, c⟩ := r.cell i l h
  cases l with
  | ow es => cases m; obtain ⟨o, vs, rfl, g, q, hd⟩ := c; exact ⟨o, vs, s, g, q, hd⟩
  | bo es => cases m; obtain ⟨o, vs, rfl, g, q, hd⟩ := c; exact ⟨o, vs, s, g, q, hd⟩
  | _ => cases m
theorem L.mine_fo {l : L} {ds : List D} {v : V} {a : Addr} (m : l.mine = some ds) : Fo H l v a ↔ v = V.ref a := by
  cases l <;> first | (cases m; done) | exact Iff.rfl
theorem L.put_mu {l : L} {ds es : List D} (m : l.mine = some ds) : (l.put es).mu = true ∧ l.mu = true ∧ (l.put es).mine = some es := by
  cases l <;> first | (cases m; done) | exact ⟨rfl, rfl, rfl⟩
theorem Rel.change (r : Rel K G H σ ρ) {i : Nat} {l : L} {ds es : List D} (h : ρ[i]? = some (some l)) (m : l.mine = some ds) {o : Addr} (s : σ[i]? = some (some (V.ref o))) {vs : List V} (hd : DRs K G vs es) :
    Rel K G (upd H o (.lst vs)) σ (ρ.set i (some (l.put es))) ∧ Stp G H σ ρ G (upd H o (.lst vs)) σ (ρ.set i (some (l.put es))) := by
  obtain ⟨o', ws, s', go, ho, _⟩ := r.mine h m
  rw [s] at s'; cases s'
  obtain ⟨pm, lm, pq⟩ := L.put_mu (es := es) m
  have fo : Fo H l (V.ref o) o := (L.mine_fo m).mpr rfl
  have own_o : Own H σ ρ o := ⟨i, l, _, h, s, fo⟩
  have away : ∀ a, OwnX H σ ρ i a → a ≠ o := fun a ha z => by subst z; exact r.notX h s fo ha
  obtain ⟨r', ow⟩ := r.set1 (G' := G) (H' := upd H o (.lst vs)) (v' := V.ref o) (l' := l.put es) h (Same.refl _) (fun b x e => by rw [upd_ne (ne_of_none e go)]; exact r.sub b x e)
    (fun a ha => (r.own ha.own).1) (fun a ha => upd_ne (away a ha)) (by
      cases l with
      | ow _ => exact ⟨o, vs, rfl, go, upd_same, hd⟩
      | bo _ => exact ⟨o, vs, rfl, go, upd_same, hd⟩
      | _ => cases m) (fun a f z => by
      have : V.ref o = V.ref a := (L.mine_fo pq).mp f
      cases this; exact away _ z rfl)
  rw [set_id s] at r' ow
  refine ⟨r', ⟨Same.refl _, fun a x e n => ?_, fun a q => .inl q, fun a q => .inl ?_, tracked_upd, by rw [List.length_set], fun j bs e => ⟨rfl, ?_⟩, fun j t e => ⟨rfl, t, ?_, fun v a sv f => f.to fun b q => upd_ne ?_⟩⟩⟩
  · have ha : a ≠ o := fun z => by subst z; exact n own_o
    rw [upd_ne ha]; exact e
  · rcases ow a q with z | z
    · exact z.own
    · have : V.ref o = V.ref a := (L.mine_fo pq).mp z
      cases this; exact own_o
  · by_cases hj : j = i
    · subst hj
      rw [h] at e; cases e
      exact ⟨es, set_same h⟩
    · exact ⟨bs, by rw [List.getElem?_set_ne (Ne.symm hj)]; exact e⟩
  · have hj : j ≠ i := fun z => by subst z; rw [h] at e; cases e; cases m
    rw [List.getElem?_set_ne (Ne.symm hj)]; exact e
  · have hj : j ≠ i := fun z => by subst z; rw [h] at e; cases e; cases m
    exact away b ⟨j, _, v, hj, e, sv, q⟩
end
/-- at a list of one's own -/
def atMine {α β : Type} (i : Nat) (f : En → R β) (g : L → List D → β → En → R α) : En → R α := fun ρ => match ρ[i]? with
  | some (some l0) => match l0.mine with
    | some _ => (f ρ).bind fun y ρ1 => match ρ1[i]? with
      | some (some l) => match l.mine with
        | some ds => g l ds y ρ1
        | none => .no
      | _ => .no
    | none => .no
  | _ => .no
section
variable {X : Cx} {w : Wh} {x : Str} {p pos : Pos} {e : Expr} {fe fi : En → R D}
theorem FnS.mine {α : Type} {K : PySem.W.Frag} {G H : Hp} {σ : L2.St} {ρ : En} {i : Nat} {f : En → R α} {g : L → List D → α → En → R Fl} {Z : Ends} (rel : Rel K G H σ ρ) (h : FnS K w G H σ ρ (atMine i f g ρ) Z) :
    ∃ o, σ[i]? = some (some (V.ref o)) ∧ (∃ vs, H o = some (.lst vs)) ∧ Fn K w G H σ ρ (f ρ) (fun G1 H1 ρ1 y => ∃ l ds, ρ1[i]? = some (some l) ∧ l.mine = some ds ∧ Rel K G1 H1 σ ρ1 ∧ Stp G H σ ρ G1 H1 σ ρ1 ∧ FnS K w G1 H1 σ ρ1 (g l ds y ρ1) Z) := by
  unfold atMine at h
  split at h
  · rename_i l0 e0
    split at h
    · rename_i es m0
      obtain ⟨o, vs, s, go, ho, hd⟩ := rel.mine e0 m0
      refine ⟨o, s, ⟨vs, ho⟩, (FnS.bind rel h).imp fun G1 H1 ρ1 y ⟨r1, s1, h1⟩ => ?_⟩
      split at h1
      · rename_i l e1
        split at h1
        · rename_i ds m; exact ⟨l, ds, e1, m, r1, s1, h1⟩
        · exact h1.elim
      · exact h1.elim
    · exact h.elim
  · exact h.elim
theorem Fn.mine {α β : Type} {K : PySem.W.Frag} {G H : Hp} {σ : L2.St} {ρ : En} {i : Nat} {f : En → R α} {g : L → List D → α → En → R β} {P : Hp → Hp → En → β → Prop} (rel : Rel K G H σ ρ) (h : Fn K w G H σ ρ (atMine i f g ρ) P) :
    ∃ o, σ[i]? = some (some (V.ref o)) ∧ (∃ vs, H o = some (.lst vs)) ∧ Fn K w G H σ ρ (f ρ) (fun G1 H1 ρ1 y => ∃ l ds, ρ1[i]? = some (some l) ∧ l.mine = some ds ∧ Rel K G1 H1 σ ρ1 ∧ Stp G H σ ρ G1 H1 σ ρ1 ∧ Fn K w G1 H1 σ ρ1 (g l ds y ρ1) P) := by
  unfold atMine at h
  split at h
  · rename_i l0 e0
    split at h
    · rename_i es m0
      obtain ⟨o, vs, s, go, ho, hd⟩ := rel.mine e0 m0
      refine ⟨o, s, ⟨vs, ho⟩, (Fn.bind rel h).imp fun G1 H1 ρ1 y ⟨r1, s1, h1⟩ => ?_⟩
      split at h1
      · rename_i l e1
        split at h1
        · rename_i ds m; exact ⟨l, ds, e1, m, r1, s1, h1⟩
        · exact h1.elim
      · exact h1.elim
    · exact h.elim
  · exact h.elim
/-- x.append(e) -/
def dApp (i : Nat) (f : En → R D) : En → R Fl := atMine i f fun l ds d ρ => if ds.length < sizeLine then .ok .nx (ρ.set i (some (l.put (ds ++ [d])))) else .no
theorem vs_append (i : Nat) {apos : Pos} (he : VE X w e fe) (hN : X.N[i]? = some x := by rfl) (hv : Vis X.env.scope x := by first | exact Or.inl rfl | exact Or.inr (Or.inl rfl) | exact Or.inr (Or.inr rfl)) (hd : (x == ("__debug__" : Str)) = false := by decide) (hcd : (x == ("__classdict__" : Str)) = false := by decide)
    (hbase : attributeBase (.Name x p) "append" X.env (eval (.Name x p) X.env) = eval (.Name x p) X.env := by rfl) (hline : (apos.endLine == pos.line) = true := by rfl)
    (hfew : ((backTo pos (starEach [e] X.env)).all (fun x => !x.1) && (backToKw pos (keywordEach [] X.env)).all (fun x => x.1.isSome) && decide (([e] : List Expr).length + ([] : List Keyword).length + (if ([] : List Keyword).isEmpty then 0 else 1) < 30)) = true := by rfl)
    (hs : starEach [e] X.env = (false, eval e X.env) :: starEach [] X.env := by rfl) {pos2 : Pos} (hsw : swapsWith (.Call (.Attribute (.Name x p) "append" apos) [e] [] pos) none pos2.line X.env = pure false := by rfl) :
    VS X w (.Expr (.Call (.Attribute (.Name x p) "append" apos) [e] [] pos) pos2) (dApp i fe) :=
  PS.imp (ps_expr (pe_bm PySem.F.plainAttrs_list PySem.F.slot_list_append PySem.F.type_list_append mt_append (pe_var hN hv hd hcd) (pa_cons he pa_nil hs) hbase hfew hline hs (by rfl)) hsw) fun Z σ H ⟨G, ρ, rel, h⟩ => by
    obtain ⟨o, s, ⟨vs, ho⟩, h⟩ := FnS.mine rel h
    refine ⟨.ref o, s, .inl ⟨rfl, vs, .inl (.inl ho)⟩, G, ρ, rel, h.imp fun G1 H1 ρ1 d ⟨l, ds, e1, m, r1, s1, h1⟩ v hv => ?_⟩
    obtain ⟨o', ws, s', go, hw, hd⟩ := r1.mine e1 m
    rw [s] at s'; cases s'
    split at h1
    · obtain ⟨r2, s2⟩ := r1.change e1 m s (hd.append (.cons hv .nil))
      exact ⟨o, ws, v, rfl, rfl, hw, by rw [hd.length]; assumption, FnS.nx h1 r2 s2⟩
    · exact h1.elim
/-- x[k] = e -/
def dSetI (i : Nat) (f k : En → R D) : En → R Fl := fun ρ => (f ρ).bind fun d ρ1 => atMine i k (fun l ds y ρ2 => match asI y with
  | some z => match ixN ds.length z with
    | some j => .ok .nx (ρ2.set i (some (l.put (ds.set j d))))
    | none => .no
  | none => .no) ρ1
theorem vs_setI (i : Nat) {k : Expr} {pos2 : Pos} (he : VE X w e fe) (hk : VE X w k fi) (hN : X.N[i]? = some x := by rfl) (hv : Vis X.env.scope x := by first | exact Or.inl rfl | exact Or.inr (Or.inl rfl) | exact Or.inr (Or.inr rfl)) (hd : (x == ("__debug__" : Str)) = false := by decide) (hcd : (x == ("__classdict__" : Str)) = false := by decide)
    (ha : ∀ v, assign (.Subscript (.Name x p) k pos) X.env v = (do
      let ov ← holding [v] (eval (.Name x p) X.env)
      let iv ← holding [v, ov] (eval k X.env)
      standAt pos
      holding [v, ov, iv] (setItem ov iv v)
      release [v, ov, iv] []) := by intro _; rfl)
    (hs : swapsWithSole [.Subscript (.Name x p) k pos] e pos2.line X.env = pure false := by rfl) (hw : swappedStores [.Subscript (.Name x p) k pos] e X.env = pure none := by rfl)
    (h1 : (assignEach [.Subscript (.Name x p) k pos] X.env).map (·.2) = [assign (.Subscript (.Name x p) k pos) X.env] := by rfl) : VS X w (.Assign [.Subscript (.Name x p) k pos] e pos2) (dSetI i fe fi) :=
  PS.imp (ps_asg he (pg_sub (pe_var hN hv hd hcd) hk set_list ha) hs hw h1) fun Z σ H ⟨G, ρ, rel, h⟩ => ⟨G, ρ, rel, (FnS.bind rel h).imp fun G1 H1 ρ1 d ⟨r1, s1, h1⟩ v hv => by
    obtain ⟨o, s, ⟨vs, ho⟩, h2⟩ := FnS.mine r1 h1
    refine ⟨.ref o, s, G1, ρ1, r1, h2.imp fun G2 H2 ρ2 y ⟨l, ds, e2, m, r2, s2, h3⟩ u hu => ?_⟩
    obtain ⟨o', ws, s', go, hw, hd⟩ := r2.mine e2 m
    rw [s] at s'; cases s'
    split at h3
    · rename_i z ez
      split at h3
      · rename_i j ej
        obtain ⟨r3, s3⟩ := r2.change e2 m s (hd.set (hv.mono s2.g) j)
        cases hu with
        | int q => cases ez; exact ⟨o, ws, z, j, rfl, rfl, hw, by rw [hd.length]; exact ej, FnS.nx h3 r3 s3⟩
        | _ => cases ez
      · exact h3.elim
    · exact h3.elim⟩

/-! ### a name that is handed out -/
theorem own_drop {H : Hp} {σ : L2.St} {ρ : En} {i : Nat} (a : Addr) (h : Own H σ (ρ.set i none) a) : OwnX H σ ρ i a := by
  obtain ⟨j, l, v, e, s, f⟩ := h
  have hj : j ≠ i := fun z => by
    subst z
    by_cases hl : j < ρ.length
    · rw [List.getElem?_set_self hl] at e; cases e
    · rw [List.getElem?_eq_none (by rw [List.length_set]; omega)] at e; cases e
  rw [List.getElem?_set_ne (Ne.symm hj)] at e
  exact ⟨j, l, v, hj, e, s, f⟩
theorem Rel.drop0 {K : PySem.W.Frag} {G H : Hp} {σ : L2.St} {ρ : En} (r : Rel K G H σ ρ) (i : Nat) : Rel K G H σ (ρ.set i none) := by
  have old : ∀ (j : Nat) (l : L), (ρ.set i none)[j]? = some (some l) → ρ[j]? = some (some l) := fun j l e => by
    by_cases hj : j = i
    · subst hj
      by_cases hl : j < ρ.length
      · rw [List.getElem?_set_self hl] at e; cases e
      · rw [List.getElem?_eq_none (by rw [List.length_set]; omega)] at e; cases e
    · rw [List.getElem?_set_ne (Ne.symm hj)] at e; exact e
  exact ⟨r.sub, by rw [List.length_set]; exact r.len, fun j l e => r.cell j l (old j l e), fun j k l m v u a ej ek sj sk fj fk => r.apart j k l m v u a (old j l ej) (old k m ek) sj sk fj fk⟩
theorem Rel.drop {K : PySem.W.Frag} {G H : Hp} {σ : L2.St} {ρ : En} (r : Rel K G H σ ρ) {i : Nat} {ds : List D} (h : ρ[i]? = some (some (L.ow ds))) :
    ∃ o, σ[i]? = some (some (V.ref o)) ∧ Rel K G H σ (ρ.set i none) ∧ Stp G H σ ρ G H σ (ρ.set i none) ∧ OutL K G H σ ρ G H σ (ρ.set i none) o ds := by
  obtain ⟨o, vs, s, go, ho, hd⟩ := r.mine h rfl
  refine ⟨o, s, r.drop0 i, ⟨Same.refl _, fun _ _ h _ => h, fun _ h => .inl h, fun a q => .inl (own_drop a q).own, fun _ h => h, by rw [List.length_set], fun j es e => ⟨rfl, es, ?_⟩, fun j t e => ⟨rfl, t, ?_, fun _ _ _ f => f⟩⟩, ⟨go, fun q => ?_, ⟨vs, ho, hd⟩, .inr ⟨i, _, _, h, rfl, s, rfl⟩⟩⟩
  · have hj : j ≠ i := fun z => by subst z; rw [h] at e; cases e
    rw [List.getElem?_set_ne (Ne.symm hj)]; exact e
  · have hj : j ≠ i := fun z => by subst z; rw [h] at e; cases e
    rw [List.getElem?_set_ne (Ne.symm hj)]; exact e
  · exact r.notX h s rfl (own_drop o q)
def dRetV (i : Nat) : En → R Fl := fun ρ => match ρ[i]? with
  | some (some (.ow ds)) => .ok (.rl ds) (ρ.set i none)
  | some (some (.im d)) => .ok (.rt d) ρ
  | _ => .no
theorem vs_retV (i : Nat) (hN : X.N[i]? = some x := by rfl) (hv : Vis X.env.scope x := by first | exact Or.inl rfl | exact Or.inr (Or.inl rfl) | exact Or.inr (Or.inr rfl)) (hd : (x == ("__debug__" : Str)) = false := by decide) (hcd : (x == ("__classdict__" : Str)) = false := by decide) :
    VS X w (.Return (some (.Name x p)) pos) (dRetV i) := PS.imp (ps_ret (pe_var hN hv hd hcd)) fun Z σ H ⟨G, ρ, rel, h⟩ => by
  unfold dRetV at h
  split at h
  · rename_i ds e
    obtain ⟨o, s, r1, s1, ho⟩ := rel.drop e
    exact ⟨.ref o, s, h _ _ _ _ r1 s1 ho⟩
  · rename_i d e
    obtain ⟨v, s, c⟩ := rel.cell i _ e
    exact ⟨v, s, h _ _ _ _ rel Stp.refl c⟩
  · exact h.elim
end
end Dn
namespace Dn
open PySem PySem.Spec PyProof.Rows L2

/-! ### while -/
def isNo {α : Type} : R α → Bool
  | .no => true
  | _ => false
def whN (c : En → R Bool) (b : En → R Fl) : Nat → En → R Fl
  | 0, _ => .no
  | n + 1, ρ => (c ρ).bind fun t ρ1 => if t = true then (b ρ1).bind fun fl ρ2 => match fl with
      | .nx => whN c b n ρ2
      | .ct => whN c b n ρ2
      | .bk => .ok .nx ρ2
      | .rt d => .ok (.rt d) ρ2
      | .rl ds => .ok (.rl ds) ρ2
    else .ok .nx ρ1
open Classical in
noncomputable def dWhile (c : En → R Bool) (b : En → R Fl) : En → R Fl := fun ρ => if h : ∃ n, isNo (whN c b n ρ) = false then whN c b h.choose ρ else .no
theorem whN_succ {c : En → R Bool} {b : En → R Fl} : ∀ {n : Nat} {ρ : En}, isNo (whN c b n ρ) = false → whN c b (n + 1) ρ = whN c b n ρ
  | 0, ρ, h => by cases h
  | n + 1, ρ, h => by
    have h' := h
    show (c ρ).bind _ = (c ρ).bind _
    rw [whN] at h'
    cases q : c ρ with
    | no => rfl
    | ex e ρ1 => rfl
    | ok t ρ1 =>
      rw [q] at h'
      cases t with
      | false => rfl
      | true =>
        show (b ρ1).bind _ = (b ρ1).bind _
        have h2 : isNo ((b ρ1).bind fun fl ρ2 => match fl with | .nx => whN c b n ρ2 | .ct => whN c b n ρ2 | .bk => .ok .nx ρ2 | .rt d => .ok (.rt d) ρ2 | .rl ds => .ok (.rl ds) ρ2) = false := h'
        cases q2 : b ρ1 with
        | no => rfl
        | ex e ρ2 => rfl
        | ok fl ρ2 =>
          rw [q2] at h2
          cases fl with
          | nx => exact whN_succ (n := n) h2
          | ct => exact whN_succ (n := n) h2
          | bk => rfl
          | rt d => rfl
          | rl ds => rfl
theorem whN_le {c : En → R Bool} {b : En → R Fl} {n m : Nat} {ρ : En} (h : isNo (whN c b n ρ) = false) (l : n ≤ m) : whN c b m ρ = whN c b n ρ := by
  induction l with
  | refl => rfl
  | step _ ih => rw [whN_succ (by rw [ih]; exact h), ih]
theorem dWhile_of {c : En → R Bool} {b : En → R Fl} {n : Nat} {ρ : En} (h : isNo (whN c b n ρ) = false) : dWhile c b ρ = whN c b n ρ := by
  unfold dWhile
  have hx : ∃ n, isNo (whN c b n ρ) = false := ⟨n, h⟩
  rw [dif_pos hx]
  rcases Nat.le_total hx.choose n with l | l
  · exact (whN_le hx.choose_spec l).symm
  · exact whN_le h l
theorem dWhile_no {c : En → R Bool} {b : En → R Fl} {ρ : En} (h : isNo (dWhile c b ρ) = false) : ∃ n, whN c b n ρ = dWhile c b ρ := by
  unfold dWhile at h ⊢
  split at h
  · rename_i hx; exact ⟨hx.choose, by rw [dif_pos hx]⟩
  · cases h
/-- one turn -/
theorem dWhile_turn {c : En → R Bool} {b : En → R Fl} {ρ : En} : dWhile c b ρ = (c ρ).bind fun t ρ1 => if t = true then (b ρ1).bind fun fl ρ2 => match fl with
      | .nx => dWhile c b ρ2
      | .ct => dWhile c b ρ2
      | .bk => .ok .nx ρ2
      | .rt d => .ok (.rt d) ρ2
      | .rl ds => .ok (.rl ds) ρ2
    else .ok .nx ρ1 := by
  have key : ∀ {n : Nat}, isNo (whN c b (n + 1) ρ) = false → whN c b (n + 1) ρ = (c ρ).bind fun t ρ1 => if t = true then (b ρ1).bind fun fl ρ2 => match fl with
      | .nx => dWhile c b ρ2
      | .ct => dWhile c b ρ2
      | .bk => .ok .nx ρ2
      | .rt d => .ok (.rt d) ρ2
      | .rl ds => .ok (.rl ds) ρ2
    else .ok .nx ρ1 := fun {n} h => by
    rw [whN] at h ⊢
    cases q : c ρ with
    | no => rfl
    | ex e ρ1 => rfl
    | ok t ρ1 =>
      rw [q] at h
      cases t with
      | false => rfl
      | true =>
        show (b ρ1).bind _ = (b ρ1).bind _
        have h2 : isNo ((b ρ1).bind fun fl ρ2 => match fl with | .nx => whN c b n ρ2 | .ct => whN c b n ρ2 | .bk => .ok .nx ρ2 | .rt d => .ok (.rt d) ρ2 | .rl ds => .ok (.rl ds) ρ2) = false := h
        cases q2 : b ρ1 with
        | no => rfl
        | ex e ρ2 => rfl
        | ok fl ρ2 =>
          rw [q2] at h2
          cases fl with
          | nx => exact (dWhile_of h2).symm
          | ct => exact (dWhile_of h2).symm
          | bk => rfl
          | rt d => rfl
          | rl ds => rfl
  by_cases hx : ∃ n, isNo (whN c b n ρ) = false
  · obtain ⟨n, hn⟩ := hx
    cases n with
    | zero => cases hn
    | succ n => rw [dWhile_of hn, key hn]
  · have e1 : dWhile c b ρ = .no := by unfold dWhile; rw [dif_neg hx]
    rw [e1]
    cases q : c ρ with
    | no => rfl
    | ex e ρ1 => exact absurd ⟨1, by rw [whN, q]; rfl⟩ hx
    | ok t ρ1 =>
      cases t with
      | false => exact absurd ⟨1, by rw [whN, q]; rfl⟩ hx
      | true =>
        show R.no = (b ρ1).bind _
        cases q2 : b ρ1 with
        | no => rfl
        | ex e ρ2 => exact absurd ⟨1, by rw [whN, q]; show isNo ((b ρ1).bind _) = false; rw [q2]; rfl⟩ hx
        | ok fl ρ2 =>
          have hw : ∀ n, isNo (whN c b n ρ2) = false → (fl = .nx ∨ fl = .ct) → False := fun n hn hf => hx ⟨n + 1, by
            rw [whN, q]; show isNo ((b ρ1).bind _) = false; rw [q2]
            rcases hf with rfl | rfl <;> exact hn⟩
          cases fl with
          | nx => show R.no = dWhile c b ρ2; unfold dWhile; rw [dif_neg fun ⟨n, hn⟩ => hw n hn (.inl rfl)]
          | ct => show R.no = dWhile c b ρ2; unfold dWhile; rw [dif_neg fun ⟨n, hn⟩ => hw n hn (.inr rfl)]
          | bk => exact absurd ⟨1, by rw [whN, q]; show isNo ((b ρ1).bind _) = false; rw [q2]; rfl⟩ hx
          | rt d => exact absurd ⟨1, by rw [whN, q]; show isNo ((b ρ1).bind _) = false; rw [q2]; rfl⟩ hx
          | rl d => exact absurd ⟨1, by rw [whN, q]; show isNo ((b ρ1).bind _) = false; rw [q2]; rfl⟩ hx
section
variable {X : Cx} {w : Wh} {pos : Pos}
/-- a loop's body, then what comes -/
theorem FnS.loop {K : PySem.W.Frag} {G H : Hp} {σ : L2.St} {ρ : En} {b : En → R Fl} {k : En → R Fl} {Z : Ends} (rel : Rel K G H σ ρ)
    (h : FnS K w G H σ ρ ((b ρ).bind fun fl ρ2 => match fl with | .nx => k ρ2 | .ct => k ρ2 | .bk => .ok .nx ρ2 | .rt d => .ok (.rt d) ρ2 | .rl ds => .ok (.rl ds) ρ2) Z) {N : L2.St → Hp → Prop}
    (hN : ∀ G1 H1 σ1 ρ1, Rel K G1 H1 σ1 ρ1 → Stp G H σ ρ G1 H1 σ1 ρ1 → FnS K w G1 H1 σ1 ρ1 (k ρ1) Z → N σ1 H1) : FnS K w G H σ ρ (b ρ) { Z with nx := N, ct := N, bk := Z.nx } := by
  cases q : b ρ with
  | no => rw [q] at h; exact h
  | ex c ρ' => rw [q] at h; exact h
  | ok fl ρ' =>
    rw [q] at h
    cases fl with
    | nx => exact fun G1 H1 σ1 r1 s1 => hN _ _ _ _ r1 s1 (FnS.after rel r1 s1 (show FnS K w G H σ ρ (k ρ') Z from h))
    | ct => exact fun G1 H1 σ1 r1 s1 => hN _ _ _ _ r1 s1 (FnS.after rel r1 s1 (show FnS K w G H σ ρ (k ρ') Z from h))
    | bk => exact h
    | rt d => exact h
    | rl ds => exact h
theorem FnS.notNo {K : PySem.W.Frag} {G H : Hp} {σ : L2.St} {ρ : En} {r : R Fl} {Z : Ends} (h : FnS K w G H σ ρ r Z) : isNo r = false := by
  cases r with
  | no => exact h.elim
  | _ => rfl
theorem vs_while {c : Expr} {body : List Stmt} {gc : En → R Bool} {gb : En → R Fl} (hp : PassesOwn (model X.prog X.w) X.A X.env X.xe) (hc : VT X w c gc) (hb : VSs X w body gb) : VS X w (.While c body [] pos) (dWhile gc gb) :=
  PS.imp (ps_while hp hc hb) fun Z σ H ⟨G, ρ, rel, h⟩ => by
    obtain ⟨n, hn⟩ := dWhile_no h.notNo
    rw [← hn] at h
    refine ⟨fun m σ H => ∃ G ρ, Rel X.K G H σ ρ ∧ FnS X.K w G H σ ρ (whN gc gb m ρ) Z, ⟨n, G, ρ, rel, h⟩, ?_⟩
    rintro m σ H ⟨G, ρ, rel, h⟩
    cases m with
    | zero => exact h.elim
    | succ m =>
      rw [whN] at h
      refine ⟨G, ρ, rel, (FnS.bind rel h).imp fun G1 H1 ρ1 t ⟨r1, s1, h1⟩ => ?_⟩
      cases t with
      | false => exact iteF (FnS.nx (show FnS X.K w G1 H1 σ ρ1 (.ok .nx ρ1) Z from h1) r1 Stp.refl)
      | true =>
        refine iteT ⟨fun σ' H' => ∃ G ρ, Rel X.K G H' σ' ρ ∧ FnS X.K w G H' σ' ρ (whN gc gb m ρ) Z, fun σ' H' q => ⟨m, Nat.lt_succ_self m, q⟩, G1, ρ1, r1, ?_⟩
        exact FnS.loop r1 h1 fun G2 H2 σ2 ρ2 r2 s2 h2 => ⟨G2, ρ2, r2, h2⟩
end

/-! ### for -/
structure ItS (K : PySem.W.Frag) (G0 : Hp) (J : It) (ds : List D) : Prop where
  go : ∀ i H, i < ds.length → Same G0 H → J.go i H
  stop : ∀ H, Same G0 H → J.stop ds.length H
  yld : ∀ (i : Nat) (H : Hp) (x : V) (H' : Hp) (d : D), ds[i]? = some d → J.yld i H x H' → ∀ G σ ρ, Same G0 G → Rel K G H σ ρ → ∃ G', Rel K G' H' σ ρ ∧ Stp G H σ ρ G' H' σ ρ ∧ DR K G' x d
abbrev VI (X : Cx) (w : Wh) (tg iter : Expr) (f : En → R (List D)) : Prop := PI X tg iter (fun σ H R => ∃ G ρ, Rel X.K G H σ ρ ∧ Fn X.K w G H σ ρ (f ρ) (fun G1 H1 _ ds => ∀ J, ItS X.K G1 J ds → R J H1))
def dForL (g : D → En → R Unit) (b : En → R Fl) : List D → En → R Fl
  | [], ρ => .ok .nx ρ
  | d :: ds, ρ => (g d ρ).bind fun _ ρ1 => (b ρ1).bind fun fl ρ2 => match fl with
    | .nx => dForL g b ds ρ2
    | .ct => dForL g b ds ρ2
    | .bk => .ok .nx ρ2
    | .rt d => .ok (.rt d) ρ2
    | .rl ds => .ok (.rl ds) ρ2
def dFor (f : En → R (List D)) (g : D → En → R Unit) (b : En → R Fl) : En → R Fl := fun ρ => (f ρ).bind fun ds ρ1 => dForL g b ds ρ1
section
variable {X : Cx} {w : Wh} {pos : Pos}
theorem PI.imp {tg e : Expr} {t t' : TI} (h : PI X tg e t) (i : ∀ σ H R, t' σ H R → t σ H R) : PI X tg e t' := ⟨fun pins s σ H R I q => h.run pins s σ H R I (i _ _ _ q)⟩
theorem vs_for {tg iter : Expr} {body : List Stmt} {fi : En → R (List D)} {g : D → En → R Unit} {gb : En → R Fl} (hp : PassesOwn (model X.prog X.w) X.A X.env X.xe) (hc : X.calm = true) (hi : VI X w tg iter fi) (hg : VG X tg g) (hx : NoX g) (hb : VSs X w body gb)
    (hs : ∀ x, foldedSetIterable iter X.env x = pure x := by intro _; rfl) : VS X w (.For tg iter body [] pos) (dFor fi g gb) :=
  PS.imp (ps_for hp hc hi hg hb hs) fun Z σ H ⟨G, ρ, rel, h⟩ => ⟨G, ρ, rel, (FnS.bind rel h).imp fun G1 H1 ρ1 ds ⟨r1, s1, h1⟩ J hJ => by
    refine ⟨fun i m σ H => m = ds.length - i ∧ i ≤ ds.length ∧ ∃ G ρ, Same G1 G ∧ Rel X.K G H σ ρ ∧ FnS X.K w G H σ ρ (dForL g gb (ds.drop i) ρ) Z, ⟨ds.length, rfl, Nat.zero_le _, G1, ρ1, Same.refl _, r1, by rw [List.drop_zero]; exact h1⟩, ?_⟩
    rintro i m σ H ⟨rfl, hi, G, ρ, sG, r, h⟩
    have sH : Same G1 H := sG.trans r.sub
    by_cases hlt : i < ds.length
    · obtain ⟨d, hd⟩ : ∃ d, ds[i]? = some d := ⟨ds[i], List.getElem?_eq_getElem hlt⟩
      have hdrop : ds.drop i = d :: ds.drop (i + 1) := by
        rw [List.drop_eq_getElem_cons hlt]
        rw [List.getElem?_eq_getElem hlt] at hd; cases hd; rfl
      rw [hdrop] at h
      refine .inr ⟨hJ.go i H hlt sH, fun σ' H' => ∃ G ρ, Same G1 G ∧ Rel X.K G H' σ' ρ ∧ FnS X.K w G H' σ' ρ (dForL g gb (ds.drop (i + 1)) ρ) Z, fun σ' H' q => ⟨_, by omega, rfl, hlt, q⟩, fun x H' hy => ?_⟩
      obtain ⟨G', r', s', hx'⟩ := hJ.yld i H x H' d hd hy G σ ρ sG r
      have h' := FnS.after r r' s' h
      refine ⟨G', ρ, d, r', hx', ?_⟩
      have h2 : FnS X.K w G' H' σ ρ ((g d ρ).bind fun _ ρ1 => (gb ρ1).bind fun fl ρ2 => match fl with | .nx => dForL g gb (ds.drop (i + 1)) ρ2 | .ct => dForL g gb (ds.drop (i + 1)) ρ2 | .bk => .ok .nx ρ2 | .rt d => .ok (.rt d) ρ2 | .rl ds => .ok (.rl ds) ρ2) Z := h'
      cases q : g d ρ with
      | no => rw [q] at h2; exact h2.elim
      | ex c ρ2 => exact absurd q (hx d ρ c ρ2)
      | ok u ρ2 =>
        rw [q] at h2
        intro G2 H2 σ2 r2 s2
        refine ⟨G2, ρ2, r2, FnS.loop r2 (FnS.after r' r2 s2 h2) fun G3 H3 σ3 ρ3 r3 s3 h3 => ⟨G3, ρ3, ((sG.trans s'.g).trans s2.g).trans s3.g, r3, h3⟩⟩
    · have e : i = ds.length := by omega
      subst e
      refine .inl ⟨hJ.stop H sH, ?_⟩
      rw [List.drop_length] at h
      exact FnS.nx (show FnS X.K w G H σ ρ (.ok .nx ρ) Z from h) r Stp.refl⟩
/-! what is walked -/
def iD (f : En → R D) : En → R (List D) := fun ρ => (f ρ).bind fun d ρ1 => match d with
  | .list ds => .ok ds ρ1
  | .tuple ds => .ok ds ρ1
  | .str s => .ok (s.cps.toList.map fun c => .str ⟨#[c]⟩) ρ1
  | _ => .no
theorem its_list {K : PySem.W.Frag} {G0 : Hp} {a : Addr} {vs : List V} {ds : List D} (h : SqL K G0 a vs) (hd : DRs K G0 vs ds) : ItS K G0 (Itl K a) ds where
  go := fun i H hi s => ⟨vs, vs[i]'(by rw [hd.length]; exact hi), s.seq h, List.getElem?_eq_getElem _⟩
  stop := fun H s => ⟨vs, s.seq h, by rw [hd.length]; exact Nat.le_refl _⟩
  yld := fun i H x H' d e y G σ ρ sG r => by
    obtain ⟨rfl, f⟩ := y
    obtain ⟨v, ev, hv⟩ := hd.get e
    have := f vs ((sG.trans r.sub).seq h)
    rw [ev] at this; cases this
    exact ⟨G, r, Stp.refl, hv.mono sG⟩
theorem its_tup {K : PySem.W.Frag} {G0 : Hp} {a : Addr} {vs : List V} {ds : List D} (h : SqT K G0 a vs) (hd : DRs K G0 vs ds) : ItS K G0 (Itt K a) ds where
  go := fun i H hi s => ⟨vs, vs[i]'(by rw [hd.length]; exact hi), Same.tup s h, List.getElem?_eq_getElem _⟩
  stop := fun H s => ⟨vs, Same.tup s h, by rw [hd.length]; exact Nat.le_refl _⟩
  yld := fun i H x H' d e y G σ ρ sG r => by
    obtain ⟨rfl, f⟩ := y
    obtain ⟨v, ev, hv⟩ := hd.get e
    have := f vs (Same.tup (sG.trans r.sub) h)
    rw [ev] at this; cases this
    exact ⟨G, r, Stp.refl, hv.mono sG⟩
def rngD (lo : Int) (n : Nat) : List D := (List.range n).map fun (i : Nat) => PyData.int (lo + (i : Int))
theorem its_range {K : PySem.W.Frag} {G0 : Hp} {lo : Int} {n : Nat} : ItS K G0 (Itr lo n) (rngD lo n) where
  go := fun i H hi s => by show i < n; simpa [rngD] using hi
  stop := fun H s => by show n ≤ _; simp [rngD]
  yld := fun i H x H' d e y G σ ρ sG r => by
    obtain ⟨rfl, rfl⟩ := y
    simp only [rngD, List.getElem?_map, Option.map_eq_some_iff] at e
    obtain ⟨j, ej, rfl⟩ := e
    have hi : i < n := by have := (List.getElem?_eq_some_iff.mp ej).1; simpa using this
    rw [List.getElem?_range hi] at ej
    cases ej; exact ⟨G, r, Stp.refl, .int _⟩
def rngC (lo c : Int) (n : Nat) : List D := (List.range n).map fun (i : Nat) => PyData.int (lo + (i : Int) * c)
theorem its_rangeC {K : PySem.W.Frag} {G0 : Hp} {lo c : Int} {n : Nat} : ItS K G0 (Itc lo c n) (rngC lo c n) where
  go := fun i H hi s => by show i < n; simpa [rngC] using hi
  stop := fun H s => by show n ≤ _; simp [rngC]
  yld := fun i H x H' d e y G σ ρ sG r => by
    obtain ⟨rfl, rfl⟩ := y
    simp only [rngC, List.getElem?_map, Option.map_eq_some_iff] at e
    obtain ⟨j, ej, rfl⟩ := e
    have hi : i < n := by have := (List.getElem?_eq_some_iff.mp ej).1; simpa using this
    rw [List.getElem?_range hi] at ej
    cases ej; exact ⟨G, r, Stp.refl, .int _⟩
def strD (s : Str) : List D := s.cps.toList.map fun c => PyData.str ⟨#[c]⟩
theorem its_str {K : PySem.W.Frag} {G0 : Hp} {s : Str} : ItS K G0 (Its s) (strD s) where
  go := fun i H hi _ => by show i < s.cps.size; simpa [strD] using hi
  stop := fun H _ => by show s.cps.size ≤ _; simp [strD]
  yld := fun i H x H' d e y G σ ρ sG r => by
    obtain ⟨rfl, c, ec, rfl⟩ := y
    simp only [strD, List.getElem?_map, Option.map_eq_some_iff] at e
    obtain ⟨c', ej, rfl⟩ := e
    rw [Array.getElem?_toList, ec] at ej
    cases ej; exact ⟨G, r, Stp.refl, .str _⟩
theorem vi_val {tg e : Expr} {f : En → R D} (he : VE X w e f) : VI X w tg e (iD f) := by
  refine ⟨fun pins s σ H Rr I q => ?_⟩
  obtain ⟨G, ρ, rel, h⟩ := q
  have h0 : Fn X.K w G H σ ρ ((f ρ).bind fun d ρ1 => match d with | .list ds => R.ok ds ρ1 | .tuple ds => .ok ds ρ1 | .str s => .ok (strD s) ρ1 | _ => .no) (fun G1 H1 _ ds => ∀ J, ItS X.K G1 J ds → Rr J H1) := h
  have via : ∀ {t : TI}, PI X tg e t → t σ H Rr → wpAny (model X.prog X.w) X.A (eval e X.env) (fun v s1 => wpAny (model X.prog X.w) X.A (pyIter v) (PIE X pins σ tg Rr) X.xe s1) X.xe s := fun h t => h.run pins s σ H Rr I t
  cases q : f ρ with
  | no => rw [q] at h0; exact h0.elim
  | ex c ρ1 =>
    refine via (pi_list he) ⟨G, ρ, rel, ?_⟩
    rw [q] at h0 ⊢
    exact h0
  | ok d ρ1 =>
    rw [q] at h0
    cases d with
    | list ds =>
      refine via (pi_list he) ⟨G, ρ, rel, ?_⟩
      rw [q]
      intro G1 H1 r1 s1 v hv
      cases hv with
      | lst hr hs => exact ⟨_, rfl, ⟨_, r1.sub.seq hr⟩, h0 G1 H1 r1 s1 _ (its_list hr hs)⟩
    | tuple ds =>
      refine via (pi_tup he) ⟨G, ρ, rel, ?_⟩
      rw [q]
      intro G1 H1 r1 s1 v hv
      cases hv with
      | tup hr hs => exact ⟨_, rfl, ⟨_, Same.tup r1.sub hr⟩, h0 G1 H1 r1 s1 _ (its_tup hr hs)⟩
    | str z =>
      refine via (pi_str he) ⟨G, ρ, rel, ?_⟩
      rw [q]
      intro G1 H1 r1 s1 v hv
      cases hv
      exact ⟨z, rfl, h0 G1 H1 r1 s1 _ its_str⟩
    | _ => exact h0.elim
def inR (j : Int) : Prop := -(2 ^ 62) ≤ j ∧ j < 2 ^ 62
noncomputable instance (j : Int) : Decidable (inR j) := Classical.propDecidable _
noncomputable def iRg1 (ga : En → R (List AV)) : En → R (List D) := fun ρ => (dAll ga ρ).bind fun ds ρ1 => match ds with
  | [.int j] => if inR j then .ok (rngD 0 j.toNat) ρ1 else .no
  | _ => .no
noncomputable def iRg2 (ga : En → R (List AV)) : En → R (List D) := fun ρ => (dAll ga ρ).bind fun ds ρ1 => match ds with
  | [.int i, .int j] => if inR i ∧ inR j then .ok (rngD i (j - i).toNat) ρ1 else .no
  | _ => .no
/-- how many -/
def rgN (i j c : Int) : Nat := (Builtin.Range.rangeSize i j c).toNat
def rgOk (i j c : Int) : Bool := decide (c ≠ 0 ∧ c.natAbs < 1073741824 ∧ 0 ≤ Builtin.Range.rangeSize i j c) && Builtin.Range.small i j c
def iRg3 (ga : En → R (List AV)) : En → R (List D) := fun ρ => (dAll ga ρ).bind fun ds ρ1 => match ds with
  | [.int i, .int j, .int c] => if rgOk i j c = true then .ok (rngC i c (rgN i j c)) ρ1 else .no
  | _ => .no
variable {tg : Expr} {p : Pos} {ga : En → R (List AV)}
theorem vi_range1 {a : Expr} (hg : Gl X "range") (hm : X.mg "range" = none) (ha : VA X w [a] ga) (hs : starEach [a] X.env = [(false, eval a X.env)] := by rfl) : VI X w tg (.Call (.Name "range" p) [a] [] pos) (iRg1 ga) :=
  PI.imp (pi_range1 hg hm ha hs) fun σ H R ⟨G, ρ, rel, h⟩ => ⟨G, ρ, rel, (Fn.all rel h).imp fun G1 H1 ρ1 as ⟨r1, s1, ds, e, h1⟩ vs hvs => by
    have hd := hvs.all e
    split at h1
    · rename_i j
      split at h1
      · rename_i hj
        cases hd with
        | cons h t =>
          cases h; cases t
          exact ⟨j, rfl, hj.1, hj.2, h1.ok r1 _ its_range⟩
      · exact h1.elim
    · exact h1.elim⟩
theorem vi_range2 {a b : Expr} (hg : Gl X "range") (hm : X.mg "range" = none) (ha : VA X w [a, b] ga) (hs : starEach [a, b] X.env = [(false, eval a X.env), (false, eval b X.env)] := by rfl) (hs2 : starEach [b] X.env = [(false, eval b X.env)] := by rfl) : VI X w tg (.Call (.Name "range" p) [a, b] [] pos) (iRg2 ga) :=
  PI.imp (pi_range2 hg hm ha hs hs2) fun σ H R ⟨G, ρ, rel, h⟩ => ⟨G, ρ, rel, (Fn.all rel h).imp fun G1 H1 ρ1 as ⟨r1, s1, ds, e, h1⟩ vs hvs => by
    have hd := hvs.all e
    split at h1
    · rename_i i j
      split at h1
      · rename_i hj
        cases hd with
        | cons h t =>
          cases t with
          | cons h' t =>
            cases h; cases h'; cases t
            exact ⟨i, j, rfl, ⟨hj.1.1, hj.1.2, hj.2.1, hj.2.2⟩, h1.ok r1 _ its_range⟩
      · exact h1.elim
    · exact h1.elim⟩
theorem vi_range3 {a b c : Expr} (hg : Gl X "range") (hm : X.mg "range" = none) (ha : VA X w [a, b, c] ga) (hs : starEach [a, b, c] X.env = (false, eval a X.env) :: starEach [b, c] X.env := by rfl) (hpl : (backTo pos (starEach [b, c] X.env)).any (·.1) = false := by rfl) : VI X w tg (.Call (.Name "range" p) [a, b, c] [] pos) (iRg3 ga) :=
  PI.imp (pi_range3 hg hm ha hs hpl) fun σ H R ⟨G, ρ, rel, h⟩ => ⟨G, ρ, rel, (Fn.all rel h).imp fun G1 H1 ρ1 as ⟨r1, s1, ds, e, h1⟩ vs hvs => by
    have hd := hvs.all e
    split at h1
    · rename_i i j k
      split at h1
      · rename_i hj
        simp only [rgOk, Bool.and_eq_true, decide_eq_true_eq] at hj
        cases hd with
        | cons h t =>
          cases t with
          | cons h' t =>
            cases t with
            | cons h'' t =>
              cases h; cases h'; cases h''; cases t
              exact ⟨i, j, k, rgN i j k, rfl, ⟨hj.1.1, hj.1.2.1, hj.2, (Int.toNat_of_nonneg hj.1.2.2).symm⟩, h1.ok r1 _ its_rangeC⟩
      · exact h1.elim
    · exact h1.elim⟩
end
end Dn
namespace Dn
open PySem PySem.Spec PyProof.Rows L2

/-! ### defs -/
def wh (ca : String → Option Value) (E : XK) : Wh := ⟨ca, fun cls d _ H => E cls d H⟩
theorem ExR.to {K : PySem.W.Frag} {w w' : Wh} {G H : Hp} {c : Exn} {cls : Value} {dx : Option Addr} (h : ExR K w G H c cls dx) (e : w.ca = w'.ca) : ExR K w' G H c cls dx := ⟨by rw [← e]; exact h.hc, h.hn, h.hs⟩
def FnC (K : PySem.W.Frag) (w : Wh) (G H : Hp) (vs : List V) (ls : En) (r : R L) (Q : VK) (E : XK) : Prop :=
  match r with
  | .no => False
  | .ok (.im d) ls' => ∀ G' H' v, Rel K G' H' (vs.map some) ls' → Stp G H (vs.map some) ls G' H' (vs.map some) ls' → DR K G' v d → Q v H'
  | .ok (.ow ds) ls' => ∀ G' H' p, Rel K G' H' (vs.map some) ls' → Stp G H (vs.map some) ls G' H' (vs.map some) ls' → G' p = none → ¬ Own H' (vs.map some) ls' p → (∃ us, H' p = some (.lst us) ∧ DRs K G' us ds) → H p = none → Q (.ref p) H'
  | .ok _ _ => False
  | .ex c ls' => ∀ G' H' cls dx, Rel K G' H' (vs.map some) ls' → Stp G H (vs.map some) ls G' H' (vs.map some) ls' → ExR K w G' H' c cls dx → E cls dx H'
def noOw (ls : En) : Prop := ∀ (i : Nat) (l : L), ls[i]? = some (some l) → l.own = false
def spD (K : PySem.W.Frag) (ca : String → Option Value) (n : Nat) (den : En → R L) : Sp := fun vs H Q E =>
  ∃ G ls, Rel K G H (vs.map some) ls ∧ noOw ls ∧ vs.length = n ∧ FnC K (wh ca E) G H vs ls (den ls) Q E
def backE : En → En → En
  | some (.bo _) :: ls, c :: ρ => c :: backE ls ρ
  | some (.bt _) :: ls, c :: ρ => c :: backE ls ρ
  | l :: ls, _ :: ρ => l :: backE ls ρ
  | ls, [] => ls
  | [], _ => []
def dDef (n : Nat) (b : En → R Fl) : En → R L := fun ls => match b (ls ++ List.replicate (n - ls.length) none) with
  | .ok .nx ρ => .ok (.im .none) (backE ls ρ)
  | .ok (.rt d) ρ => .ok (.im d) (backE ls ρ)
  | .ok (.rl ds) ρ => .ok (.ow ds) (backE ls ρ)
  | .ex c ρ => .ex c (backE ls ρ)
  | _ => .no
theorem backE_length : ∀ (ls ρ : En), (backE ls ρ).length = ls.length
  | [], ρ => by cases ρ <;> rfl
  | l :: ls, [] => by cases l with
    | none => rfl
    | some l => cases l <;> rfl
  | l :: ls, c :: ρ => by cases l with
    | none => simp [backE, backE_length ls ρ]
    | some l => cases l <;> simp [backE, backE_length ls ρ]
def L.lent : L → Bool
  | .bo _ => true
  | .bt _ => true
  | _ => false
theorem backE_bo : ∀ {ls ρ : En} {i : Nat} {l : L}, l.lent = true → ls.length ≤ ρ.length → ls[i]? = some (some l) → (backE ls ρ)[i]? = ρ[i]?
  | [], _, _, _, _, _, h => by simp at h
  | l :: ls, [], _, _, _, hl, _ => by simp at hl
  | l :: ls, c :: ρ, 0, l', hm, hl, h => by
    simp at h; subst h
    cases l' <;> first | rfl | cases hm
  | l :: ls, c :: ρ, i + 1, l', hm, hl, h => by
    have h' : ls[i]? = some (some l') := by simpa using h
    have ih := backE_bo (ρ := ρ) hm (by simpa using hl) h'
    cases l with
    | none => simpa [backE] using ih
    | some l => cases l <;> simpa [backE] using ih
theorem backE_no : ∀ {ls ρ : En} {i : Nat}, (∀ l, l.lent = true → ls[i]? ≠ some (some l)) → (backE ls ρ)[i]? = ls[i]?
  | [], ρ, i, _ => by cases ρ <;> rfl
  | l :: ls, [], i, _ => by cases l with
    | none => rfl
    | some l => cases l <;> rfl
  | l :: ls, c :: ρ, 0, h => by
    cases l with
    | none => rfl
    | some l => cases l with
      | bo ds => exact absurd rfl (h _ rfl)
      | bt t => exact absurd rfl (h _ rfl)
      | _ => rfl
  | l :: ls, c :: ρ, i + 1, h => by
    have h' : ∀ l, l.lent = true → ls[i]? ≠ some (some l) := fun l hl e => h l hl (by simpa using e)
    have ih := backE_no (ρ := ρ) h'
    cases l with
    | none => simpa [backE] using ih
    | some l => cases l <;> simpa [backE] using ih
section
variable {K : PySem.W.Frag} {w : Wh} {G H G' H' : Hp} {vs : List V} {ls ρ' : En} {σ' : L2.St} {n : Nat}
/-- slots that hold nothing yet -/
theorem Rel.more (r : Rel K G H (vs.map some) ls) : Rel K G H (vs.map some ++ List.replicate (n - vs.length) none) (ls ++ List.replicate (n - ls.length) none) ∧
    (∀ a, Own H (vs.map some ++ List.replicate (n - vs.length) none) (ls ++ List.replicate (n - ls.length) none) a → Own H (vs.map some) ls a) ∧
    (∀ a, Own H (vs.map some) ls a → Own H (vs.map some ++ List.replicate (n - vs.length) none) (ls ++ List.replicate (n - ls.length) none) a) := by
  have hl : vs.length = ls.length := by have := r.len; simpa using this
  have old : ∀ (i : Nat) (l : L), (ls ++ List.replicate (n - ls.length) none)[i]? = some (some l) → i < ls.length ∧ ls[i]? = some (some l) := fun i l e => by
    by_cases hi : i < ls.length
    · rw [List.getElem?_append_left hi] at e; exact ⟨hi, e⟩
    · rw [List.getElem?_append_right (by omega), List.getElem?_replicate] at e
      split at e <;> cases e
  have at_ : ∀ (i : Nat), i < ls.length → (vs.map some ++ List.replicate (n - vs.length) none)[i]? = (vs.map some)[i]? := fun i hi => List.getElem?_append_left (by simpa [hl] using hi)
  refine ⟨⟨r.sub, by simp [hl], fun i l e => ?_, fun i j l m v u a ei ej si sj fi fj => ?_⟩, fun a ⟨i, l, v, e, s, f⟩ => ?_, fun a ⟨i, l, v, e, s, f⟩ => ?_⟩
  · obtain ⟨hi, e'⟩ := old i l e
    obtain ⟨v, s, c⟩ := r.cell i l e'
    exact ⟨v, by rw [at_ i hi]; exact s, c⟩
  · obtain ⟨hi, ei'⟩ := old i l ei
    obtain ⟨hj, ej'⟩ := old j m ej
    rw [at_ i hi] at si; rw [at_ j hj] at sj
    exact r.apart i j l m v u a ei' ej' si sj fi fj
  · obtain ⟨hi, e'⟩ := old i l e
    rw [at_ i hi] at s
    exact ⟨i, l, v, e', s, f⟩
  · have hi : i < ls.length := (List.getElem?_eq_some_iff.mp e).1
    exact ⟨i, l, v, by rw [List.getElem?_append_left hi]; exact e, by rw [at_ i hi]; exact s, f⟩
/-- at a def's end -/
theorem Rel.back (r : Rel K G H (vs.map some) ls) (no : noOw ls) (r' : Rel K G' H' σ' ρ')
    (s : Stp G H (vs.map some ++ List.replicate (n - vs.length) none) (ls ++ List.replicate (n - ls.length) none) G' H' σ' ρ') :
    Rel K G' H' (vs.map some) (backE ls ρ') ∧ Stp G H (vs.map some) ls G' H' (vs.map some) (backE ls ρ') ∧ (∀ a, Own H' (vs.map some) (backE ls ρ') a → Own H' σ' ρ' a) := by
  have hl : vs.length = ls.length := by have := r.len; simpa using this
  obtain ⟨_, o1, o2⟩ := r.more (n := n)
  have hn : ls.length ≤ ρ'.length := by rw [s.ln, List.length_append]; exact Nat.le_add_right _ _
  have bo : ∀ (i : Nat) (l : L), l.lent = true → ls[i]? = some (some l) → σ'[i]? = (vs.map some)[i]? ∧ ∃ l', l'.lent = true ∧ ρ'[i]? = some (some l') ∧ (backE ls ρ')[i]? = some (some l') := fun i l hm e => by
    have hi : i < ls.length := (List.getElem?_eq_some_iff.mp e).1
    have hb := backE_bo hm hn e
    cases l with
    | bo ds =>
      obtain ⟨e1, ds', e2⟩ := s.bo i ds (by rw [List.getElem?_append_left hi]; exact e)
      rw [List.getElem?_append_left (by simpa [hl] using hi)] at e1
      exact ⟨e1, _, rfl, e2, hb.trans e2⟩
    | bt t =>
      obtain ⟨e1, t', e2, _⟩ := s.bt i t (by rw [List.getElem?_append_left hi]; exact e)
      rw [List.getElem?_append_left (by simpa [hl] using hi)] at e1
      exact ⟨e1, _, rfl, e2, hb.trans e2⟩
    | _ => cases hm
  have cases_ : ∀ (i : Nat) (l : L), (backE ls ρ')[i]? = some (some l) → (∃ d, l = .im d ∧ ls[i]? = some (some (.im d))) ∨ (ρ'[i]? = some (some l) ∧ σ'[i]? = (vs.map some)[i]? ∧ ∃ l0, l0.lent = true ∧ ls[i]? = some (some l0)) := fun i l e => by
    by_cases hb : ∃ l0, l0.lent = true ∧ ls[i]? = some (some l0)
    · obtain ⟨l0, hm, hb⟩ := hb
      obtain ⟨e1, l', _, e2, e3⟩ := bo i l0 hm hb
      rw [e3] at e; cases e
      exact .inr ⟨e2, e1, l0, hm, hb⟩
    · rw [backE_no fun l hm z => hb ⟨l, hm, z⟩] at e
      cases l with
      | im d => exact .inl ⟨d, rfl, e⟩
      | ow ds => cases no i _ e
      | ot t => cases no i _ e
      | xn _ _ _ => cases no i _ e
      | bo ds => exact absurd ⟨_, rfl, e⟩ hb
      | bt t => exact absurd ⟨_, rfl, e⟩ hb
  have own' : ∀ a, Own H' (vs.map some) (backE ls ρ') a → Own H' σ' ρ' a := fun a ⟨i, l, v, e, q, f⟩ => by
    rcases cases_ i l e with ⟨d, rfl, _⟩ | ⟨e2, e3, _⟩
    · exact f.elim
    · exact ⟨i, l, v, e2, e3.trans q, f⟩
  refine ⟨⟨r'.sub, by rw [backE_length]; exact r.len, fun i l e => ?_, fun i j l m v u a ei ej si sj fi fj => ?_⟩, ⟨s.g, fun a o e n' => s.h a o e fun z => n' (o1 a z), fun a e => ?_, fun a q => ?_, s.tr, backE_length _ _, fun i ds e => ⟨rfl, ?_⟩, fun i t e => ⟨rfl, ?_⟩⟩, own'⟩
  · rcases cases_ i l e with ⟨d, rfl, e1⟩ | ⟨e2, e3, _⟩
    · obtain ⟨v, q, c⟩ := r.cell i _ e1
      exact ⟨v, q, DR.mono s.g c⟩
    · obtain ⟨v, q, c⟩ := r'.cell i _ e2
      exact ⟨v, e3.symm.trans q, c⟩
  · rcases cases_ i l ei with ⟨d, rfl, _⟩ | ⟨e2, e3, _⟩
    · exact fi.elim
    · rcases cases_ j m ej with ⟨d, rfl, _⟩ | ⟨f2, f3, _⟩
      · exact fj.elim
      · exact r'.apart i j _ _ v u a e2 f2 (e3.trans si) (f3.trans sj) fi fj
  · rcases s.fr a e with z | z | z
    · exact .inl z
    · exact .inr (.inl z)
    · exact .inr (.inr (o1 a z))
  · rcases s.ow a (own' a q) with z | z
    · exact .inl (o1 a z)
    · exact .inr z
  · have hi : i < ls.length := (List.getElem?_eq_some_iff.mp e).1
    obtain ⟨_, ds', e2⟩ := s.bo i ds (by rw [List.getElem?_append_left hi]; exact e)
    exact ⟨ds', (backE_bo rfl hn e).trans e2⟩
  · have hi : i < ls.length := (List.getElem?_eq_some_iff.mp e).1
    obtain ⟨_, t', e2, f2⟩ := s.bt i t (by rw [List.getElem?_append_left hi]; exact e)
    exact ⟨t', (backE_bo rfl hn e).trans e2, fun v a q f => f2 v a (by rw [List.getElem?_append_left (by simpa [hl] using hi)]; exact q) f⟩
end
/-- what a body's derivation may lean on -/
structure Gd (X : Cx) (w : Wh) (k : Nat) : Prop where
  calm : X.calm = true
  tk : Takes X w.W
  po : PassesOwn (model X.prog X.w) X.A X.env X.xe
  hr : Room k X.A
theorem fn_den {P : Program} {wd : World} {K : PySem.W.Frag} {mg : Str → Option Value} {base : Heap} {ca : String → Option Value} {x qual : Str} {st : Stmt} {f : Addr} {fd : FuncData} {N ps : List Str} {k : Nat} {b : En → R Fl}
    (F : Fun K x qual st f fd) (S : FnScope N ps (defScope st))
    (hb : ∀ (cdv : Value) (A : Around) (outer : List Env) (s : Shared) (H : Hp) (E : XK), Gd (cxOf (L2.CX P wd) P wd K mg base N qual (defScope st) f cdv A outer s H E) (wh ca E) k →
      VSs (cxOf (L2.CX P wd) P wd K mg base N qual (defScope st) f cdv A outer s H E) (wh ca E) (defBody st) b) :
    FnOk P wd K mg base (L2.CX P wd) (k + 1) f fd ps (spD K ca ps.length (dDef N.length b)) := by
  have hpl : ps.length ≤ N.length := by have := congrArg List.length S.pre; rw [List.length_take] at this; omega
  refine F.okX S (fun vs H Q E h => ?_) (fun cdv A outer s H vs Q E hr h => ?_)
  · obtain ⟨_, _, _, _, e, _⟩ := h; exact e
  · obtain ⟨G, ls, rel, no, hl, h⟩ := h
    have hll : vs.length = ls.length := by have := rel.len; simpa using this
    refine ⟨_, hb cdv A outer s H E ⟨rfl, takes_of rfl rfl rfl rfl, passes_of rfl, hr⟩, ?_⟩
    obtain ⟨r0, o1, o2⟩ := rel.more (n := N.length)
    refine ⟨G, _, r0, ?_⟩
    unfold dDef at h
    show FnS K (wh ca E) G H (vs.map some ++ List.replicate (N.length - vs.length) none) (ls ++ List.replicate (N.length - ls.length) none) (b (ls ++ List.replicate (N.length - ls.length) none)) { nx := fun _ H' => Q .non H', rt := Q }
    cases q : b (ls ++ List.replicate (N.length - ls.length) none) with
    | no => rw [q] at h; exact h
    | ex c ρ' =>
      rw [q] at h
      intro G' H' σ' cls dx r' s' x'
      obtain ⟨r2, s2, _⟩ := rel.back no r' s'
      exact h G' H' cls dx r2 s2 x'
    | ok fl ρ' =>
      rw [q] at h
      cases fl with
      | nx =>
        intro G' H' σ' r' s'
        obtain ⟨r2, s2, _⟩ := rel.back no r' s'
        exact h G' H' .non r2 s2 .non
      | bk => exact h.elim
      | ct => exact h.elim
      | rt d =>
        intro G' H' σ' v r' s' hv
        obtain ⟨r2, s2, _⟩ := rel.back no r' s'
        exact h G' H' v r2 s2 hv
      | rl ds =>
        intro G' H' σ' p r' s' ho
        obtain ⟨r2, s2, o3⟩ := rel.back no r' s'
        refine h G' H' p r2 s2 ho.g (fun z => ho.own (o3 p z)) ho.here ?_
        rcases ho.new with z | ⟨i, l, v, e, lo, _⟩
        · exact z
        · by_cases hi : i < ls.length
          · rw [List.getElem?_append_left hi] at e
            have := no i l e
            rw [lo] at this; cases this
          · rw [List.getElem?_append_right (by omega), List.getElem?_replicate] at e
            split at e <;> cases e
end Dn
namespace Dn
open PySem PySem.Spec PyProof.Rows L2

/-! ### a call of a def -/
/-- as a callee sees a slot -/
def L.asLent : L → Option L
  | .im _ => none
  | .ow ds => some (.bo ds)
  | .bo ds => some (.bo ds)
  | .ot t => some (.bt t)
  | .bt t => some (.bt t)
  | .xn _ _ _ => none
/-- a slot after the call -/
def L.back : L → L → L
  | .ow _, .bo ds => .ow ds
  | .bo _, .bo ds => .bo ds
  | .ot _, .bt t => .ot t
  | .bt _, .bt t => .bt t
  | l, _ => l
@[simp] theorem asLent_xn (a : Addr) (dx : Option Addr) (c : Exn) : (L.xn a dx c).asLent = none := rfl
@[simp] theorem asLent_im (d : D) : (L.im d).asLent = none := rfl
@[simp] theorem asLent_ow (ds : List D) : (L.ow ds).asLent = some (.bo ds) := rfl
@[simp] theorem asLent_bo (ds : List D) : (L.bo ds).asLent = some (.bo ds) := rfl
@[simp] theorem asLent_ot (t : Tr) : (L.ot t).asLent = some (.bt t) := rfl
@[simp] theorem asLent_bt (t : Tr) : (L.bt t).asLent = some (.bt t) := rfl
@[simp] theorem back_ow (a ds : List D) : (L.ow a).back (.bo ds) = .ow ds := rfl
@[simp] theorem back_bo (a ds : List D) : (L.bo a).back (.bo ds) = .bo ds := rfl
@[simp] theorem back_ot (a t : Tr) : (L.ot a).back (.bt t) = .ot t := rfl
@[simp] theorem back_bt (a t : Tr) : (L.bt a).back (.bt t) = .bt t := rfl
def slotsOf : List AV → List Nat
  | [] => []
  | .im _ :: as => slotsOf as
  | .sl i :: as => i :: slotsOf as
def lendL (ρ : En) : List AV → Option En
  | [] => some []
  | .im d :: as => (lendL ρ as).map (some (.im d) :: ·)
  | .sl i :: as => match ρ[i]? with
    | some (some l) => match l.asLent with
      | some l' => (lendL ρ as).map (some l' :: ·)
      | none => none
    | _ => none
def lend (as : List AV) (ρ : En) : Option En := if (slotsOf as).Nodup then lendL ρ as else none
def giveB : List AV → En → En → En
  | .sl i :: as, some l1 :: ls, ρ => giveB as ls (match ρ[i]? with
    | some (some l) => ρ.set i (some (l.back l1))
    | _ => ρ)
  | _ :: as, _ :: ls, ρ => giveB as ls ρ
  | _, _, ρ => ρ
theorem giveB_length : ∀ (as : List AV) (ls ρ : En), (giveB as ls ρ).length = ρ.length
  | [], ls, ρ => by cases ls <;> rfl
  | .im d :: as, [], ρ => rfl
  | .sl i :: as, [], ρ => rfl
  | .im d :: as, c :: ls, ρ => by simp [giveB, giveB_length as ls ρ]
  | .sl i :: as, none :: ls, ρ => by simp [giveB, giveB_length as ls ρ]
  | .sl i :: as, some l1 :: ls, ρ => by
    simp only [giveB]
    rw [giveB_length as ls]
    split
    · rw [List.length_set]
    · rfl
theorem giveB_out : ∀ {as : List AV} {ls ρ : En} {j : Nat}, j ∉ slotsOf as → (giveB as ls ρ)[j]? = ρ[j]?
  | [], ls, ρ, j, _ => by cases ls <;> rfl
  | .im d :: as, [], ρ, j, _ => rfl
  | .sl i :: as, [], ρ, j, _ => rfl
  | .im d :: as, c :: ls, ρ, j, h => by simp only [giveB]; exact giveB_out (as := as) h
  | .sl i :: as, none :: ls, ρ, j, h => by simp only [giveB]; exact giveB_out (as := as) fun z => h (List.mem_cons_of_mem _ z)
  | .sl i :: as, some l1 :: ls, ρ, j, h => by
    have hj : j ≠ i := fun z => h (by rw [z]; exact List.mem_cons_self ..)
    simp only [giveB]
    rw [giveB_out (as := as) fun z => h (List.mem_cons_of_mem _ z)]
    split
    · rw [List.getElem?_set_ne (Ne.symm hj)]
    · rfl
theorem giveB_in : ∀ {as : List AV} {ls ρ : En} {k j : Nat} {l1 l : L}, (slotsOf as).Nodup → as[k]? = some (.sl j) → ls[k]? = some (some l1) → ρ[j]? = some (some l) → (giveB as ls ρ)[j]? = some (some (l.back l1))
  | [], _, _, k, _, _, _, _, h, _, _ => by simp at h
  | _ :: _, [], _, k, _, _, _, _, _, h, _ => by simp at h
  | .im d :: as, c :: ls, ρ, 0, j, ds, l, _, h, _, _ => by simp at h
  | .im d :: as, c :: ls, ρ, k + 1, j, ds, l, nd, h1, h2, h3 => by simp only [giveB]; exact giveB_in (as := as) (k := k) nd (by simpa using h1) (by simpa using h2) h3
  | .sl i :: as, c :: ls, ρ, 0, j, l1, l, nd, h1, h2, h3 => by
    have e1 : i = j := by simpa using h1
    have e2 : c = some l1 := by simpa using h2
    subst e1; subst e2
    have nd' := List.nodup_cons.mp nd
    simp only [giveB]
    rw [giveB_out (as := as) nd'.1, h3]
    exact set_same h3
  | .sl i :: as, c :: ls, ρ, k + 1, j, l1, l, nd, h1, h2, h3 => by
    have nd' := List.nodup_cons.mp nd
    have h1' : as[k]? = some (.sl j) := by simpa using h1
    have h2' : ls[k]? = some (some l1) := by simpa using h2
    have hmem : ∀ {as : List AV} {k : Nat}, as[k]? = some (AV.sl j) → j ∈ slotsOf as := by
      intro as
      induction as with
      | nil => intro k h; simp at h
      | cons a as ih =>
        intro k h
        cases k with
        | zero => simp at h; subst h; exact List.mem_cons_self ..
        | succ k =>
          have := ih (k := k) (by simpa using h)
          cases a with
          | im d => exact this
          | sl i => exact List.mem_cons_of_mem _ this
    have hj : i ≠ j := fun z => nd'.1 (z ▸ hmem h1')
    cases c with
    | none => simp only [giveB]; exact giveB_in (as := as) (k := k) nd'.2 h1' h2' h3
    | some c =>
      simp only [giveB]
      refine giveB_in (as := as) (k := k) nd'.2 h1' h2' ?_
      split
      · rw [List.getElem?_set_ne hj]; exact h3
      · exact h3
theorem slot_at : ∀ {as : List AV} {j : Nat}, j ∈ slotsOf as → ∃ k : Nat, as[k]? = some (AV.sl j)
  | .im d :: as, j, h => by
    obtain ⟨k, e⟩ := slot_at (as := as) h
    exact ⟨k + 1, by simpa using e⟩
  | .sl i :: as, j, h => by
    rcases List.mem_cons.mp h with rfl | h
    · exact ⟨0, rfl⟩
    · obtain ⟨k, e⟩ := slot_at (as := as) h
      exact ⟨k + 1, by simpa using e⟩
section
variable {K : PySem.W.Frag} {w : Wh} {G H G' H' : Hp} {σ : L2.St} {ρ ρ' : En}
theorem AVs.im_at : ∀ {vs : List V} {as : List AV} {k : Nat} {d : D}, AVs K G σ vs as → as[k]? = some (.im d) → ∃ v, vs[k]? = some v ∧ DR K G v d
  | _, _, 0, _, .im h _, e => by cases e; exact ⟨_, rfl, h⟩
  | _, _, 0, _, .sl _ _, e => by cases e
  | _, _, k + 1, _, .im _ t, e => by obtain ⟨v, h1, h2⟩ := AVs.im_at (k := k) t (by simpa using e); exact ⟨v, by simpa using h1, h2⟩
  | _, _, k + 1, _, .sl _ t, e => by obtain ⟨v, h1, h2⟩ := AVs.im_at (k := k) t (by simpa using e); exact ⟨v, by simpa using h1, h2⟩
theorem AVs.sl_at : ∀ {vs : List V} {as : List AV} {k j : Nat}, AVs K G σ vs as → as[k]? = some (.sl j) → ∃ v, vs[k]? = some v ∧ σ[j]? = some (some v)
  | _, _, 0, _, .sl h _, e => by cases e; exact ⟨_, rfl, h⟩
  | _, _, 0, _, .im _ _, e => by cases e
  | _, _, k + 1, _, .im _ t, e => by obtain ⟨v, h1, h2⟩ := AVs.sl_at (k := k) t (by simpa using e); exact ⟨v, by simpa using h1, h2⟩
  | _, _, k + 1, _, .sl _ t, e => by obtain ⟨v, h1, h2⟩ := AVs.sl_at (k := k) t (by simpa using e); exact ⟨v, by simpa using h1, h2⟩
theorem AVs.length : ∀ {vs : List V} {as : List AV}, AVs K G σ vs as → vs.length = as.length
  | _, _, .nil => rfl
  | _, _, .im _ t => by simp [AVs.length t]
  | _, _, .sl _ t => by simp [AVs.length t]
theorem lendL_length : ∀ {as : List AV} {ls : En}, lendL ρ as = some ls → ls.length = as.length
  | [], _, h => by cases h; rfl
  | .im d :: as, ls, h => by
    simp only [lendL, Option.map_eq_some_iff] at h
    obtain ⟨r, e, rfl⟩ := h
    simp [lendL_length e]
  | .sl i :: as, ls, h => by
    simp only [lendL] at h
    split at h
    · split at h
      · simp only [Option.map_eq_some_iff] at h
        obtain ⟨r, e, rfl⟩ := h
        simp [lendL_length e]
      · cases h
    · cases h
theorem lendL_at : ∀ {as : List AV} {ls : En} {k : Nat} {c : Option L}, lendL ρ as = some ls → ls[k]? = some c →
    (∃ d, c = some (.im d) ∧ as[k]? = some (.im d)) ∨ ∃ j l l', c = some l' ∧ as[k]? = some (.sl j) ∧ ρ[j]? = some (some l) ∧ l.asLent = some l'
  | [], _, k, c, h, e => by cases h; simp at e
  | .im d :: as, ls, k, c, h, e => by
    simp only [lendL, Option.map_eq_some_iff] at h
    obtain ⟨r, h, rfl⟩ := h
    cases k with
    | zero => simp at e; subst e; exact .inl ⟨d, rfl, rfl⟩
    | succ k => simpa using lendL_at (k := k) (c := c) h (by simpa using e)
  | .sl i :: as, ls, k, c, h, e => by
    simp only [lendL] at h
    split at h
    · rename_i l el
      split at h
      · rename_i l' m
        simp only [Option.map_eq_some_iff] at h
        obtain ⟨r, h, rfl⟩ := h
        cases k with
        | zero => simp at e; subst e; exact .inr ⟨i, l, l', rfl, rfl, el, m⟩
        | succ k => simpa using lendL_at (k := k) (c := c) h (by simpa using e)
      · cases h
    · cases h
theorem asLent_cell {l l' : L} {v : V} (e : l.asLent = some l') : (cellR K G H v l' ↔ cellR K G H v l) ∧ (∀ a, Fo H l' v a ↔ Fo H l v a) ∧ l'.own = false ∧ l'.lent = true := by
  cases l <;> simp at e <;> subst e <;> exact ⟨Iff.rfl, fun _ => Iff.rfl, rfl, rfl⟩
/-- two of a kind -/
def L.like : L → L → Bool
  | .bo _, .bo _ => true
  | .bt _, .bt _ => true
  | _, _ => false
theorem back_cell {l l' l1 : L} {v : V} (e : l.asLent = some l') (k : l'.like l1 = true) : (cellR K G H v (l.back l1) ↔ cellR K G H v l1) ∧ ∀ a, Fo H (l.back l1) v a ↔ Fo H l1 v a := by
  cases l <;> simp at e <;> subst e <;> cases l1 <;> first | (cases k; done) | exact ⟨Iff.rfl, fun _ => Iff.rfl⟩
theorem Stp.lent {i : Nat} {l' : L} (s : Stp G H σ ρ G' H' σ ρ') (hl : l'.lent = true) (e : ρ[i]? = some (some l')) : ∃ l1, l'.like l1 = true ∧ ρ'[i]? = some (some l1) ∧ ∀ v a, σ[i]? = some (some v) → Fo H l' v a → Fo H' l1 v a := by
  cases l' with
  | bo ds =>
    obtain ⟨_, ds', e'⟩ := s.bo i ds e
    exact ⟨_, rfl, e', fun v a _ f => f⟩
  | bt t =>
    obtain ⟨_, t', e', f'⟩ := s.bt i t e
    exact ⟨_, rfl, e', f'⟩
  | _ => cases hl
theorem nodup_sl : ∀ {as : List AV} {i k j : Nat}, (slotsOf as).Nodup → as[i]? = some (.sl j) → as[k]? = some (.sl j) → i = k
  | [], i, k, j, _, h, _ => by simp at h
  | a :: as, 0, 0, j, _, _, _ => rfl
  | a :: as, i + 1, k + 1, j, nd, h1, h2 => by
    have nd' : (slotsOf as).Nodup := by cases a with
      | im d => exact nd
      | sl i => exact (List.nodup_cons.mp nd).2
    exact congrArg (· + 1) (nodup_sl (as := as) nd' (by simpa using h1) (by simpa using h2))
  | a :: as, 0, k + 1, j, nd, h1, h2 => by
    simp at h1; subst h1
    exact absurd (mem_sl (as := as) (k := k) (by simpa using h2)) (List.nodup_cons.mp nd).1
  | a :: as, i + 1, 0, j, nd, h1, h2 => by
    simp at h2; subst h2
    exact absurd (mem_sl (as := as) (k := i) (by simpa using h1)) (List.nodup_cons.mp nd).1
where mem_sl : ∀ {as : List AV} {k j : Nat}, as[k]? = some (AV.sl j) → j ∈ slotsOf as
  | [], k, _, h => by simp at h
  | a :: as, 0, j, h => by simp at h; subst h; exact List.mem_cons_self ..
  | .im d :: as, k + 1, j, h => mem_sl (as := as) (k := k) (by simpa using h)
  | .sl i :: as, k + 1, j, h => List.mem_cons_of_mem _ (mem_sl (as := as) (k := k) (by simpa using h))
/-- the callee's view -/
theorem Rel.lent (r : Rel K G H σ ρ) {vs : List V} {as : List AV} {ls : En} (h : AVs K G σ vs as) (e : lend as ρ = some ls) :
    Rel K G H (vs.map some) ls ∧ noOw ls ∧ ∀ a, Own H (vs.map some) ls a → Own H σ ρ a := by
  unfold Dn.lend at e
  split at e
  · rename_i nd
    have own : ∀ a (k : Nat) (l : L) (v : V), ls[k]? = some (some l) → (vs.map some)[k]? = some (some v) → Fo H l v a → ∃ j l', as[k]? = some (.sl j) ∧ ρ[j]? = some (some l') ∧ σ[j]? = some (some v) ∧ Fo H l' v a := fun a k l v ek q f => by
      rcases lendL_at e ek with ⟨d, ed, _⟩ | ⟨j, l', l0, ed, e1, e2, e3⟩
      · cases ed; exact f.elim
      · cases ed
        obtain ⟨v', h1, h2⟩ := h.sl_at e1
        rw [List.getElem?_map, h1] at q
        cases q
        exact ⟨j, l', e1, e2, h2, ((asLent_cell (K := K) (G := G) e3).2.1 a).mp f⟩
    refine ⟨⟨r.sub, by simp [h.length, lendL_length e], fun k l ek => ?_, fun i k l m v u a ei ek si sk fi fk => ?_⟩, fun k l ek => ?_, fun a ⟨k, l, v, ek, q, f⟩ => ?_⟩
    · rcases lendL_at e ek with ⟨d, ed, e1⟩ | ⟨j, l', l0, ed, e1, e2, e3⟩
      · cases ed
        obtain ⟨v, h1, h2⟩ := h.im_at e1
        exact ⟨v, by rw [List.getElem?_map, h1]; rfl, h2⟩
      · cases ed
        obtain ⟨v, h1, h2⟩ := h.sl_at e1
        exact ⟨v, by rw [List.getElem?_map, h1]; rfl, (asLent_cell (H := H) e3).1.mpr (r.at_ e2 h2)⟩
    · obtain ⟨j1, l1, a1, b1, s1, f1⟩ := own a i l v ei si fi
      obtain ⟨j2, l2, a2, b2, s2, f2⟩ := own a k m u ek sk fk
      have := r.apart j1 j2 l1 l2 v u a b1 b2 s1 s2 f1 f2
      subst this
      exact nodup_sl nd a1 a2
    · rcases lendL_at e ek with ⟨d, ed, _⟩ | ⟨j, l', l0, ed, e1, e2, e3⟩
      · cases ed; rfl
      · cases ed; exact (asLent_cell (K := K) (G := G) (H := H) (v := V.non) e3).2.2.1
    · obtain ⟨j1, l1, a1, b1, s1, f1⟩ := own a k l v ek q f
      exact ⟨j1, l1, v, b1, s1, f1⟩
  · cases e
theorem Rel.give (r : Rel K G H σ ρ) {vs : List V} {as : List AV} {ls ls' : En} (h : AVs K G σ vs as) (e : lend as ρ = some ls) (r' : Rel K G' H' (vs.map some) ls') (s : Stp G H (vs.map some) ls G' H' (vs.map some) ls') :
    Rel K G' H' σ (giveB as ls' ρ) ∧ Stp G H σ ρ G' H' σ (giveB as ls' ρ) ∧ ∀ a, Own H' σ (giveB as ls' ρ) a → Own H σ ρ a ∨ Own H' (vs.map some) ls' a := by
  obtain ⟨r0, no, own⟩ := r.lent h e
  have nd : (slotsOf as).Nodup := by
    unfold Dn.lend at e
    split at e
    · assumption
    · cases e
  have e0 : lendL ρ as = some ls := by unfold Dn.lend at e; rw [if_pos nd] at e; exact e
  -- at a slot lent
  have lent : ∀ (j : Nat), j ∈ slotsOf as → ∃ (k : Nat) (l0 l' l1 : L) (v : V), as[k]? = some (.sl j) ∧ ρ[j]? = some (some l0) ∧ l0.asLent = some l' ∧ l'.like l1 = true ∧ ls'[k]? = some (some l1) ∧ σ[j]? = some (some v) ∧ (vs.map some)[k]? = some (some v) ∧
      (giveB as ls' ρ)[j]? = some (some (l0.back l1)) ∧ ∀ a, Fo H l0 v a → Fo H' l1 v a := fun j hj => by
    obtain ⟨k, ek⟩ := slot_at hj
    have hk : k < ls.length := by rw [lendL_length e0]; exact (List.getElem?_eq_some_iff.mp ek).1
    rcases lendL_at e0 (List.getElem?_eq_getElem hk) with ⟨d, _, e1⟩ | ⟨j', l0, l', ec, e1, e2, e3⟩
    · rw [ek] at e1; cases e1
    · rw [ek] at e1; cases e1
      obtain ⟨v, h1, h2⟩ := h.sl_at ek
      have hv : (vs.map some)[k]? = some (some v) := by rw [List.getElem?_map, h1]; rfl
      obtain ⟨l1, lk, e4, fo⟩ := s.lent (asLent_cell (K := K) (G := G) (H := H) (v := V.non) e3).2.2.2 (show ls[k]? = some (some l') by rw [List.getElem?_eq_getElem hk, ec])
      exact ⟨k, l0, l', l1, v, ek, e2, e3, lk, e4, h2, hv, giveB_in nd ek e4 e2, fun a f => fo v a hv (((asLent_cell (K := K) (G := G) e3).2.1 a).mpr f)⟩
  -- what stands at a place behind
  have look : ∀ (j : Nat) (l : L) (v : V), (giveB as ls' ρ)[j]? = some (some l) → σ[j]? = some (some v) → (j ∉ slotsOf as ∧ ρ[j]? = some (some l)) ∨ ∃ (k : Nat) (l1 : L), as[k]? = some (.sl j) ∧ ls'[k]? = some (some l1) ∧ (vs.map some)[k]? = some (some v) ∧ (cellR K G' H' v l ↔ cellR K G' H' v l1) ∧ ∀ a, Fo H' l v a ↔ Fo H' l1 v a := fun j l v ej sj => by
    by_cases hj : j ∈ slotsOf as
    · obtain ⟨k, l0, l', l1, v', ek, e2, e3, lk, e4, s1, s2, e5, _⟩ := lent j hj
      rw [e5] at ej; cases ej
      rw [s1] at sj; cases sj
      have := back_cell (K := K) (G := G') (H := H') (v := v) e3 lk
      exact .inr ⟨k, l1, ek, e4, s2, this.1, this.2⟩
    · rw [giveB_out hj] at ej; exact .inl ⟨hj, ej⟩
  -- what no callee had stays
  have away : ∀ (j : Nat) (l : L) (v : V) (a : Addr), j ∉ slotsOf as → ρ[j]? = some (some l) → σ[j]? = some (some v) → Fo H l v a → ¬ Own H (vs.map some) ls a := fun j l v a hj ej sj f ⟨k, l2, v2, ek2, q2, f2⟩ => by
    rcases lendL_at e0 ek2 with ⟨d, ed, _⟩ | ⟨j', l', l0, ed, g1, g2, g3⟩
    · cases ed; exact f2.elim
    · cases ed
      obtain ⟨v', h1, h2⟩ := h.sl_at g1
      rw [List.getElem?_map, h1] at q2; cases q2
      have := r.apart j j' l l' v _ a ej g2 sj h2 f (((asLent_cell (K := K) (G := G) g3).2.1 a).mp f2)
      subst this
      exact hj (nodup_sl.mem_sl g1)
  have same : ∀ (j : Nat) (l : L) (v : V), j ∉ slotsOf as → ρ[j]? = some (some l) → σ[j]? = some (some v) → ∀ a, Fo H l v a → H' a = H a := fun j l v hj ej sj a f => by
    obtain ⟨_, us, q⟩ := Fo.some (r.at_ ej sj) f
    rw [q]; exact s.h a _ q (away j l v a hj ej sj f)
  have none_ : ∀ (j : Nat) (l : L) (v : V), j ∉ slotsOf as → ρ[j]? = some (some l) → σ[j]? = some (some v) → ∀ a, Fo H l v a → G' a = none := fun j l v hj ej sj a f => by
    obtain ⟨g, us, q⟩ := Fo.some (r.at_ ej sj) f
    cases z : G' a with
    | none => rfl
    | some u =>
      rcases s.fr a (by rw [z]; exact fun z => nomatch z) with y | y | y
      · exact absurd g y
      · rw [q] at y; cases y
      · exact absurd y (away j l v a hj ej sj f)
  have ownb : ∀ a, Own H' σ (giveB as ls' ρ) a → Own H σ ρ a ∨ Own H' (vs.map some) ls' a := fun a ⟨j, l, v, ej, sj, f⟩ => by
    rcases look j l v ej sj with ⟨hj, e1⟩ | ⟨k, l1, ek, e4, s2, _, f2⟩
    · exact .inl ⟨j, l, v, e1, sj, f.from (same j l v hj e1 sj)⟩
    · exact .inr ⟨k, l1, v, e4, s2, (f2 a).mp f⟩
  have ownc : ∀ a, Own H' σ (giveB as ls' ρ) a → Own H σ ρ a ∨ H a = none := fun a z => by
    rcases ownb a z with z | z
    · exact .inl z
    · rcases s.ow a z with z | z
      · exact .inl (own a z)
      · exact .inr z
  have mix : ∀ (i j k : Nat) (l l1 : L) (v u : V) (a : Addr), i ∉ slotsOf as → ρ[i]? = some (some l) → σ[i]? = some (some v) → Fo H' l v a → ls'[k]? = some (some l1) → (vs.map some)[k]? = some (some u) → ¬ Fo H' l1 u a := fun i j k l l1 v u a hi ei si fi ek sk fk => by
    have fi' := fi.from (same i l v hi ei si)
    rcases s.ow a ⟨k, l1, u, ek, sk, fk⟩ with z | z
    · exact away i l v a hi ei si fi' z
    · obtain ⟨_, us, q⟩ := Fo.some (r.at_ ei si) fi'
      rw [z] at q; cases q
  refine ⟨⟨r'.sub, by rw [giveB_length]; exact r.len, fun j l ej => ?_, fun i j l m v u a ei ej si sj fi fj => ?_⟩, ⟨s.g, fun a o q n => s.h a o q fun z => n (own a z), fun a q => ?_, ownc, s.tr, giveB_length _ _ _, fun j ds ej => ⟨rfl, ?_⟩, fun j t ej => ⟨rfl, ?_⟩⟩, ownb⟩
  · by_cases hj : j ∈ slotsOf as
    · obtain ⟨k, l0, l', l1, v, ek, e2, e3, lk, e4, s1, s2, e5, _⟩ := lent j hj
      rw [e5] at ej; cases ej
      exact ⟨v, s1, (back_cell e3 lk).1.mpr (r'.at_ e4 s2)⟩
    · rw [giveB_out hj] at ej
      obtain ⟨v, q, c⟩ := r.cell j l ej
      exact ⟨v, q, cell_keep c s.g (none_ j l v hj ej q) (same j l v hj ej q)⟩
  · rcases look i l v ei si with ⟨hi, e1⟩ | ⟨k, l1, ek, e4, s2, _, f2⟩
    · rcases look j m u ej sj with ⟨hj, g1⟩ | ⟨k', m1, gk, g4, t2, _, h2⟩
      · exact r.apart i j l m v u a e1 g1 si sj (fi.from (same i l v hi e1 si)) (fj.from (same j m u hj g1 sj))
      · exact absurd ((h2 a).mp fj) (mix i j k' l m1 v u a hi e1 si fi g4 t2)
    · rcases look j m u ej sj with ⟨hj, g1⟩ | ⟨k', m1, gk, g4, t2, _, h2⟩
      · exact absurd ((f2 a).mp fi) (mix j i k m l1 u v a hj g1 sj fj e4 s2)
      · have := r'.apart k k' l1 m1 v u a e4 g4 s2 t2 ((f2 a).mp fi) ((h2 a).mp fj)
        subst this
        rw [ek] at gk; cases gk; rfl
  · rcases s.fr a q with z | z | z
    · exact .inl z
    · exact .inr (.inl z)
    · exact .inr (.inr (own a z))
  · by_cases hj : j ∈ slotsOf as
    · obtain ⟨k, l0, l', l1, v, ek, e2, e3, lk, e4, s1, s2, e5, _⟩ := lent j hj
      rw [ej] at e2; cases e2
      cases e3
      cases l1 <;> first | (cases lk; done) | exact ⟨_, e5⟩
    · exact ⟨ds, by rw [giveB_out hj]; exact ej⟩
  · by_cases hj : j ∈ slotsOf as
    · obtain ⟨k, l0, l', l1, v, ek, e2, e3, lk, e4, s1, s2, e5, f5⟩ := lent j hj
      rw [ej] at e2; cases e2
      cases e3
      cases l1 <;> first | (cases lk; done) | exact ⟨_, e5, fun v' a q f => by rw [s1] at q; cases q; exact f5 a f⟩
    · exact ⟨t, by rw [giveB_out hj]; exact ej, fun v a q f => Foot.to f (fun b y => same j _ v hj ej q b y)⟩
end
/-- the callee's result in the caller: a datum -/
def dFn (n : Nat) (den : En → R L) (ga : En → R (List AV)) : En → R D := fun ρ => (ga ρ).bind fun as ρ1 => if as.length = n then match lend as ρ1 with
  | none => .no
  | some ls => match den ls with
    | .ok (.im d) ls' => .ok d (giveB as ls' ρ1)
    | .ok (.ow ds) ls' => .ok (.list ds) (giveB as ls' ρ1)
    | .ok _ _ => .no
    | .ex c ls' => .ex c (giveB as ls' ρ1)
    | .no => .no
  else .no
/-- a new list -/
def nFn (n : Nat) (den : En → R L) (ga : En → R (List AV)) : En → R (List D) := fun ρ => (ga ρ).bind fun as ρ1 => if as.length = n then match lend as ρ1 with
  | none => .no
  | some ls => match den ls with
    | .ok (.ow ds) ls' => .ok ds (giveB as ls' ρ1)
    | .ex c ls' => .ex c (giveB as ls' ρ1)
    | _ => .no
  else .no
section
variable {K : PySem.W.Frag} {G H : Hp} {σ : L2.St} {ρ : En}
/-- a new mutable list becomes immutable -/
theorem Rel.settle (r : Rel K G H σ ρ) {p : Addr} {us : List V} {ds : List D} (hg : G p = none) (ho : ¬ Own H σ ρ p) (hp : H p = some (.lst us)) (hd : DRs K G us ds) :
    Rel K (upd G p (.lst us)) H σ ρ ∧ Same G (upd G p (.lst us)) ∧ DR K (upd G p (.lst us)) (.ref p) (.list ds) ∧ ∀ a, upd G p (.lst us) a ≠ none → G a ≠ none ∨ a = p := by
  have sg : Same G (upd G p (.lst us)) := fun b x e => by rw [upd_ne (ne_of_none e hg)]; exact e
  refine ⟨(r.keep (G' := upd G p (.lst us)) (H' := H) sg (fun b x e => ?_) (fun a h => ?_) (fun _ _ => rfl)).1, sg, .lst (.inl (.inl upd_same)) (hd.mono sg), fun a h => ?_⟩
  · by_cases hb : b = p
    · subst hb; rw [upd_same] at e; cases e; exact hp
    · rw [upd_ne hb] at e; exact r.sub b x e
  · have : a ≠ p := fun z => by subst z; exact ho h
    rw [upd_ne this]; exact (r.own h).1
  · by_cases ha : a = p
    · exact .inr ha
    · rw [upd_ne ha] at h; exact .inl h
end
section
variable {X : Cx} {w : Wh} {k n : Nat} {f : Addr} {fd : FuncData} {ps : List Str} {den : En → R L} {ca : String → Option Value} {x : Str} {p pos : Pos} {e : Expr} {es : List Expr} {ga : En → R (List AV)}
theorem call_ok (hca : w.ca = ca) {σ : L2.St} {H : Hp} {Q : VK} {G : Hp} {ρ : En} {vs : List V} {as : List AV} {ls : En} (r : Rel X.K G H σ ρ) (hvs : AVs X.K G σ vs as) (hl : as.length = n) (e : lend as ρ = some ls)
    (h1 : ∀ d ls', den ls = .ok (.im d) ls' → ∀ G' H', Rel X.K G' H' σ (giveB as ls' ρ) → Stp G H σ ρ G' H' σ (giveB as ls' ρ) → ∀ v, DR X.K G' v d → Q v H')
    (h2 : ∀ ds ls', den ls = .ok (.ow ds) ls' → ∀ G' H', Rel X.K G' H' σ (giveB as ls' ρ) → Stp G H σ ρ G' H' σ (giveB as ls' ρ) → ∀ p, G' p = none → ¬ Own H' σ (giveB as ls' ρ) p → (∃ us, H' p = some (.lst us) ∧ DRs X.K G' us ds) → H p = none → Q (.ref p) H')
    (h3 : ∀ c ls', den ls = .ex c ls' → ∀ G' H' cls dx, Rel X.K G' H' σ (giveB as ls' ρ) → Stp G H σ ρ G' H' σ (giveB as ls' ρ) → ExR X.K w G' H' c cls dx → w.W cls dx σ H')
    (h4 : den ls ≠ .no) (h5 : ∀ l ls', den ls = .ok l ls' → (∃ d, l = .im d) ∨ ∃ ds, l = .ow ds) : spD X.K ca n den vs H Q (WE w.W σ) := by
  obtain ⟨r0, no, own⟩ := r.lent hvs e
  refine ⟨G, ls, r0, no, hvs.length.trans hl, ?_⟩
  cases q : den ls with
  | no => exact absurd q h4
  | ex c ls' =>
    intro G' H' cls dx r' s' x'
    obtain ⟨r2, s2, ob⟩ := r.give hvs e r' s'
    exact h3 c ls' q G' H' cls dx r2 s2 (x'.to hca.symm)
  | ok l ls' =>
    cases l with
    | bo ds => rcases h5 _ _ q with ⟨_, e⟩ | ⟨_, e⟩ <;> cases e
    | ot t => rcases h5 _ _ q with ⟨_, e⟩ | ⟨_, e⟩ <;> cases e
    | bt t => rcases h5 _ _ q with ⟨_, e⟩ | ⟨_, e⟩ <;> cases e
    | xn _ _ _ => rcases h5 _ _ q with ⟨_, e⟩ | ⟨_, e⟩ <;> cases e
    | im d =>
      intro G' H' v r' s' hv
      obtain ⟨r2, s2, ob⟩ := r.give hvs e r' s'
      exact h1 d ls' q G' H' r2 s2 v hv
    | ow ds =>
      intro G' H' p r' s' hg ho hu hn
      obtain ⟨r2, s2, ob⟩ := r.give hvs e r' s'
      refine h2 ds ls' q G' H' r2 s2 p hg (fun z => ?_) hu hn
      rcases ob p z with y | y
      · obtain ⟨_, us, y'⟩ := r.own y
        rw [hn] at y'; cases y'
      · exact ho y
theorem ve_call (F : FnOk X.prog X.w X.K X.mg X.base (L2.CX X.prog X.w) k f fd ps (spD X.K ca n den)) (hr : Room k X.A) (tk : Takes X w.W) (hca : w.ca = ca) (hg : Gl X x) (hm : X.mg x = some (.ref f)) (hk : PySem.W.keepIn X.K (.ref f) = true) (hb : Binds X.K fd ps [])
    (ha : VA X w (e :: es) ga) (hdb : (x == ("__debug__" : Str)) = false := by decide) (he : starEach (e :: es) X.env = (false, eval e X.env) :: starEach es X.env := by rfl) (hpl : (backTo pos (starEach es X.env)).any (·.1) = false := by rfl) :
    VE X w (.Call (.Name x p) (e :: es) [] pos) (dFn n den ga) :=
  PE.imp (pe_callS F hr hg hm hk hb (passAt tk) ha hdb he hpl) fun σ H Q ⟨G, ρ, rel, h⟩ => ⟨G, ρ, rel, (Fn.bind rel h).imp fun G1 H1 ρ1 as ⟨r1, s1, h1⟩ vs hvs => by
    split at h1
    · rename_i hl
      cases q : lend as ρ1 with
      | none => rw [q] at h1; exact h1.elim
      | some ls =>
        rw [q] at h1
        have h1' : Fn X.K w G1 H1 σ ρ1 (match den ls with | .ok (.im d) ls' => R.ok d (giveB as ls' ρ1) | .ok (.ow ds) ls' => .ok (.list ds) (giveB as ls' ρ1) | .ok _ _ => .no | .ex c ls' => .ex c (giveB as ls' ρ1) | .no => .no) (QD X.K Q) := h1
        refine call_ok hca r1 hvs hl q (fun d ls' e => ?_) (fun ds ls' e => ?_) (fun c ls' e => ?_) (fun e => ?_) (fun l ls' e => ?_)
        · rw [e] at h1'; exact fun G' H' r' s' v hv => h1' G' H' r' s' v hv
        · rw [e] at h1'
          intro G' H' r' s' p hg ho ⟨us, hp, hd⟩ hn
          obtain ⟨r2, sg, hdr, hfr⟩ := r'.settle hg ho hp hd
          refine h1' _ H' r2 ⟨s'.g.trans sg, s'.h, fun a z => ?_, s'.ow, s'.tr, s'.ln, s'.bo, s'.bt⟩ _ hdr
          rcases hfr a z with y | rfl
          · exact s'.fr a y
          · exact .inr (.inl hn)
        · rw [e] at h1'; exact fun G' H' cls dx r' s' x' => h1' G' H' cls dx r' s' x'
        · rw [e] at h1'; exact h1'
        · rw [e] at h1'
          cases l <;> first | exact .inl ⟨_, rfl⟩ | exact .inr ⟨_, rfl⟩ | exact h1'.elim
    · exact h1.elim⟩
theorem vn_call (F : FnOk X.prog X.w X.K X.mg X.base (L2.CX X.prog X.w) k f fd ps (spD X.K ca n den)) (hr : Room k X.A) (tk : Takes X w.W) (hca : w.ca = ca) (hg : Gl X x) (hm : X.mg x = some (.ref f)) (hk : PySem.W.keepIn X.K (.ref f) = true) (hb : Binds X.K fd ps [])
    (ha : VA X w (e :: es) ga) (hdb : (x == ("__debug__" : Str)) = false := by decide) (he : starEach (e :: es) X.env = (false, eval e X.env) :: starEach es X.env := by rfl) (hpl : (backTo pos (starEach es X.env)).any (·.1) = false := by rfl) :
    VN X w (.Call (.Name x p) (e :: es) [] pos) (nFn n den ga) :=
  PE.imp (pe_callS F hr hg hm hk hb (passAt tk) ha hdb he hpl) fun σ H Q ⟨G, ρ, rel, h⟩ => ⟨G, ρ, rel, (Fn.bind rel h).imp fun G1 H1 ρ1 as ⟨r1, s1, h1⟩ vs hvs => by
    split at h1
    · rename_i hl
      cases q : lend as ρ1 with
      | none => rw [q] at h1; exact h1.elim
      | some ls =>
        rw [q] at h1
        have h1' : Fn X.K w G1 H1 σ ρ1 (match den ls with | .ok (.ow ds) ls' => R.ok ds (giveB as ls' ρ1) | .ex c ls' => .ex c (giveB as ls' ρ1) | _ => .no) (QN X.K H σ Q) := h1
        refine call_ok hca r1 hvs hl q (fun d ls' e => ?_) (fun ds ls' e => ?_) (fun c ls' e => ?_) (fun e => ?_) (fun l ls' e => ?_)
        · rw [e] at h1'; exact h1'.elim
        · rw [e] at h1'
          intro G' H' r' s' p hg ho hu hn
          refine h1' _ H' r' s' p ⟨hg, ho, hu, ?_⟩
          cases z : H p with
          | none => rfl
          | some o => exact absurd hn (s1.tr p (by rw [z]; exact fun z => nomatch z))
        · rw [e] at h1'; exact fun G' H' cls dx r' s' x' => h1' G' H' cls dx r' s' x'
        · rw [e] at h1'; exact h1'
        · rw [e] at h1'
          cases l <;> first | exact .inl ⟨_, rfl⟩ | exact .inr ⟨_, rfl⟩ | exact h1'.elim
    · exact h1.elim⟩
end
end Dn
namespace Dn
open PySem PySem.Spec PyProof.Rows L2

/-! ### constants -/
section
variable {X : Cx} {w : Wh}
theorem ve_bl {b : Bool} {j : Nat} {pos : Pos} : VE X w (.Constant (.bool b) j pos) (dC (.bool b)) := PE.imp pe_bl fun _ _ _ ⟨_, _, r, h⟩ => h.ok r _ (.bl b)
theorem ve_non {j : Nat} {pos : Pos} : VE X w (.Constant .none j pos) (dC .none) := PE.imp pe_non fun _ _ _ ⟨_, _, r, h⟩ => h.ok r _ .non
theorem ve_str {x : Str} {j : Nat} {pos : Pos} : VE X w (.Constant (.str x) j pos) (dC (.str x)) := PE.imp pe_str fun _ _ _ ⟨_, _, r, h⟩ => h.ok r _ (.str x)
theorem ve_glS {x : Str} {z : Str} {pos : Pos} (hg : Gl X x) (hm : ∃ t, X.mg x = some (.str z t)) (hd : (x == ("__debug__" : Str)) = false := by decide) : VE X w (.Name x pos) (dC (.str z)) := by
  obtain ⟨t, hm⟩ := hm
  exact PE.imp (pe_glob (v := .str z) hg hm ⟨_, rfl⟩ hd) fun _ _ _ ⟨_, _, r, h⟩ => h.ok r _ (.str z)
theorem ve_glI {x : Str} {z : Int} {pos : Pos} (hg : Gl X x) (hm : ∃ t, X.mg x = some (.int z t)) (hd : (x == ("__debug__" : Str)) = false := by decide) : VE X w (.Name x pos) (dC (.int z)) := by
  obtain ⟨t, hm⟩ := hm
  exact PE.imp (pe_glob (v := .int z) hg hm ⟨_, rfl⟩ hd) fun _ _ _ ⟨_, _, r, h⟩ => h.ok r _ (.int z)
/-- a constant table of the top -/
theorem ve_glO {x : Str} {a : Addr} {d : D} {pos : Pos} (hg : Gl X x) (hm : X.mg x = some (.ref a)) (hd' : ∀ G, DR X.K G (.ref a) d) (hd : (x == ("__debug__" : Str)) = false := by decide) : VE X w (.Name x pos) (dC d) :=
  PE.imp (pe_glob (v := .ref a) hg hm rfl hd) fun _ _ _ ⟨_, _, r, h⟩ => h.ok r _ (hd' _)
end
/-! ### defs by names -/
theorem fn_denD {P : Program} {wd : World} {K : PySem.W.Frag} {mg : Str → Option Value} {base : Heap} {ca : String → Option Value} {x qual : Str} {params : Arguments} {body : List Stmt} {scope : Scope} {dvs : List V} {kws : List (Str × V)} {f : Addr} {fd : FuncData} {N ps : List Str} {k : Nat} {b : En → R Fl}
    (F : FunD K x qual params body scope dvs kws f fd) (S : FnScope N ps scope)
    (hb : ∀ (cdv : Value) (A : Around) (outer : List Env) (s : Shared) (H : Hp) (E : XK), Gd (cxOf (L2.CX P wd) P wd K mg base N qual scope f cdv A outer s H E) (wh ca E) k →
      VSs (cxOf (L2.CX P wd) P wd K mg base N qual scope f cdv A outer s H E) (wh ca E) body b) :
    FnOk P wd K mg base (L2.CX P wd) (k + 1) f fd ps (spD K ca ps.length (dDef N.length b)) := by
  refine F.ok S (fun vs H Q E h => ?_) (fun cdv A outer s H vs Q E hr h => ?_)
  · obtain ⟨_, _, _, _, e, _⟩ := h; exact e
  · obtain ⟨G, ls, rel, no, hl, h⟩ := h
    refine ⟨_, hb cdv A outer s H E ⟨rfl, takes_of rfl rfl rfl rfl, passes_of rfl, hr⟩, ?_⟩
    obtain ⟨r0, o1, o2⟩ := rel.more (n := N.length)
    refine ⟨G, _, r0, ?_⟩
    unfold dDef at h
    show FnS K (wh ca E) G H (vs.map some ++ List.replicate (N.length - vs.length) none) (ls ++ List.replicate (N.length - ls.length) none) (b (ls ++ List.replicate (N.length - ls.length) none)) { nx := fun _ H' => Q .non H', rt := Q }
    cases q : b (ls ++ List.replicate (N.length - ls.length) none) with
    | no => rw [q] at h; exact h
    | ex c ρ' =>
      rw [q] at h
      intro G' H' σ' cls dx r' s' x'
      obtain ⟨r2, s2, _⟩ := rel.back no r' s'
      exact h G' H' cls dx r2 s2 x'
    | ok fl ρ' =>
      rw [q] at h
      cases fl with
      | nx =>
        intro G' H' σ' r' s'
        obtain ⟨r2, s2, _⟩ := rel.back no r' s'
        exact h G' H' .non r2 s2 .non
      | bk => exact h.elim
      | ct => exact h.elim
      | rt d =>
        intro G' H' σ' v r' s' hv
        obtain ⟨r2, s2, _⟩ := rel.back no r' s'
        exact h G' H' v r2 s2 hv
      | rl ds =>
        intro G' H' σ' p r' s' ho
        obtain ⟨r2, s2, o3⟩ := rel.back no r' s'
        refine h G' H' p r2 s2 ho.g (fun z => ho.own (o3 p z)) ho.here ?_
        rcases ho.new with z | ⟨i, l, v, e, lo, _⟩
        · exact z
        · by_cases hi : i < ls.length
          · rw [List.getElem?_append_left hi] at e
            have := no i l e
            rw [lo] at this; cases this
          · rw [List.getElem?_append_right (by omega), List.getElem?_replicate] at e
            split at e <;> cases e
/-- a class's value, by its name -/
def caK (bi : List String) (K : PySem.W.Frag) : String → Option Value := fun s => if bi.contains s = true then some (.type s) else some (.ref (He.ga K (Str.ofString s)))
/-! ### the end of a law's row -/
theorem walk_ofEB {l : PySem.W.OpenLaw} {n k : Nat} {q : Program} {loose : List Str} {XP : (Str → Option Value) → Heap → Prop} {YP : World → Heap → Prop} {d : DefRec} {CX : World → CXT} {x : Str}
    (hn : l.most = some n) (hn2 : n ≤ sizeLine) (hdf : d.params.defaults = []) (hr : Room k callerA)
    (F : ∀ (w : World) (mg : Str → Option Value) (fa : Addr) (h : Heap), YP w h → h.Ns mainGlobals mg → mg d.name = some (.ref fa) →
      ∃ (K : PySem.W.Frag) (fd : FuncData) (sp : Sp), K.In h ∧ (∀ (s : Shared) (u : Value), BindsTo s fd ⟨[u], []⟩ [(x, u)]) ∧
        (∀ (H : Hp) (a : Addr) (ns : List Int), ns.length ≤ n → (∀ z ∈ ns, Builtin.Int.intBits z ≤ 1048576) → SqL K H a (ns.map V.int) → sp [.ref a] H (fun v _ => v = .bl true) fun _ _ _ => False) ∧
        ∀ base : Heap, K.In base → base.Ns mainGlobals mg → FnOk l.prog w K mg base (CX w) k fa fd [x] sp)
    (hCX : ∀ (w : World) (H : Hp) (s : Shared) (e : Value) (s' : Shared), CX w [] H s (fun _ _ _ => False) e s' → False) :
    PySem.W.WalkO q loose XP YP l.row.toRowW d [] (fun f vs => PySem.call f vs) := by
  refine Att.attach_callB hn hdf fun w s₀ s₁ mg mb fa o pm cd doc a vs ns G Y ho hd hcd hmg hobj hints hlen hbits hg => ?_
  obtain ⟨K, fd, sp, KX, hb, hsp, hF⟩ := F w mg fa _ Y G.T.g hmg
  exact law_call KX G.T.g G.T.b G.T.builtins G.T.nolimit hg hobj hints (Nat.le_trans hlen hn2) hr hF hb (fun H hO hS => hsp H a ns hlen hbits hS) fun H e s' => hCX w H s₁ e s'
/-- a script's cell has few bits -/
theorem bits_lt {z : Int} (h : Builtin.Int.intBits z ≤ 1048576) : z.natAbs < 2 ^ 1048576 := by
  unfold Builtin.Int.intBits at h
  split at h
  · rename_i e
    have : z = 0 := by simpa using e
    subst this
    exact Nat.pow_pos (by decide)
  · rename_i e
    have hz : z.natAbs ≠ 0 := by intro q; apply e; simp [Int.natAbs_eq_zero.mp q]
    refine (Nat.log2_lt hz).mp ?_
    omega
def scriptD (ns : List Int) : D := .list (ns.map PyData.int)
/-- the law's def gives True: what the row asks -/
theorem law_sp {K : PySem.W.Frag} {ca : String → Option Value} {den : En → R L} {H : Hp} {a : Addr} {ns : List Int} (hS : SqL K H a (ns.map V.int)) {ls' : En} (h : den [some (.im (scriptD ns))] = .ok (.im (.bool true)) ls') :
    spD K ca 1 den [.ref a] H (fun v _ => v = .bl true) fun _ _ _ => False := by
  have hd : DR K H (.ref a) (scriptD ns) := .lst hS (DRs.ofInts ns)
  refine ⟨H, [some (.im (scriptD ns))], ⟨Same.refl _, rfl, fun i l e => ?_, fun i j l m v u b ei ej si sj fi fj => ?_⟩, fun i l e => ?_, rfl, ?_⟩
  · cases i with
    | zero => cases e; exact ⟨_, rfl, hd⟩
    | succ i => simp at e
  · cases i with
    | zero => cases ei; exact fi.elim
    | succ i => simp at ei
  · cases i with
    | zero => cases e; rfl
    | succ i => simp at e
  · rw [h]
    intro G' H' v r s hv
    cases hv
    rfl
end Dn
namespace Dn
open PySem PySem.Spec PyProof.Rows L2
theorem boot_ty_int : bootBuiltins "int" = some (.type "int") := by decide +kernel
theorem boot_ty_bool : bootBuiltins "bool" = some (.type "bool") := by decide +kernel
theorem boot_ty_str : bootBuiltins "str" = some (.type "str") := by decide +kernel
theorem boot_ty_list : bootBuiltins "list" = some (.type "list") := by decide +kernel
theorem boot_ty_tuple : bootBuiltins "tuple" = some (.type "tuple") := by decide +kernel
theorem boot_ty_dict : bootBuiltins "dict" = some (.type "dict") := by decide +kernel
theorem boot_B_abs : bootBuiltins "abs" = some (.builtin "abs") := by decide +kernel
theorem boot_B_max : bootBuiltins "max" = some (.builtin "max") := by decide +kernel
theorem boot_B_min : bootBuiltins "min" = some (.builtin "min") := by decide +kernel
theorem boot_B_sum : bootBuiltins "sum" = some (.builtin "sum") := by decide +kernel
theorem boot_B_all : bootBuiltins "all" = some (.builtin "all") := by decide +kernel
theorem boot_B_any : bootBuiltins "any" = some (.builtin "any") := by decide +kernel
theorem boot_B_sorted : bootBuiltins "sorted" = some (.builtin "sorted") := by decide +kernel
theorem Gd.u65 {X : Cx} {w : Wh} {k : Nat} (g : Gd X w k) : X.A.units + 65 < cLine := by have := g.hr.un; omega
theorem nox_nil : ∀ (d : List D) (ρ : En) (c : Exn) (ρ' : En), gsNil d ρ ≠ .ex c ρ' := fun d ρ c ρ' => by
  cases d <;> exact fun z => nomatch z
theorem nox_cons {g : D → En → R Unit} {h : List D → En → R Unit} (hg : NoX g) (hh : ∀ (d : List D) (ρ : En) (c : Exn) (ρ' : En), h d ρ ≠ .ex c ρ') : ∀ (d : List D) (ρ : En) (c : Exn) (ρ' : En), gsCons g h d ρ ≠ .ex c ρ' := fun d ρ c ρ' => by
  cases d with
  | nil => exact fun z => nomatch z
  | cons a r =>
    show (g a ρ).bind _ ≠ _
    cases q : g a ρ with
    | no => exact fun z => nomatch z
    | ex c1 ρ1 => exact absurd q (hg a ρ c1 ρ1)
    | ok u ρ1 => exact hh r ρ1 c ρ'
theorem nox_tup {n : Nat} {h : List D → En → R Unit} (hh : ∀ (d : List D) (ρ : En) (c : Exn) (ρ' : En), h d ρ ≠ .ex c ρ') : NoX (gTupD n h) := fun d ρ c ρ' => by
  unfold gTupD
  split
  · split
    · exact hh _ _ _ _
    · exact fun z => nomatch z
  · split
    · exact hh _ _ _ _
    · exact fun z => nomatch z
  · exact fun z => nomatch z
section
variable {X : Cx} {w : Wh} {a b c : Expr} {fa fb fc : En → R D} {ga : En → R Bool} {pos : Pos}
/-- a truth's value as a test -/
theorem vt_b (ha : VE X w a (dB ga)) (he : ∀ whole, isTrue a X.env whole = (do let v ← whole; standAt a.pos; holding [v] (truthy v)) := by intro _; rfl) : VT X w a ga :=
  PT.imp (pt_truth ha he) fun σ H Q ⟨G, ρ, rel, h⟩ => ⟨G, ρ, rel, Fn.toB rel (h.imp fun G1 H1 ρ1 b q v hv => by
    cases hv
    exact ⟨b, rfl, q⟩)⟩
/-- a < b < c -/
def dChain (g g' : D → D → Option Bool) (fa fb fc : En → R D) : En → R Bool := fun ρ => (fa ρ).bind fun x ρ1 => (fb ρ1).bind fun y ρ2 => (lift (g x y) ρ2).bind fun t ρ3 => if t = true then (fc ρ3).bind fun z ρ4 => lift (g' y z) ρ4 else .ok false ρ3
theorem chain_core {K : PySem.W.Frag} {r r' : R2} {g g' : D → D → Option Bool} (h1 : OpB K r g) (h2 : OpB K r' g') {G H : Hp} {σ : L2.St} {ρ : En} {P : Bool → Hp → Prop} (rel : Rel K G H σ ρ) (h : Fn K w G H σ ρ (dChain g g' fa fb fc ρ) (QB P)) :
    tChain r r' (teD K w fa) (teD K w fb) (teD K w fc) σ H (fun v H1 => ∃ k, v = .bl k ∧ P k H1) :=
  ⟨G, ρ, rel, (Fn.bind rel h).imp fun G1 H1 ρ1 dx ⟨r1, s1, h1'⟩ x hx => ⟨G1, ρ1, r1, (Fn.bind r1 h1').imp fun G2 H2 ρ2 dy ⟨r2, s2, h2'⟩ y hy => by
    obtain ⟨t, e, q⟩ := Fn.lift (Fn.bind r2 h2')
    obtain ⟨r3, s3, h3⟩ := q _ _ r2 Stp.refl
    refine h1 x y dx dy t H2 _ ((hx.mono s2.g).mono r2.sub) (hy.mono r2.sub) e ⟨t, rfl, ?_⟩
    cases t with
    | false => exact iteF ⟨false, rfl, Fn.ok (show Fn K w G2 H2 σ ρ2 (.ok false ρ2) (QB P) from h3) r2⟩
    | true =>
      refine iteT ⟨G2, ρ2, r2, (Fn.bind r2 (show Fn K w G2 H2 σ ρ2 ((fc ρ2).bind fun z ρ4 => lift (g' dy z) ρ4) (QB P) from h3)).imp fun G4 H4 ρ4 dz ⟨r4, s4, h4⟩ z hz => ?_⟩
      obtain ⟨b, e', q'⟩ := Fn.lift h4
      exact h2 y z dy dz b H4 _ ((hy.mono s4.g).mono r4.sub) (hz.mono r4.sub) e' ⟨b, rfl, q' _ _ r4 Stp.refl⟩⟩⟩
theorem vt_chain {op op' : CmpOp} {r r' : R2} {g g' : D → D → Option Bool} (ho : OpR X (compareOp op) r) (hs : OpB X.K r g) (ho' : OpR X (compareOp op') r') (hs' : OpB X.K r' g') (ha : VE X w a fa) (hb : VE X w b fb) (hc : VE X w c fc)
    (hm : lastMarks [op, op'] [b, c] = false := by with_unfolding_all rfl) : VT X w (.Compare a [op, op'] [b, c] pos) (dChain g g' fa fb fc) :=
  PT.imp (pt_chain ho ho' ha hb hc hm) fun σ H Q ⟨G, ρ, rel, h⟩ => chain_core hs hs' rel h
theorem tChain_imp {r r' : R2} {ta tb tc : TE} {σ : L2.St} {H : Hp} {Q : VK} (h : tChain r r' ta tb tc σ H Q) : tChain r r' ta tb tc σ H Q := h
theorem ve_chain {op op' : CmpOp} {r r' : R2} {g g' : D → D → Option Bool} (ho : OpR X (compareOp op) r) (hs : OpB X.K r g) (ho' : OpR X (compareOp op') r') (hs' : OpB X.K r' g') (ha : VE X w a fa) (hb : VE X w b fb) (hc : VE X w c fc)
    (hm : lastMarks [op, op'] [b, c] = false := by with_unfolding_all rfl) : VE X w (.Compare a [op, op'] [b, c] pos) (dB (dChain g g' fa fb fc)) := by
  refine ⟨fun pins s σ H Q I q => ?_⟩
  obtain ⟨G, ρ, rel, h⟩ := q
  refine thn ((pe_chain ho ho' ha hb hc hm).run pins s σ H _ I (chain_core (P := fun b H1 => Q (.bl b) H1) hs hs' rel ((Fn.dB rel h).imp fun G1 H1 ρ1 b q => q.2.2))) fun u s1 ⟨v, H1, I1, rv, k, e, q⟩ => ?_
  subst e
  exact ⟨_, H1, I1, rv, q⟩
end
end Dn
namespace Dn
open PySem PySem.Spec PyProof.Rows L2
/-! ### reckoning with denotations -/
section
variable {α β : Type}
@[simp] theorem bind_ok (a : α) (ρ : En) (g : α → En → R β) : (R.ok a ρ).bind g = g a ρ := rfl
@[simp] theorem bind_ex (c : Exn) (ρ : En) (g : α → En → R β) : (R.ex c ρ : R α).bind g = .ex c ρ := rfl
@[simp] theorem bind_no (g : α → En → R β) : (R.no : R α).bind g = .no := rfl
@[simp] theorem bind_ite (c : Prop) [Decidable c] (x y : R α) (g : α → En → R β) : (if c then x else y).bind g = if c then x.bind g else y.bind g := by split <;> rfl
@[simp] theorem lift_some (a : α) (ρ : En) : lift (some a) ρ = .ok a ρ := rfl
@[simp] theorem lift_none (ρ : En) : (lift none ρ : R α) = .no := rfl
@[simp] theorem lift_ite (c : Prop) [Decidable c] (x y : Option α) (ρ : En) : lift (if c then x else y) ρ = if c then lift x ρ else lift y ρ := by split <;> rfl
end
/-- a block goes on -/
def thn' (r : R Fl) (g : En → R Fl) : R Fl := match r with
  | .ok .nx ρ => g ρ
  | .ok fl ρ => .ok fl ρ
  | .ex c ρ => .ex c ρ
  | .no => .no
@[simp] theorem thn_nx (ρ : En) (g : En → R Fl) : thn' (.ok .nx ρ) g = g ρ := rfl
@[simp] theorem thn_rt (d : D) (ρ : En) (g : En → R Fl) : thn' (.ok (.rt d) ρ) g = .ok (.rt d) ρ := rfl
@[simp] theorem thn_rl (d : List D) (ρ : En) (g : En → R Fl) : thn' (.ok (.rl d) ρ) g = .ok (.rl d) ρ := rfl
@[simp] theorem thn_bk (ρ : En) (g : En → R Fl) : thn' (.ok .bk ρ) g = .ok .bk ρ := rfl
@[simp] theorem thn_ct (ρ : En) (g : En → R Fl) : thn' (.ok .ct ρ) g = .ok .ct ρ := rfl
@[simp] theorem thn_ex (c : Exn) (ρ : En) (g : En → R Fl) : thn' (.ex c ρ) g = .ex c ρ := rfl
@[simp] theorem thn_no (g : En → R Fl) : thn' .no g = .no := rfl
@[simp] theorem thn_ite (c : Prop) [Decidable c] (x y : R Fl) (g : En → R Fl) : thn' (if c then x else y) g = if c then thn' x g else thn' y g := by split <;> rfl
/-- a def ends -/
def finD (ls : En) (r : R Fl) : R L := match r with
  | .ok .nx ρ => .ok (.im .none) (backE ls ρ)
  | .ok (.rt d) ρ => .ok (.im d) (backE ls ρ)
  | .ok (.rl ds) ρ => .ok (.ow ds) (backE ls ρ)
  | .ex c ρ => .ex c (backE ls ρ)
  | _ => .no
@[simp] theorem fin_nx (ls ρ : En) : finD ls (.ok .nx ρ) = .ok (.im .none) (backE ls ρ) := rfl
@[simp] theorem fin_rt (ls ρ : En) (d : D) : finD ls (.ok (.rt d) ρ) = .ok (.im d) (backE ls ρ) := rfl
@[simp] theorem fin_rl (ls ρ : En) (d : List D) : finD ls (.ok (.rl d) ρ) = .ok (.ow d) (backE ls ρ) := rfl
@[simp] theorem fin_ex (ls ρ : En) (c : Exn) : finD ls (.ex c ρ) = .ex c (backE ls ρ) := rfl
@[simp] theorem fin_ite (c : Prop) [Decidable c] (ls : En) (x y : R Fl) : finD ls (if c then x else y) = if c then finD ls x else finD ls y := by split <;> rfl
@[simp] theorem dDef_eq (n : Nat) (b : En → R Fl) (ls : En) : dDef n b ls = finD ls (b (ls ++ List.replicate (n - ls.length) none)) := rfl
@[simp] theorem dSeq_eq (f g : En → R Fl) (ρ : En) : dSeq f g ρ = thn' (f ρ) g := by
  unfold dSeq thn'
  cases q : f ρ with
  | ok fl ρ1 => cases fl <;> rfl
  | _ => rfl
section
variable (f g : En → R D) (p q : En → R Bool) (s t : En → R Fl) (ga : En → R (List AV)) (ρ : En) (i j : Nat) (d : D)
@[simp] theorem dNx_eq : dNx ρ = .ok .nx ρ := rfl
@[simp] theorem dBk_eq : dBk ρ = .ok .bk ρ := rfl
@[simp] theorem dCt_eq : dCt ρ = .ok .ct ρ := rfl
@[simp] theorem dRet_eq : dRet f ρ = (f ρ).bind fun d ρ1 => .ok (.rt d) ρ1 := rfl
@[simp] theorem dDrop_eq : dDrop f ρ = (f ρ).bind fun _ ρ1 => .ok .nx ρ1 := rfl
@[simp] theorem dIf_eq : dIf p s t ρ = (p ρ).bind fun b ρ1 => if b = true then s ρ1 else t ρ1 := rfl
@[simp] theorem dC_eq : dC d ρ = .ok d ρ := rfl
@[simp] theorem dOp_eq (h : D → D → Option D) : dOp h f g ρ = (f ρ).bind fun x ρ1 => (g ρ1).bind fun y ρ2 => lift (h x y) ρ2 := rfl
@[simp] theorem d1_eq (h : D → Option D) : d1 h f ρ = (f ρ).bind fun x ρ1 => lift (h x) ρ1 := rfl
@[simp] theorem dCmp_eq (h : D → D → Option Bool) : dCmp h f g ρ = (f ρ).bind fun x ρ1 => (g ρ1).bind fun y ρ2 => lift (h x y) ρ2 := rfl
@[simp] theorem dB_eq : dB p ρ = (p ρ).bind fun b ρ1 => .ok (.bool b) ρ1 := rfl
@[simp] theorem dNot_eq : dNot p ρ = (p ρ).bind fun b ρ1 => .ok (!b) ρ1 := rfl
@[simp] theorem dAnd_eq : dAnd p q ρ = (p ρ).bind fun b ρ1 => if b = true then q ρ1 else .ok false ρ1 := rfl
@[simp] theorem dOr_eq : dOr p q ρ = (p ρ).bind fun b ρ1 => if b = true then .ok true ρ1 else q ρ1 := rfl
@[simp] theorem dAndV_eq : dAndV p f ρ = (p ρ).bind fun b ρ1 => if b = true then f ρ1 else .ok (.bool false) ρ1 := rfl
@[simp] theorem dOrV_eq : dOrV p f ρ = (p ρ).bind fun b ρ1 => if b = true then .ok (.bool true) ρ1 else f ρ1 := rfl
@[simp] theorem dIfE_eq : dIfE p f g ρ = (p ρ).bind fun b ρ1 => if b = true then f ρ1 else g ρ1 := rfl
@[simp] theorem dIsi_eq (t : String) : dIsi t f ρ = (f ρ).bind fun d ρ1 => .ok (isTy t d) ρ1 := rfl
@[simp] theorem dUB_eq : dUB f ρ = (f ρ).bind fun d ρ1 => lift (asB d) ρ1 := rfl
@[simp] theorem dTru_eq : dTru f ρ = (f ρ).bind fun d ρ1 => lift (truD d) ρ1 := rfl
@[simp] theorem dChain_eq (h h' : D → D → Option Bool) (k : En → R D) : dChain h h' f g k ρ = (f ρ).bind fun x ρ1 => (g ρ1).bind fun y ρ2 => (lift (h x y) ρ2).bind fun t ρ3 => if t = true then (k ρ3).bind fun z ρ4 => lift (h' y z) ρ4 else .ok false ρ3 := rfl
@[simp] theorem aNil_eq : aNil ρ = .ok [] ρ := rfl
@[simp] theorem aIm_eq : aIm f ga ρ = (f ρ).bind fun d ρ1 => (ga ρ1).bind fun as ρ2 => .ok (.im d :: as) ρ2 := rfl
@[simp] theorem dAll_eq : dAll ga ρ = (ga ρ).bind fun as ρ1 => lift (allIm as) ρ1 := rfl
@[simp] theorem dTup_eq : dTup ga ρ = (dAll ga ρ).bind fun ds ρ1 => if ds.length ≤ sizeLine then .ok (.tuple ds) ρ1 else .no := rfl
@[simp] theorem dLst_eq : dLst ga ρ = (dAll ga ρ).bind fun ds ρ1 => if ds.length ≤ sizeLine then .ok (.list ds) ρ1 else .no := rfl
@[simp] theorem nLst_eq : nLst ga ρ = (dAll ga ρ).bind fun ds ρ1 => if ds.length ≤ sizeLine then .ok ds ρ1 else .no := rfl
@[simp] theorem dCall_eq (h : List D → Option D) : dCall h ga ρ = (dAll ga ρ).bind fun ds ρ1 => lift (h ds) ρ1 := rfl
@[simp] theorem dAsg_eq (h : D → En → R Unit) : dAsg h f ρ = (f ρ).bind fun d ρ1 => (h d ρ1).bind fun _ ρ2 => .ok .nx ρ2 := rfl
@[simp] theorem putIm_eq : putIm i d ρ = if free ρ[i]? = true then .ok () (ρ.set i (some (.im d))) else .no := rfl
@[simp] theorem putOw_eq (ds : List D) : putOw i ds ρ = if free ρ[i]? = true then .ok () (ρ.set i (some (.ow ds))) else .no := rfl
@[simp] theorem dSl_eq (l u : En → R (Option Int)) : dSl f l u ρ = (f ρ).bind fun x ρ1 => (l ρ1).bind fun lo ρ2 => (u ρ2).bind fun hi ρ3 => lift (gSl x lo hi) ρ3 := rfl
@[simp] theorem oN_eq : oN ρ = .ok none ρ := rfl
@[simp] theorem oI_eq : oI f ρ = (f ρ).bind fun d ρ1 => lift ((asI d).map some) ρ1 := rfl
@[simp] theorem dPair_eq {α β : Type} (f : En → R α) (g : En → R β) : dPair f g ρ = (f ρ).bind fun a ρ1 => (g ρ1).bind fun b ρ2 => .ok (a, b) ρ2 := rfl
@[simp] theorem dPar_eq : dPar i j ga ρ = (dAll ga ρ).bind fun ds ρ1 => match ds with
  | [a, b] => (putIm i a ρ1).bind fun _ ρ2 => (putIm j b ρ2).bind fun _ ρ3 => .ok .nx ρ3
  | _ => .no := rfl
end
/-- a slot read -/
def rdSlot (c : Option (Option L)) (i : Nat) (ρ : En) : R D := match c with
  | some (some (.im d)) => .ok d ρ
  | some (some (.ow ds)) => .ok (.list ds) (frz i ds ρ)
  | _ => .no
@[simp] theorem dVar_eq (i : Nat) (ρ : En) : dVar i ρ = rdSlot ρ[i]? i ρ := by
  unfold dVar rdSlot
  split <;> simp_all
@[simp] theorem rdSlot_im (d : D) (i : Nat) (ρ : En) : rdSlot (some (some (.im d))) i ρ = .ok d ρ := rfl
@[simp] theorem rdSlot_ow (ds : List D) (i : Nat) (ρ : En) : rdSlot (some (some (.ow ds))) i ρ = .ok (.list ds) (frz i ds ρ) := rfl
/-- at a slot, what follows -/
def slotK {α : Type} (c : Option (Option L)) (k : L → R α) : R α := match c with
  | some (some l) => k l
  | _ => .no
@[simp] theorem slotK_some {α : Type} (l : L) (k : L → R α) : slotK (some (some l)) k = k l := rfl
@[simp] theorem tree_im (d : D) : (L.im d).tree = false := rfl
@[simp] theorem tree_ow (d : List D) : (L.ow d).tree = false := rfl
@[simp] theorem tree_bo (d : List D) : (L.bo d).tree = false := rfl
@[simp] theorem tree_ot (d : Tr) : (L.ot d).tree = true := rfl
@[simp] theorem tree_bt (d : Tr) : (L.bt d).tree = true := rfl
@[simp] theorem atSlot_eq {α β : Type} (i : Nat) (f : En → R β) (g : L → β → En → R α) (ρ : En) : atSlot i f g ρ = slotK ρ[i]? fun _ => (f ρ).bind fun y ρ1 => slotK ρ1[i]? fun l => if l.tree = true then .no else g l y ρ1 := by
  unfold atSlot slotK
  cases ρ[i]? with
  | none => rfl
  | some o =>
    cases o with
    | none => rfl
    | some l =>
      show (f ρ).bind _ = (f ρ).bind _
      cases f ρ with
      | ok y ρ1 =>
        show (match ρ1[i]? with | some (some l) => if l.tree = true then R.no else g l y ρ1 | _ => R.no) = _
        show _ = (match ρ1[i]? with | some (some l) => if l.tree = true then R.no else g l y ρ1 | _ => R.no)
        rfl
      | _ => rfl
@[simp] theorem toD_im (d : D) : (L.im d).toD = d := rfl
@[simp] theorem toD_ow (d : List D) : (L.ow d).toD = .list d := rfl
@[simp] theorem toD_bo (d : List D) : (L.bo d).toD = .list d := rfl
@[simp] theorem dIxN_eq (i : Nat) (f : En → R D) (ρ : En) : dIxN i f ρ = atSlot i f (fun l y ρ => lift (gIx l.toD y) ρ) ρ := rfl
@[simp] theorem dSlN_eq (i : Nat) (l u : En → R (Option Int)) (ρ : En) : dSlN i l u ρ = atSlot i (dPair l u) (fun x p ρ => lift (gSl x.toD p.1 p.2) ρ) ρ := rfl
@[simp] theorem dLenN_eq (i : Nat) (ρ : En) : dLenN i ρ = atSlot i (fun ρ => .ok () ρ) (fun l _ ρ => lift (gLen1 l.toD) ρ) ρ := rfl
/-! calls -/
def resD (as : List AV) (ρ : En) (r : R L) : R D := match r with
  | .ok (.im d) ls' => .ok d (giveB as ls' ρ)
  | .ok (.ow ds) ls' => .ok (.list ds) (giveB as ls' ρ)
  | .ok _ _ => .no
  | .ex c ls' => .ex c (giveB as ls' ρ)
  | .no => .no
@[simp] theorem resD_im (as : List AV) (ρ ls : En) (d : D) : resD as ρ (.ok (.im d) ls) = .ok d (giveB as ls ρ) := rfl
@[simp] theorem resD_ow (as : List AV) (ρ ls : En) (d : List D) : resD as ρ (.ok (.ow d) ls) = .ok (.list d) (giveB as ls ρ) := rfl
@[simp] theorem resD_ex (as : List AV) (ρ ls : En) (c : Exn) : resD as ρ (.ex c ls) = .ex c (giveB as ls ρ) := rfl
def lentK {α : Type} (o : Option En) (k : En → R α) : R α := match o with
  | some ls => k ls
  | none => .no
@[simp] theorem lentK_some {α : Type} (ls : En) (k : En → R α) : lentK (some ls) k = k ls := rfl
@[simp] theorem dFn_eq (n : Nat) (den : En → R L) (ga : En → R (List AV)) (ρ : En) : dFn n den ga ρ = (ga ρ).bind fun as ρ1 => if as.length = n then lentK (lend as ρ1) fun ls => resD as ρ1 (den ls) else .no := by
  unfold dFn
  congr 1
  funext as ρ1
  split
  · unfold lentK resD
    cases lend as ρ1 with
    | none => rfl
    | some ls =>
      cases den ls with
      | ok l ls' => cases l <;> rfl
      | _ => rfl
  · rfl
/-- arguments that are data -/
theorem lend_im : ∀ (ds : List D) (ρ : En), lend (ds.map AV.im) ρ = some (ds.map fun d => some (L.im d)) := fun ds ρ => by
  have h1 : ∀ ds : List D, slotsOf (ds.map AV.im) = [] := fun ds => by
    induction ds with
    | nil => rfl
    | cons d r ih => exact ih
  have h2 : ∀ ds : List D, lendL ρ (ds.map AV.im) = some (ds.map fun d => some (L.im d)) := fun ds => by
    induction ds with
    | nil => rfl
    | cons d r ih =>
      show (lendL ρ (r.map AV.im)).map _ = _
      rw [ih]; rfl
  unfold lend
  rw [h1, if_pos List.nodup_nil, h2]
@[simp] theorem lend1 (a : D) (ρ : En) : lend [.im a] ρ = some [some (.im a)] := lend_im [a] ρ
@[simp] theorem lend2 (a b : D) (ρ : En) : lend [.im a, .im b] ρ = some [some (.im a), some (.im b)] := lend_im [a, b] ρ
@[simp] theorem lend3 (a b c : D) (ρ : En) : lend [.im a, .im b, .im c] ρ = some [some (.im a), some (.im b), some (.im c)] := lend_im [a, b, c] ρ
@[simp] theorem lend4 (a b c d : D) (ρ : En) : lend [.im a, .im b, .im c, .im d] ρ = some [some (.im a), some (.im b), some (.im c), some (.im d)] := lend_im [a, b, c, d] ρ
@[simp] theorem lend5 (a b c d e : D) (ρ : En) : lend [.im a, .im b, .im c, .im d, .im e] ρ = some [some (.im a), some (.im b), some (.im c), some (.im d), some (.im e)] := lend_im [a, b, c, d, e] ρ
@[simp] theorem give_nil (ls ρ : En) : giveB [] ls ρ = ρ := by cases ls <;> rfl
@[simp] theorem give_im (d : D) (as : List AV) (c : Option L) (ls ρ : En) : giveB (.im d :: as) (c :: ls) ρ = giveB as ls ρ := rfl
@[simp] theorem give_e (as : List AV) (ρ : En) : giveB as [] ρ = ρ := by
  cases as with
  | nil => rfl
  | cons a as => cases a <;> rfl
@[simp] theorem backE_im (d : D) (ls : En) (c : Option L) (ρ : En) : backE (some (.im d) :: ls) (c :: ρ) = some (.im d) :: backE ls ρ := rfl
@[simp] theorem backE_bo' (d : List D) (ls : En) (c : Option L) (ρ : En) : backE (some (.bo d) :: ls) (c :: ρ) = c :: backE ls ρ := rfl
@[simp] theorem backE_nil (ρ : En) : backE [] ρ = [] := by cases ρ <;> rfl
@[simp] theorem allIm_nil : allIm [] = some [] := rfl
@[simp] theorem allIm_cons (d : D) (as : List AV) : allIm (.im d :: as) = (allIm as).map (d :: ·) := rfl
@[simp] theorem free_none : free (some none) = true := rfl
@[simp] theorem free_im (d : D) : free (some (some (.im d))) = true := rfl
@[simp] theorem free_ow (d : List D) : free (some (some (.ow d))) = true := rfl
/-! operators -/
section
variable (i j : Int) (a b : Str)
@[simp] theorem gAdd_int : gAdd (.int i) (.int j) = some (.int (i + j)) := rfl
@[simp] theorem gSub_int : gSub (.int i) (.int j) = some (.int (i - j)) := rfl
@[simp] theorem gNeg_int : gNeg (.int i) = some (.int (-i)) := rfl
@[simp] theorem gLt_int : gLt (.int i) (.int j) = some (decide (i < j)) := rfl
@[simp] theorem gLe_int : gLe (.int i) (.int j) = some (decide (i ≤ j)) := rfl
@[simp] theorem gGt_int : gGt (.int i) (.int j) = some (decide (j < i)) := rfl
@[simp] theorem gGe_int : gGe (.int i) (.int j) = some (decide (j ≤ i)) := rfl
@[simp] theorem gAbs_int : gAbs [.int i] = some (.int (if i < 0 then -i else i)) := rfl
@[simp] theorem gInt_int : gInt [.int i] = some (.int i) := rfl
@[simp] theorem gInt_bool (k : Bool) : gInt [.bool k] = some (.int (if k then 1 else 0)) := rfl
@[simp] theorem gMax2_int : gMax2 [.int i, .int j] = some (.int (if j > i then j else i)) := rfl
@[simp] theorem gMin2_int : gMin2 [.int i, .int j] = some (.int (if j < i then j else i)) := rfl
@[simp] theorem truD_bool (k : Bool) : truD (.bool k) = some k := rfl
@[simp] theorem truD_none : truD .none = some false := rfl
@[simp] theorem truD_int : truD (.int i) = some (i != 0) := rfl
@[simp] theorem truD_list (l : List D) : truD (.list l) = some (!l.isEmpty) := rfl
@[simp] theorem truD_tuple (l : List D) : truD (.tuple l) = some (!l.isEmpty) := rfl
@[simp] theorem asB_bool (k : Bool) : asB (.bool k) = some k := rfl
@[simp] theorem asI_int : asI (.int i) = some i := rfl
theorem shp_int : shp (.int i) = true := rfl
theorem shp_bool (k : Bool) : shp (.bool k) = true := rfl
theorem shp_none : shp .none = true := rfl
@[simp] theorem gEq_int : gEq (.int i) (.int j) = some (decide (i = j)) := by
  show some (PyData.eqv (.int i) (.int j)) = _
  simp [PyData.eqv, Bool.beq_eq_decide_eq]
@[simp] theorem gNe_int : gNe (.int i) (.int j) = some (!decide (i = j)) := by
  show (gEq (.int i) (.int j)).map _ = _
  rw [gEq_int]; rfl
@[simp] theorem gIs_none (d : D) : gIs d .none = some (match d with | .none => true | _ => false) := by cases d <;> rfl
@[simp] theorem gIsNot_none (d : D) : gIsNot d .none = some (match d with | .none => false | _ => true) := by cases d <;> rfl
@[simp] theorem gEq_bool (k l : Bool) : gEq (.bool k) (.bool l) = some (k == l) := by
  show some (PyData.eqv (.bool k) (.bool l)) = _
  simp only [PyData.eqv]
@[simp] theorem gNe_bool (k l : Bool) : gNe (.bool k) (.bool l) = some (!(k == l)) := by
  show (gEq (.bool k) (.bool l)).map _ = _
  rw [gEq_bool]; rfl
theorem eqv_ii (a b : Int) : PyData.eqv (.int a) (.int b) = decide (a = b) := by simp only [PyData.eqv, Bool.beq_eq_decide_eq]
theorem eqv_ss (a b : Str) : PyData.eqv (.str a) (.str b) = decide (a = b) := by simp only [PyData.eqv, Bool.beq_eq_decide_eq]
theorem eqv_bb (a b : Bool) : PyData.eqv (.bool a) (.bool b) = decide (a = b) := by simp only [PyData.eqv, Bool.beq_eq_decide_eq]
theorem eqv_tt (a b : List D) : PyData.eqv (.tuple a) (.tuple b) = PyData.eqvAll a b := by simp only [PyData.eqv]
theorem eqv_ll (a b : List D) : PyData.eqv (.list a) (.list b) = PyData.eqvAll a b := by simp only [PyData.eqv]
theorem eqv_cc (x y : D) (a b : List D) : PyData.eqvAll (x :: a) (y :: b) = (PyData.eqv x y && PyData.eqvAll a b) := by simp only [PyData.eqvAll]
theorem eqv_nn : PyData.eqvAll [] [] = true := by simp only [PyData.eqvAll]
theorem eqv_nc (y : D) (b : List D) : PyData.eqvAll [] (y :: b) = false := by simp only [PyData.eqvAll]
theorem eqv_cn (y : D) (b : List D) : PyData.eqvAll (y :: b) [] = false := by simp only [PyData.eqvAll]
theorem gEq_of {a b : D} (ha : shp a = true) (hb : shp b = true) : gEq a b = some (PyData.eqv a b) := if_pos ⟨ha, hb⟩
theorem gNe_of {a b : D} (ha : shp a = true) (hb : shp b = true) : gNe a b = some (!PyData.eqv a b) := by
  show (gEq a b).map _ = _
  rw [gEq_of ha hb]; rfl
theorem gMul_of {i j : Int} {m n : Nat} (hi : i.natAbs < 2 ^ m) (hj : j.natAbs < 2 ^ n) (hm : 0 < m) (hn : 0 < n) (h : m + n ≤ 1000000) : gMul (.int i) (.int j) = some (.int (i * j)) := by
  have h1 : i.natAbs.log2 + j.natAbs.log2 < 1000000 := wide_mul hi hj hm hn h
  exact if_pos (show i.natAbs.log2 + j.natAbs.log2 < 100000000 by omega)
theorem gMul_big {i j : Int} {m n : Nat} (hi : i.natAbs < 2 ^ m) (hj : j.natAbs < 2 ^ n) (hm : 0 < m) (hn : 0 < n) (h : m + n ≤ 100000000) : gMul (.int i) (.int j) = some (.int (i * j)) := by
  have h1 := PySem.Flt.log2_lt_of hm hi
  have h2 := PySem.Flt.log2_lt_of hn hj
  exact if_pos (show i.natAbs.log2 + j.natAbs.log2 < 100000000 by omega)
theorem gFdiv_of {i j : Int} {n : Nat} (h : j ≠ 0) (hj : j.natAbs < 2 ^ n) (hn : 0 < n) (h9 : n ≤ 9000) : gFdiv (.int i) (.int j) = some (.int (i.fdiv j)) := by
  have h1 : j ≠ 0 ∧ j.natAbs.log2 < 9000 := ⟨h, Nat.lt_of_lt_of_le (PySem.Flt.log2_lt_of hn hj) h9⟩
  exact if_pos h1
theorem gFdiv_pos {i j : Int} {n : Nat} (h : 0 < j) (hj : j.natAbs < 2 ^ n) (hn : 0 < n) (h9 : n ≤ 9000) : gFdiv (.int i) (.int j) = some (.int (i / j)) := by
  rw [gFdiv_of (by omega) hj hn h9, Int.fdiv_eq_ediv_of_nonneg i (by omega)]
theorem gMod_pos {i j : Int} (h : 0 < j) : gMod (.int i) (.int j) = some (.int (i % j)) := by
  rw [← Int.fmod_eq_emod_of_nonneg i (by omega : 0 ≤ j)]
  have h1 : j ≠ 0 := by omega
  exact if_pos h1
theorem gMod_of {i j : Int} (h : j ≠ 0) : gMod (.int i) (.int j) = some (.int (i.fmod j)) := by
  exact if_pos h
theorem gPow_of {i j : Int} (h0 : 0 ≤ j) (h1 : j ≤ 1000000) (h2 : i.natAbs < 2 ^ 64) : gPow (.int i) (.int j) = some (.int (i ^ j.toNat)) := by
  exact if_pos ⟨h0, bits_mul_le h2 h0 h1⟩
theorem intBits_le {i : Int} {n : Nat} (h : i.natAbs < 2 ^ n) (hn : 0 < n) : Builtin.Int.intBits i ≤ n := by
  unfold Builtin.Int.intBits
  split
  · omega
  · rename_i e
    have hz : i.natAbs ≠ 0 := by intro q; apply e; simp [Int.natAbs_eq_zero.mp q]
    have := (Nat.log2_lt hz).mpr h
    omega
theorem gPow_big {i j : Int} {n : Nat} (h0 : 0 ≤ j) (h : i.natAbs < 2 ^ n) (hn : 0 < n) (h1 : (n : Int) * j ≤ 2 ^ 27) : gPow (.int i) (.int j) = some (.int (i ^ j.toNat)) := by
  refine if_pos ⟨h0, Int.le_trans ?_ h1⟩
  exact Int.mul_le_mul_of_nonneg_right (by have := intBits_le h hn; omega) h0
end
/-! places -/
@[simp] theorem gIx_tup (l : List D) (i : Int) : gIx (.tuple l) (.int i) = L2.atI l i := rfl
@[simp] theorem gIx_lst (l : List D) (i : Int) : gIx (.list l) (.int i) = L2.atI l i := rfl
@[simp] theorem atI_0 (a : D) (l : List D) : L2.atI (a :: l) 0 = some a := by
  unfold L2.atI L2.ixN
  rw [if_pos (by decide), if_pos (by rw [List.length_cons]; omega)]; rfl
@[simp] theorem atI_1 (a b : D) (l : List D) : L2.atI (a :: b :: l) 1 = some b := by
  unfold L2.atI L2.ixN
  rw [if_pos (by decide), if_pos (by rw [List.length_cons, List.length_cons]; omega)]; rfl
@[simp] theorem atI_2 (a b c : D) (l : List D) : L2.atI (a :: b :: c :: l) 2 = some c := by
  unfold L2.atI L2.ixN
  rw [if_pos (by decide), if_pos (by rw [List.length_cons, List.length_cons, List.length_cons]; omega)]; rfl
theorem atI_of {l : List D} {i : Nat} {d : D} (h : l[i]? = some d) : L2.atI l (i : Int) = some d := atI_nat h
@[simp] theorem sizeLine_ge (n : Nat) (h : n ≤ 1000) : n ≤ sizeLine := Nat.le_of_lt (small1000 h)
theorem gSl_take (ds : List D) (k : Nat) : gSl (.list ds) none (some (k : Int)) = some (.list (ds.take k)) := by
  show some (PyData.list _) = _
  rw [HT.sIx_none, HT.sIx_nat, List.drop_zero, Nat.sub_zero]
  congr 2
  by_cases h : k ≤ ds.length
  · rw [Nat.min_eq_left h]
  · rw [Nat.min_eq_right (by omega), List.take_of_length_le (by omega), List.take_of_length_le (by omega)]
theorem gSl_drop (ds : List D) (k : Nat) : gSl (.list ds) (some (k : Int)) none = some (.list (ds.drop k)) := by
  show some (PyData.list _) = _
  rw [HT.sIx_none, HT.sIx_nat]
  congr 2
  by_cases h : k ≤ ds.length
  · rw [Nat.min_eq_left h, List.take_of_length_le (by rw [List.length_drop]; omega)]
  · rw [Nat.min_eq_right (by omega), Nat.sub_self, List.take_zero, List.drop_eq_nil_of_le (by omega)]
theorem rgOk_up {i j c : Int} (hc : 0 < c) (hc2 : c < 1000000) (h1 : -1000000000000 < i) (h2 : i < 1000000000000) (h3 : -1000000000000 < j) (h4 : j < 1000000000000) : rgOk i j c = true := by
  have hr : 0 ≤ Builtin.Range.rangeSize i j c ∧ Builtin.Range.rangeSize i j c ≤ 2000000000001 := by
    unfold Builtin.Range.rangeSize
    rw [if_pos hc]
    split
    · have h5 : (j - i - 1) / c ≤ j - i - 1 := Int.ediv_le_self _ (by omega)
      have h6 : 0 ≤ (j - i - 1) / c := Int.ediv_nonneg (by omega) (by omega)
      omega
    · omega
  unfold rgOk Builtin.Range.small
  simp only [Builtin.Range.rangeFitsLong, Bool.and_eq_true, Bool.or_eq_true, decide_eq_true_eq, beq_iff_eq]
  refine ⟨⟨by omega, by omega, hr.1⟩, ?_⟩
  generalize Builtin.Range.rangeSize i j c = n at hr
  simp [hc]
  omega
noncomputable def rg1 (ds : List D) (ρ1 : En) : R (List D) := match ds with
  | [.int j] => if inR j then .ok (rngD 0 j.toNat) ρ1 else .no
  | _ => .no
noncomputable def rg2 (ds : List D) (ρ1 : En) : R (List D) := match ds with
  | [.int i, .int j] => if inR i ∧ inR j then .ok (rngD i (j - i).toNat) ρ1 else .no
  | _ => .no
@[simp] theorem iRg1_eq (ga : En → R (List AV)) (ρ : En) : iRg1 ga ρ = (dAll ga ρ).bind fun ds ρ1 => rg1 ds ρ1 := rfl
@[simp] theorem iRg2_eq (ga : En → R (List AV)) (ρ : En) : iRg2 ga ρ = (dAll ga ρ).bind fun ds ρ1 => rg2 ds ρ1 := rfl
@[simp] theorem rg1_ok {j : Int} {ρ : En} (h : inR j) : rg1 [.int j] ρ = .ok (rngD 0 j.toNat) ρ := if_pos h
@[simp] theorem rg2_ok {i j : Int} {ρ : En} (h : inR i) (h2 : inR j) : rg2 [.int i, .int j] ρ = .ok (rngD i (j - i).toNat) ρ := if_pos ⟨h, h2⟩
theorem inR_of {j : Int} (h : -1000000 ≤ j) (h2 : j ≤ 1000000) : inR j := ⟨by omega, by omega⟩
@[simp] theorem iRg3_eq (ga : En → R (List AV)) (ρ : En) : iRg3 ga ρ = (dAll ga ρ).bind fun ds ρ1 => match ds with
  | [.int i, .int j, .int c] => if rgOk i j c = true then .ok (rngC i c (rgN i j c)) ρ1 else .no
  | _ => .no := rfl
@[simp] theorem dFor_eq (f : En → R (List D)) (g : D → En → R Unit) (b : En → R Fl) (ρ : En) : dFor f g b ρ = (f ρ).bind fun ds ρ1 => dForL g b ds ρ1 := rfl
@[simp] theorem iD_eq (f : En → R D) (ρ : En) : iD f ρ = (f ρ).bind fun d ρ1 => match d with
  | .list ds => .ok ds ρ1
  | .tuple ds => .ok ds ρ1
  | .str s => .ok (strD s) ρ1
  | _ => .no := rfl
theorem mem_rngC {lo c : Int} {n : Nat} {d : D} (h : d ∈ rngC lo c n) : ∃ i : Nat, i < n ∧ d = .int (lo + i * c) := by
  unfold rngC at h
  obtain ⟨i, hi, rfl⟩ := List.mem_map.mp h
  exact ⟨i, by simpa using hi, rfl⟩
theorem mem_rngD {lo : Int} {n : Nat} {d : D} (h : d ∈ rngD lo n) : ∃ i : Nat, i < n ∧ d = .int (lo + i) := by
  unfold rngD at h
  obtain ⟨i, hi, rfl⟩ := List.mem_map.mp h
  exact ⟨i, by simpa using hi, rfl⟩
/-! loops -/
theorem forL_all {g : D → En → R Unit} {b : En → R Fl} {P : En → Prop} : ∀ {ds : List D}, (∀ d ∈ ds, ∀ ρ, P ρ → ∃ ρ1 ρ2, g d ρ = .ok () ρ1 ∧ (b ρ1 = .ok .nx ρ2 ∨ b ρ1 = .ok .ct ρ2) ∧ P ρ2) → ∀ ρ, P ρ → ∃ ρ', dForL g b ds ρ = .ok .nx ρ' ∧ P ρ'
  | [], _, ρ, hp => ⟨ρ, rfl, hp⟩
  | d :: ds, h, ρ, hp => by
    obtain ⟨ρ1, ρ2, e1, e2, p2⟩ := h d (List.mem_cons_self ..) ρ hp
    obtain ⟨ρ', e3, p3⟩ := forL_all (ds := ds) (fun d hd => h d (List.mem_cons_of_mem _ hd)) ρ2 p2
    refine ⟨ρ', ?_, p3⟩
    show (g d ρ).bind _ = _
    rw [e1]
    show (b ρ1).bind _ = _
    rcases e2 with e2 | e2
    · rw [e2]; exact e3
    · rw [e2]; exact e3
end Dn
namespace Dn
open PySem PySem.Spec PyProof.Rows L2
/-! ### raise and try -/
def noX {α : Type} : R α → R α
  | .ex _ _ => .no
  | r => r
def dRaise (c : String) : En → R Fl := fun ρ => .ex ⟨c, none⟩ ρ
/-- cat: whether the clause takes an exception of that class -/
def dTry (b : En → R Fl) (cat : String → Option Bool) (s : En → R Fl) : En → R Fl := fun ρ => match b ρ with
  | .ex e ρ1 => match cat e.cls with
    | some true => noX (s ρ1)
    | some false => .ex e ρ1
    | none => .no
  | r => r
section
variable {X : Cx} {w : Wh} {x : Str} {p p2 pos np pos' : Pos} {C : Addr} {B newId initId : String} {bmB : List Value}
theorem vs_raise {nm : String} {m : Str} {j : Nat} (hc : X.calm = true) (tk : Takes X w.W) (hca : w.ca nm = some (.ref C)) (F : ExcBaseFacts B newId initId bmB) (q : PySem.W.excIn X.K C bmB newId = true) (gC : X.mg x = some (.ref C)) (kC : PySem.W.keepIn X.K (.ref C) = true) (r : Raises X (.ref C)) (hg : Gl X x)
    (hdb : (x == ("__debug__" : Str)) = false := by decide) : VS X w (.Raise (some (.Call (.Name x p) [.Constant (.str m) j p2] [] pos)) none pos') (dRaise nm) :=
  PS.imp (ps_raise hc tk (pmk_own F q gC kC r hg hdb)) fun Z σ H ⟨G, ρ, rel, h⟩ => by
    have h' : FnS X.K w G H σ ρ (.ex ⟨nm, none⟩ ρ) Z := h
    exact h' G H σ _ none rel Stp.refl ⟨hca, fun _ => .inl rfl, fun f d e => nomatch e⟩
theorem FnS.noX {K : PySem.W.Frag} {w0 : Wh} {G H : Hp} {σ : L2.St} {ρ : En} {r : R Fl} {Z : Ends} (h : FnS K w G H σ ρ (Dn.noX r) Z) : FnS K w0 G H σ ρ r Z := by
  cases r with
  | no => exact h
  | ex c ρ' => exact h.elim
  | ok f ρ' => cases f <;> exact h
abbrev w0 (w : Wh) : Wh := ⟨w.ca, fun _ _ _ _ => False⟩
theorem vs_try {c : Value} {b₀ : Stmt} {body suite : List Stmt} {fb fs : En → R Fl} {cat : String → Option Bool} (hs : X.stack = X.env :: X.outer) (hf : X.env.frame = some X.env.locals) (hc : Names X x c) (tk : Takes X w.W) (hcalm : X.calm = true) {k : Nat} (hr : Room k X.A)
    (hcat : ∀ e b cls, cat e = some b → w.ca e = some cls → PySem.W.exmOne X.K cls c = some b)
    (hb : ∀ (W : WX) (pn : List (Addr × Obj)) (xe : Value → Shared → Prop), Gd (X.tr pn xe) ⟨w.ca, W⟩ k → VSs (X.tr pn xe) ⟨w.ca, W⟩ body fb)
    (hsu : ∀ (a : Addr) (oe : Obj) (pn : List (Addr × Obj)), VSs (X.suite a ((a, oe) :: pn)) (w0 w) (b₀ :: suite) fs) :
    VS X w (.Try body [.ExceptHandler (some (.Name x np)) none (b₀ :: suite) pos'] [] [] pos) (dTry fb cat fs) :=
  PS.imp (ps_try_only (tb := fun W => tsS X.K ⟨w.ca, W⟩ fb) (ts := fun _ _ _ => tsS X.K (w0 w) fs) hs hf hc tk (fun W pn xe t po => hb W pn xe ⟨hcalm, t, po, hr⟩) (fun a oe cls d pn _ _ => hsu a oe pn)) fun Z σ H ⟨G, ρ, rel, h⟩ => by
    refine ⟨G, ρ, rel, ?_⟩
    unfold dTry at h
    cases q : fb ρ with
    | no => rw [q] at h; exact h
    | ok f ρ1 => rw [q] at h; cases f <;> exact h
    | ex e ρ1 =>
      rw [q] at h
      have h2 : FnS X.K w G H σ ρ (match cat e.cls with | some true => noX (fs ρ1) | some false => .ex e ρ1 | none => .no) Z := h
      intro G' H' σ' cls dx r' s' x'
      cases q2 : cat e.cls with
      | none => rw [q2] at h2; exact h2.elim
      | some b =>
        rw [q2] at h2
        refine ⟨b, hcat e.cls b cls q2 x'.hc, fun hb a ha => ?_, fun hb => ?_⟩
        · subst hb
          exact ⟨G', ρ1, r', FnS.noX (FnS.after rel r' s' h2)⟩
        · subst hb
          exact h2 G' H' σ' cls dx r' s' (x'.to rfl)
@[simp] theorem dRaise_eq (c : String) (ρ : En) : dRaise c ρ = .ex ⟨c, none⟩ ρ := rfl
def tryK (r : R Fl) (cat : String → Option Bool) (s : En → R Fl) : R Fl := match r with
  | .ex e ρ1 => match cat e.cls with
    | some true => noX (s ρ1)
    | some false => .ex e ρ1
    | none => .no
  | r => r
@[simp] theorem dTry_eq (b : En → R Fl) (cat : String → Option Bool) (s : En → R Fl) (ρ : En) : dTry b cat s ρ = tryK (b ρ) cat s := rfl
@[simp] theorem tryK_ok (f : Fl) (ρ : En) (cat : String → Option Bool) (s : En → R Fl) : tryK (.ok f ρ) cat s = .ok f ρ := rfl
theorem tryK_ex {e : Exn} {ρ : En} {cat : String → Option Bool} {s : En → R Fl} (h : cat e.cls = some true) : tryK (.ex e ρ) cat s = noX (s ρ) := by
  show (match cat e.cls with | some true => noX (s ρ) | some false => R.ex e ρ | none => .no) = _
  rw [h]
@[simp] theorem noX_ok {α : Type} (a : α) (ρ : En) : noX (.ok a ρ) = .ok a ρ := rfl
end
end Dn
namespace Dn
open PySem PySem.Spec PyProof.Rows L2
/-! ### list comprehensions -/
def wipeE (ρ : En) : List Nat → En
  | [] => ρ
  | v :: vs => (wipeE ρ vs).set v none
def restE (ρ ρ2 : En) : List Nat → En
  | [] => ρ2
  | v :: vs => (restE ρ ρ2 vs).set v (ρ[v]?.getD none)
def immE (ρ : En) (vs : List Nat) : Bool := vs.all fun i => match ρ[i]? with
  | some (some (.im _)) => true
  | some none => true
  | _ => false
theorem wipeE_length (ρ : En) : ∀ vs, (wipeE ρ vs).length = ρ.length
  | [] => rfl
  | v :: vs => by unfold wipeE; rw [List.length_set, wipeE_length ρ vs]
theorem wipeE_some {ρ : En} {i : Nat} {x : L} : ∀ {vs : List Nat}, (wipeE ρ vs)[i]? = some (some x) → ρ[i]? = some (some x) ∧ i ∉ vs
  | [], h => ⟨h, by simp⟩
  | v :: vs, h => by
    unfold wipeE at h
    by_cases hi : v = i
    · subst hi
      by_cases hv : v < (wipeE ρ vs).length
      · rw [List.getElem?_set_self hv] at h; cases h
      · rw [List.getElem?_eq_none (by simpa using hv)] at h; cases h
    · rw [List.getElem?_set_ne hi] at h
      obtain ⟨h1, h2⟩ := wipeE_some h
      exact ⟨h1, by simp only [List.mem_cons, not_or]; exact ⟨fun e => hi e.symm, h2⟩⟩
theorem wipeE_out {ρ : En} {i : Nat} : ∀ {vs : List Nat}, i ∉ vs → (wipeE ρ vs)[i]? = ρ[i]?
  | [], _ => rfl
  | v :: vs, h => by
    simp only [List.mem_cons, not_or] at h
    unfold wipeE
    rw [List.getElem?_set_ne (fun e => h.1 e.symm)]
    exact wipeE_out h.2
theorem restE_length (ρ ρ2 : En) : ∀ vs, (restE ρ ρ2 vs).length = ρ2.length
  | [] => rfl
  | v :: vs => by unfold restE; rw [List.length_set, restE_length ρ ρ2 vs]
theorem restE_out {ρ ρ2 : En} {i : Nat} : ∀ {vs : List Nat}, i ∉ vs → (restE ρ ρ2 vs)[i]? = ρ2[i]?
  | [], _ => rfl
  | v :: vs, h => by
    simp only [List.mem_cons, not_or] at h
    unfold restE
    rw [List.getElem?_set_ne (fun e => h.1 e.symm)]
    exact restE_out h.2
theorem restE_in {ρ ρ2 : En} {i : Nat} (hl : ρ2.length = ρ.length) : ∀ {vs : List Nat}, i ∈ vs → (restE ρ ρ2 vs)[i]? = ρ[i]?
  | [], h => by simp at h
  | v :: vs, h => by
    unfold restE
    by_cases hi : v = i
    · subst hi
      by_cases hv : v < (restE ρ ρ2 vs).length
      · rw [List.getElem?_set_self hv]
        rw [restE_length, hl] at hv
        rw [List.getElem?_eq_getElem hv]; rfl
      · rw [List.getElem?_eq_none (by simpa using hv)]
        rw [restE_length, hl] at hv
        rw [List.getElem?_eq_none (by omega)]
    · rw [List.getElem?_set_ne hi]
      rcases List.mem_cons.mp h with e | e
      · exact absurd e.symm hi
      · exact restE_in hl e
theorem wipe_outS {σ : L2.St} {i : Nat} : ∀ {vs : List Nat}, i ∉ vs → (L2.wipe σ vs)[i]? = σ[i]?
  | [], _ => rfl
  | v :: vs, h => by
    simp only [List.mem_cons, not_or] at h
    unfold L2.wipe
    rw [List.getElem?_set_ne (fun e => h.1 e.symm)]
    exact wipe_outS h.2
theorem wipe_in {σ : L2.St} {i : Nat} : ∀ {vs : List Nat}, i ∈ vs → i < σ.length → (L2.wipe σ vs)[i]? = some none
  | [], h, _ => by simp at h
  | v :: vs, h, hl => by
    unfold L2.wipe
    by_cases hi : v = i
    · subst hi
      rw [List.getElem?_set_self (by rw [L2.wipe_length]; exact hl)]
    · rw [List.getElem?_set_ne hi]
      rcases List.mem_cons.mp h with e | e
      · exact absurd e.symm hi
      · exact wipe_in e hl
theorem wipe_ext {σ σ' : L2.St} {vs : List Nat} (hl : σ.length = σ'.length) (h : ∀ i, i ∉ vs → σ[i]? = σ'[i]?) : L2.wipe σ vs = L2.wipe σ' vs := by
  apply List.ext_getElem?
  intro i
  by_cases hi : i ∈ vs
  · by_cases hb : i < σ.length
    · rw [wipe_in hi hb, wipe_in hi (by omega)]
    · rw [List.getElem?_eq_none (by rw [L2.wipe_length]; omega), List.getElem?_eq_none (by rw [L2.wipe_length]; omega)]
  · rw [wipe_outS hi, wipe_outS hi, h i hi]
theorem wipe_wipe (σ : L2.St) (vs : List Nat) : L2.wipe (L2.wipe σ vs) vs = L2.wipe σ vs := wipe_ext (L2.wipe_length _ _) fun i hi => wipe_outS hi
theorem wipe_back {σ σ2 : L2.St} {vs : List Nat} {i : Nat} (h : L2.wipe σ2 vs = L2.wipe σ vs) (hi : i ∉ vs) : σ2[i]? = σ[i]? := by
  rw [← wipe_outS (σ := σ2) hi, h, wipe_outS hi]
section
variable {K : PySem.W.Frag} {G H G1 H1 G' H' : Hp} {σ σ2 : L2.St} {ρ ρ1 ρ2 : En} {vs : List Nat}
theorem immE_at (h : immE ρ vs = true) {i : Nat} (hi : i ∈ vs) : ρ[i]? = some none ∨ ∃ d, ρ[i]? = some (some (L.im d)) := by
  unfold immE at h
  have := List.all_eq_true.mp h i hi
  split at this
  · exact .inr ⟨_, by assumption⟩
  · exact .inl (by assumption)
  · cases this
theorem Rel.wipe (r : Rel K G H σ ρ) : Rel K G H (L2.wipe σ vs) (wipeE ρ vs) ∧ ∀ a, Own H (L2.wipe σ vs) (wipeE ρ vs) a → Own H σ ρ a := by
  refine ⟨⟨r.sub, by rw [L2.wipe_length, wipeE_length]; exact r.len, fun i l e => ?_, fun i j l m v u a ei ej si sj fi fj => ?_⟩, fun a ⟨i, l, v, e, s, f⟩ => ?_⟩
  · obtain ⟨e', hi⟩ := wipeE_some e
    obtain ⟨v, s, c⟩ := r.cell i l e'
    exact ⟨v, by rw [wipe_outS hi]; exact s, c⟩
  · exact r.apart i j l m v u a (wipeE_some ei).1 (wipeE_some ej).1 (L2.wipe_some si).1 (L2.wipe_some sj).1 fi fj
  · exact ⟨i, l, v, (wipeE_some e).1, (L2.wipe_some s).1, f⟩
/-- at a turn's end -/
theorem Rel.unwipe (r : Rel K G H σ ρ) (im : immE ρ vs = true) (hw : L2.wipe σ2 vs = L2.wipe σ vs) (r2 : Rel K G' H' σ2 ρ2) (s : Stp G H (L2.wipe σ vs) (wipeE ρ vs) G' H' σ2 ρ2) :
    Rel K G' H' σ (restE ρ ρ2 vs) ∧ Stp G H σ ρ G' H' σ (restE ρ ρ2 vs) ∧ immE (restE ρ ρ2 vs) vs = true := by
  have hl : ρ2.length = ρ.length := by rw [s.ln, wipeE_length]
  obtain ⟨rw_, ow_⟩ := r.wipe (vs := vs)
  have own' : ∀ (i : Nat) (l : L) (v : V) (a : Addr), (restE ρ ρ2 vs)[i]? = some (some l) → Fo H' l v a → i ∉ vs ∧ ρ2[i]? = some (some l) := fun i l v a e f => by
    by_cases hi : i ∈ vs
    · rw [restE_in hl hi] at e
      rcases immE_at im hi with z | ⟨d, z⟩
      · rw [z] at e; cases e
      · rw [z] at e; cases e; exact f.elim
    · rw [restE_out hi] at e; exact ⟨hi, e⟩
  have out : ∀ (i : Nat) (l : L), l.mu = true → ρ[i]? = some (some l) → i ∉ vs := fun i l m e hi => by
    rcases immE_at im hi with z | ⟨d, z⟩
    · rw [z] at e; cases e
    · rw [z] at e; cases e; cases m
  refine ⟨⟨r2.sub, by rw [restE_length, hl]; exact r.len, fun i l e => ?_, fun i j l m v u a ei ej si sj fi fj => ?_⟩, ⟨s.g, fun a o e n => s.h a o e fun z => n (ow_ a z), fun a e => ?_, fun a ⟨i, l, v, e, q, f⟩ => ?_, s.tr, by rw [restE_length]; exact hl, fun i ds e => ?_, fun i t e => ?_⟩, ?_⟩
  · by_cases hi : i ∈ vs
    · rw [restE_in hl hi] at e
      rcases immE_at im hi with z | ⟨d, z⟩
      · rw [z] at e; cases e
      · rw [z] at e; cases e
        obtain ⟨v, q, c⟩ := r.cell i _ z
        exact ⟨v, q, DR.mono s.g c⟩
    · rw [restE_out hi] at e
      obtain ⟨v, q, c⟩ := r2.cell i l e
      exact ⟨v, by rw [← wipe_back hw hi]; exact q, c⟩
  · obtain ⟨hi, ei'⟩ := own' i l v a ei fi
    obtain ⟨hj, ej'⟩ := own' j m u a ej fj
    exact r2.apart i j l m v u a ei' ej' (by rw [wipe_back hw hi]; exact si) (by rw [wipe_back hw hj]; exact sj) fi fj
  · rcases s.fr a e with z | z | z
    · exact .inl z
    · exact .inr (.inl z)
    · exact .inr (.inr (ow_ a z))
  · obtain ⟨hi, e'⟩ := own' i l v a e f
    rcases s.ow a ⟨i, l, v, e', by rw [wipe_back hw hi]; exact q, f⟩ with z | z
    · exact .inl (ow_ a z)
    · exact .inr z
  · have hi := out i _ rfl e
    obtain ⟨_, ds', e2⟩ := s.bo i ds (by rw [wipeE_out hi]; exact e)
    exact ⟨rfl, ds', by rw [restE_out hi]; exact e2⟩
  · have hi := out i _ rfl e
    obtain ⟨_, t', e2, f2⟩ := s.bt i t (by rw [wipeE_out hi]; exact e)
    exact ⟨rfl, t', by rw [restE_out hi]; exact e2, fun v a q f => f2 v a (by rw [wipe_outS hi]; exact q) f⟩
  · unfold immE
    rw [List.all_eq_true]
    intro i hi
    rw [restE_in hl hi]
    exact List.all_eq_true.mp im i hi
/-- a list that is nobody's yet -/
structure NewAt (K : PySem.W.Frag) (G H : Hp) (σ : L2.St) (ρ : En) (p : Addr) (ds : List D) : Prop where
  g : G p = none
  own : ¬ Own H σ ρ p
  here : ∃ us, H p = some (.lst us) ∧ DRs K G us ds
theorem NewAt.step {p : Addr} {ds : List D} (n : NewAt K G H σ ρ p ds) (s : Stp G H σ ρ G' H' σ2 ρ2) : NewAt K G' H' σ2 ρ2 p ds := by
  obtain ⟨us, h1, h2⟩ := n.here
  refine ⟨?_, fun z => ?_, us, s.h p _ h1 n.own, h2.mono s.g⟩
  · cases q : G' p with
    | none => rfl
    | some o =>
      rcases s.fr p (by rw [q]; exact fun z => nomatch z) with z | z | z
      · exact absurd n.g z
      · rw [h1] at z; cases z
      · exact absurd z n.own
  · rcases s.ow p z with z | z
    · exact n.own z
    · rw [h1] at z; cases z
theorem Rel.updN' (r : Rel K G H σ ρ) {p : Addr} {o : HO} (hg : G p = none) (ho : ¬ Own H σ ρ p) : Rel K G (upd H p o) σ ρ ∧ ∀ a, Own (upd H p o) σ ρ a ↔ Own H σ ρ a :=
  r.keep (G' := G) (H' := upd H p o) (Same.refl _) (fun b x e => by rw [upd_ne (ne_of_none e hg)]; exact r.sub b x e) (fun a h => (r.own h).1) (fun a h => upd_ne fun z => by subst z; exact ho h)
theorem Rel.updN (r : Rel K G H σ ρ) {p : Addr} {o : HO} (hg : G p = none) (ho : ¬ Own H σ ρ p) : Rel K G (upd H p o) σ ρ := (r.updN' hg ho).1
theorem Rel.updO (r : Rel K G H σ ρ) {p : Addr} {o : HO} (hg : G p = none) (ho : ¬ Own H σ ρ p) : ¬ Own (upd H p o) σ ρ p := fun z => ho (((r.updN' hg ho).2 p).mp z)
theorem Stp.updN (s : Stp G1 H1 σ ρ1 G H σ ρ) (r : Rel K G H σ ρ) {p : Addr} {o : HO} (hg : G p = none) (ho : ¬ Own H σ ρ p) (hp : H1 p = none) : Stp G1 H1 σ ρ1 G (upd H p o) σ ρ :=
  ⟨s.g, fun a x e n => by rw [upd_ne fun z => by subst z; rw [hp] at e; cases e]; exact s.h a x e n, s.fr, fun a h => s.ow a (((r.updN' hg ho).2 a).mp h), fun a h => tracked_upd a (s.tr a h), s.ln, s.bo, fun i t e => by
    obtain ⟨e1, t', e2, f2⟩ := s.bt i t e
    exact ⟨e1, t', e2, fun v a q f => Foot.to (f2 v a q f) fun b y => upd_ne fun z => by subst z; exact ho ⟨i, _, v, e2, q, y⟩⟩⟩
end
/-! targets that stay within the block's own names -/
def FnGC (vs : List Nat) (K : PySem.W.Frag) (G H : Hp) (σ : L2.St) (ρ : En) (r : R Unit) (Q : L2.St → Hp → Prop) : Prop :=
  match r with
  | .ok _ ρ' => ∀ G' H' σ', Rel K G' H' σ' ρ' → Stp G H σ ρ G' H' σ' ρ' → L2.wipe σ' vs = L2.wipe σ vs → Q σ' H'
  | _ => False
abbrev VGc (X : Cx) (vs : List Nat) (tg : Expr) (g : D → En → R Unit) : Prop := PG X tg (fun v σ H Q => ∃ G ρ d, Rel X.K G H σ ρ ∧ DR X.K G v d ∧ FnGC vs X.K G H σ ρ (g d ρ) Q)
abbrev VGcs (X : Cx) (vs : List Nat) (tgs : List Expr) (g : List D → En → R Unit) : Prop := PGs X tgs (fun us σ H Q => ∃ G ρ ds, Rel X.K G H σ ρ ∧ DRs X.K G us ds ∧ FnGC vs X.K G H σ ρ (g ds ρ) Q)
section
variable {X : Cx} {w : Wh} {x : Str} {pos : Pos} {e : Expr} {es : List Expr} {g : D → En → R Unit} {h : List D → En → R Unit} {vs : List Nat}
theorem wipe_set {σ : L2.St} {i : Nat} {v : Option V} (hi : i ∈ vs) : L2.wipe (σ.set i v) vs = L2.wipe σ vs := wipe_ext (by simp) fun j hj => List.getElem?_set_ne (fun z => by subst z; exact hj hi)
theorem vgc_name (i : Nat) (hv : i ∈ vs) (hN : X.N.Nodup) (hi : X.N[i]? = some x := by rfl) (hx : Loc X.env.scope x := by first | exact Or.inl rfl | exact Or.inr rfl) (hf : X.fn x = true ∨ X.env.scope.names.lookup x = some .local := by first | exact .inl rfl | exact .inr rfl | assumption) : VGc X vs (.Name x pos) (putIm i) :=
  PG.imp (pg_name hN hi hx hf) fun v σ H Q ⟨G, ρ, d, rel, hvd, q⟩ => by
    unfold putIm at q
    split at q
    · rename_i hf
      obtain ⟨c, hc, hb, ht⟩ := free_ok hf
      obtain ⟨r1, s1⟩ := rel.put hc hb ht hvd
      exact q _ _ _ r1 s1 (wipe_set hv)
    · exact q.elim
theorem vgcs_nil : VGcs X vs [] gsNil := PGs.imp pgs_nil fun us σ H Q ⟨G, ρ, ds, rel, hv, q⟩ => by
  cases hv with
  | nil => exact ⟨rfl, q _ _ _ rel Stp.refl rfl⟩
  | cons _ _ => exact q.elim
theorem vgcs_cons (h1 : VGc X vs e g) (h2 : VGcs X vs es h) (hs : (assignEach (e :: es) X.env).map (·.2) = assign e X.env :: (assignEach es X.env).map (·.2) := by rfl) : VGcs X vs (e :: es) (gsCons g h) :=
  PGs.imp (pgs_cons h1 h2 hs) fun us σ H Q ⟨G, ρ, ds, rel, hv, q⟩ => by
    cases hv with
    | nil => exact q.elim
    | @cons v us d ds hv1 hvs =>
      have q' : FnGC vs X.K G H σ ρ ((g d ρ).bind fun _ ρ1 => h ds ρ1) Q := q
      refine ⟨v, us, rfl, G, ρ, d, rel, hv1, ?_⟩
      cases e1 : g d ρ with
      | no => rw [e1] at q'; exact q'
      | ex c ρ' => rw [e1] at q'; exact q'
      | ok u ρ' =>
        rw [e1] at q'
        intro G1 H1 σ1 r1 s1 w1
        refine ⟨G1, ρ', ds, r1, hvs.mono s1.g, ?_⟩
        have q2 : FnGC vs X.K G H σ ρ (h ds ρ') Q := q'
        cases e2 : h ds ρ' with
        | no => rw [e2] at q2; exact q2
        | ex c ρ'' => rw [e2] at q2; exact q2
        | ok u' ρ'' => rw [e2] at q2; exact fun G2 H2 σ2 r2 s2 w2 => q2 G2 H2 σ2 r2 (s1.trans rel s2) (w2.trans w1)
theorem vgc_tup {k : Nat} {n : Nat} (hc : X.calm = true) (hs : VGcs X vs es h) (hn : (assignEach es X.env).length = n := by rfl) (hst : (assignEach es X.env).findIdx? (·.1) = none := by rfl) : VGc X vs (.Tuple es k pos) (gTupD n h) :=
  PG.imp (pgOr (pg_tup hc hs hn hst) (pg_unl hc hs hn hst)) fun v σ H Q ⟨G, ρ, d, rel, hv, q⟩ => by
    cases hv with
    | @lst a xs ds hq hds =>
      have q' : FnGC vs X.K G H σ ρ (if ds.length = n then h ds ρ else .no) Q := q
      split at q'
      · rename_i hl
        exact .inr ⟨a, xs, rfl, rel.sub.seq hq, by rw [hds.length]; exact hl, G, ρ, ds, rel, hds, q'⟩
      · exact q'.elim
    | @tup a xs ds hq hds =>
      have q' : FnGC vs X.K G H σ ρ (if ds.length = n then h ds ρ else .no) Q := q
      split at q'
      · rename_i hl
        exact .inl ⟨a, xs, rfl, Same.tup rel.sub hq, by rw [hds.length]; exact hl, G, ρ, ds, rel, hds, q'⟩
      · exact q'.elim
    | _ => exact q.elim
/-- one turn -/
def lcT (g : D → En → R Unit) (ft : En → R Bool) (fe : En → R D) : D → En → R (Option D) := fun d ρ =>
  (g d ρ).bind fun _ ρ1 => (ft ρ1).bind fun b ρ2 => if b = true then (fe ρ2).bind fun y ρ3 => .ok (some y) ρ3 else .ok none ρ2
def lcL (t : D → En → R (Option D)) (vs : List Nat) : List D → List D → En → R (List D)
  | [], acc, ρ => .ok acc ρ
  | d :: ds, acc, ρ => match t d (wipeE ρ vs) with
    | .ok (some y) ρ3 => if acc.length < sizeLine then lcL t vs ds (acc ++ [y]) (restE ρ ρ3 vs) else .no
    | .ok none ρ3 => lcL t vs ds acc (restE ρ ρ3 vs)
    | _ => .no
def nLc (fi : En → R (List D)) (t : D → En → R (Option D)) (vs : List Nat) : En → R (List D) := fun ρ => (fi ρ).bind fun ds ρ1 => if immE ρ1 vs = true then lcL t vs ds [] ρ1 else .no
def tT : En → R Bool := fun ρ => .ok true ρ
theorem PTs.imp {X : Cx} {e : List Expr} {t t' : TT} (h : PTs X e t) (i : ∀ σ H Q, t' σ H Q → t σ H Q) : PTs X e t' := ⟨fun pins s σ H Q I q => h.run pins s σ H Q I (i _ _ _ q)⟩
theorem vts_nil : PTs X [] (teB X.K w tT) := PTs.imp pts_nil fun σ H Q ⟨G, ρ, rel, h⟩ => h G H rel Stp.refl
theorem vts_one {c : Expr} {f : En → R Bool} (h : VT X w c f) : PTs X [c] (teB X.K w f) := pts_one h
/-- the rule's main step -/
theorem lc_go {fi : En → R (List D)} {g : D → En → R Unit} {ft : En → R Bool} {fe : En → R D} {Kf : PySem.W.Frag} {σ : L2.St} {H0 G1 H1 : Hp} {ρ1 : En} {ds : List D} {J : It} {Q : VK} (hJ : ItS Kf G1 J ds) (r1 : Rel Kf G1 H1 σ ρ1) (hH : ∀ p, H1 p = none → H0 p = none)
    (h1 : Fn Kf w G1 H1 σ ρ1 (if immE ρ1 vs = true then lcL (lcT g ft fe) vs ds [] ρ1 else .no) (QN Kf H0 σ Q)) (D0 : Addr) (hD : H1 D0 = none) :
    ∃ W : Nat → Nat → Hp → Prop, (∃ m, W 0 m (upd H1 D0 (.lst []))) ∧ ∀ i m H, W i m H →
      (J.stop i H ∧ Q (.ref D0) H) ∨ (J.go i H ∧ ∃ Nx : Hp → Prop, (∀ H', Nx H' → ∃ m', m' < m ∧ W (i + 1) m' H') ∧ ∀ x H', J.yld i H x H' →
        (fun v σ H Q => ∃ G ρ d, Rel Kf G H σ ρ ∧ DR Kf G v d ∧ FnGC vs Kf G H σ ρ (g d ρ) Q) x (L2.wipe σ vs) H' fun σ2 H2 => L2.wipe σ2 vs = L2.wipe σ vs ∧ teB Kf (w0 w) ft σ2 H2 fun b H3 =>
        if b = true then teD Kf (w0 w) fe σ2 H3 fun y H4 => ∃ acc, H4 D0 = some (.lst acc) ∧ acc.length < sizeLine ∧ Nx (upd H4 D0 (.lst (acc ++ [y]))) else Nx H3) := by
  have im : immE ρ1 vs = true := by
    cases q : immE ρ1 vs with
    | true => rfl
    | false => rw [q, if_neg (by decide)] at h1; exact h1.elim
  rw [if_pos im] at h1
  have gD : G1 D0 = none := Same.free r1.sub hD
  have oD : ¬ Own H1 σ ρ1 D0 := fun z => by obtain ⟨_, us, e⟩ := r1.own z; rw [hD] at e; cases e
  refine ⟨fun i m H => m = ds.length - i ∧ i ≤ ds.length ∧ ∃ G ρ acc, Rel Kf G H σ ρ ∧ Stp G1 H1 σ ρ1 G H σ ρ ∧ immE ρ vs = true ∧ NewAt Kf G H σ ρ D0 acc ∧ Fn Kf w G1 H1 σ ρ1 (lcL (lcT g ft fe) vs (ds.drop i) acc ρ) (QN Kf H0 σ Q),
    ⟨ds.length, rfl, Nat.zero_le _, G1, ρ1, [], r1.updN gD oD, Stp.refl.updN r1 gD oD hD, im, ⟨gD, r1.updO gD oD, [], upd_same, .nil⟩, by rw [List.drop_zero]; exact h1⟩, ?_⟩
  rintro i m H ⟨rfl, hi, G, ρ, acc, r, s, im, na, h⟩
  have sH : Same G1 H := s.g.trans r.sub
  by_cases hlt : i < ds.length
  · obtain ⟨d, hd⟩ : ∃ d, ds[i]? = some d := ⟨ds[i], List.getElem?_eq_getElem hlt⟩
    have hdrop : ds.drop i = d :: ds.drop (i + 1) := by
      rw [List.drop_eq_getElem_cons hlt]
      rw [List.getElem?_eq_getElem hlt] at hd; cases hd; rfl
    rw [hdrop] at h
    refine .inr ⟨hJ.go i H hlt sH, fun H' => ∃ G ρ acc, Rel Kf G H' σ ρ ∧ Stp G1 H1 σ ρ1 G H' σ ρ ∧ immE ρ vs = true ∧ NewAt Kf G H' σ ρ D0 acc ∧ Fn Kf w G1 H1 σ ρ1 (lcL (lcT g ft fe) vs (ds.drop (i + 1)) acc ρ) (QN Kf H0 σ Q), fun H' q => ⟨_, by omega, rfl, hlt, q⟩, fun x H' hy => ?_⟩
    obtain ⟨G', r', s', hx'⟩ := hJ.yld i H x H' d hd hy G σ ρ s.g r
    have na' := na.step s'
    obtain ⟨rw_, ow_⟩ := r'.wipe (vs := vs)
    have naw : NewAt Kf G' H' (L2.wipe σ vs) (wipeE ρ vs) D0 acc := ⟨na'.g, fun z => na'.own (ow_ _ z), na'.here⟩
    have h' : Fn Kf w G1 H1 σ ρ1 (match lcT g ft fe d (wipeE ρ vs) with
      | .ok (some y) ρ3 => if acc.length < sizeLine then lcL (lcT g ft fe) vs (ds.drop (i + 1)) (acc ++ [y]) (restE ρ ρ3 vs) else .no
      | .ok none ρ3 => lcL (lcT g ft fe) vs (ds.drop (i + 1)) acc (restE ρ ρ3 vs)
      | _ => .no) (QN Kf H0 σ Q) := h
    refine ⟨G', wipeE ρ vs, d, rw_, hx', ?_⟩
    unfold lcT at h'
    cases q1 : g d (wipeE ρ vs) with
    | no => rw [q1] at h'; exact h'.elim
    | ex c ρ' => rw [q1] at h'; exact h'.elim
    | ok u ρa =>
      rw [q1] at h'
      intro G2 H2 σ2 r2 s2 w2
      have w2' : L2.wipe σ2 vs = L2.wipe σ vs := w2.trans (wipe_wipe _ _)
      refine ⟨w2', G2, ρa, r2, ?_⟩
      have h2 : Fn Kf w G1 H1 σ ρ1 (match (ft ρa).bind fun b ρ2 => if b = true then (fe ρ2).bind fun y ρ3 => R.ok (some y) ρ3 else R.ok none ρ2 with
        | .ok (some y) ρ3 => if acc.length < sizeLine then lcL (lcT g ft fe) vs (ds.drop (i + 1)) (acc ++ [y]) (restE ρ ρ3 vs) else .no
        | .ok none ρ3 => lcL (lcT g ft fe) vs (ds.drop (i + 1)) acc (restE ρ ρ3 vs)
        | _ => .no) (QN Kf H0 σ Q) := h'
      cases q2 : ft ρa with
      | no => rw [q2] at h2; exact h2.elim
      | ex c ρ' => rw [q2] at h2; exact h2.elim
      | ok b ρb =>
        rw [q2] at h2
        intro G3 H3 r3 s3
        cases b with
        | false =>
          have S := s2.trans rw_ s3
          obtain ⟨rb, sb, ib⟩ := Rel.unwipe r' im w2' r3 S
          exact iteF ⟨G3, restE ρ ρb vs, acc, rb, (s.trans r1 s').trans r1 sb, ib, na'.step sb, h2⟩
        | true =>
          refine iteT ⟨G3, ρb, r3, ?_⟩
          have h3 : Fn Kf w G1 H1 σ ρ1 (match (fe ρb).bind fun y ρ3 => R.ok (some y) ρ3 with
            | .ok (some y) ρ3 => if acc.length < sizeLine then lcL (lcT g ft fe) vs (ds.drop (i + 1)) (acc ++ [y]) (restE ρ ρ3 vs) else .no
            | .ok none ρ3 => lcL (lcT g ft fe) vs (ds.drop (i + 1)) acc (restE ρ ρ3 vs)
            | _ => .no) (QN Kf H0 σ Q) := h2
          cases q3 : fe ρb with
          | no => rw [q3] at h3; exact h3.elim
          | ex c ρ' => rw [q3] at h3; exact h3.elim
          | ok y ρc =>
            rw [q3] at h3
            intro G4 H4 r4 s4 v hv
            have h4 : Fn Kf w G1 H1 σ ρ1 (if acc.length < sizeLine then lcL (lcT g ft fe) vs (ds.drop (i + 1)) (acc ++ [y]) (restE ρ ρc vs) else .no) (QN Kf H0 σ Q) := h3
            by_cases hz : acc.length < sizeLine
            · rw [if_pos hz] at h4
              have S := s2.trans rw_ (s3.trans r2 s4)
              obtain ⟨rb, sb, ib⟩ := Rel.unwipe r' im w2' r4 S
              have nb := na'.step sb
              obtain ⟨us, hu, hds⟩ := nb.here
              have sN : Stp G1 H1 σ ρ1 G4 H4 σ (restE ρ ρc vs) := (s.trans r1 s').trans r1 sb
              exact ⟨us, hu, by rw [hds.length]; exact hz, G4, restE ρ ρc vs, acc ++ [y], rb.updN nb.g nb.own, sN.updN rb nb.g nb.own hD, ib, ⟨nb.g, rb.updO nb.g nb.own, us ++ [v], upd_same, hds.append (.cons hv .nil)⟩, h4⟩
            · rw [if_neg hz] at h4; exact h4.elim
  · have e : i = ds.length := by omega
    subst e
    refine .inl ⟨hJ.stop H sH, ?_⟩
    rw [List.drop_length] at h
    exact h G H r s D0 ⟨na.g, na.own, na.here, hH D0 hD⟩
theorem lc_imp {fi : En → R (List D)} {g : D → En → R Unit} {ft : En → R Bool} {fe : En → R D} {K : PySem.W.Frag} {σ : L2.St} {H : Hp} {Q : VK} (h : teN K w (nLc fi (lcT g ft fe) vs) σ H Q) :
    tLc (fun σ H R => ∃ G ρ, Rel K G H σ ρ ∧ Fn K w G H σ ρ (fi ρ) (fun G1 H1 _ ds => ∀ J, ItS K G1 J ds → R J H1)) (fun v σ H Q => ∃ G ρ d, Rel K G H σ ρ ∧ DR K G v d ∧ FnGC vs K G H σ ρ (g d ρ) Q) (teB K (w0 w) ft) (teD K (w0 w) fe) vs σ H Q := by
  obtain ⟨G, ρ, rel, h⟩ := h
  exact ⟨G, ρ, rel, (Fn.bind rel h).imp fun G1 H1 ρ1 ds ⟨r1, s1, h1⟩ J hJ D0 hD =>
    lc_go (fi := fi) hJ r1 (fun p hp => by cases q : H p with | none => rfl | some o => exact absurd hp (s1.tr p (by rw [q]; exact fun z => nomatch z))) h1 D0 hD⟩
theorem vn_lc {tg iter elt : Expr} {ifs : List Expr} {scope : Scope} {own : List (Str × Nat)} {fi : En → R (List D)} {g : D → En → R Unit} {ft : En → R Bool} {fe : En → R D} (hc : X.calm = true) (hN : X.N.Nodup) (hi : VI X w tg iter fi) (ok : blkC X.N X.env.scope scope own = true)
    (hg : ∀ (s : Shared) (H : Hp) (C : Addr) (cl : List (Str × Addr)) (fp : List Addr), VGc (X.blk s H scope (compEnvC scope cl C X.env) fp) (own.map (·.2)) tg g) (ht : ∀ (s : Shared) (H : Hp) (C : Addr) (cl : List (Str × Addr)) (fp : List Addr), PTs (X.blk s H scope (compEnvC scope cl C X.env) fp) ifs (teB X.K (w0 w) ft))
    (he : ∀ (s : Shared) (H : Hp) (C : Addr) (cl : List (Str × Addr)) (fp : List Addr), VE (X.blk s H scope (compEnvC scope cl C X.env) fp) (w0 w) elt fe) (hs : ∀ x, foldedSetIterable iter X.env x = pure x := by intro _; rfl) :
    VN X w (.ListComp elt [⟨tg, iter, ifs, 0⟩] scope pos) (nLc fi (lcT g ft fe) (own.map (·.2))) :=
  PE.imp (pe_lc hc hN hi (blkOk_by ok) hg ht he hs) fun σ H Q h => lc_imp h
theorem setL_fn {K : PySem.W.Frag} {G H : Hp} {σ : L2.St} {ρ : En} {fl : En → R (List D)} {i : Nat} {Z : Ends} (rel : Rel K G H σ ρ) (h : FnS K w G H σ ρ (dAsgL i fl ρ) Z) : Fn K w G H σ ρ (fl ρ) (QN K H σ fun x H1 => gName i x σ H1 Z.nx) := by
  unfold dAsgL at h
  cases q : fl ρ with
  | no => rw [q] at h; exact h
  | ex c ρ' => rw [q] at h; exact fun G' H' cls dx r1 s1 x => h G' H' σ cls dx r1 s1 x
  | ok ds ρ' =>
    rw [q] at h
    intro G1 H1 r1 s1 p n
    have h' : FnS K w G H σ ρ ((putOw i ds ρ').bind fun _ ρ2 => .ok .nx ρ2) Z := h
    unfold putOw at h'
    split at h'
    · rename_i hf
      obtain ⟨c, hc, hb, ht⟩ := free_ok hf
      exact FnS.nx (show FnS K w G H σ ρ (.ok .nx (ρ'.set i (some (.ow ds)))) Z from h') (r1.putL hc n.g n.own n.here).1 (s1.putL r1 hc hb ht n.g n.own n.here n.new)
    · exact h'.elim
def dFz (f : En → R (List D)) : En → R D := fun ρ => (f ρ).bind fun ds ρ1 => .ok (.list ds) ρ1
theorem Rel.fixN {K : PySem.W.Frag} {G0 H0 G H : Hp} {σ : L2.St} {ρ0 ρ : En} {p : Addr} {us : List V} {ds : List D} (r : Rel K G H σ ρ) (s : Stp G0 H0 σ ρ0 G H σ ρ) (hg : G p = none) (ho : ¬ Own H σ ρ p) (hu : H p = some (.lst us)) (hd : DRs K G us ds) (hp : H0 p = none) :
    Rel K (upd G p (.lst us)) H σ ρ ∧ Stp G0 H0 σ ρ0 (upd G p (.lst us)) H σ ρ ∧ DR K (upd G p (.lst us)) (.ref p) (.list ds) := by
  obtain ⟨r', sg, hv, fr⟩ := r.settle hg ho hu hd
  refine ⟨r', ⟨s.g.trans sg, s.h, fun a e => ?_, s.ow, s.tr, s.ln, s.bo, s.bt⟩, hv⟩
  rcases fr a e with z | rfl
  · exact s.fr a z
  · exact .inr (.inl hp)
theorem ve_fz {f : En → R (List D)} (h : VN X w e f) : VE X w e (dFz f) := PE.imp h fun σ H Q ⟨G, ρ, rel, h⟩ => ⟨G, ρ, rel, by
  unfold dFz at h
  cases q : f ρ with
  | no => rw [q] at h; exact h
  | ex c ρ' => rw [q] at h; exact h
  | ok ds ρ' =>
    rw [q] at h
    have h' : Fn X.K w G H σ ρ (.ok (.list ds) ρ') (QD X.K Q) := h
    intro G1 H1 r1 s1 p n
    obtain ⟨us, hu, hd⟩ := n.here
    obtain ⟨r2, s2, hv⟩ := r1.fixN s1 n.g n.own hu hd n.new
    exact h' _ _ r2 s2 _ hv⟩
/-- a new list, a datum at once -/
theorem setI_fn {K : PySem.W.Frag} {G H : Hp} {σ : L2.St} {ρ : En} {fl : En → R (List D)} {i : Nat} {Z : Ends} (rel : Rel K G H σ ρ) (h : FnS K w G H σ ρ (dAsg (putIm i) (dFz fl) ρ) Z) : Fn K w G H σ ρ (fl ρ) (QN K H σ fun x H1 => gName i x σ H1 Z.nx) := by
  unfold dAsg dFz at h
  cases q : fl ρ with
  | no => rw [q] at h; exact h
  | ex c ρ' => rw [q] at h; exact fun G' H' cls dx r1 s1 x => h G' H' σ cls dx r1 s1 x
  | ok ds ρ' =>
    rw [q] at h
    intro G1 H1 r1 s1 p n
    have h' : FnS K w G H σ ρ ((putIm i (.list ds) ρ').bind fun _ ρ2 => .ok .nx ρ2) Z := h
    unfold putIm at h'
    split at h'
    · rename_i hf
      obtain ⟨c, hc, hb, ht⟩ := free_ok hf
      have hi : i < ρ'.length := (List.getElem?_eq_some_iff.mp hc).1
      have r2 := (r1.putL hc n.g n.own n.here).1
      have s2 := s1.putL (ds := ds) r1 hc hb ht n.g n.own n.here n.new
      obtain ⟨G3, o, sv, r3, s3, _⟩ := r2.freeze (i := i) (ds := ds) (List.getElem?_set_self hi)
      have e : frz i ds (ρ'.set i (some (.ow ds))) = ρ'.set i (some (.im (.list ds))) := by unfold frz; rw [List.set_set]
      rw [e] at r3 s3
      exact FnS.nx (show FnS K w G H σ ρ (.ok .nx (ρ'.set i (some (.im (.list ds))))) Z from h') r3 (s2.trans rel s3)
    · exact h'.elim
section
variable {tg iter elt : Expr} {ifs : List Expr} {scope : Scope} {own : List (Str × Nat)} {fi : En → R (List D)} {gt : D → En → R Unit} {ft : En → R Bool} {fe : En → R D} {py spos : Pos}
/-- name = [..] on one line -/
theorem vs_setLc (i : Nat) (hc : X.calm = true) (hN : X.N.Nodup) (hsw : swapsWith (.ListComp elt [⟨tg, iter, ifs, 0⟩] scope pos) (some (.Name x py)) spos.line X.env = pure true) (hi : VI X w tg iter fi) (ok : blkC X.N X.env.scope scope own = true)
    (hg : ∀ (s : Shared) (H : Hp) (C : Addr) (cl : List (Str × Addr)) (fp : List Addr), VGc (X.blk s H scope (compEnvC scope cl C X.env) fp) (own.map (·.2)) tg gt) (ht : ∀ (s : Shared) (H : Hp) (C : Addr) (cl : List (Str × Addr)) (fp : List Addr), PTs (X.blk s H scope (compEnvC scope cl C X.env) fp) ifs (teB X.K (w0 w) ft))
    (he : ∀ (s : Shared) (H : Hp) (C : Addr) (cl : List (Str × Addr)) (fp : List Addr), VE (X.blk s H scope (compEnvC scope cl C X.env) fp) (w0 w) elt fe) (hy : X.N[i]? = some x := by rfl) (hyl : X.env.scope.names.lookup x = some .local := by rfl) (hs : ∀ x, foldedSetIterable iter X.env x = pure x := by intro _; rfl) :
    VS X w (.Assign [.Name x py] (.ListComp elt [⟨tg, iter, ifs, 0⟩] scope pos) spos) (dAsgL i (nLc fi (lcT gt ft fe) (own.map (·.2)))) :=
  PS.imp (ps_setLc hc hN hy hyl hsw hi (blkOk_by ok) hg ht he hs) fun Z σ H ⟨G, ρ, rel, h⟩ => lc_imp ⟨G, ρ, rel, setL_fn rel h⟩
theorem vs_setLi (i : Nat) (hc : X.calm = true) (hN : X.N.Nodup) (hsw : swapsWith (.ListComp elt [⟨tg, iter, ifs, 0⟩] scope pos) (some (.Name x py)) spos.line X.env = pure true) (hi : VI X w tg iter fi) (ok : blkC X.N X.env.scope scope own = true)
    (hg : ∀ (s : Shared) (H : Hp) (C : Addr) (cl : List (Str × Addr)) (fp : List Addr), VGc (X.blk s H scope (compEnvC scope cl C X.env) fp) (own.map (·.2)) tg gt) (ht : ∀ (s : Shared) (H : Hp) (C : Addr) (cl : List (Str × Addr)) (fp : List Addr), PTs (X.blk s H scope (compEnvC scope cl C X.env) fp) ifs (teB X.K (w0 w) ft))
    (he : ∀ (s : Shared) (H : Hp) (C : Addr) (cl : List (Str × Addr)) (fp : List Addr), VE (X.blk s H scope (compEnvC scope cl C X.env) fp) (w0 w) elt fe) (hy : X.N[i]? = some x := by rfl) (hyl : X.env.scope.names.lookup x = some .local := by rfl) (hs : ∀ x, foldedSetIterable iter X.env x = pure x := by intro _; rfl) :
    VS X w (.Assign [.Name x py] (.ListComp elt [⟨tg, iter, ifs, 0⟩] scope pos) spos) (dAsg (putIm i) (dFz (nLc fi (lcT gt ft fe) (own.map (·.2))))) :=
  PS.imp (ps_setLc hc hN hy hyl hsw hi (blkOk_by ok) hg ht he hs) fun Z σ H ⟨G, ρ, rel, h⟩ => lc_imp ⟨G, ρ, rel, setI_fn rel h⟩
end
/-! reckoning -/
theorem lcL_fm {t : D → En → R (Option D)} {vs : List Nat} {f : D → Option D} {ρ : En} : ∀ {ds acc : List D}, (∀ d ∈ ds, ∃ ρ3, t d (wipeE ρ vs) = .ok (f d) ρ3 ∧ restE ρ ρ3 vs = ρ) → acc.length + ds.length ≤ sizeLine → lcL t vs ds acc ρ = .ok (acc ++ ds.filterMap f) ρ
  | [], acc, _, _ => by rw [lcL, List.filterMap_nil, List.append_nil]
  | d :: ds, acc, h, hl => by
    obtain ⟨ρ3, e1, e2⟩ := h d List.mem_cons_self
    rw [lcL, e1]
    have hl' : acc.length + (ds.length + 1) ≤ sizeLine := hl
    cases q : f d with
    | none =>
      show lcL t vs ds acc (restE ρ ρ3 vs) = _
      rw [e2, lcL_fm (fun d hd => h d (List.mem_cons_of_mem _ hd)) (by omega), List.filterMap_cons, q]
    | some y =>
      show (if acc.length < sizeLine then lcL t vs ds (acc ++ [y]) (restE ρ ρ3 vs) else .no) = _
      rw [if_pos (by omega), e2, lcL_fm (fun d hd => h d (List.mem_cons_of_mem _ hd)) (by rw [List.length_append]; simp; omega), List.filterMap_cons, q]
      simp
theorem lcL_map {t : D → En → R (Option D)} {vs : List Nat} {f : D → D} {ρ : En} {ds : List D} (h : ∀ d ∈ ds, ∃ ρ3, t d (wipeE ρ vs) = .ok (some (f d)) ρ3 ∧ restE ρ ρ3 vs = ρ) (hl : ds.length ≤ sizeLine) : lcL t vs ds [] ρ = .ok (ds.map f) ρ := by
  rw [lcL_fm (f := fun d => some (f d)) h (by simpa using hl), List.nil_append, List.filterMap_eq_map']
@[simp] theorem nLc_eq (fi : En → R (List D)) (t : D → En → R (Option D)) (vs : List Nat) (ρ : En) : nLc fi t vs ρ = (fi ρ).bind fun ds ρ1 => if immE ρ1 vs = true then lcL t vs ds [] ρ1 else .no := rfl
@[simp] theorem dFz_eq (f : En → R (List D)) (ρ : En) : dFz f ρ = (f ρ).bind fun ds ρ1 => .ok (.list ds) ρ1 := rfl
@[simp] theorem lcT_eq (g : D → En → R Unit) (ft : En → R Bool) (fe : En → R D) (d : D) (ρ : En) : lcT g ft fe d ρ = (g d ρ).bind fun _ ρ1 => (ft ρ1).bind fun b ρ2 => if b = true then (fe ρ2).bind fun y ρ3 => .ok (some y) ρ3 else .ok none ρ2 := rfl
@[simp] theorem tT_eq (ρ : En) : tT ρ = .ok true ρ := rfl
end
end Dn
namespace Dn
open PySem PySem.Spec PyProof.Rows L2
/-! ### calls over lists -/
def asInt : D → Option Int
  | .int i => some i
  | _ => none
def asBool : D → Option Bool
  | .bool i => some i
  | _ => none
def asStr : D → Option Str
  | .str i => some i
  | _ => none
def allOf {α : Type} (f : D → Option α) : List D → Option (List α)
  | [] => some []
  | d :: r => (f d).bind fun a => (allOf f r).map (a :: ·)
theorem allOf_eq {α : Type} {f : D → Option α} {g : α → D} (hg : ∀ d a, f d = some a → d = g a) : ∀ {ds : List D} {ns : List α}, allOf f ds = some ns → ds = ns.map g
  | [], ns, h => by cases h; rfl
  | d :: ds, ns, h => by
    simp only [allOf, Option.bind_eq_some_iff, Option.map_eq_some_iff] at h
    obtain ⟨a, h1, r, h2, rfl⟩ := h
    rw [hg d a h1, allOf_eq hg h2]; rfl
theorem allOf_map {α : Type} {f : D → Option α} {g : α → D} (hg : ∀ a, f (g a) = some a) : ∀ l : List α, allOf f (l.map g) = some l
  | [] => rfl
  | a :: l => by rw [List.map_cons, allOf, hg, allOf_map hg l]; rfl
theorem mapM_ints {ds : List D} {ns : List Int} (h : allOf asInt ds = some ns) : ds = ns.map .int := allOf_eq (fun d a e => by cases d <;> cases e; rfl) h
theorem mapM_bools {ds : List D} {ns : List Bool} (h : allOf asBool ds = some ns) : ds = ns.map .bool := allOf_eq (fun d a e => by cases d <;> cases e; rfl) h
theorem mapM_strs {ds : List D} {ns : List Str} (h : allOf asStr ds = some ns) : ds = ns.map .str := allOf_eq (fun d a e => by cases d <;> cases e; rfl) h
@[simp] theorem ints_map (l : List Int) : allOf asInt (l.map PyData.int) = some l := allOf_map (g := PyData.int) (fun _ => rfl) l
@[simp] theorem ints_map' {α : Type} (f : α → Int) (l : List α) : allOf asInt (l.map fun x => PyData.int (f x)) = some (l.map f) := by
  have : (l.map fun x => PyData.int (f x)) = (l.map f).map PyData.int := by rw [List.map_map]; rfl
  rw [this, ints_map]
@[simp] theorem bools_map (l : List Bool) : allOf asBool (l.map PyData.bool) = some l := allOf_map (g := PyData.bool) (fun _ => rfl) l
@[simp] theorem bools_map' {α : Type} (f : α → Bool) (l : List α) : allOf asBool (l.map fun x => PyData.bool (f x)) = some (l.map f) := by
  have : (l.map fun x => PyData.bool (f x)) = (l.map f).map PyData.bool := by rw [List.map_map]; rfl
  rw [this, bools_map]
@[simp] theorem strs_map (l : List Str) : allOf asStr (l.map PyData.str) = some l := allOf_map (g := PyData.str) (fun _ => rfl) l
@[simp] theorem strs_map' {α : Type} (f : α → Str) (l : List α) : allOf asStr (l.map fun x => PyData.str (f x)) = some (l.map f) := by
  have : (l.map fun x => PyData.str (f x)) = (l.map f).map PyData.str := by rw [List.map_map]; rfl
  rw [this, strs_map]
@[simp] theorem ints_comp {α : Type} (f : α → Int) (l : List α) : allOf asInt (l.map (PyData.int ∘ f)) = some (l.map f) := ints_map' f l
@[simp] theorem bools_comp {α : Type} (f : α → Bool) (l : List α) : allOf asBool (l.map (PyData.bool ∘ f)) = some (l.map f) := bools_map' f l
@[simp] theorem strs_comp {α : Type} (f : α → Str) (l : List α) : allOf asStr (l.map (PyData.str ∘ f)) = some (l.map f) := strs_map' f l
def gSum : List D → Option D
  | [.list ds] => (allOf asInt ds).map fun ns => .int ns.sum
  | _ => none
def gMaxL : List D → Option D
  | [.list ds] => (allOf asInt ds).bind fun ns => ns.max?.map .int
  | _ => none
def gMinL : List D → Option D
  | [.list ds] => (allOf asInt ds).bind fun ns => ns.min?.map .int
  | _ => none
def gAll : List D → Option D
  | [.list ds] => (allOf asBool ds).map fun bs => .bool (bs.all id)
  | _ => none
def gAny : List D → Option D
  | [.list ds] => (allOf asBool ds).map fun bs => .bool (bs.any id)
  | _ => none
def gList : List D → Option D
  | [.list ds] => some (.list ds)
  | [.tuple ds] => some (.list ds)
  | _ => none
def gTuple : List D → Option D
  | [.list ds] => some (.tuple ds)
  | [.tuple ds] => some (.tuple ds)
  | _ => none
section
variable {K : PySem.W.Frag}
theorem DR.lst' {G : Hp} {v : V} {ds : List D} (h : DR K G v (.list ds)) : ∃ a vs, v = .ref a ∧ SqL K G a vs ∧ DRs K G vs ds := by
  cases h with
  | lst h hs => exact ⟨_, _, rfl, h, hs⟩
theorem DR.tup' {G : Hp} {v : V} {ds : List D} (h : DR K G v (.tuple ds)) : ∃ a vs, v = .ref a ∧ SqT K G a vs ∧ DRs K G vs ds := by
  cases h with
  | tup h hs => exact ⟨_, _, rfl, h, hs⟩
theorem one_of {α : Type} {g : List D → Option α} {ds : List D} {d : α} (h : ∀ a b t, g (a :: b :: t) = none) (h0 : g [] = none) (e : g ds = some d) : ∃ x, ds = [x] := by
  rcases ds with _ | ⟨x, _ | ⟨y, t⟩⟩
  · rw [h0] at e; cases e
  · exact ⟨x, rfl⟩
  · rw [h] at e; cases e
theorem cs_sum : CallS K (rSum K) gSum := cs1 (fun ds d e => one_of (fun a b t => by cases a <;> rfl) rfl e) fun v x d G H σ ρ Q rel h e q => by
  cases x with
  | list ds =>
    simp only [gSum, Option.map_eq_some_iff] at e
    obtain ⟨ns, e, rfl⟩ := e
    obtain ⟨a, vs, rfl, h, hs⟩ := h.lst'
    rw [mapM_ints e] at hs
    rw [hs.ints] at h
    exact ⟨a, ns, rfl, rel.sub.seq h, q _ (.int _)⟩
  | _ => cases e
theorem cs_maxL : CallS K (rMax K) gMaxL := cs1 (fun ds d e => one_of (fun a b t => by cases a <;> rfl) rfl e) fun v x d G H σ ρ Q rel h e q => by
  cases x with
  | list ds =>
    simp only [gMaxL, Option.bind_eq_some_iff, Option.map_eq_some_iff] at e
    obtain ⟨ns, e, m, hm, rfl⟩ := e
    obtain ⟨a, vs, rfl, h, hs⟩ := h.lst'
    rw [mapM_ints e] at hs
    rw [hs.ints] at h
    have hne : ns ≠ [] := by intro z; subst z; cases hm
    refine ⟨a, ns, rfl, rel.sub.seq h, List.length_pos_iff.mpr hne, fun k hk hle => ?_⟩
    have : k = m := by
      rw [List.max?_eq_some_iff] at hm
      have h1 := hle m hm.1
      have h2 := hm.2 k hk
      omega
    subst this
    exact q _ (.int _)
  | _ => cases e
theorem cs_minL : CallS K (rMin K) gMinL := cs1 (fun ds d e => one_of (fun a b t => by cases a <;> rfl) rfl e) fun v x d G H σ ρ Q rel h e q => by
  cases x with
  | list ds =>
    simp only [gMinL, Option.bind_eq_some_iff, Option.map_eq_some_iff] at e
    obtain ⟨ns, e, m, hm, rfl⟩ := e
    obtain ⟨a, vs, rfl, h, hs⟩ := h.lst'
    rw [mapM_ints e] at hs
    rw [hs.ints] at h
    have hne : ns ≠ [] := by intro z; subst z; cases hm
    refine ⟨a, ns, rfl, rel.sub.seq h, List.length_pos_iff.mpr hne, fun k hk hle => ?_⟩
    have : k = m := by
      rw [List.min?_eq_some_iff] at hm
      have h1 := hle m hm.1
      have h2 := hm.2 k hk
      omega
    subst this
    exact q _ (.int _)
  | _ => cases e
theorem cs_all : CallS K (rAll K) gAll := cs1 (fun ds d e => one_of (fun a b t => by cases a <;> rfl) rfl e) fun v x d G H σ ρ Q rel h e q => by
  cases x with
  | list ds =>
    simp only [gAll, Option.map_eq_some_iff] at e
    obtain ⟨ns, e, rfl⟩ := e
    obtain ⟨a, vs, rfl, h, hs⟩ := h.lst'
    rw [mapM_bools e] at hs
    rw [hs.bools] at h
    exact ⟨a, ns, rfl, rel.sub.seq h, q _ (.bl _)⟩
  | _ => cases e
theorem cs_any : CallS K (rAny K) gAny := cs1 (fun ds d e => one_of (fun a b t => by cases a <;> rfl) rfl e) fun v x d G H σ ρ Q rel h e q => by
  cases x with
  | list ds =>
    simp only [gAny, Option.map_eq_some_iff] at e
    obtain ⟨ns, e, rfl⟩ := e
    obtain ⟨a, vs, rfl, h, hs⟩ := h.lst'
    rw [mapM_bools e] at hs
    rw [hs.bools] at h
    exact ⟨a, ns, rfl, rel.sub.seq h, q _ (.bl _)⟩
  | _ => cases e
abbrev rListOf (K : PySem.W.Frag) : List V → Hp → VK → Prop := fun xs H Q => ∃ p ys, xs = [.ref p] ∧ (SqL K H p ys ∨ SqT K H p ys) ∧ ∀ l, H l = none → Q (.ref l) (upd H l (.lst ys))
theorem cs_list : CallS K (rListOf K) gList := fun vs ds d G H σ ρ Q rel h e q => by
  obtain ⟨x, rfl⟩ := one_of (fun a b t => by cases a <;> rfl) rfl e
  cases h with
  | cons h t =>
    cases t
    cases x with
    | list ds =>
      cases e
      obtain ⟨a, vs, rfl, h, hs⟩ := h.lst'
      exact ⟨a, vs, rfl, .inl (rel.sub.seq h), hand_new rel q (DR.newL rel hs)⟩
    | tuple ds =>
      cases e
      obtain ⟨a, vs, rfl, h, hs⟩ := h.tup'
      exact ⟨a, vs, rfl, .inr (Same.tup rel.sub h), hand_new rel q (DR.newL rel hs)⟩
    | _ => cases e
abbrev rTupleOf (K : PySem.W.Frag) : List V → Hp → VK → Prop := fun xs H Q => ∃ p ys, xs = [.ref p] ∧ ((SqL K H p ys ∧ ∀ l, H l = none → Q (.ref l) (upd H l (.tup ys))) ∨ (SqT K H p ys ∧ Q (.ref p) H))
theorem cs_tuple : CallS K (rTupleOf K) gTuple := fun vs ds d G H σ ρ Q rel h e q => by
  obtain ⟨x, rfl⟩ := one_of (fun a b t => by cases a <;> rfl) rfl e
  cases h with
  | cons h t =>
    cases t
    cases x with
    | list ds =>
      cases e
      obtain ⟨a, vs, rfl, h, hs⟩ := h.lst'
      exact ⟨a, vs, rfl, .inl ⟨rel.sub.seq h, hand_new rel q (DR.newT rel hs)⟩⟩
    | tuple ds =>
      cases e
      obtain ⟨a, vs, rfl, h, hs⟩ := h.tup'
      exact ⟨a, vs, rfl, .inr ⟨Same.tup rel.sub h, q _ _ rel Stp.refl _ (.tup h hs)⟩⟩
    | _ => cases e
end
/-! list(..) as a new list of one's own -/
def asL : D → Option (List D)
  | .list ds => some ds
  | .tuple ds => some ds
  | _ => none
def nList (f : En → R D) : En → R (List D) := fun ρ => (f ρ).bind fun d ρ1 => lift (asL d) ρ1
section
variable {X : Cx} {w : Wh} {p pos : Pos} {e o : Expr} {fe fo : En → R D}
theorem vn_list (hg : Gl X "list") (hm : X.mg "list" = none) (ha : VE X w e fe) (he : starEach [e] X.env = (false, eval e X.env) :: starEach [] X.env := by rfl) (hpl : (backTo pos (starEach [] X.env)).any (·.1) = false := by rfl) : VN X w (.Call (.Name "list" p) [e] [] pos) (nList fe) :=
  PE.imp (pe_callTy call_list_of hg hm boot_ty_list (pa_cons ha pa_nil he) (by decide) (by decide) he hpl) fun σ H Q ⟨G, ρ, rel, h⟩ => ⟨G, ρ, rel, (Fn.bind rel h).imp fun G1 H1 ρ1 d ⟨r1, s1, h1⟩ v hv => by
    obtain ⟨ds, e, q⟩ := Fn.lift h1
    have fin : ∀ us, DRs X.K G1 us ds → ∀ l, H1 l = none → Q (.ref l) (upd H1 l (.lst us)) := fun us hd l hl => by
      obtain ⟨r2, s2⟩ := r1.laidM (o := .lst us) hl
      exact q _ _ r2 s2 l (NewL.of rel r1 s1 hl hd)
    cases d with
    | list ds' =>
      cases e
      obtain ⟨a, vs, rfl, h, hs⟩ := hv.lst'
      exact ⟨a, vs, rfl, .inl (r1.sub.seq h), fin _ hs⟩
    | tuple ds' =>
      cases e
      obtain ⟨a, vs, rfl, h, hs⟩ := hv.tup'
      exact ⟨a, vs, rfl, .inr (Same.tup r1.sub h), fin _ hs⟩
    | _ => cases e⟩
/-! ### a text's methods -/
def MS0 (K : PySem.W.Frag) (r : V → List V → Hp → VK → Prop) (g : Str → Option D) : Prop :=
  ∀ (a : Str) (d : D) (G H : Hp) (σ : L2.St) (ρ : En) (Q : VK), Rel K G H σ ρ → g a = some d → (∀ G' H', Rel K G' H' σ ρ → Stp G H σ ρ G' H' σ ρ → ∀ v, DR K G' v d → Q v H') → r (.str a) [] H Q
def MS1 (K : PySem.W.Frag) (r : V → List V → Hp → VK → Prop) (g : Str → D → Option D) : Prop :=
  ∀ (a : Str) (v : V) (y d : D) (G H : Hp) (σ : L2.St) (ρ : En) (Q : VK), Rel K G H σ ρ → DR K G v y → g a y = some d → (∀ G' H', Rel K G' H' σ ρ → Stp G H σ ρ G' H' σ ρ → ∀ v, DR K G' v d → Q v H') → r (.str a) [v] H Q
def dM0 (g : Str → Option D) (fo : En → R D) : En → R D := fun ρ => (fo ρ).bind fun x ρ1 => (lift (asStr x) ρ1).bind fun a ρ2 => lift (g a) ρ2
def dM1 (g : Str → D → Option D) (fo fe : En → R D) : En → R D := fun ρ => (fo ρ).bind fun x ρ1 => (lift (asStr x) ρ1).bind fun a ρ2 => (fe ρ2).bind fun y ρ3 => lift (g a y) ρ3
theorem DR.str' {K : PySem.W.Frag} {G : Hp} {v : V} {d : D} {a : Str} (h : DR K G v d) (e : asStr d = some a) : v = .str a := by
  cases h with
  | str x => cases e; rfl
  | _ => cases e
theorem ve_m0 {id : String} {name : Str} {apos : Pos} {r : V → List V → Hp → VK → Prop} {g : Str → Option D} (slot : Slot "str" name id) (ty : typeOf (.builtin id) = pure (.type "method_descriptor")) (rule : MtR X id r) (sp : MS0 X.K r g) (ho : VE X w o fo)
    (hbase : attributeBase o name X.env (eval o X.env) = eval o X.env := by rfl) (hline : (apos.endLine == pos.line) = true := by rfl) : VE X w (.Call (.Attribute o name apos) [] [] pos) (dM0 g fo) :=
  PE.imp (pe_m0 slot ty rule ho hbase hline) fun σ H Q ⟨G, ρ, rel, h⟩ => ⟨G, ρ, rel, (Fn.bind rel h).imp fun G1 H1 ρ1 x ⟨r1, s1, h1⟩ v hv => by
    obtain ⟨a, e1, h3⟩ : ∃ a, asStr x = some a ∧ Fn X.K w G1 H1 σ ρ1 (lift (g a) ρ1) (QD X.K Q) := by
      cases q : asStr x with
      | none => rw [q] at h1; exact h1.elim
      | some a => rw [q] at h1; exact ⟨a, rfl, h1⟩

    have := hv.str' e1
    subst this
    obtain ⟨d, e, q⟩ := Fn.lift h3
    exact ⟨⟨_, rfl⟩, sp _ d G1 H1 σ ρ1 Q r1 e q⟩⟩
theorem ve_m1 {id : String} {name : Str} {apos : Pos} {r : V → List V → Hp → VK → Prop} {g : Str → D → Option D} (slot : Slot "str" name id) (ty : typeOf (.builtin id) = pure (.type "method_descriptor")) (rule : MtR X id r) (sp : MS1 X.K r g) (ho : VE X w o fo) (he : VE X w e fe)
    (hs : starEach [e] X.env = [(false, eval e X.env)] := by rfl) (hbase : attributeBase o name X.env (eval o X.env) = eval o X.env := by rfl) (hline : (apos.endLine == pos.line) = true := by rfl) : VE X w (.Call (.Attribute o name apos) [e] [] pos) (dM1 g fo fe) :=
  PE.imp (pe_m1 slot ty rule ho he hs hbase hline) fun σ H Q ⟨G, ρ, rel, h⟩ => ⟨G, ρ, rel, (Fn.bind rel h).imp fun G1 H1 ρ1 x ⟨r1, s1, h1⟩ v hv => by
    obtain ⟨a, e1, h2⟩ : ∃ a, asStr x = some a ∧ Fn X.K w G1 H1 σ ρ1 ((fe ρ1).bind fun y ρ3 => lift (g a y) ρ3) (QD X.K Q) := by
      cases q : asStr x with
      | none => rw [q] at h1; exact h1.elim
      | some a => rw [q] at h1; exact ⟨a, rfl, h1⟩
    have := hv.str' e1
    subst this
    refine ⟨⟨_, rfl⟩, G1, ρ1, r1, (Fn.bind r1 h2).imp fun G2 H2 ρ2 y ⟨r2, s2, h3⟩ u hu => ?_⟩
    obtain ⟨d, e, q⟩ := Fn.lift h3
    exact sp a u y d G2 H2 σ ρ2 Q r2 hu e q⟩
end
section
variable {K : PySem.W.Frag}
theorem newStrs {G H : Hp} {σ : L2.St} {ρ : En} {Q : VK} {ys : List Str} (rel : Rel K G H σ ρ) (q : ∀ G' H', Rel K G' H' σ ρ → Stp G H σ ρ G' H' σ ρ → ∀ v, DR K G' v (.list (ys.map .str)) → Q v H') : rNewStrs ys H Q := hand_new rel q (DR.newL rel (DRs.ofStrs ys))
def gPart (a : Str) : D → Option D
  | .str b => if (b.length == 0) = false ∧ a.length ≤ sizeLine then some (.tuple [.str (Txt.partition a b).1, .str (Txt.partition a b).2.1, .str (Txt.partition a b).2.2]) else none
  | _ => none
theorem ms_part : MS1 K (fun x xs H Q => ∃ a b, x = .str a ∧ xs = [.str b] ∧ (b.length == 0) = false ∧ a.length ≤ sizeLine ∧
    ∀ p, H p = none → Q (.ref p) (upd H p (.tup [.str (Txt.partition a b).1, .str (Txt.partition a b).2.1, .str (Txt.partition a b).2.2]))) gPart := fun a v y d G H σ ρ Q rel hv e q => by
  cases hv with
  | str b =>
    simp only [gPart] at e
    split at e
    · rename_i h; cases e
      exact ⟨a, b, rfl, rfl, h.1, h.2, hand_new rel q (DR.newT rel (.cons (.str _) (.cons (.str _) (.cons (.str _) .nil))))⟩
    · cases e
  | _ => cases e
def gJoinL (a : Str) (ds : List D) : Option D := (allOf asStr ds).bind fun ys => if (ys.map (·.length)).sum + ys.length * a.length ≤ 16777216 then some (.str (Txt.join a ys)) else none
def gJoin (a : Str) : D → Option D
  | .list ds => gJoinL a ds
  | .tuple ds => gJoinL a ds
  | _ => none
theorem gJoinL_ok {a : Str} {ds : List D} {d : D} (e : gJoinL a ds = some d) : ∃ ys : List Str, ds = ys.map .str ∧ (ys.map (·.length)).sum + ys.length * a.length ≤ 16777216 ∧ d = .str (Txt.join a ys) := by
  simp only [gJoinL, Option.bind_eq_some_iff] at e
  obtain ⟨ys, e1, e⟩ := e
  split at e
  · cases e; exact ⟨ys, mapM_strs e1, ‹_›, rfl⟩
  · cases e
theorem ms_join : MS1 K (fun x xs H Q => ∃ a p, ∃ ys : List Str, x = .str a ∧ xs = [.ref p] ∧ (SqL K H p (ys.map V.str) ∨ SqT K H p (ys.map V.str)) ∧
    (ys.map (·.length)).sum + ys.length * a.length ≤ 16777216 ∧ Q (.str (Txt.join a ys)) H) gJoin := fun a v y d G H σ ρ Q rel hv e q => by
  cases y with
  | list ds =>
    obtain ⟨ys, rfl, hz, rfl⟩ := gJoinL_ok e
    obtain ⟨p, vs, rfl, h, hs⟩ := hv.lst'
    rw [hs.strs] at h
    exact ⟨a, p, ys, rfl, rfl, .inl (rel.sub.seq h), hz, q _ _ rel Stp.refl _ (.str _)⟩
  | tuple ds =>
    obtain ⟨ys, rfl, hz, rfl⟩ := gJoinL_ok e
    obtain ⟨p, vs, rfl, h, hs⟩ := hv.tup'
    rw [hs.strs] at h
    exact ⟨a, p, ys, rfl, rfl, .inr (Same.tup rel.sub h), hz, q _ _ rel Stp.refl _ (.str _)⟩
  | _ => cases e
def gZfill (a : Str) : D → Option D
  | .int i => if PadOk i = true then some (.str (Txt.zfill a i)) else none
  | _ => none
theorem ms_zfill : MS1 K (fun x xs H Q => ∃ (a : Str) (i : Int), x = .str a ∧ xs = [.int i] ∧ PadOk i = true ∧ Q (.str (Txt.zfill a i)) H) gZfill := fun a v y d G H σ ρ Q rel hv e q => by
  cases hv with
  | int i =>
    simp only [gZfill] at e
    split at e
    · cases e; exact ⟨a, i, rfl, rfl, ‹_›, q _ _ rel Stp.refl _ (.str _)⟩
    · cases e
  | _ => cases e
def gSplit (a : Str) : D → Option D
  | .str b => if (b.length == 0) = false ∧ a.length + 2 ≤ sizeLine then some (.list ((Txt.split a b).map .str)) else none
  | _ => none
theorem ms_split : MS1 K (fun x xs H Q => ∃ a b, x = .str a ∧ xs = [.str b] ∧ (b.length == 0) = false ∧ a.length + 2 ≤ sizeLine ∧ rNewStrs (Txt.split a b) H Q) gSplit := fun a v y d G H σ ρ Q rel hv e q => by
  cases hv with
  | str b =>
    simp only [gSplit] at e
    split at e
    · rename_i h; cases e
      exact ⟨a, b, rfl, rfl, h.1, h.2, newStrs rel q⟩
    · cases e
  | _ => cases e
def gCountS (a : Str) : D → Option D
  | .str b => some (.int (Txt.count a b))
  | _ => none
theorem ms_count : MS1 K (fun x xs H Q => ∃ a b, x = .str a ∧ xs = [.str b] ∧ Q (.int (Txt.count a b)) H) gCountS := fun a v y d G H σ ρ Q rel hv e q => by
  cases hv with
  | str b => cases e; exact ⟨a, b, rfl, rfl, q _ _ rel Stp.refl _ (.int _)⟩
  | _ => cases e
def gStarts (a : Str) : D → Option D
  | .str b => some (.bool (Txt.startswith a b))
  | _ => none
theorem ms_starts : MS1 K (fun x xs H Q => ∃ a b, x = .str a ∧ xs = [.str b] ∧ Q (.bl (Txt.startswith a b)) H) gStarts := fun a v y d G H σ ρ Q rel hv e q => by
  cases hv with
  | str b => cases e; exact ⟨a, b, rfl, rfl, q _ _ rel Stp.refl _ (.bl _)⟩
  | _ => cases e
def gUpper (a : Str) : Option D := if a.length ≤ 5592405 then some (.str (Txt.upper a)) else none
theorem ms_upper : MS0 K (fun x xs H Q => ∃ a, x = .str a ∧ xs = [] ∧ a.length ≤ 5592405 ∧ Q (.str (Txt.upper a)) H) gUpper := fun a d G H σ ρ Q rel e q => by
  simp only [gUpper] at e
  split at e
  · cases e; exact ⟨a, rfl, rfl, ‹_›, q _ _ rel Stp.refl _ (.str _)⟩
  · cases e
end
@[simp] theorem dM0_eq (g : Str → Option D) (fo : En → R D) (ρ : En) : dM0 g fo ρ = (fo ρ).bind fun x ρ1 => (lift (asStr x) ρ1).bind fun a ρ2 => lift (g a) ρ2 := rfl
@[simp] theorem dM1_eq (g : Str → D → Option D) (fo fe : En → R D) (ρ : En) : dM1 g fo fe ρ = (fo ρ).bind fun x ρ1 => (lift (asStr x) ρ1).bind fun a ρ2 => (fe ρ2).bind fun y ρ3 => lift (g a y) ρ3 := rfl
@[simp] theorem asStr_str (a : Str) : asStr (.str a) = some a := rfl
@[simp] theorem nList_eq (f : En → R D) (ρ : En) : nList f ρ = (f ρ).bind fun d ρ1 => lift (asL d) ρ1 := rfl
@[simp] theorem asL_list (ds : List D) : asL (.list ds) = some ds := rfl
@[simp] theorem asL_tuple (ds : List D) : asL (.tuple ds) = some ds := rfl
@[simp] theorem gSum_list (ds : List D) : gSum [.list ds] = (allOf asInt ds).map fun ns => .int ns.sum := rfl
@[simp] theorem gMaxL_list (ds : List D) : gMaxL [.list ds] = (allOf asInt ds).bind fun ns => ns.max?.map .int := rfl
@[simp] theorem gMinL_list (ds : List D) : gMinL [.list ds] = (allOf asInt ds).bind fun ns => ns.min?.map .int := rfl
@[simp] theorem gAll_list (ds : List D) : gAll [.list ds] = (allOf asBool ds).map fun bs => .bool (bs.all id) := rfl
@[simp] theorem gAny_list (ds : List D) : gAny [.list ds] = (allOf asBool ds).map fun bs => .bool (bs.any id) := rfl
@[simp] theorem gList_list (ds : List D) : gList [.list ds] = some (.list ds) := rfl
@[simp] theorem gList_tuple (ds : List D) : gList [.tuple ds] = some (.list ds) := rfl
@[simp] theorem gTuple_list (ds : List D) : gTuple [.list ds] = some (.tuple ds) := rfl
@[simp] theorem gTuple_tuple (ds : List D) : gTuple [.tuple ds] = some (.tuple ds) := rfl
end Dn
namespace Dn
open PySem PySem.Spec PyProof.Rows L2
section
variable {X : Cx} {w : Wh} {x : Str} {pos py spos : Pos} {k : Nat} {tg iter elt : Expr} {ifs : List Expr} {scope : Scope} {own : List (Str × Nat)} {fi : En → R (List D)} {gt : D → En → R Unit} {ft : En → R Bool} {fe : En → R D}
theorem Gd.blk (g : Gd X w k) {s : Shared} {H : Hp} {C : Addr} {cl : List (Str × Addr)} {fp : List Addr} : Gd (X.blk s H scope (compEnvC scope cl C X.env) fp) (w0 w) k :=
  ⟨g.calm, fun u s' x => by obtain ⟨a, B, sI, pins, σ, H, cls, d, e, I, nb, up, sky, na, os, ag, w⟩ := x; exact w.elim, PassesOwn.never, g.hr⟩
theorem vn_lcG (own : List (Str × Nat)) (g : Gd X w k) (hN : X.N.Nodup) (hi : VI X w tg iter fi) (ok : blkC X.N X.env.scope scope own = true)
    (hg : ∀ (s : Shared) (H : Hp) (C : Addr) (cl : List (Str × Addr)) (fp : List Addr), Gd (X.blk s H scope (compEnvC scope cl C X.env) fp) (w0 w) k → VGc (X.blk s H scope (compEnvC scope cl C X.env) fp) (own.map (·.2)) tg gt)
    (ht : ∀ (s : Shared) (H : Hp) (C : Addr) (cl : List (Str × Addr)) (fp : List Addr), Gd (X.blk s H scope (compEnvC scope cl C X.env) fp) (w0 w) k → PTs (X.blk s H scope (compEnvC scope cl C X.env) fp) ifs (teB X.K (w0 w) ft))
    (he : ∀ (s : Shared) (H : Hp) (C : Addr) (cl : List (Str × Addr)) (fp : List Addr), Gd (X.blk s H scope (compEnvC scope cl C X.env) fp) (w0 w) k → VE (X.blk s H scope (compEnvC scope cl C X.env) fp) (w0 w) elt fe) (hs : ∀ x, foldedSetIterable iter X.env x = pure x := by intro _; rfl) :
    VN X w (.ListComp elt [⟨tg, iter, ifs, 0⟩] scope pos) (nLc fi (lcT gt ft fe) (own.map (·.2))) :=
  vn_lc g.calm hN hi ok (fun s H C cl fp => hg s H C cl fp g.blk) (fun s H C cl fp => ht s H C cl fp g.blk) (fun s H C cl fp => he s H C cl fp g.blk) hs
theorem vs_setLcG (i : Nat) (own : List (Str × Nat)) (g : Gd X w k) (hN : X.N.Nodup) (hi : VI X w tg iter fi) (ok : blkC X.N X.env.scope scope own = true)
    (hg : ∀ (s : Shared) (H : Hp) (C : Addr) (cl : List (Str × Addr)) (fp : List Addr), Gd (X.blk s H scope (compEnvC scope cl C X.env) fp) (w0 w) k → VGc (X.blk s H scope (compEnvC scope cl C X.env) fp) (own.map (·.2)) tg gt)
    (ht : ∀ (s : Shared) (H : Hp) (C : Addr) (cl : List (Str × Addr)) (fp : List Addr), Gd (X.blk s H scope (compEnvC scope cl C X.env) fp) (w0 w) k → PTs (X.blk s H scope (compEnvC scope cl C X.env) fp) ifs (teB X.K (w0 w) ft))
    (he : ∀ (s : Shared) (H : Hp) (C : Addr) (cl : List (Str × Addr)) (fp : List Addr), Gd (X.blk s H scope (compEnvC scope cl C X.env) fp) (w0 w) k → VE (X.blk s H scope (compEnvC scope cl C X.env) fp) (w0 w) elt fe)
    (hsw : swapsWith (.ListComp elt [⟨tg, iter, ifs, 0⟩] scope pos) (some (.Name x py)) spos.line X.env = pure true := by exact sw_true (by rfl) (by rfl) (by rfl) (by rfl))
    (hy : X.N[i]? = some x := by rfl) (hyl : X.env.scope.names.lookup x = some .local := by rfl) (hs : ∀ x, foldedSetIterable iter X.env x = pure x := by intro _; rfl) :
    VS X w (.Assign [.Name x py] (.ListComp elt [⟨tg, iter, ifs, 0⟩] scope pos) spos) (dAsgL i (nLc fi (lcT gt ft fe) (own.map (·.2)))) :=
  vs_setLc i g.calm hN hsw hi ok (fun s H C cl fp => hg s H C cl fp g.blk) (fun s H C cl fp => ht s H C cl fp g.blk) (fun s H C cl fp => he s H C cl fp g.blk) hy hyl hs
theorem vs_setLiG (i : Nat) (own : List (Str × Nat)) (g : Gd X w k) (hN : X.N.Nodup) (hi : VI X w tg iter fi) (ok : blkC X.N X.env.scope scope own = true)
    (hg : ∀ (s : Shared) (H : Hp) (C : Addr) (cl : List (Str × Addr)) (fp : List Addr), Gd (X.blk s H scope (compEnvC scope cl C X.env) fp) (w0 w) k → VGc (X.blk s H scope (compEnvC scope cl C X.env) fp) (own.map (·.2)) tg gt)
    (ht : ∀ (s : Shared) (H : Hp) (C : Addr) (cl : List (Str × Addr)) (fp : List Addr), Gd (X.blk s H scope (compEnvC scope cl C X.env) fp) (w0 w) k → PTs (X.blk s H scope (compEnvC scope cl C X.env) fp) ifs (teB X.K (w0 w) ft))
    (he : ∀ (s : Shared) (H : Hp) (C : Addr) (cl : List (Str × Addr)) (fp : List Addr), Gd (X.blk s H scope (compEnvC scope cl C X.env) fp) (w0 w) k → VE (X.blk s H scope (compEnvC scope cl C X.env) fp) (w0 w) elt fe)
    (hsw : swapsWith (.ListComp elt [⟨tg, iter, ifs, 0⟩] scope pos) (some (.Name x py)) spos.line X.env = pure true := by exact sw_true (by rfl) (by rfl) (by rfl) (by rfl))
    (hy : X.N[i]? = some x := by rfl) (hyl : X.env.scope.names.lookup x = some .local := by rfl) (hs : ∀ x, foldedSetIterable iter X.env x = pure x := by intro _; rfl) :
    VS X w (.Assign [.Name x py] (.ListComp elt [⟨tg, iter, ifs, 0⟩] scope pos) spos) (dAsg (putIm i) (dFz (nLc fi (lcT gt ft fe) (own.map (·.2))))) :=
  vs_setLi i g.calm hN hsw hi ok (fun s H C cl fp => hg s H C cl fp g.blk) (fun s H C cl fp => ht s H C cl fp g.blk) (fun s H C cl fp => he s H C cl fp g.blk) hy hyl hs
end
end Dn
namespace Dn
open PySem PySem.Spec PyProof.Rows L2
def asLi : D → Option (List D)
  | .list ds => some ds
  | _ => none
/-- l.index(x) -/
def gIndex (ds : List D) (d : D) : Option D := if shp (.list ds) = true ∧ shp d = true then (ds.findIdx? fun z => PyData.eqv z d).map fun (j : Nat) => .int j else none
def dLM1 (g : List D → D → Option D) (fo fe : En → R D) : En → R D := fun ρ => (fo ρ).bind fun x ρ1 => (lift (asLi x) ρ1).bind fun ds ρ2 => (fe ρ2).bind fun y ρ3 => lift (g ds y) ρ3
@[simp] theorem dLM1_eq (g : List D → D → Option D) (fo fe : En → R D) (ρ : En) : dLM1 g fo fe ρ = (fo ρ).bind fun x ρ1 => (lift (asLi x) ρ1).bind fun ds ρ2 => (fe ρ2).bind fun y ρ3 => lift (g ds y) ρ3 := rfl
@[simp] theorem asLi_list (ds : List D) : asLi (.list ds) = some ds := rfl
section
variable {X : Cx} {w : Wh} {pos : Pos} {e o : Expr} {fe fo : En → R D}
theorem ve_index {apos : Pos} (hu : X.A.units + 65 < cLine) (ho : VE X w o fo) (he : VE X w e fe)
    (hbase : attributeBase o "index" X.env (eval o X.env) = eval o X.env := by rfl)
    (hfew : ((backTo pos (starEach [e] X.env)).all (fun x => !x.1) && (backToKw pos (keywordEach [] X.env)).all (fun x => x.1.isSome) && decide (([e] : List Expr).length + ([] : List Keyword).length + (if ([] : List Keyword).isEmpty then 0 else 1) < 30)) = true := by rfl)
    (hline : (apos.endLine == pos.line) = true := by rfl) (hs : starEach [e] X.env = (false, eval e X.env) :: starEach [] X.env := by rfl) (hplain : (backTo pos (starEach [] X.env)).any (·.1) = false := by rfl) :
    VE X w (.Call (.Attribute o "index" apos) [e] [] pos) (dLM1 gIndex fo fe) :=
  PE.imp (pe_bm PySem.F.plainAttrs_list PySem.F.slot_list_index PySem.F.type_list_index (mt_indexD hu) ho (pa_cons he pa_nil hs) hbase hfew hline hs hplain) fun σ H Q ⟨G, ρ, rel, h⟩ => ⟨G, ρ, rel, (Fn.bind rel h).imp fun G1 H1 ρ1 x ⟨r1, s1, h1⟩ v hv => by
    cases x with
    | list ds =>
      have h2 : Fn X.K w G1 H1 σ ρ1 ((fe ρ1).bind fun y ρ3 => lift (gIndex ds y) ρ3) (QD X.K Q) := h1
      obtain ⟨a, vs, rfl, hl, hds⟩ := hv.lst'
      refine ⟨.inl ⟨rfl, vs, r1.sub.seq hl⟩, G1, ρ1, r1, (Fn.bind r1 h2).imp fun G2 H2 ρ2 y ⟨r2, s2, h3⟩ u hu2 => ?_⟩
      obtain ⟨d, e, q⟩ := Fn.lift h3
      simp only [gIndex] at e
      split at e
      · rename_i hsh
        simp only [Option.map_eq_some_iff] at e
        obtain ⟨j, ej, rfl⟩ := e
        rw [List.findIdx?_eq_some_iff_getElem] at ej
        obtain ⟨hj, e1, e2⟩ := ej
        have D1 : DR X.K H2 (.ref a) (.list ds) := ((DR.lst hl hds).mono s2.g).mono r2.sub
        refine ⟨a, u, y, ds, j, ds[j], rfl, rfl, D1.dp (SeqAt.canLay_of_shaped hsh.1), (hu2.mono r2.sub).dp (SeqAt.canLay_of_shaped hsh.2), hsh.1, hsh.2, List.getElem?_eq_getElem hj, e1, fun m z hm hz => ?_, q _ _ r2 Stp.refl _ (.int _)⟩
        have hml : m < ds.length := by omega
        rw [List.getElem?_eq_getElem hml] at hz
        cases hz
        have := e2 m hm
        simpa using this
      · cases e
    | _ => exact h1.elim⟩
end
end Dn
namespace Dn
open PySem PySem.Spec PyProof.Rows L2
/-! ### one's own lists, looked at for a while -/
section
variable {K : PySem.W.Frag} {G H G' H' : Hp} {σ : L2.St} {ρ : En}
theorem DV.dr (r : Rel K G H σ ρ) {v : V} {d : D} (h : DV K G H v d) : DR K H v d := by
  cases h with
  | im h => exact h.mono r.sub
  | mu e h => exact .lst (.inl (.inl e)) (h.mono r.sub)
end
/-- compared: the left one a name -/
def dCmpL (g : D → D → Option Bool) (i : Nat) (fb : En → R D) : En → R Bool := atSlot i fb fun l y ρ => lift (g l.toD y) ρ
/-- compared: the right one a name -/
def dCmpR (g : D → D → Option Bool) (fa : En → R D) (i : Nat) : En → R Bool := fun ρ => (fa ρ).bind fun x ρ1 => atSlot i (fun ρ => .ok () ρ) (fun l _ ρ => lift (g x l.toD) ρ) ρ1
@[simp] theorem dCmpL_eq (g : D → D → Option Bool) (i : Nat) (fb : En → R D) (ρ : En) : dCmpL g i fb ρ = slotK ρ[i]? fun _ => (fb ρ).bind fun y ρ1 => slotK ρ1[i]? fun l => if l.tree = true then .no else lift (g l.toD y) ρ1 := by unfold dCmpL; rw [atSlot_eq]
@[simp] theorem dCmpR_eq (g : D → D → Option Bool) (fa : En → R D) (i : Nat) (ρ : En) : dCmpR g fa i ρ = (fa ρ).bind fun x ρ1 => slotK ρ1[i]? fun l => if l.tree = true then .no else lift (g x l.toD) ρ1 := by
  unfold dCmpR
  cases fa ρ with
  | ok x ρ1 =>
    show atSlot i _ _ ρ1 = slotK ρ1[i]? _
    rw [atSlot_eq]
    show (slotK ρ1[i]? fun _ => slotK ρ1[i]? fun l => if l.tree = true then R.no else lift (g x l.toD) ρ1) = _
    generalize ρ1[i]? = o
    cases o with
    | none => rfl
    | some o => cases o <;> rfl
  | _ => rfl
section
variable {X : Cx} {w : Wh} {op : CmpOp} {r : R2} {g : D → D → Option Bool} {a b : Expr} {fa fb : En → R D} {pos p : Pos} {x : Str}
theorem vt_cmpL (i : Nat) (ho : OpR X (compareOp op) r) (hs : OpB X.K r g) (hb : VE X w b fb) (hm : behindInMarks op b = false) (hN : X.N[i]? = some x := by rfl) (hv : Vis X.env.scope x := by first | exact Or.inl rfl | exact Or.inr (Or.inl rfl) | exact Or.inr (Or.inr rfl))
    (hd : (x == ("__debug__" : Str)) = false := by decide) (hcd : (x == ("__classdict__" : Str)) = false := by decide) : VT X w (.Compare (.Name x p) [op] [b] pos) (dCmpL g i fb) :=
  PT.imp (pt_cmpR ho (pe_var hN hv hd hcd) hb hm) fun σ H Q ⟨G, ρ, rel, h⟩ => by
    obtain ⟨v, s, h⟩ := Fn.slot rel h
    refine ⟨v, s, G, ρ, rel, h.imp fun G1 H1 ρ1 y ⟨l, e, dv, r1, s1, h1⟩ u hu => ?_⟩
    obtain ⟨d, e', q⟩ := Fn.lift h1
    exact hs v u l.toD y d H1 _ (dv.dr r1) (hu.mono r1.sub) e' ⟨d, rfl, q _ _ r1 Stp.refl⟩
theorem vt_cmpRN (i : Nat) (ho : OpR X (compareOp op) r) (hs : OpB X.K r g) (ha : VE X w a fa) (hm : behindInMarks op (.Name x p) = false) (hN : X.N[i]? = some x := by rfl) (hv : Vis X.env.scope x := by first | exact Or.inl rfl | exact Or.inr (Or.inl rfl) | exact Or.inr (Or.inr rfl))
    (hd : (x == ("__debug__" : Str)) = false := by decide) (hcd : (x == ("__classdict__" : Str)) = false := by decide) : VT X w (.Compare a [op] [.Name x p] pos) (dCmpR g fa i) :=
  PT.imp (pt_cmpR ho ha (pe_var hN hv hd hcd) hm) fun σ H Q ⟨G, ρ, rel, h⟩ => ⟨G, ρ, rel, (Fn.bind rel h).imp fun G1 H1 ρ1 dx ⟨r1, s1, h1⟩ u hu => by
    obtain ⟨v, s, h⟩ := Fn.slot r1 h1
    obtain ⟨l, e, dv, r2, s2, h2⟩ := h.ok r1
    obtain ⟨d, e', q⟩ := Fn.lift h2
    exact ⟨v, s, hs u v dx l.toD d H1 _ (hu.mono r1.sub) (dv.dr r2) e' ⟨d, rfl, q _ _ r2 Stp.refl⟩⟩⟩
theorem ve_cmpL (i : Nat) (ho : OpR X (compareOp op) r) (hs : OpB X.K r g) (hb : VE X w b fb) (hm : behindInMarks op b = false) (hN : X.N[i]? = some x := by rfl) (hv : Vis X.env.scope x := by first | exact Or.inl rfl | exact Or.inr (Or.inl rfl) | exact Or.inr (Or.inr rfl))
    (hd : (x == ("__debug__" : Str)) = false := by decide) (hcd : (x == ("__classdict__" : Str)) = false := by decide) : VE X w (.Compare (.Name x p) [op] [b] pos) (dB (dCmpL g i fb)) :=
  PE.imp (pe_cmpR ho (pe_var hN hv hd hcd) hb hm) fun σ H Q ⟨G, ρ, rel, h⟩ => by
    obtain ⟨v, s, h⟩ := Fn.slot rel (Fn.dB rel h)
    refine ⟨v, s, G, ρ, rel, h.imp fun G1 H1 ρ1 y ⟨l, e, dv, r1, s1, h1⟩ u hu => ?_⟩
    obtain ⟨d, e', q⟩ := Fn.lift h1
    exact hs v u l.toD y d H1 _ (dv.dr r1) (hu.mono r1.sub) e' (q _ _ r1 Stp.refl).2.2
theorem ve_cmpRN (i : Nat) (ho : OpR X (compareOp op) r) (hs : OpB X.K r g) (ha : VE X w a fa) (hm : behindInMarks op (.Name x p) = false) (hN : X.N[i]? = some x := by rfl) (hv : Vis X.env.scope x := by first | exact Or.inl rfl | exact Or.inr (Or.inl rfl) | exact Or.inr (Or.inr rfl))
    (hd : (x == ("__debug__" : Str)) = false := by decide) (hcd : (x == ("__classdict__" : Str)) = false := by decide) : VE X w (.Compare a [op] [.Name x p] pos) (dB (dCmpR g fa i)) :=
  PE.imp (pe_cmpR ho ha (pe_var hN hv hd hcd) hm) fun σ H Q ⟨G, ρ, rel, h⟩ => ⟨G, ρ, rel, (Fn.bind rel (Fn.dB rel h)).imp fun G1 H1 ρ1 dx ⟨r1, s1, h1⟩ u hu => by
    obtain ⟨v, s, h⟩ := Fn.slot r1 h1
    obtain ⟨l, e, dv, r2, s2, h2⟩ := h.ok r1
    obtain ⟨d, e', q⟩ := Fn.lift h2
    exact ⟨v, s, hs u v dx l.toD d H1 _ (hu.mono r1.sub) (dv.dr r2) e' (q _ _ r2 Stp.refl).2.2⟩⟩
end
/-! #### a call that only looks -/
mutual
def trD : Tr → D
  | .im d => d
  | .ls ts => .list (trDs ts)
def trDs : List Tr → List D
  | [] => []
  | t :: ts => trD t :: trDs ts
end
theorem trDs_map : ∀ (ts : List Tr), trDs ts = ts.map trD
  | [] => rfl
  | t :: ts => by rw [trDs, trDs_map ts]; rfl
@[simp] theorem trD_im (d : D) : trD (.im d) = d := by rw [trD]
@[simp] theorem trD_ls (ts : List Tr) : trD (.ls ts) = .list (ts.map trD) := by rw [trD, trDs_map]
/-- all of a slot -/
@[simp] def L.all : L → D
  | .im d => d
  | .ow ds => .list ds
  | .bo ds => .list ds
  | .ot t => trD t
  | .bt t => trD t
  | .xn _ _ _ => .none
theorem DRs.ofAt {K : PySem.W.Frag} {G : Hp} : ∀ {vs : List V} {ds : List D}, vs.length = ds.length → (∀ (k : Nat) (v : V) (d : D), vs[k]? = some v → ds[k]? = some d → DR K G v d) → DRs K G vs ds
  | [], [], _, _ => .nil
  | v :: vs, d :: ds, hl, h => .cons (h 0 v d rfl rfl) (DRs.ofAt (by simpa using hl) fun k v d e1 e2 => h (k + 1) v d (by simpa using e1) (by simpa using e2))
theorem TR.dr {K : PySem.W.Frag} {G G' H : Hp} {v : V} {t : Tr} (r : TR K G H v t) (sg : Same G G') : (∀ a, Foot H v t a → G' a = H a) → DR K G' v (trD t) := by
  induction r with
  | im h => intro _; rw [trD_im]; exact h.mono sg
  | @ls o vs ts g h l c n d ih =>
    intro k
    rw [trD_ls]
    refine .lst (.inl (.inl (by rw [k _ .here]; exact h))) (DRs.ofAt (by rw [List.length_map]; exact l) fun j v d e1 e2 => ?_)
    rw [List.getElem?_map, Option.map_eq_some_iff] at e2
    obtain ⟨t, e2, rfl⟩ := e2
    exact ih j v t e1 e2 fun a f => k a (.sub h e1 e2 f)
def lendT (ρ : En) : List AV → Option En
  | [] => some []
  | .im d :: as => (lendT ρ as).map (some (.im d) :: ·)
  | .sl i :: as => match ρ[i]? with
    | some (some (.xn _ _ _)) => none
    | some (some l) => (lendT ρ as).map (some (.im l.all) :: ·)
    | _ => none
def flat : D → Bool
  | .none => true
  | .bool _ => true
  | .int _ => true
  | .str _ => true
  | _ => false
/-- the callee's view, then the caller as ahead -/
def dFnT (n : Nat) (den : En → R L) (ga : En → R (List AV)) : En → R D := fun ρ => (ga ρ).bind fun as ρ1 => if as.length = n then match lendT ρ1 as with
  | none => .no
  | some ls => match den ls with
    | .ok (.im d) _ => if flat d = true then .ok d ρ1 else .no
    | .ex c _ => if c.arg.isNone = true then .ex c ρ1 else .no
    | _ => .no
  else .no
open Classical in
noncomputable def Gt (G H : Hp) (σ : L2.St) (ρ : En) : Hp := fun a => if G a = none ∧ Own H σ ρ a then H a else G a
section
variable {K : PySem.W.Frag} {G H G' H' : Hp} {σ : L2.St} {ρ : En}
theorem Gt_g : Same G (Gt G H σ ρ) := fun a x e => by
  unfold Gt
  rw [if_neg (fun z => by rw [e] at z; cases z.1)]; exact e
theorem Gt_h (r : Rel K G H σ ρ) : Same (Gt G H σ ρ) H := fun a x e => by
  unfold Gt at e
  split at e
  · exact e
  · exact r.sub a x e
theorem lendT_ok (r : Rel K G H σ ρ) : ∀ {vs : List V} {as : List AV} {ls : En}, AVs K G σ vs as → lendT ρ as = some ls → ls.length = vs.length ∧ ∀ (k : Nat) (l : L), ls[k]? = some (some l) → ∃ d v, l = .im d ∧ (vs.map some)[k]? = some (some v) ∧ DR K (Gt G H σ ρ) v d
  | _, _, _, .nil, e => by cases e; exact ⟨rfl, fun k l h => by simp at h⟩
  | _, _, _, .im h t, e => by
    simp only [lendT, Option.map_eq_some_iff] at e
    obtain ⟨ls, e, rfl⟩ := e
    obtain ⟨h1, h2⟩ := lendT_ok r t e
    refine ⟨by simp [h1], fun k l hk => ?_⟩
    cases k with
    | zero => simp at hk; subst hk; exact ⟨_, _, rfl, rfl, h.mono Gt_g⟩
    | succ k => simpa using h2 k l (by simpa using hk)
  | _, _, _, .sl (v := v) (i := i) h t, e => by
    simp only [lendT] at e
    split at e
    · cases e
    · rename_i l0 hx e0
      simp only [Option.map_eq_some_iff] at e
      obtain ⟨ls, e, rfl⟩ := e
      obtain ⟨h1, h2⟩ := lendT_ok r t e
      refine ⟨by simp [h1], fun k l hk => ?_⟩
      cases k with
      | zero =>
        simp at hk; subst hk
        obtain ⟨v', s, c⟩ := r.cell i l0 e0
        rw [h] at s; cases s
        refine ⟨_, v, rfl, rfl, ?_⟩
        have here : ∀ o us ds, Fo H l0 v o → v = V.ref o → G o = none → H o = some (.lst us) → DRs K G us ds → DR K (Gt G H σ ρ) v (.list ds) := fun o us ds f ev g hq hd => by
          subst ev
          refine .lst (.inl (.inl ?_)) (hd.mono Gt_g)
          unfold Gt
          rw [if_pos ⟨g, i, l0, _, e0, h, f⟩]; exact hq
        have tree : ∀ t, TR K G H v t → (∀ a, Foot H v t a → Fo H l0 v a) → DR K (Gt G H σ ρ) v (trD t) := fun t c f => c.dr Gt_g fun a fa => by
          unfold Gt
          rw [if_pos ⟨(c.foot fa).1, i, l0, _, e0, h, f a fa⟩]
        cases l0 with
        | im d => exact DR.mono Gt_g c
        | ow ds => obtain ⟨o, us, ev, g, hq, hd⟩ := c; exact here o us ds ev ev g hq hd
        | bo ds => obtain ⟨o, us, ev, g, hq, hd⟩ := c; exact here o us ds ev ev g hq hd
        | ot t => exact tree t c fun _ f => f
        | bt t => exact tree t c fun _ f => f
        | xn a dx c' => exact absurd rfl (hx a dx c')
      | succ k => simpa using h2 k l (by simpa using hk)
    · cases e
theorem flat_dr {v : V} {d : D} (h : DR K G v d) (hf : flat d = true) : DR K G' v d := by
  cases h with
  | non => exact .non
  | bl b => exact .bl b
  | int i => exact .int i
  | str s => exact .str s
  | _ => cases hf
/-- nothing old was changed -/
theorem Rel.still (r : Rel K G H σ ρ) (h : Same H H') : Rel K G H' σ ρ ∧ Stp G H σ ρ G H' σ ρ := by
  have hk : ∀ a, Own H σ ρ a → H' a = H a := fun a z => by
    obtain ⟨_, us, q⟩ := r.own z
    rw [q]; exact h _ _ q
  obtain ⟨r', ow⟩ := r.keep (G' := G) (H' := H') (Same.refl _) (r.sub.trans h) (fun a z => (r.own z).1) hk
  refine ⟨r', ⟨Same.refl _, fun a x e _ => h a x e, fun a z => .inl z, fun a z => .inl ((ow a).mp z), fun a z => ?_, rfl, fun i ds e => ⟨rfl, ds, e⟩, fun i t e => ⟨rfl, t, e, fun v a q f => Foot.to f fun b y => hk b ⟨i, _, v, e, q, y⟩⟩⟩⟩
  cases q : H a with
  | none => exact absurd q z
  | some x => rw [h a x q]; exact fun z => nomatch z
end
section
variable {X : Cx} {w : Wh} {k n : Nat} {f : Addr} {fd : FuncData} {ps : List Str} {den : En → R L} {ca : String → Option Value} {x : Str} {p pos : Pos} {e : Expr} {es : List Expr} {ga : En → R (List AV)}
theorem ve_callT (F : FnOk X.prog X.w X.K X.mg X.base (L2.CX X.prog X.w) k f fd ps (spD X.K ca n den)) (hr : Room k X.A) (tk : Takes X w.W) (hca : w.ca = ca) (hg : Gl X x) (hm : X.mg x = some (.ref f)) (hk : PySem.W.keepIn X.K (.ref f) = true) (hb : Binds X.K fd ps [])
    (ha : VA X w (e :: es) ga) (hdb : (x == ("__debug__" : Str)) = false := by decide) (he : starEach (e :: es) X.env = (false, eval e X.env) :: starEach es X.env := by rfl) (hpl : (backTo pos (starEach es X.env)).any (·.1) = false := by rfl) :
    VE X w (.Call (.Name x p) (e :: es) [] pos) (dFnT n den ga) :=
  PE.imp (pe_callS F hr hg hm hk hb (passAt tk) ha hdb he hpl) fun σ H Q ⟨G, ρ, rel, h⟩ => ⟨G, ρ, rel, (Fn.bind rel h).imp fun G1 H1 ρ1 as ⟨r1, s1, h1⟩ vs hvs => by
    split at h1
    · rename_i hl
      cases q : lendT ρ1 as with
      | none => rw [q] at h1; exact h1.elim
      | some ls =>
        rw [q] at h1
        have h1' : Fn X.K w G1 H1 σ ρ1 (match den ls with | .ok (.im d) _ => if flat d = true then R.ok d ρ1 else .no | .ex c _ => if c.arg.isNone = true then .ex c ρ1 else .no | _ => .no) (QD X.K Q) := h1
        obtain ⟨l1, l2⟩ := lendT_ok r1 hvs q
        have r0 : Rel X.K (Gt G1 H1 σ ρ1) H1 (vs.map some) ls := ⟨Gt_h r1, by simp [l1], fun i l ei => by
          obtain ⟨d, v, rfl, hv, hd⟩ := l2 i l ei
          exact ⟨v, hv, hd⟩, fun i j l m v u a ei ej si sj fi fj => by
          obtain ⟨d, v, rfl, _⟩ := l2 i l ei; exact fi.elim⟩
        have no : ∀ a, ¬ Own H1 (vs.map some) ls a := fun a ⟨i, l, v, ei, _, f⟩ => by
          obtain ⟨d, v, rfl, _⟩ := l2 i l ei; exact f.elim
        refine ⟨Gt G1 H1 σ ρ1, ls, r0, fun i l ei => (by obtain ⟨d, v, rfl, _⟩ := l2 i _ ei; rfl), hvs.length.trans hl, ?_⟩
        cases q2 : den ls with
        | no => rw [q2] at h1'; exact h1'.elim
        | ex c ls' =>
          rw [q2] at h1'
          intro G' H' cls dx r' s' x'
          have sH : Same H1 H' := fun a o ea => s'.h a o ea (no a)
          obtain ⟨r2, s2⟩ := r1.still sH
          have h2 : Fn X.K w G1 H1 σ ρ1 (if c.arg.isNone = true then .ex c ρ1 else .no) (QD X.K Q) := h1'
          split at h2
          · rename_i hn
            exact h2 G1 H' cls dx r2 s2 ⟨by rw [hca]; exact x'.hc, x'.hn, fun f d ea => by rw [ea] at hn; cases hn⟩
          · exact h2.elim
        | ok l ls' =>
          rw [q2] at h1'
          cases l with
          | bo ds => exact h1'.elim
          | ow ds => exact h1'.elim
          | ot t => exact h1'.elim
          | bt t => exact h1'.elim
          | xn _ _ _ => exact h1'.elim
          | im d =>
            intro G' H' v r' s' hv
            have sH : Same H1 H' := fun a o ea => s'.h a o ea (no a)
            obtain ⟨r2, s2⟩ := r1.still sH
            have h2 : Fn X.K w G1 H1 σ ρ1 (if flat d = true then R.ok d ρ1 else .no) (QD X.K Q) := h1'
            split at h2
            · rename_i hf
              exact h2 G1 H' r2 s2 v (flat_dr hv hf)
            · exact h2.elim
    · exact h1.elim⟩
end
/-! reckoning -/
def lookK (o : Option En) (k : En → R D) : R D := match o with
  | some ls => k ls
  | none => .no
def resT (r : R L) (ρ : En) : R D := match r with
  | .ok (.im d) _ => if flat d = true then .ok d ρ else .no
  | .ex c _ => if c.arg.isNone = true then .ex c ρ else .no
  | _ => .no
@[simp] theorem dFnT_eq (n : Nat) (den : En → R L) (ga : En → R (List AV)) (ρ : En) : dFnT n den ga ρ = (ga ρ).bind fun as ρ1 => if as.length = n then lookK (lendT ρ1 as) fun ls => resT (den ls) ρ1 else .no := by
  unfold dFnT
  cases ga ρ with
  | ok as ρ1 =>
    show (if as.length = n then _ else _) = (if as.length = n then _ else _)
    split
    · cases lendT ρ1 as with
      | none => rfl
      | some ls => rfl
    · rfl
  | _ => rfl
@[simp] theorem lookK_some (ls : En) (k : En → R D) : lookK (some ls) k = k ls := rfl
@[simp] theorem resT_im (d : D) (ls ρ : En) (h : flat d = true) : resT (.ok (.im d) ls) ρ = .ok d ρ := if_pos h
@[simp] theorem resT_ex (c : String) (ls ρ : En) : resT (.ex ⟨c, none⟩ ls) ρ = .ex ⟨c, none⟩ ρ := rfl
@[simp] theorem lendT_nil (ρ : En) : lendT ρ [] = some [] := rfl
@[simp] theorem lendT_im (ρ : En) (d : D) (as : List AV) : lendT ρ (.im d :: as) = (lendT ρ as).map (some (.im d) :: ·) := rfl
theorem lendT_sl {ρ : En} {i : Nat} {as : List AV} {l : L} (h : ρ[i]? = some (some l)) (hx : ∀ a dx c, l ≠ .xn a dx c) : lendT ρ (.sl i :: as) = (lendT ρ as).map (some (.im l.all) :: ·) := by
  cases l <;> first | exact absurd rfl (hx _ _ _) | simp only [lendT, h]
@[simp] theorem flat_bool (b : Bool) : flat (.bool b) = true := rfl
@[simp] theorem flat_int (b : Int) : flat (.int b) = true := rfl
@[simp] theorem flat_str (b : Str) : flat (.str b) = true := rfl
@[simp] theorem flat_none : flat .none = true := rfl
/-- at one's own list -/
def mineK {α : Type} (c : Option (Option L)) (k : L → List D → R α) : R α := match c with
  | some (some (.ow ds)) => k (.ow ds) ds
  | some (some (.bo ds)) => k (.bo ds) ds
  | _ => .no
@[simp] theorem mineK_ow {α : Type} (ds : List D) (k : L → List D → R α) : mineK (some (some (.ow ds))) k = k (.ow ds) ds := rfl
@[simp] theorem mineK_bo {α : Type} (ds : List D) (k : L → List D → R α) : mineK (some (some (.bo ds))) k = k (.bo ds) ds := rfl
@[simp] theorem put_ow (ds es : List D) : (L.ow ds).put es = .ow es := rfl
@[simp] theorem put_bo (ds es : List D) : (L.bo ds).put es = .bo es := rfl
theorem atMine_eq {α β : Type} (i : Nat) (f : En → R β) (g : L → List D → β → En → R α) (ρ : En) : atMine i f g ρ = mineK ρ[i]? fun _ _ => (f ρ).bind fun y ρ1 => mineK ρ1[i]? fun l ds => g l ds y ρ1 := by
  unfold atMine
  have inner : ∀ (y : β) (ρ1 : En), (match ρ1[i]? with
      | some (some l) => match l.mine with
        | some ds => g l ds y ρ1
        | none => .no
      | _ => .no) = mineK ρ1[i]? fun l ds => g l ds y ρ1 := fun y ρ1 => by
    generalize ρ1[i]? = o
    cases o with
    | none => rfl
    | some o => cases o with
      | none => rfl
      | some l => cases l <;> rfl
  generalize ρ[i]? = o
  cases o with
  | none => rfl
  | some o => cases o with
    | none => rfl
    | some l =>
      cases l with
      | im d => rfl
      | ot d => rfl
      | bt d => rfl
      | xn _ _ _ => rfl
      | ow ds => exact congrArg ((f ρ).bind) (funext fun y => funext fun ρ1 => inner y ρ1)
      | bo ds => exact congrArg ((f ρ).bind) (funext fun y => funext fun ρ1 => inner y ρ1)
@[simp] theorem dApp_eq (i : Nat) (f : En → R D) (ρ : En) : dApp i f ρ = mineK ρ[i]? fun _ _ => (f ρ).bind fun d ρ1 => mineK ρ1[i]? fun l ds => if ds.length < sizeLine then .ok .nx (ρ1.set i (some (l.put (ds ++ [d])))) else .no := atMine_eq i f _ ρ
def setK (z : Option Int) (l : L) (ds : List D) (d : D) (i : Nat) (ρ : En) : R Fl := match z with
  | some z => match ixN ds.length z with
    | some j => .ok .nx (ρ.set i (some (l.put (ds.set j d))))
    | none => .no
  | none => .no
@[simp] theorem dSetI_eq (i : Nat) (f k : En → R D) (ρ : En) : dSetI i f k ρ = (f ρ).bind fun d ρ0 => mineK ρ0[i]? fun _ _ => (k ρ0).bind fun y ρ1 => mineK ρ1[i]? fun l ds => setK (asI y) l ds d i ρ1 := by
  unfold dSetI
  cases f ρ with
  | ok d ρ0 => exact atMine_eq i k _ ρ0
  | _ => rfl
@[simp] theorem dAsgL_eq (i : Nat) (f : En → R (List D)) (ρ : En) : dAsgL i f ρ = (f ρ).bind fun ds ρ1 => (putOw i ds ρ1).bind fun _ ρ2 => .ok .nx ρ2 := rfl
@[simp] theorem dRetL_eq (f : En → R (List D)) (ρ : En) : dRetL f ρ = (f ρ).bind fun d ρ1 => .ok (.rl d) ρ1 := rfl
def retK (c : Option (Option L)) (i : Nat) (ρ : En) : R Fl := match c with
  | some (some (.ow ds)) => .ok (.rl ds) (ρ.set i none)
  | some (some (.im d)) => .ok (.rt d) ρ
  | _ => .no
@[simp] theorem dRetV_eq (i : Nat) (ρ : En) : dRetV i ρ = retK ρ[i]? i ρ := by
  unfold dRetV retK
  generalize ρ[i]? = o
  cases o with
  | none => rfl
  | some o => cases o with
    | none => rfl
    | some l => cases l <;> rfl
@[simp] theorem retK_ow (ds : List D) (i : Nat) (ρ : En) : retK (some (some (.ow ds))) i ρ = .ok (.rl ds) (ρ.set i none) := rfl
@[simp] theorem retK_im (d : D) (i : Nat) (ρ : En) : retK (some (some (.im d))) i ρ = .ok (.rt d) ρ := rfl
def resN (as : List AV) (ρ : En) (r : R L) : R (List D) := match r with
  | .ok (.ow ds) ls' => .ok ds (giveB as ls' ρ)
  | .ex c ls' => .ex c (giveB as ls' ρ)
  | _ => .no
@[simp] theorem resN_ow (as : List AV) (ρ ls : En) (d : List D) : resN as ρ (.ok (.ow d) ls) = .ok d (giveB as ls ρ) := rfl
@[simp] theorem resN_ex (as : List AV) (ρ ls : En) (c : Exn) : resN as ρ (.ex c ls) = .ex c (giveB as ls ρ) := rfl
@[simp] theorem nFn_eq (n : Nat) (den : En → R L) (ga : En → R (List AV)) (ρ : En) : nFn n den ga ρ = (ga ρ).bind fun as ρ1 => if as.length = n then lentK (lend as ρ1) fun ls => resN as ρ1 (den ls) else .no := by
  unfold nFn
  congr 1
  funext as ρ1
  split
  · unfold lentK resN
    cases lend as ρ1 with
    | none => rfl
    | some ls =>
      cases den ls with
      | ok l ls' => cases l <;> rfl
      | _ => rfl
  · rfl
def slA (c : Option (Option L)) (i : Nat) (r : R (List AV)) : R (List AV) := match c with
  | some (some _) => r.bind fun as ρ2 => .ok (.sl i :: as) ρ2
  | _ => .no
@[simp] theorem aSl_eq (i : Nat) (g : En → R (List AV)) (ρ : En) : aSl i g ρ = slA ρ[i]? i (g ρ) := by
  unfold aSl slA
  generalize ρ[i]? = o
  cases o with
  | none => rfl
  | some o => cases o <;> rfl
@[simp] theorem slA_some (l : L) (i : Nat) (r : R (List AV)) : slA (some (some l)) i r = r.bind fun as ρ2 => .ok (.sl i :: as) ρ2 := rfl
def lookL (c : Option (Option L)) (r : Option En) : Option En := match c with
  | some (some (.xn _ _ _)) => none
  | some (some l) => r.map (some (.im l.all) :: ·)
  | _ => none
@[simp] theorem lendT_slK (ρ : En) (i : Nat) (as : List AV) : lendT ρ (.sl i :: as) = lookL ρ[i]? (lendT ρ as) := by
  simp only [lendT, lookL]
@[simp] theorem lookL_im (d : D) (r : Option En) : lookL (some (some (.im d))) r = r.map (some (.im (L.im d).all) :: ·) := rfl
@[simp] theorem lookL_ow (d : List D) (r : Option En) : lookL (some (some (.ow d))) r = r.map (some (.im (L.ow d).all) :: ·) := rfl
@[simp] theorem lookL_bo (d : List D) (r : Option En) : lookL (some (some (.bo d))) r = r.map (some (.im (L.bo d).all) :: ·) := rfl
@[simp] theorem lookL_ot (d : Tr) (r : Option En) : lookL (some (some (.ot d))) r = r.map (some (.im (L.ot d).all) :: ·) := rfl
@[simp] theorem lookL_bt (d : Tr) (r : Option En) : lookL (some (some (.bt d))) r = r.map (some (.im (L.bt d).all) :: ·) := rfl
@[simp] theorem resT_bool (b : Bool) (ls ρ : En) : resT (.ok (.im (.bool b)) ls) ρ = .ok (.bool b) ρ := rfl
@[simp] theorem resT_int (b : Int) (ls ρ : En) : resT (.ok (.im (.int b)) ls) ρ = .ok (.int b) ρ := rfl
@[simp] theorem resT_str (b : Str) (ls ρ : En) : resT (.ok (.im (.str b)) ls) ρ = .ok (.str b) ρ := rfl
@[simp] theorem resT_non (ls ρ : En) : resT (.ok (.im .none) ls) ρ = .ok .none ρ := rfl
end Dn
namespace Dn
open PySem PySem.Spec PyProof.Rows L2
/-! ### more of lists of one's own -/
section
variable {X : Cx} {w : Wh} {x : Str} {p pos : Pos} {e e2 : Expr} {fe fi : En → R D} {apos pos2 : Pos}
/-- x.insert(i, e) -/
def dIns (i : Nat) (fi fe : En → R D) : En → R Fl := atMine i (fun ρ => (fi ρ).bind fun a ρ1 => (fe ρ1).bind fun b ρ2 => .ok (a, b) ρ2) fun l ds y ρ => match y.1 with
  | .int k => if ds.length < sizeLine ∧ 0 ≤ k ∧ k < 2 ^ 62 then .ok .nx (ρ.set i (some (l.put (ds.take k.toNat ++ [y.2] ++ ds.drop k.toNat)))) else .no
  | _ => .no
theorem vs_insert (i : Nat) (hi : VE X w e2 fi) (he : VE X w e fe) (hN : X.N[i]? = some x := by rfl) (hv : Vis X.env.scope x := by first | exact Or.inl rfl | exact Or.inr (Or.inl rfl) | exact Or.inr (Or.inr rfl)) (hd : (x == ("__debug__" : Str)) = false := by decide) (hcd : (x == ("__classdict__" : Str)) = false := by decide)
    (hbase : attributeBase (.Name x p) "insert" X.env (eval (.Name x p) X.env) = eval (.Name x p) X.env := by rfl) (hline : (apos.endLine == pos.line) = true := by rfl)
    (hfew : ((backTo pos (starEach [e2, e] X.env)).all (fun x => !x.1) && (backToKw pos (keywordEach [] X.env)).all (fun x => x.1.isSome) && decide (([e2, e] : List Expr).length + ([] : List Keyword).length + (if ([] : List Keyword).isEmpty then 0 else 1) < 30)) = true := by rfl)
    (hs : starEach [e2, e] X.env = (false, eval e2 X.env) :: starEach [e] X.env := by rfl) (hs2 : starEach [e] X.env = (false, eval e X.env) :: starEach [] X.env := by rfl) (hpl : (backTo pos (starEach [e] X.env)).any (·.1) = false := by rfl)
    (hsw : swapsWith (.Call (.Attribute (.Name x p) "insert" apos) [e2, e] [] pos) none pos2.line X.env = pure false := by rfl) :
    VS X w (.Expr (.Call (.Attribute (.Name x p) "insert" apos) [e2, e] [] pos) pos2) (dIns i fi fe) :=
  PS.imp (ps_expr (pe_bm PySem.F.plainAttrs_list PySem.F.slot_list_insert PySem.F.type_list_insert mt_insert (pe_var hN hv hd hcd) (pa_cons hi (pa_cons he pa_nil hs2) hs) hbase hfew hline hs hpl) hsw) fun Z σ H ⟨G, ρ, rel, h⟩ => by
    obtain ⟨o, s, ⟨vs, ho⟩, h⟩ := FnS.mine rel h
    refine ⟨.ref o, s, .inl ⟨rfl, vs, .inl (.inl ho)⟩, G, ρ, rel, (Fn.bind rel h).imp fun G1 H1 ρ1 a ⟨r1, s1, h1⟩ va hva => ⟨G1, ρ1, r1, (Fn.bind r1 h1).imp fun G2 H2 ρ2 b ⟨r2, s2, h2⟩ vb hvb => ?_⟩⟩
    obtain ⟨l, ds, e1, m, r3, s3, h3⟩ := h2.ok r2
    obtain ⟨o', ws, s', go, hw, hd⟩ := r3.mine e1 m
    rw [s] at s'; cases s'
    cases hva with
    | int k =>
      have h4 : FnS X.K w G2 H2 σ ρ2 (if ds.length < sizeLine ∧ 0 ≤ k ∧ k < 2 ^ 62 then .ok .nx (ρ2.set i (some (l.put (ds.take k.toNat ++ [b] ++ ds.drop k.toNat)))) else .no) Z := h3
      split at h4
      · rename_i hc
        obtain ⟨r4, s4⟩ := r3.change e1 m s (((hd.take k.toNat).append (.cons hvb .nil)).append (hd.drop k.toNat))
        exact ⟨o, ws, k, vb, rfl, rfl, hw, by rw [hd.length]; exact hc.1, hc.2.1, by omega, FnS.nx h4 r4 s4⟩
      · exact h4.elim
    | _ => exact h3.elim
/-- x.pop() -/
def dPop (i : Nat) : En → R D := atMine i (fun ρ => .ok () ρ) fun l ds _ ρ => match ds[ds.length - 1]? with
  | some d => .ok d (ρ.set i (some (l.put ds.dropLast)))
  | none => .no
theorem ve_pop (i : Nat) (hN : X.N[i]? = some x := by rfl) (hv : Vis X.env.scope x := by first | exact Or.inl rfl | exact Or.inr (Or.inl rfl) | exact Or.inr (Or.inr rfl)) (hd : (x == ("__debug__" : Str)) = false := by decide) (hcd : (x == ("__classdict__" : Str)) = false := by decide)
    (hbase : attributeBase (.Name x p) "pop" X.env (eval (.Name x p) X.env) = eval (.Name x p) X.env := by rfl) (hline : (apos.endLine == pos.line) = true := by rfl) :
    VE X w (.Call (.Attribute (.Name x p) "pop" apos) [] [] pos) (dPop i) :=
  PE.imp (pe_bm0 PySem.F.plainAttrs_list PySem.F.slot_list_pop PySem.F.type_list_pop mt_pop (pe_var hN hv hd hcd) hbase hline) fun σ H Q ⟨G, ρ, rel, h⟩ => by
    obtain ⟨o, s, ⟨vs, ho⟩, h⟩ := Fn.mine rel h
    obtain ⟨l, ds, e1, m, r3, s3, h3⟩ := h.ok rel
    obtain ⟨o', ws, s', go, hw, hd⟩ := r3.mine e1 m
    rw [s] at s'; cases s'
    refine ⟨.ref o, s, .inl ⟨rfl, vs, .inl (.inl ho)⟩, ?_⟩
    have h4 : Fn X.K w G H σ ρ (match ds[ds.length - 1]? with | some d => R.ok d (ρ.set i (some (l.put ds.dropLast))) | none => .no) (QD X.K Q) := h3
    cases q : ds[ds.length - 1]? with
    | none => rw [q] at h4; exact h4.elim
    | some d =>
      rw [q] at h4
      obtain ⟨y, ey, hy⟩ := hd.get q
      obtain ⟨r4, s4⟩ := r3.change e1 m s hd.dropLast
      exact ⟨o, ws, y, rfl, rfl, hw, by rw [hd.length]; exact ey, h4 _ _ r4 s4 y hy⟩
/-- x.pop(k) -/
def dPopAt (i : Nat) (fk : En → R D) : En → R D := atMine i fk fun l ds y ρ => match y with
  | .int k => if -(2 ^ 62) ≤ k ∧ k < 2 ^ 62 then match ixN ds.length k with
    | some j => match ds[j]? with
      | some d => .ok d (ρ.set i (some (l.put (ds.eraseIdx j))))
      | none => .no
    | none => .no
    else .no
  | _ => .no
theorem ve_popAt (i : Nat) (hk : VE X w e fi) (hN : X.N[i]? = some x := by rfl) (hv : Vis X.env.scope x := by first | exact Or.inl rfl | exact Or.inr (Or.inl rfl) | exact Or.inr (Or.inr rfl)) (hd : (x == ("__debug__" : Str)) = false := by decide) (hcd : (x == ("__classdict__" : Str)) = false := by decide)
    (hbase : attributeBase (.Name x p) "pop" X.env (eval (.Name x p) X.env) = eval (.Name x p) X.env := by rfl) (hline : (apos.endLine == pos.line) = true := by rfl)
    (hfew : ((backTo pos (starEach [e] X.env)).all (fun x => !x.1) && (backToKw pos (keywordEach [] X.env)).all (fun x => x.1.isSome) && decide (([e] : List Expr).length + ([] : List Keyword).length + (if ([] : List Keyword).isEmpty then 0 else 1) < 30)) = true := by rfl)
    (hs : starEach [e] X.env = (false, eval e X.env) :: starEach [] X.env := by rfl) :
    VE X w (.Call (.Attribute (.Name x p) "pop" apos) [e] [] pos) (dPopAt i fi) :=
  PE.imp (pe_bm PySem.F.plainAttrs_list PySem.F.slot_list_pop PySem.F.type_list_pop mt_popAt (pe_var hN hv hd hcd) (pa_cons hk pa_nil hs) hbase hfew hline hs (by rfl)) fun σ H Q ⟨G, ρ, rel, h⟩ => by
    obtain ⟨o, s, ⟨vs, ho⟩, h⟩ := Fn.mine rel h
    refine ⟨.ref o, s, .inl ⟨rfl, vs, .inl (.inl ho)⟩, G, ρ, rel, h.imp fun G1 H1 ρ1 y ⟨l, ds, e1, m, r3, s3, h3⟩ v hv => ?_⟩
    obtain ⟨o', ws, s', go, hw, hd⟩ := r3.mine e1 m
    rw [s] at s'; cases s'
    cases hv with
    | int k =>
      have h4 : Fn X.K w G1 H1 σ ρ1 (if -(2 ^ 62) ≤ k ∧ k < 2 ^ 62 then match ixN ds.length k with
        | some j => match ds[j]? with
          | some d => R.ok d (ρ1.set i (some (l.put (ds.eraseIdx j))))
          | none => .no
        | none => .no
        else .no) (QD X.K Q) := h3
      split at h4
      · rename_i hc
        cases q : ixN ds.length k with
        | none => rw [q] at h4; exact h4.elim
        | some j =>
          rw [q] at h4
          have h5 : Fn X.K w G1 H1 σ ρ1 (match ds[j]? with | some d => R.ok d (ρ1.set i (some (l.put (ds.eraseIdx j)))) | none => .no) (QD X.K Q) := h4
          cases q2 : ds[j]? with
          | none => rw [q2] at h5; exact h5.elim
          | some d =>
            rw [q2] at h5
            obtain ⟨z, ez, hz⟩ := hd.get q2
            obtain ⟨r4, s4⟩ := r3.change e1 m s (hd.erase j)
            have hq := (ixN_seq q).1
            exact ⟨o, ws, k, j, z, rfl, rfl, hw, by omega, by omega, by rw [hd.length]; exact hq, ez, h5 _ _ r4 s4 z hz⟩
      · exact h4.elim
    | _ => exact h3.elim
/-- x.clear() -/
def dClear (i : Nat) : En → R Fl := atMine i (fun ρ => .ok () ρ) fun l _ _ ρ => .ok .nx (ρ.set i (some (l.put [])))
theorem vs_clear (i : Nat) (hN : X.N[i]? = some x := by rfl) (hv : Vis X.env.scope x := by first | exact Or.inl rfl | exact Or.inr (Or.inl rfl) | exact Or.inr (Or.inr rfl)) (hd : (x == ("__debug__" : Str)) = false := by decide) (hcd : (x == ("__classdict__" : Str)) = false := by decide)
    (hbase : attributeBase (.Name x p) "clear" X.env (eval (.Name x p) X.env) = eval (.Name x p) X.env := by rfl) (hline : (apos.endLine == pos.line) = true := by rfl)
    (hsw : swapsWith (.Call (.Attribute (.Name x p) "clear" apos) [] [] pos) none pos2.line X.env = pure false := by rfl) :
    VS X w (.Expr (.Call (.Attribute (.Name x p) "clear" apos) [] [] pos) pos2) (dClear i) :=
  PS.imp (ps_expr (pe_bm0 PySem.F.plainAttrs_list PySem.F.slot_list_clear PySem.F.type_list_clear mt_clear (pe_var hN hv hd hcd) hbase hline) hsw) fun Z σ H ⟨G, ρ, rel, h⟩ => by
    obtain ⟨o, s, ⟨vs, ho⟩, h⟩ := FnS.mine rel h
    obtain ⟨l, ds, e1, m, r3, s3, h3⟩ := h.ok rel
    obtain ⟨o', ws, s', go, hw, hd⟩ := r3.mine e1 m
    rw [s] at s'; cases s'
    obtain ⟨r4, s4⟩ := r3.change (es := []) e1 m s (vs := []) .nil
    exact ⟨.ref o, s, .inl ⟨rfl, vs, .inl (.inl ho)⟩, o, ws, rfl, rfl, hw, FnS.nx (show FnS X.K w G H σ ρ (.ok .nx (ρ.set i (some (l.put [])))) Z from h3) r4 s4⟩
end
/-! reckoning -/
def insK (k : D) (l : L) (ds : List D) (d : D) (i : Nat) (ρ : En) : R Fl := match k with
  | .int k => if ds.length < sizeLine ∧ 0 ≤ k ∧ k < 2 ^ 62 then .ok .nx (ρ.set i (some (l.put (ds.take k.toNat ++ [d] ++ ds.drop k.toNat)))) else .no
  | _ => .no
theorem insK_of {k : Nat} {l : L} {ds : List D} {d : D} {i : Nat} {ρ : En} (h : ds.length < sizeLine) (hk : k ≤ 1000000) : insK (.int (k : Int)) l ds d i ρ = .ok .nx (ρ.set i (some (l.put (ds.take k ++ [d] ++ ds.drop k)))) := by
  unfold insK
  show (if _ then _ else _) = _
  rw [if_pos ⟨h, by omega, by omega⟩, Int.toNat_natCast]
@[simp] theorem dIns_eq (i : Nat) (fi fe : En → R D) (ρ : En) : dIns i fi fe ρ = mineK ρ[i]? fun _ _ => (fi ρ).bind fun a ρ1 => (fe ρ1).bind fun b ρ2 => mineK ρ2[i]? fun l ds => insK a l ds b i ρ2 := by
  unfold dIns
  rw [atMine_eq]
  congr 1
  funext _ _
  cases fi ρ with
  | ok a ρ1 =>
    show ((fe ρ1).bind fun b ρ2 => R.ok (a, b) ρ2).bind _ = (fe ρ1).bind _
    cases fe ρ1 with
    | ok b ρ2 => rfl
    | _ => rfl
  | _ => rfl
def popK (o : Option D) (l : L) (es : List D) (i : Nat) (ρ : En) : R D := match o with
  | some d => .ok d (ρ.set i (some (l.put es)))
  | none => .no
@[simp] theorem popK_some (d : D) (l : L) (es : List D) (i : Nat) (ρ : En) : popK (some d) l es i ρ = .ok d (ρ.set i (some (l.put es))) := rfl
@[simp] theorem dPop_eq (i : Nat) (ρ : En) : dPop i ρ = mineK ρ[i]? fun _ _ => mineK ρ[i]? fun l ds => popK ds[ds.length - 1]? l ds.dropLast i ρ := by
  unfold dPop
  rw [atMine_eq]
  rfl
@[simp] theorem dClear_eq (i : Nat) (ρ : En) : dClear i ρ = mineK ρ[i]? fun _ _ => mineK ρ[i]? fun l _ => .ok .nx (ρ.set i (some (l.put []))) := by
  unfold dClear
  rw [atMine_eq]
  rfl
end Dn
/-! max(xs, default=d): the kit's walk of max, turned to the call with that keyword -/
namespace DnMax
open PySem PySem.Spec
open Sem (wp)
section
variable {prog : Program} {w : World} {A : Around} {R : Result → Shared → Prop} {I : Addr} {fp wr : List Addr} {n : Nat} {P : Nat → Value → Prop} {St : Nat → Heap → Prop} {dv : Value}
abbrev kwD (dv : Value) : List (Str × Value) := [(Str.ofString "default", dv)]
theorem loop (W : Walks prog w A.in1 I fp wr n P St) (bt : Nat → Nat → Bool) (hcmp : CmpOf prog w A.in1 .Gt P bt) (S : Addr) (hSf : S ∉ fp) :
    ∀ (k j : Nat) (s : Shared) (vb : Value) (c : Nat), n - (j + 1) = k → j + 1 ≤ n → St (j + 1) s.heap → P (argBest bt j) vb →
    s.heap.get? S = some { cls := .type "list", dict := none, data := .seq #[vb, vb] c, slots := #[] } →
    (∀ v h' tk, P (argBest bt (n - 1)) v → (∀ b o, b ∉ wr → b ≠ S → s.heap.get? b = some o → h'.get? b = some o) → R (.ok (.ret v)) { s with heap := h', toks := tk }) →
    codeAny (model prog w) A (.builtin "max.loop" ⟨[.ref I, .none, .ref S], kwD dv⟩) R s := by
  have hSw : S ∉ wr := fun h => hSf (W.sub _ h)
  have hname : (toString "max" ++ toString ".loop" : String) = "max.loop" := by decide
  intro k
  induction k with
  | zero =>
    intro j s vb c hk hj hst hPb hS hR
    have hin : j + 1 = n := by omega
    refine codeAny_builtin F.entry_max_loop ?_
    rw [Around.under_plainId F.plain_max_loop _]
    show wpAny _ A.in1 (seqItems? (.ref S) >>= _) _ _ s
    refine wpAny_bind (wpAny_seqItems hS rfl ?_)
    show wpAny _ A.in1 (tryCatch (pyNext (.ref I)) _ >>= _) _ _ s
    refine wpAny_bind (wpAny_tryCatch (W.done s _ _ (hin ▸ hst) fun h' tk hk' => ?_))
    have hS' := hk' S _ hSw hS
    show wpAny _ A.in1 (updateSeq S (fun _ => #[]) >>= _) _ _ _
    refine wpAny_bind ?_
    refine wpAny_updateSeq hS' rfl (wpAny_bind (wpAny_letGo (wpAny_pure ?_)))
    refine hR vb _ tk (by rw [← hin]; exact hPb) fun b o hbw hbS e => (Heap.get?_update_other _ _ (Ne.symm hbS)).trans (hk' b o hbw e)
  | succ k ih =>
    intro j s vb c hk hj hst hPb hS hR
    have hlt : j + 1 < n := by omega
    refine codeAny_builtin F.entry_max_loop ?_
    rw [Around.under_plainId F.plain_max_loop _]
    show wpAny _ A.in1 (seqItems? (.ref S) >>= _) _ _ s
    refine wpAny_bind (wpAny_seqItems hS rfl ?_)
    show wpAny _ A.in1 (tryCatch (pyNext (.ref I)) _ >>= _) _ _ s
    refine wpAny_bind (wpAny_tryCatch (W.item (j + 1) s _ _ hlt hst fun v h' tk hP hst' hk' => ?_))
    have hS' := hk' S _ hSw hS
    show wpAny _ A.in1 (tryCatch (holding [v, v] (richCompare .Gt v vb >>= _)) _ >>= _) _ _ _
    refine wpAny_bind (wpAny_tryCatch (wpAny_holding (wpAny_bind (hcmp (j + 1) (argBest bt j) v vb _ _ _ hP hPb ?_))))
    refine wpAny_bind (wpAny_holding (wpAny_truthy_bool ?_))
    refine wpAny_bind (wpAny_letGo (wpAny_pure ?_))
    cases hb : bt (j + 1) (argBest bt j) with
    | true =>
      simp only [if_true]
      refine wpAny_bind ?_
      refine wpAny_updateSeq hS' rfl (wpAny_bind (wpAny_letGo ?_))
      rw [hname]
      refine wpAny_pure ⟨plainId_quiet F.plain_max_loop _, ih (j + 1) _ v _ (by omega) hlt (W.frame _ _ _ hst' fun b hbf o e => ?_) (by simp only [argBest, hb, if_true]; exact hP) (Heap.get?_update_self _ hS' rfl)
        fun v' h'' tk'' hP' hk'' => ?_⟩
      · exact (Heap.get?_update_other _ _ (fun h : S = b => hSf (by rw [h]; exact hbf))).trans e
      · exact hR v' h'' tk'' hP' fun b o hbw hbS e => hk'' b o hbw hbS ((Heap.get?_update_other _ _ (Ne.symm hbS)).trans (hk' b o hbw e))
    | false =>
      simp only [Bool.false_eq_true, if_false]
      refine wpAny_bind (wpAny_letGo ?_)
      rw [hname]
      refine wpAny_pure ⟨plainId_quiet F.plain_max_loop _, ih (j + 1) _ vb c (by omega) hlt hst' (by simp only [argBest, hb, Bool.false_eq_true, if_false]; exact hPb) hS' fun v' h'' tk'' hP' hk'' => ?_⟩
      exact hR v' h'' tk'' hP' fun b o hbw hbS e => hk'' b o hbw hbS (hk' b o hbw e)
theorem first (W : Walks prog w A.in1 I fp wr n P St) (bt : Nat → Nat → Bool) (hcmp : CmpOf prog w A.in1 .Gt P bt) (S : Addr) (hSf : S ∉ fp) {s : Shared} {c : Nat} (hst : St 0 s.heap)
    (hS : s.heap.get? S = some { cls := .type "list", dict := none, data := .seq #[] c, slots := #[] })
    (h0 : n = 0 → ∀ h' tk, (∀ b o, b ∉ wr → b ≠ S → s.heap.get? b = some o → h'.get? b = some o) → R (.ok (.ret dv)) { s with heap := h', toks := tk })
    (hR : 0 < n → ∀ v h' tk, P (argBest bt (n - 1)) v → (∀ b o, b ∉ wr → b ≠ S → s.heap.get? b = some o → h'.get? b = some o) → R (.ok (.ret v)) { s with heap := h', toks := tk }) :
    codeAny (model prog w) A (.builtin "max.loop" ⟨[.ref I, .none, .ref S], kwD dv⟩) R s := by
  have hSw : S ∉ wr := fun h => hSf (W.sub _ h)
  have hname : (toString "max" ++ toString ".loop" : String) = "max.loop" := by decide
  refine codeAny_builtin F.entry_max_loop ?_
  rw [Around.under_plainId F.plain_max_loop _]
  show wpAny _ A.in1 (seqItems? (.ref S) >>= _) _ _ s
  refine wpAny_bind (wpAny_seqItems hS rfl ?_)
  show wpAny _ A.in1 (tryCatch (pyNext (.ref I)) _ >>= _) _ _ s
  by_cases hn : 0 < n
  · refine wpAny_bind (wpAny_tryCatch (W.item 0 s _ _ hn hst fun v h' tk hP hst' hk' => ?_))
    have hS' := hk' S _ hSw hS
    show wpAny _ A.in1 (updateSeq S (fun _ => #[v, v]) >>= _) _ _ _
    refine wpAny_bind ?_
    refine wpAny_updateSeq hS' rfl ?_
    rw [hname]
    refine wpAny_pure ⟨plainId_quiet F.plain_max_loop _, loop W bt hcmp S hSf _ 0 _ v _ rfl hn (W.frame _ _ _ hst' fun b hbf o e => ?_) hP (Heap.get?_update_self _ hS' rfl) fun v' h'' tk'' hP' hk'' => ?_⟩
    · exact (Heap.get?_update_other _ _ (fun h : S = b => hSf (by rw [h]; exact hbf))).trans e
    · exact hR hn v' h'' tk'' hP' fun b o hbw hbS e => hk'' b o hbw hbS ((Heap.get?_update_other _ _ (Ne.symm hbS)).trans (hk' b o hbw e))
  · have hz : 0 = n := by omega
    refine wpAny_bind (wpAny_tryCatch (W.done s _ _ (hz ▸ hst) fun h' tk hk' => ?_))
    show wpAny _ A.in1 (rule _ >>= _) _ _ _
    refine wpAny_bind (wpAny_rule (wpAny_pure ?_))
    exact h0 hz.symm h' tk fun b o hbw _ e => hk' b o hbw e
end
end DnMax
namespace DnMax
open PySem PySem.Spec
open Sem (wp)
theorem args_maxD (a d : Value) : argsOk "max" ⟨[a], kwD d⟩ := by unfold argsOk; kernel_rfl
section
variable {prog : Program} {w : World} {A : Around} {E : Value → Shared → Prop} {s : Shared} {dv : Value}
theorem call_walk {x : Value} {Q : Value → Shared → Prop}
    (h : wpAny (model prog w) A.in1 (pyIter x) (fun it s₂ => ∃ I fp wr n P St bt, it = .ref I ∧ Walks prog w A.in1 I fp wr n P St ∧ St 0 s₂.heap ∧ (∀ b ∈ fp, b < s₂.heap.objs.size) ∧ CmpOf prog w A.in1 .Gt P bt ∧
      (n = 0 → ∀ h' tk, (∀ b o, b ∉ wr → s₂.heap.get? b = some o → h'.get? b = some o) → Q dv { s₂ with heap := h', toks := tk }) ∧
      (0 < n → ∀ v h' tk, P (argBest bt (n - 1)) v → (∀ b o, b ∉ wr → s₂.heap.get? b = some o → h'.get? b = some o) → Q v { s₂ with heap := h', toks := tk })) E s) :
    wpAny (model prog w) A (call (.builtin "max") [x] (kwD dv)) Q E s := by
  have hname : (toString "max" ++ toString ".loop" : String) = "max.loop" := by decide
  have hc : wpAny (model prog w) A.in1 (Builtin.«max» ⟨[x], kwD dv⟩) (fun fin s' => match fin with
      | .done f => (match (Except.ok f : Result) with | .ok (.ret v) => Q v s' | .ok _ => False | .error e => E e s')
      | .again c' => c'.quiet = true ∧ codeAny (model prog w) A c' (fun r s' => match r with | .ok (.ret v) => Q v s' | .ok _ => False | .error e => E e s') s') E s := by
    show wpAny _ A.in1 (Builtin.Builtins.bindParams "max" ["key", "default"] 0 ⟨[], kwD dv⟩ >>= _) _ _ s
    refine wpAny_bind (wpAny_of_eq (show Builtin.Builtins.bindParams "max" ["key", "default"] 0 ⟨[], kwD dv⟩ = pure [none, some dv] from rfl) ?_)
    refine wpAny_bind (wpAny_pure ?_)
    refine wpAny_bind (wpAny_mono h (fun it s₂ h₂ => ?_) fun _ _ e => e)
    obtain ⟨I, fp, wr, n, P, St, bt, rfl, W, hst, hfp, hcmp, hQ0, hQ⟩ := h₂
    refine wpAny_bind (wpAny_newObj_type ?_)
    have hSf : s₂.heap.objs.size ∉ fp := fun hm => Nat.lt_irrefl _ (hfp _ hm)
    rw [hname]
    refine wpAny_pure ⟨plainId_quiet F.plain_max_loop _, first W bt hcmp s₂.heap.objs.size hSf (W.frame _ _ _ hst fun b _ o e => Heap.get?_push_of_some _ e) (Heap.get?_push_size _ rfl) (fun hn h' tk hk => ?_) (fun hn v h' tk hP hk => ?_)⟩
    · exact hQ0 hn h' tk fun b o hbw e => hk b o hbw (Nat.ne_of_lt (Heap.lt_size e)) (Heap.get?_push_of_some _ e)
    · exact hQ hn v h' tk hP fun b o hbw e => hk b o hbw (Nat.ne_of_lt (Heap.lt_size e)) (Heap.get?_push_of_some _ e)
  have ha := args_maxD x dv
  refine wpAny_call (codeAny_call_builtin F.plain_max F.entry_max ?_)
  simp only [checkBuiltinCall, F.kind_max]
  cases hsig : Manifest.signature? "max" with
  | none => exact wpAny_pure hc
  | some sig =>
    simp only [argsOk, hsig] at ha
    have h2 : Bind.checkArgs "max" sig ⟨[x], kwD dv⟩ = pure () := ha
    show wpAny _ A.in1 (Bind.checkArgs "max" sig ⟨[x], kwD dv⟩) _ _ s
    rw [h2]; exact wpAny_pure hc
end
end DnMax
namespace Dn
open PySem PySem.Spec PyProof.Rows L2
/-- max(xs, default=d) of a list of ints -/
def rMaxDf (K : PySem.W.Frag) : List V → List V → Hp → VK → Prop := fun vs zs H Q => ∃ (a : Addr) (ns : List Int) (z : V), vs = [V.ref a] ∧ zs = [z] ∧ SqL K H a (ns.map V.int) ∧ (ns = [] → Q z H) ∧ ∀ m, m ∈ ns → (∀ y, y ∈ ns → y ≤ m) → Q (.int m) H
theorem cr_maxDf {X : Cx} (hc : X.calm = true) : CallRK X (.builtin "max") [Str.ofString "default"] (rMaxDf X.K) := by
  intro pins s σ H vs zs us ws Q I r rz h
  obtain ⟨a, ns, z, rfl, rfl, hs, q0, q⟩ := h
  obtain ⟨its, rv, hl, _⟩ := I.list hs
  rw [Vals.ref1 r]
  obtain ⟨dv, rfl, rd⟩ := vals1 rz
  have hi := rv.ints
  obtain ⟨xs, e⟩ := hi.allInts.items
  have hn : numsOf (intItems xs).toList = ns := by rw [← e]; exact hi.numsOf
  rw [nums_intItems] at hn
  subst hn
  have hl' := hl.isList
  rw [e] at hl'
  show wpAny _ _ (call (.builtin "max") [.ref a] (DnMax.kwD dv)) _ _ s
  refine DnMax.call_walk (iter_intList hl' fun s₂ e2 st hfp hlI => ?_)
  subst e2
  refine ⟨_, _, _, _, _, _, _, rfl, Walks.list (A := X.A.in1) (I.ok.hd hc) _ a hlI (intItems xs), st, hfp, CmpOf.ints_gt (numAt xs) (fun _ _ => intItems_at), fun h0 h' tk hk => ?_, fun hn0 v h' tk hP hk => ?_⟩
  · have hz : xs.size = 0 := by simpa [intItems] using h0
    refine ⟨z, H, I.kept (old_kept hk), rd, q0 ?_⟩
    apply List.eq_nil_of_length_eq_zero
    rw [List.length_map, Array.length_toList, hz]
  · have hz : 0 < xs.size := by simpa [intItems] using hn0
    have hP' : (intItems xs)[argBest (fun i j => decide (numAt xs i > numAt xs j)) (xs.size - 1)]? = some v := by simpa [intItems] using hP
    obtain ⟨t, rfl⟩ := intItems_at hP'
    obtain ⟨h1, h2⟩ := argBest_gt (numAt xs) (xs.size - 1)
    refine ⟨.int _, H, I.kept (old_kept hk), ⟨_, rfl⟩, q _ ?_ fun y hy => ?_⟩
    · rw [numAt_eq]; exact PySem.getD_mem (by rw [List.length_map, Array.length_toList]; omega)
    · obtain ⟨j, hj, rfl⟩ := mem_getD hy
      rw [List.length_map, Array.length_toList] at hj
      rw [← numAt_eq]; exact h2 j (by omega)
def gMaxDf : D → D → Option D
  | .list ds, z => (allOf asInt ds).bind fun ns => some (match ns.max? with | some m => .int m | none => z)
  | _, _ => none
section
variable {X : Cx} {w : Wh} {p pos kpos : Pos} {e d : Expr} {fe fd : En → R D}
theorem ve_maxDf (hc : X.calm = true) (hg : Gl X "max") (hm : X.mg "max" = none) (he : VE X w e fe) (hd : VE X w d fd)
    (hs : starEach [e] X.env = (false, eval e X.env) :: starEach [] X.env := by rfl) (hpl : (backTo pos (starEach [e] X.env)).any (·.1) = false := by rfl) (hb : backTo pos (starEach [e] X.env) = (false, eval e X.env) :: backTo pos (starEach [] X.env) := by rfl)
    (hall : (backToKw pos (keywordEach [⟨some (Str.ofString "default"), d, kpos⟩] X.env)).all (·.1.isSome) = true := by rfl) (hnone : (backToKw pos (keywordEach [⟨some (Str.ofString "default"), d, kpos⟩] X.env)).any (·.1.isNone) = false := by rfl) (hks : (backToKw pos (keywordEach [⟨some (Str.ofString "default"), d, kpos⟩] X.env)).filterMap (·.1) = [Str.ofString "default"] := by rfl) :
    VE X w (.Call (.Name "max" p) [e] [⟨some (Str.ofString "default"), d, kpos⟩] pos) (dOp gMaxDf fe fd) :=
  PE.imp (pe_callBK (cr_maxDf hc) hg hm boot_B_max (pa_cons he pa_nil hs) (pk_cons hd pk_nil) (by decide) (by decide) hb hpl hall hnone hks) fun σ H Q ⟨G, ρ, rel, h⟩ => ⟨G, ρ, rel, (Fn.bind rel h).imp fun G1 H1 ρ1 dx ⟨r1, s1, h1⟩ x hx => ⟨G1, ρ1, r1, (Fn.bind r1 h1).imp fun G2 H2 ρ2 dz ⟨r2, s2, h2⟩ z hz => by
    obtain ⟨dd, e1, q⟩ := Fn.lift h2
    cases dx with
    | list ds =>
      simp only [gMaxDf, Option.bind_eq_some_iff] at e1
      obtain ⟨ns, e1, e2⟩ := e1
      cases e2
      obtain ⟨a, vs, rfl, hl, hds⟩ := (hx.mono s2.g).lst'
      rw [mapM_ints e1] at hds
      rw [hds.ints] at hl
      refine ⟨a, ns, z, rfl, rfl, r2.sub.seq hl, fun hn => ?_, fun k hk hle => ?_⟩
      · subst hn
        exact q _ _ r2 Stp.refl _ hz
      · have hm : ns.max? = some k := by
          rw [List.max?_eq_some_iff]
          exact ⟨hk, fun b hb => hle b hb⟩
        rw [hm] at q
        exact q _ _ r2 Stp.refl _ (.int _)
    | _ => cases e1⟩⟩
end
@[simp] theorem gMaxDf_list (ds : List D) (z : D) : gMaxDf (.list ds) z = (allOf asInt ds).bind fun ns => some (match ns.max? with | some m => .int m | none => z) := rfl
end Dn
namespace Dn
open PySem PySem.Spec PyProof.Rows L2
section
variable {X : Cx} {w : Wh} {pos p p2 : Pos} {e a b : Expr} {fe fa fb : En → R D}
/-! {} -/
theorem ve_dict0 : VE X w (.Dict [] [] pos) (dC (.dict [])) := PE.imp pe_dnewK fun σ H Q ⟨G, ρ, rel, h⟩ =>
  hand_new rel (fun G' H' r s v hv => h G' H' r s v hv) fun q hq => by
    have := DR.dic (K := X.K) (H := upd G q (.dK [])) (a := q) (kvs := []) (ds := []) upd_same .nil
    exact this
/-! == () of a tuple of any things -/
def gEqT (a b : D) : Option Bool := match gEq a b with
  | some r => some r
  | none => match a, b with
    | .tuple xs, .tuple [] => some xs.isEmpty
    | _, _ => none
def gNeT (a b : D) : Option Bool := (gEqT a b).map (!·)
def rEqT0 (K : PySem.W.Frag) : R2 := fun x y H Q => ∃ l m xs, x = .ref l ∧ y = .ref m ∧ SqT K H l xs ∧ SqT K H m [] ∧ Q (.bl xs.isEmpty) H
theorem op_eqT0 (hu : X.A.units + 64 < cLine) : OpR X (compareOp .Eq) (rEqT0 X.K) := by
  intro pins s σ H x y v u Q I rx ry h
  obtain ⟨l, m, xs, rfl, rfl, h1, h2, q⟩ := h
  cases rx
  cases ry
  obtain ⟨its, r, pl, _⟩ := I.tuple h1
  obtain ⟨its2, r2, pl2, _⟩ := I.tuple h2
  cases r2
  refine SeqAt.eq_tupleAt (e := fun _ => true) pl pl2 (by omega) (fun j _ h2 => by simp at h2) ⟨.bl xs.isEmpty, H, I, ?_, q⟩
  have : xs.length = its.length := r.length
  show Value.bool _ = Value.bool _
  congr 1
  cases xs with
  | nil => cases its with
    | nil => rfl
    | cons _ _ => cases this
  | cons _ _ => cases its with
    | nil => cases this
    | cons _ _ => rfl
theorem op_eqT (hu : X.A.units + 64 < cLine) : OpR X (compareOp .Eq) (fun x y H Q => rEqD X.K x y H Q ∨ rEqT0 X.K x y H Q) := (op_eqD hu).or (op_eqT0 hu)
theorem ob_eqT : OpB X.K (fun x y H Q => rEqD X.K x y H Q ∨ rEqT0 X.K x y H Q) gEqT := fun x y dx dy b H Q hx hy e q => by
  unfold gEqT at e
  cases q1 : gEq dx dy with
  | some r =>
    rw [q1] at e; cases e
    exact .inl (ob_eq x y dx dy b H Q hx hy q1 q)
  | none =>
    rw [q1] at e
    cases dx with
    | tuple xs =>
      cases dy with
      | tuple ys =>
        cases ys with
        | nil =>
          cases e
          cases hx with
          | tup hq hs =>
            cases hy with
            | tup hq2 hs2 =>
              cases hs2
              refine .inr ⟨_, _, _, rfl, rfl, hq, hq2, ?_⟩
              rw [hs.emp]; exact q
        | cons _ _ => cases e
      | _ => cases e
    | _ => cases dy <;> cases e
@[simp] theorem gEqT_nil (xs : List D) : gEqT (.tuple xs) (.tuple []) = some xs.isEmpty := by
  unfold gEqT
  cases q : gEq (.tuple xs) (.tuple []) with
  | none => rfl
  | some r =>
    unfold gEq at q
    split at q
    · cases q
      cases xs <;> simp [PyData.eqv, PyData.eqvAll]
    · cases q
/-! xs[::-1] -/
def gRev : D → Option D
  | .list ds => some (.list ds.reverse)
  | _ => none
theorem ve_rev {k : Nat} {p1 p2 p3 : Pos} (he : VE X w e fe) : VE X w (.Subscript e (.Slice none none (some (.UnaryOp .USub (.Constant (.int 1) k p1) p2)) p3) pos) (d1 gRev fe) :=
  PE.imp (pe_revL he) fun σ H Q ⟨G, ρ, rel, h⟩ => ⟨G, ρ, rel, (Fn.bind rel h).imp fun G1 H1 ρ1 dx ⟨r1, s1, h1⟩ x hx => by
    obtain ⟨d, e, q⟩ := Fn.lift h1
    cases hx with
    | @lst a xs ds hq hds =>
      cases e
      exact ⟨a, xs, rfl, r1.sub.seq hq, hand_new r1 q (DR.newL r1 hds.reverse)⟩
    | _ => cases e⟩
/-! text * int -/
def repS (a : Str) (n : Int) : Str := if n < 1 then Str.empty else if (n == 1 || a.length == 0) = true then a else ⟨(List.replicate n.toNat a.cps).foldl (· ++ ·) #[]⟩
def gMulS : D → D → Option D
  | .str a, .int n => if 0 ≤ n ∧ n ≤ 10000 ∧ a.length ≤ 1000 then some (.str (repS a n)) else none
  | _, _ => none
def rMulS : R2 := fun x y H Q => ∃ a n, x = .str a ∧ y = .int n ∧ (0 ≤ n ∧ n ≤ 10000 ∧ a.length ≤ 1000) ∧ Q (.str (repS a n)) H
theorem rep_fold {α : Type} (c : Array α) : ∀ (k : Nat) (z : Array α), (List.replicate k c).foldl (· ++ ·) z = z ++ (List.replicate k c.toList).flatten.toArray
  | 0, z => by simp
  | k + 1, z => by
    rw [List.replicate_succ, List.foldl_cons, rep_fold c k, List.replicate_succ, List.flatten_cons]
    apply Array.ext'
    simp
theorem rep_size {α : Type} (c : Array α) (k : Nat) : ((List.replicate k c).foldl (· ++ ·) #[]).size = k * c.size := by
  rw [rep_fold]
  simp
theorem op_mulS : OpR X (binaryOp .Mult) rMulS := by
  intro pins s σ H x y v u Q I rx ry h
  obtain ⟨a, n, rfl, rfl, ⟨h0, h1, h2⟩, q⟩ := h
  obtain ⟨t, rfl⟩ := rx
  obtain ⟨t', rfl⟩ := ry
  have hm : a.length * n.toNat ≤ 10000000 := by
    have : a.length * n.toNat ≤ 1000 * 10000 := Nat.mul_le_mul h2 (by omega)
    omega
  have tl : ∀ m : Nat, m ≤ 10000000 → Builtin.Str.tooLong m = false := fun m hm => by
    unfold Builtin.Str.tooLong
    exact decide_eq_false (by have := PySem.sizeLine_eq; omega)
  refine P.mul_str (by simp; omega) (fun h3 _ => ?_) (fun _ _ => tl _ hm) ?_
  · have : (a.length : Int) ≤ (2 ^ 63 - 1) / n := by
      rw [Int.le_ediv_iff_mul_le (by omega)]
      have : (a.length : Int) * n ≤ 1000 * 10000 := Int.mul_le_mul (by omega) h1 h0 (by decide)
      omega
    omega
  · unfold repS at q
    split
    · rw [if_pos (by assumption)] at q
      exact ⟨Nat.zero_le _, .str Str.empty, H, I.tok _, ⟨_, rfl⟩, q⟩
    · rw [if_neg (by assumption)] at q
      split
      · rw [if_pos (by assumption)] at q
        exact ⟨.str a, H, I, ⟨_, rfl⟩, q⟩
      · rw [if_neg (by assumption)] at q
        refine ⟨?_, .str _, H, I.tok _, ⟨_, rfl⟩, q⟩
        have := PySem.sizeLine_eq
        show Array.size _ ≤ _
        rw [rep_size]
        have e : a.cps.size = a.length := rfl
        rw [e, Nat.mul_comm]
        simp
        omega
theorem gMulS_S {a : List Nat} {n : Nat} (h : n ≤ 10000) (h2 : a.length ≤ 1000) : gMulS (.str (SX.S a)) (.int (n : Int)) = some (.str (SX.S (List.replicate n a).flatten)) := by
  show (if _ then _ else _) = _
  rw [if_pos ⟨by omega, by omega, by rw [SX.S_len]; exact h2⟩]
  congr 2
  unfold repS
  by_cases h0 : n = 0
  · subst h0; rfl
  · rw [if_neg (by omega)]
    split
    · rename_i h1
      simp only [Bool.or_eq_true, beq_iff_eq] at h1
      rcases h1 with h1 | h1
      · have : n = 1 := by omega
        subst this; simp
      · rw [SX.S_len] at h1
        have : a = [] := List.length_eq_zero_iff.mp h1
        subst this
        congr 1
        induction n with
        | zero => rfl
        | succ n ih => simp
    · rw [Int.toNat_natCast]
      show (⟨_⟩ : Str) = _
      rw [rep_fold]
      apply congrArg Str.mk
      apply Array.ext'
      simp [SX.S]
theorem os_mulS {K : PySem.W.Frag} : OpS K rMulS gMulS := by
  intro w x y dx dy d G H σ ρ Q r hx hy e q
  cases dx with
  | str a =>
    cases dy with
    | int n =>
      simp only [gMulS] at e
      split at e
      · cases e; cases hx; cases hy
        exact ⟨a, n, rfl, rfl, by assumption, q _ _ r Stp.refl _ (.str _)⟩
      · cases e
    | _ => cases e
  | _ => cases dy <;> cases e
theorem ve_mulS (ha : VE X w a fa) (hb : VE X w b fb) : VE X w (.BinOp a .Mult b pos) (dOp gMulS fa fb) := ve_op op_mulS os_mulS ha hb
end
end Dn
namespace Dn
open PySem PySem.Spec PyProof.Rows L2
/-! ### dicts that are written -/
section
variable {K : PySem.W.Frag} {G H G0 H0 : Hp} {σ : L2.St} {ρ ρ0 : En}
/-- what stands and is nobody's becomes data -/
theorem Rel.fixO (r : Rel K G H σ ρ) {p : Addr} {o : HO} (hg : G p = none) (ho : ¬ Own H σ ρ p) (hp : H p = some o) : Rel K (upd G p o) H σ ρ :=
  (r.keep (G' := upd G p o) (H' := H) (fun b x e => by rw [upd_ne (ne_of_none e hg)]; exact e) (fun b x e => by
    by_cases hb : b = p
    · subst hb; rw [upd_same] at e; cases e; exact hp
    · rw [upd_ne hb] at e; exact r.sub b x e) (fun a h => by
    have : a ≠ p := fun z => by subst z; exact ho h
    rw [upd_ne this]; exact (r.own h).1) (fun _ _ => rfl)).1
theorem Stp.fixO (s : Stp G0 H0 σ ρ0 G H σ ρ) {p : Addr} {o : HO} (hg : G p = none) (hp : H0 p = none) : Stp G0 H0 σ ρ0 (upd G p o) H σ ρ := by
  have sg : Same G (upd G p o) := fun b x e => by rw [upd_ne (ne_of_none e hg)]; exact e
  refine ⟨s.g.trans sg, s.h, fun a h => ?_, s.ow, s.tr, s.ln, s.bo, s.bt⟩
  by_cases ha : a = p
  · subst ha; exact .inr (.inl hp)
  · rw [upd_ne ha] at h; exact s.fr a h
/-! keys and data -/
inductive KDs (K : PySem.W.Frag) (G : Hp) : List (Key × V) → List (Key × D) → Prop
  | nil : KDs K G [] []
  | cons {k : Key} {v : V} {d : D} {a : List (Key × V)} {b : List (Key × D)} : DR K G v d → KDs K G a b → KDs K G ((k, v) :: a) ((k, d) :: b)
theorem KDs.mono {G G' : Hp} (s : Same G G') : ∀ {a : List (Key × V)} {b : List (Key × D)}, KDs K G a b → KDs K G' a b
  | _, _, .nil => .nil
  | _, _, .cons h t => .cons (h.mono s) (KDs.mono s t)
def putKD (kds : List (Key × D)) (k : Key) (d : D) : List (Key × D) :=
  if (kds.any fun p => decide (p.1 = k)) = true then kds.map (fun p => if p.1 = k then (p.1, d) else p) else kds ++ [(k, d)]
def mergeKD (kds more : List (Key × D)) : List (Key × D) := more.foldl (fun acc p => putKD acc p.1 p.2) kds
theorem KDs.any {k : Key} : ∀ {a : List (Key × V)} {b : List (Key × D)}, KDs K G a b → (a.any fun p => decide (p.1 = k)) = b.any fun p => decide (p.1 = k)
  | _, _, .nil => rfl
  | _, _, .cons h t => by rw [List.any_cons, List.any_cons, KDs.any t]
theorem KDs.repl {k : Key} {v : V} {d : D} (hv : DR K G v d) : ∀ {a : List (Key × V)} {b : List (Key × D)}, KDs K G a b → KDs K G (a.map fun p => if p.1 = k then (p.1, v) else p) (b.map fun p => if p.1 = k then (p.1, d) else p)
  | _, _, .nil => .nil
  | _, _, @KDs.cons _ _ k' v' d' a b h t => by
    rw [List.map_cons, List.map_cons]
    by_cases e : k' = k
    · rw [if_pos e, if_pos e]; exact .cons hv (KDs.repl hv t)
    · rw [if_neg e, if_neg e]; exact .cons h (KDs.repl hv t)
theorem KDs.app {k : Key} {v : V} {d : D} (hv : DR K G v d) : ∀ {a : List (Key × V)} {b : List (Key × D)}, KDs K G a b → KDs K G (a ++ [(k, v)]) (b ++ [(k, d)])
  | _, _, .nil => .cons hv .nil
  | _, _, .cons h t => .cons h (KDs.app hv t)
theorem KDs.put {k : Key} {v : V} {d : D} (hv : DR K G v d) {a : List (Key × V)} {b : List (Key × D)} (h : KDs K G a b) : KDs K G (putK a k v) (putKD b k d) := by
  unfold putK putKD
  rw [h.any]
  split
  · exact h.repl hv
  · exact h.app hv
theorem KDs.merge : ∀ {m : List (Key × V)} {n : List (Key × D)}, KDs K G m n → ∀ {a : List (Key × V)} {b : List (Key × D)}, KDs K G a b → KDs K G (mergeK a m) (mergeKD b n)
  | _, _, .nil, _, _, h => h
  | _, _, .cons hv t, _, _, h => KDs.merge t (h.put hv)
theorem KDs.drs : ∀ {a : List (Key × V)} {b : List (Key × D)}, KDs K G a b → DRs K G (a.map (·.2)) (b.map (·.2)) ∧ ((a.map fun p => kD p.1).zip (b.map (·.2))) = b.map fun p => (kD p.1, p.2)
  | _, _, .nil => ⟨.nil, rfl⟩
  | _, _, .cons h t => ⟨.cons h (KDs.drs t).1, by simp [(KDs.drs t).2]⟩
def dictD (kds : List (Key × D)) : D := .dict (kds.map fun p => (kD p.1, p.2))
theorem DR.dictD {a : Addr} {kvs : List (Key × V)} {kds : List (Key × D)} (h : H a = some (.dK kvs)) (k : KDs K H kvs kds) : DR K H (.ref a) (dictD kds) := by
  have := DR.dic h (KDs.drs k).1
  rw [(KDs.drs k).2] at this
  exact this
end
def asKey : D → Option Key
  | .int i => some (.inl i)
  | .str s => some (.inr s)
  | _ => none
def dPairs : List ((En → R D) × (En → R D)) → En → R (List (Key × D))
  | [], ρ => .ok [] ρ
  | (fk, fv) :: r, ρ => (fk ρ).bind fun k ρ1 => (fv ρ1).bind fun v ρ2 => (lift (asKey k) ρ2).bind fun k' ρ3 => (dPairs r ρ3).bind fun ps ρ4 => .ok ((k', v) :: ps) ρ4
def dDisp (fs : List ((En → R D) × (En → R D))) : En → R D := fun ρ => (dPairs fs ρ).bind fun ps ρ1 => if ps.length ≤ 15 then .ok (dictD (mergeKD [] ps)) ρ1 else .no
section
variable {X : Cx} {w : Wh} {pos : Pos}
abbrev VPs (X : Cx) (w : Wh) (pos : Pos) (keys : List (Option Expr)) (values : List Expr) (fs : List ((En → R D) × (En → R D))) : Prop := PPs X pos keys values (fs.map fun p => (teD X.K w p.1, teD X.K w p.2))
theorem vps_nil : VPs X w pos [] [] [] := pps_nil
theorem vps_cons {k v : Expr} {ks : List (Option Expr)} {vs : List Expr} {fk fv : En → R D} {fs : List ((En → R D) × (En → R D))} (hk : VE X w k fk) (hv : VE X w v fv) (hr : VPs X w pos ks vs fs) : VPs X w pos (some k :: ks) (v :: vs) ((fk, fv) :: fs) := pps_cons hk hv hr
theorem tPairs_of : ∀ (fs : List ((En → R D) × (En → R D))) {G H : Hp} {σ : L2.St} {ρ : En} {Q : List (V × V) → Hp → Prop}, Rel X.K G H σ ρ → Fn X.K w G H σ ρ (dPairs fs ρ) (fun G1 H1 ρ1 ps => Rel X.K G1 H1 σ ρ1 → Stp G H σ ρ G1 H1 σ ρ1 → ∀ kvs, KDs X.K G1 kvs ps → Q (kvs.map fun p => (kV p.1, p.2)) H1) →
    tPairs (fs.map fun p => (teD X.K w p.1, teD X.K w p.2)) σ H Q
  | [], G, H, σ, ρ, Q, rel, h => by
    have := h G H rel Stp.refl rel Stp.refl [] .nil
    exact this
  | (fk, fv) :: r, G, H, σ, ρ, Q, rel, h => by
    refine ⟨G, ρ, rel, (Fn.bind rel h).imp fun G1 H1 ρ1 k ⟨r1, s1, h1⟩ x hx => ⟨G1, ρ1, r1, (Fn.bind r1 h1).imp fun G2 H2 ρ2 v ⟨r2, s2, h2⟩ y hy => ?_⟩⟩
    have h3 := Fn.bind r2 h2
    obtain ⟨k', ek, h4⟩ := Fn.lift h3
    obtain ⟨_, _, h4⟩ := h4 G2 H2 r2 Stp.refl
    refine tPairs_of r r2 ((Fn.bind r2 h4).imp fun G3 H3 ρ3 ps ⟨r3, s3, h5⟩ _ _ kvs hk => ?_)
    have h6 := h5 G3 H3 r3 Stp.refl
    have ex : x = kV k' := by
      cases hx with
      | int i => cases ek; rfl
      | str s => cases ek; rfl
      | _ => cases ek
    have := h6 r3 ((s1.trans rel s2).trans rel s3) ((k', y) :: kvs) (.cons (hy.mono s3.g) hk)
    rw [ex]
    exact this
theorem ve_disp {keys : List (Option Expr)} {values : List Expr} {fs : List ((En → R D) × (En → R D))} (h : VPs X w pos keys values fs) (hall : keys.all (·.isSome) = true := by rfl) (hl : keys.length = values.length := by rfl) (h0 : keys ≠ [] := by exact fun z => nomatch z) (h15 : keys.length ≤ 15 := by decide) : VE X w (.Dict keys values pos) (dDisp fs) :=
  PE.imp (pe_disp h hall hl h0 h15) fun σ H Q ⟨G, ρ, rel, hh⟩ => fun p hp => by
    obtain ⟨r0, s0⟩ := rel.laidM (o := .dK []) hp
    refine tPairs_of fs r0 ?_
    have gp : G p = none := Same.free rel.sub hp
    have h1 : Fn X.K w G H σ ρ ((dPairs fs ρ).bind fun ps ρ1 => if ps.length ≤ 15 then R.ok (dictD (mergeKD [] ps)) ρ1 else .no) (QD X.K Q) := hh
    cases q : dPairs fs ρ with
    | no => rw [q] at h1; exact h1.elim
    | ex c ρ1 => rw [q] at h1; exact fun G' H' cls dx r1 s1 => h1 G' H' cls dx r1 (s0.trans rel s1)
    | ok ps ρ1 =>
      rw [q] at h1
      have h2 : Fn X.K w G H σ ρ (if ps.length ≤ 15 then R.ok (dictD (mergeKD [] ps)) ρ1 else .no) (QD X.K Q) := h1
      intro G1 H1 r1 s1 _ _ kvs hk
      have own0 : ¬ Own (upd H p (.dK [])) σ ρ p := fun z => not_own rel hp ((own_upd rel hp p).mp z)
      have s01 := s0.trans rel s1
      have hp1 : H1 p = some (.dK []) := s1.h p _ upd_same own0
      have gp1 : G1 p = none := by
        cases e : G1 p with
        | none => rfl
        | some o =>
          rcases s1.fr p (by rw [e]; exact fun z => nomatch z) with z | z | z
          · exact absurd gp z
          · rw [upd_same] at z; cases z
          · exact absurd z own0
      have own1 : ¬ Own H1 σ ρ1 p := fun z => by
        rcases s1.ow p z with z | z
        · exact own0 z
        · rw [upd_same] at z; cases z
      split at h2
      · rename_i hl15
        refine ⟨hp1, kvs, rfl, ?_, ?_⟩
        · have : ∀ {a : List (Key × V)} {b : List (Key × D)}, KDs X.K G1 a b → a.length = b.length := fun h => by
            have := (KDs.drs h).1.length
            simpa using this
          rw [this hk]; exact hl15
        · have hm := hk.merge (a := []) (b := []) .nil
          have rU := r1.updN (o := .dK (mergeK [] kvs)) gp1 own1
          have sU : Stp G H σ ρ G1 (upd H1 p (.dK (mergeK [] kvs))) σ ρ1 := s01.updN r1 gp1 own1 hp
          have rF := rU.fixO gp1 (r1.updO gp1 own1) upd_same
          have sF := sU.fixO (o := .dK (mergeK [] kvs)) gp1 hp
          refine h2 _ _ rF sF (.ref p) (DR.dictD upd_same (hm.mono fun b x e => by rw [upd_ne (ne_of_none e gp1)]; exact e))
      · exact h2.elim
/-! d[k] -/
def isKey : Key → D → Bool
  | .inl i, .int j => decide (j = i)
  | .inr s, .str t => decide (t = s)
  | _, _ => false
def gIxK (d k : D) : Option D := match d with
  | .dict ps => (asKey k).bind fun q => (ps.find? fun p => isKey q p.1).map (·.2)
  | _ => none
theorem isKey_kD (q k : Key) : isKey q (kD k) = decide (k = q) := by
  cases q <;> cases k <;> simp [isKey, kD]
theorem find_kds {K : PySem.W.Frag} {G : Hp} {q : Key} {d : D} : ∀ {kvs : List (Key × V)} {ds : List D}, DRs K G (kvs.map (·.2)) ds → (((kvs.map fun p => kD p.1).zip ds).find? fun p => isKey q p.1).map (·.2) = some d → ∃ v, valV kvs q = some v ∧ DR K G v d
  | [], _, _, e => by simp at e
  | (k, v) :: kvs, _, .cons h t, e => by
    by_cases hk : k = q
    · subst hk
      simp [List.find?_cons, isKey_kD] at e
      subst e
      exact ⟨v, by simp [valV], h⟩
    · have hf : (isKey q (kD k)) = false := by rw [isKey_kD]; exact decide_eq_false hk
      simp only [List.map_cons, List.zip_cons_cons, List.find?_cons, hf] at e
      obtain ⟨u, e1, e2⟩ := find_kds t e
      exact ⟨u, by simp only [valV, List.find?_cons, decide_eq_false hk]; exact e1, e2⟩
theorem ve_ixK {a b : Expr} {fa fb : En → R D} (hu : X.A.units + 1 < cLine) (ha : VE X w a fa) (hb : VE X w b fb) (hs : NoSl b := by exact fun _ _ => rfl) : VE X w (.Subscript a b pos) (dOp gIxK fa fb) :=
  PE.imp (pe_dget hu ha hb hs) fun σ H Q ⟨G, ρ, rel, h⟩ => ⟨G, ρ, rel, (Fn.bind rel h).imp fun G1 H1 ρ1 dx ⟨r1, s1, h1⟩ x hx => ⟨G1, ρ1, r1, (Fn.bind r1 h1).imp fun G2 H2 ρ2 dy ⟨r2, s2, h2⟩ y hy => by
    obtain ⟨d, e, q⟩ := Fn.lift h2
    cases hx with
    | @dic a kvs ds hq hds =>
      simp only [gIxK, Option.bind_eq_some_iff] at e
      obtain ⟨k, ek, e⟩ := e
      obtain ⟨v, ev, hv⟩ := find_kds (hds.mono s2.g) e
      have ey : y = kV k := by
        cases hy with
        | int i => cases ek; rfl
        | str s => cases ek; rfl
        | _ => cases ek
      subst ey
      refine ⟨a, v, rfl, ?_, q _ _ r2 Stp.refl v hv⟩
      rw [← ev]
      exact DGet.k (r2.sub _ _ (s2.g _ _ hq))
    | _ => cases e⟩⟩
end
@[simp] theorem dPairs_nil (ρ : En) : dPairs [] ρ = .ok [] ρ := rfl
@[simp] theorem dPairs_cons (fk fv : En → R D) (r : List ((En → R D) × (En → R D))) (ρ : En) : dPairs ((fk, fv) :: r) ρ = (fk ρ).bind fun k ρ1 => (fv ρ1).bind fun v ρ2 => (lift (asKey k) ρ2).bind fun k' ρ3 => (dPairs r ρ3).bind fun ps ρ4 => .ok ((k', v) :: ps) ρ4 := rfl
@[simp] theorem dDisp_eq (fs : List ((En → R D) × (En → R D))) (ρ : En) : dDisp fs ρ = (dPairs fs ρ).bind fun ps ρ1 => if ps.length ≤ 15 then .ok (dictD (mergeKD [] ps)) ρ1 else .no := rfl
@[simp] theorem asKey_str (s : Str) : asKey (.str s) = some (.inr s) := rfl
@[simp] theorem asKey_int (s : Int) : asKey (.int s) = some (.inl s) := rfl
end Dn
namespace Dn
open PySem PySem.Spec PyProof.Rows L2
/-! ### lists within lists that change -/
def subT : Tr → List Nat → Option Tr
  | t, [] => some t
  | .im _, _ :: _ => none
  | .ls ts, k :: p => match ts[k]? with
    | some t => subT t p
    | none => none
def updT : Tr → List Nat → Tr → Tr
  | _, [], x => x
  | .im d, _ :: _, _ => .im d
  | .ls ts, k :: p, x => match ts[k]? with
    | some t => .ls (ts.set k (updT t p x))
    | none => .ls ts
def L.tr : L → Option Tr
  | .ot t => some t
  | .bt t => some t
  | _ => none
def L.putT : L → Tr → L
  | .ot _, t => .ot t
  | .bt _, t => .bt t
  | l, _ => l
@[simp] theorem tr_ot (t : Tr) : (L.ot t).tr = some t := rfl
@[simp] theorem tr_bt (t : Tr) : (L.bt t).tr = some t := rfl
@[simp] theorem putT_ot (t u : Tr) : (L.ot t).putT u = .ot u := rfl
@[simp] theorem putT_bt (t u : Tr) : (L.bt t).putT u = .bt u := rfl
inductive NodeAt (H : Hp) : V → Tr → List Nat → V → Tr → Prop
  | nil {v : V} {t : Tr} : NodeAt H v t [] v t
  | cons {o : Addr} {vs : List V} {ts : List Tr} {k : Nat} {v : V} {t : Tr} {p : List Nat} {v' : V} {t' : Tr} : H o = some (.lst vs) → vs[k]? = some v → ts[k]? = some t → NodeAt H v t p v' t' → NodeAt H (.ref o) (.ls ts) (k :: p) v' t'
section
variable {K : PySem.W.Frag} {G H G' H' : Hp} {σ : L2.St} {ρ : En}
theorem NodeAt.sub {v v' : V} {t t' : Tr} {p : List Nat} (n : NodeAt H v t p v' t') : subT t p = some t' := by
  induction n with
  | nil => unfold subT; rfl
  | cons _ _ e _ ih => unfold subT; rw [e]; exact ih
theorem NodeAt.tr {v v' : V} {t t' : Tr} {p : List Nat} (n : NodeAt H v t p v' t') : TR K G H v t → TR K G H v' t' := by
  induction n with
  | nil => exact fun r => r
  | cons h e1 e2 _ ih =>
    intro r
    cases r with
    | ls g h' l c n d => rw [h] at h'; cases h'; exact ih (c _ _ _ e1 e2)
theorem NodeAt.foot {v v' : V} {t t' : Tr} {p : List Nat} {a : Addr} (n : NodeAt H v t p v' t') (f : Foot H v' t' a) : Foot H v t a := by
  induction n with
  | nil => exact f
  | cons h e1 e2 _ ih => exact .sub h e1 e2 (ih f)
theorem NodeAt.snoc {v : V} {t : Tr} {p : List Nat} {o : Addr} {ts : List Tr} {vs : List V} {k : Nat} {v2 : V} {t2 : Tr} (n : NodeAt H v t p (.ref o) (.ls ts)) (h : H o = some (.lst vs)) (e1 : vs[k]? = some v2) (e2 : ts[k]? = some t2) : NodeAt H v t (p ++ [k]) v2 t2 := by
  generalize hv : V.ref o = w at n
  generalize ht : Tr.ls ts = u at n
  induction n with
  | nil => subst hv; subst ht; exact .cons h e1 e2 .nil
  | cons h' e1' e2' _ ih => exact .cons h' e1' e2' (ih hv ht)
theorem TR.list {v : V} {ts : List Tr} (r : TR K G H v (.ls ts)) : ∃ o vs, v = .ref o ∧ G o = none ∧ H o = some (.lst vs) ∧ vs.length = ts.length := by
  cases r with
  | ls g h l _ _ _ => exact ⟨_, _, rfl, g, h, l⟩
/-- one list within is changed -/
structure Chg (K : PySem.W.Frag) (G : Hp) (vs : List V) (ts : List Tr) (vs' : List V) (ts' : List Tr) : Prop where
  len : vs'.length = ts'.length
  new : ∀ (k : Nat) (v : V) (t : Tr), vs'[k]? = some v → ts'[k]? = some t → (vs[k]? = some v ∧ ts[k]? = some t) ∨ ∃ d, t = .im d ∧ DR K G v d
  old : ∀ (k : Nat) (v : V) (t : Tr), vs[k]? = some v → ts[k]? = some t → (vs'[k]? = some v ∧ ts'[k]? = some t) ∨ ∃ d, t = .im d
theorem TR.updAt {v v' : V} {t t' : Tr} {p : List Nat} {o : Addr} {vs vs' : List V} {ts ts' : List Tr} (n : NodeAt H v t p v' t') (ev : v' = .ref o) (et : t' = .ls ts) (ho : H o = some (.lst vs)) (c : Chg K G vs ts vs' ts') : TR K G H v t →
    TR K G (upd H o (.lst vs')) v (updT t p (.ls ts')) ∧ ∀ a, Foot (upd H o (.lst vs')) v (updT t p (.ls ts')) a ↔ Foot H v t a := by
  induction n with
  | nil =>
    subst ev; subst et
    intro r
    cases r with
    | @ls _ vs0 _ g h l ch nf dj =>
      rw [ho] at h; cases h
      have same : ∀ (k : Nat) (v : V) (t : Tr), vs[k]? = some v → ts[k]? = some t → ∀ a, Foot H v t a → upd H o (.lst vs') a = H a := fun k v t e1 e2 a f => upd_ne fun z => by subst z; exact nf k v t e1 e2 f
      have back : ∀ (k : Nat) (v : V) (t : Tr) (a : Addr), vs'[k]? = some v → ts'[k]? = some t → Foot (upd H o (.lst vs')) v t a → vs[k]? = some v ∧ ts[k]? = some t ∧ Foot H v t a := fun k v t a e1 e2 f => by
        rcases c.new k v t e1 e2 with ⟨f1, f2⟩ | ⟨d, rfl, _⟩
        · exact ⟨f1, f2, f.from (same k v t f1 f2)⟩
        · cases f
      unfold updT
      refine ⟨.ls g upd_same c.len (fun k v t e1 e2 => ?_) (fun k v t e1 e2 f => ?_) (fun j k v u t s a e1 e2 e3 e4 f1 f2 => ?_), fun a => ⟨fun f => ?_, fun f => ?_⟩⟩
      · rcases c.new k v t e1 e2 with ⟨f1, f2⟩ | ⟨d, rfl, hd⟩
        · exact (ch k v t f1 f2).keep (Same.refl _) (fun a f => ((ch k v t f1 f2).foot f).1) (same k v t f1 f2)
        · exact .im hd
      · obtain ⟨f1, f2, f3⟩ := back k v t o e1 e2 f
        exact nf k v t f1 f2 f3
      · obtain ⟨a1, a2, a3⟩ := back j v t a e1 e2 f1
        obtain ⟨b1, b2, b3⟩ := back k u s a e3 e4 f2
        exact dj j k v u t s a a1 a2 b1 b2 a3 b3
      · cases f with
        | here => exact .here
        | sub h e1 e2 f =>
          rw [upd_same] at h; cases h
          obtain ⟨f1, f2, f3⟩ := back _ _ _ _ e1 e2 f
          exact .sub ho f1 f2 f3
      · cases f with
        | here => exact .here
        | sub h e1 e2 f =>
          rw [ho] at h; cases h
          rcases c.old _ _ _ e1 e2 with ⟨f1, f2⟩ | ⟨d, rfl⟩
          · exact .sub upd_same f1 f2 (f.to (same _ _ _ e1 e2))
          · cases f
  | @cons q us ts0 k v t p v' t' h e1 e2 nd ih =>
    subst ev; subst et
    intro r
    cases r with
    | ls g h' l ch nf dj =>
      rw [h] at h'; cases h'
      obtain ⟨r1, f1⟩ := ih rfl rfl (ch k v t e1 e2)
      have fo : Foot H v t o := nd.foot .here
      have hq : o ≠ q := fun z => by subst z; exact nf k v t e1 e2 fo
      have hq' : upd H o (.lst vs') q = some (.lst us) := by rw [upd_ne (Ne.symm hq)]; exact h
      have same : ∀ (j : Nat) (u : V) (s : Tr), j ≠ k → us[j]? = some u → ts0[j]? = some s → ∀ a, Foot H u s a → upd H o (.lst vs') a = H a := fun j u s hj e3 e4 a f => upd_ne fun z => by subst z; exact hj (dj j k u v s t _ e3 e4 e1 e2 f fo)
      have hk : k < ts0.length := (List.getElem?_eq_some_iff.mp e2).1
      unfold updT
      rw [e2]
      have at_ : ∀ (j : Nat) (u : V) (s : Tr), us[j]? = some u → (ts0.set k (updT t p (.ls ts')))[j]? = some s → (j = k ∧ u = v ∧ s = updT t p (.ls ts')) ∨ (j ≠ k ∧ ts0[j]? = some s) := fun j u s e3 e4 => by
        by_cases hj : j = k
        · subst hj
          rw [List.getElem?_set_self hk] at e4; cases e4
          rw [e1] at e3; cases e3
          exact .inl ⟨rfl, rfl, rfl⟩
        · rw [List.getElem?_set_ne (Ne.symm hj)] at e4
          exact .inr ⟨hj, e4⟩
      have back : ∀ (j : Nat) (u : V) (s : Tr) (a : Addr), us[j]? = some u → (ts0.set k (updT t p (.ls ts')))[j]? = some s → Foot (upd H o (.lst vs')) u s a → ∃ s', ts0[j]? = some s' ∧ Foot H u s' a := fun j u s a e3 e4 f => by
        rcases at_ j u s e3 e4 with ⟨rfl, rfl, rfl⟩ | ⟨hj, e5⟩
        · exact ⟨t, e2, (f1 a).mp f⟩
        · exact ⟨s, e5, f.from (same j u s hj e3 e5)⟩
      refine ⟨.ls g hq' (by rw [List.length_set]; exact l) (fun j u s e3 e4 => ?_) (fun j u s e3 e4 f => ?_) (fun i j u w s x a e3 e4 e5 e6 g1 g2 => ?_), fun a => ⟨fun f => ?_, fun f => ?_⟩⟩
      · rcases at_ j u s e3 e4 with ⟨rfl, rfl, rfl⟩ | ⟨hj, e5⟩
        · exact r1
        · exact (ch j u s e3 e5).keep (Same.refl _) (fun a f => ((ch j u s e3 e5).foot f).1) (same j u s hj e3 e5)
      · obtain ⟨s', e5, f'⟩ := back j u s q e3 e4 f
        exact nf j u s' e3 e5 f'
      · obtain ⟨s', e7, f7⟩ := back i u s a e3 e4 g1
        obtain ⟨x', e8, f8⟩ := back j w x a e5 e6 g2
        exact dj i j u w s' x' a e3 e7 e5 e8 f7 f8
      · cases f with
        | here => exact .here
        | sub h2 e3 e4 f =>
          rw [hq'] at h2; cases h2
          obtain ⟨s', e5, f'⟩ := back _ _ _ _ e3 e4 f
          exact .sub h e3 e5 f'
      · cases f with
        | here => exact .here
        | @sub _ _ _ j u s _ h2 e3 e4 f =>
          rw [h] at h2; cases h2
          by_cases hj : j = k
          · subst hj
            rw [e1] at e3; cases e3
            rw [e2] at e4; cases e4
            exact .sub hq' e1 (List.getElem?_set_self hk) ((f1 a).mpr f)
          · exact .sub hq' e3 (by rw [List.getElem?_set_ne (Ne.symm hj)]; exact e4) (f.to (same j u s hj e3 e4))
theorem tr_fo {l : L} {t : Tr} {v : V} (e : l.tr = some t) : (cellR K G H v l ↔ TR K G H v t) ∧ ∀ a, Fo H l v a ↔ Foot H v t a := by
  cases l <;> cases e <;> exact ⟨Iff.rfl, fun _ => Iff.rfl⟩
theorem putT_tr {l : L} {t u : Tr} (e : l.tr = some t) : (l.putT u).tr = some u := by cases l <;> cases e <;> rfl
theorem Rel.changeT (r : Rel K G H σ ρ) {i : Nat} {l : L} {t0 : Tr} {v0 : V} (e : ρ[i]? = some (some l)) (m : l.tr = some t0) (s : σ[i]? = some (some v0)) {p : List Nat} {o : Addr} {vs vs' : List V} {ts ts' : List Tr} (n : NodeAt H v0 t0 p (.ref o) (.ls ts)) (ho : H o = some (.lst vs)) (c : Chg K G vs ts vs' ts') :
    Rel K G (upd H o (.lst vs')) σ (ρ.set i (some (l.putT (updT t0 p (.ls ts'))))) ∧ Stp G H σ ρ G (upd H o (.lst vs')) σ (ρ.set i (some (l.putT (updT t0 p (.ls ts'))))) := by
  have c0 := (tr_fo (K := K) (G := G) (H := H) m).1.mp (r.at_ e s)
  obtain ⟨c1, f1⟩ := TR.updAt n rfl rfl ho c c0
  have fo : Fo H l v0 o := ((tr_fo (K := K) (G := G) m).2 o).mpr (n.foot .here)
  have go : G o = none := (r.own ⟨i, l, v0, e, s, fo⟩).1
  have away : ∀ a, OwnX H σ ρ i a → a ≠ o := fun a ha z => by subst z; exact r.notX e s fo ha
  have m' := putT_tr (u := updT t0 p (.ls ts')) m
  obtain ⟨r', ow⟩ := r.set1 (G' := G) (H' := upd H o (.lst vs')) (v' := v0) (l' := l.putT (updT t0 p (.ls ts'))) e (Same.refl _) (fun b x q => by rw [upd_ne (ne_of_none q go)]; exact r.sub b x q)
    (fun a ha => (r.own ha.own).1) (fun a ha => upd_ne (away a ha)) ((tr_fo m').1.mpr c1) (fun a f z => by
      have f' := (f1 a).mp (((tr_fo (K := K) (G := G) m').2 a).mp f)
      exact r.notX e s (((tr_fo (K := K) (G := G) m).2 a).mpr f') z)
  rw [set_id s] at r' ow
  refine ⟨r', ⟨Same.refl _, fun a x q n' => ?_, fun a q => .inl q, fun a q => .inl ?_, tracked_upd, by rw [List.length_set], fun j ds q => ⟨rfl, ?_⟩, fun j t q => ⟨rfl, ?_⟩⟩⟩
  · have ha : a ≠ o := fun z => by subst z; exact n' ⟨i, l, v0, e, s, fo⟩
    rw [upd_ne ha]; exact q
  · rcases ow a q with z | z
    · exact z.own
    · exact ⟨i, l, v0, e, s, ((tr_fo (K := K) (G := G) m).2 a).mpr ((f1 a).mp (((tr_fo (K := K) (G := G) m').2 a).mp z))⟩
  · have hj : j ≠ i := fun z => by subst z; rw [e] at q; cases q; cases m
    exact ⟨ds, by rw [List.getElem?_set_ne (Ne.symm hj)]; exact q⟩
  · by_cases hj : j = i
    · subst hj
      rw [e] at q; cases q
      cases m
      exact ⟨_, set_same e, fun v a q f => by rw [s] at q; cases q; exact (f1 a).mpr f⟩
    · exact ⟨t, by rw [List.getElem?_set_ne (Ne.symm hj)]; exact q, fun v a sv f => f.to fun b y => upd_ne (away b ⟨j, _, v, hj, q, sv, y⟩)⟩
end
end Dn
namespace Dn
open PySem PySem.Spec PyProof.Rows L2
/-! ### what is looked at and changes nothing -/
abbrev teQ (K : PySem.W.Frag) (f : En → Option D) : TE := fun σ H Q => ∃ G ρ d, Rel K G H σ ρ ∧ f ρ = some d ∧ ∀ v, DR K G v d → Q v H
abbrev VQ (X : Cx) (e : Expr) (f : En → Option D) : Prop := PE X e (teQ X.K f)
def qVar (i : Nat) : En → Option D := fun ρ => match ρ[i]? with
  | some (some (.im d)) => some d
  | _ => none
def qC (d : D) : En → Option D := fun _ => some d
def qOp (g : D → D → Option D) (fa fb : En → Option D) : En → Option D := fun ρ => (fa ρ).bind fun x => (fb ρ).bind fun y => g x y
def q1 (g : D → Option D) (fa : En → Option D) : En → Option D := fun ρ => (fa ρ).bind g
def dQ (f : En → Option D) : En → R D := fun ρ => lift (f ρ) ρ
section
variable {X : Cx} {w : Wh} {a b e : Expr} {fa fb f : En → Option D} {pos p : Pos} {x : Str}
theorem ve_q (h : VQ X e f) : VE X w e (dQ f) := PE.imp h fun σ H Q ⟨G, ρ, rel, h⟩ => by
  obtain ⟨d, e, q⟩ := Fn.lift h
  exact ⟨G, ρ, d, rel, e, fun v hv => q _ _ rel Stp.refl v hv⟩
theorem vq_var (i : Nat) (hN : X.N[i]? = some x := by rfl) (hv : Vis X.env.scope x := by first | exact Or.inl rfl | exact Or.inr (Or.inl rfl) | exact Or.inr (Or.inr rfl)) (hd : (x == ("__debug__" : Str)) = false := by decide)
    (hcd : (x == ("__classdict__" : Str)) = false := by decide) : VQ X (.Name x pos) (qVar i) :=
  PE.imp (pe_var hN hv hd hcd) fun σ H Q ⟨G, ρ, d, rel, e, q⟩ => by
    unfold qVar at e
    split at e
    · rename_i d' e'
      cases e
      obtain ⟨v, s, c⟩ := rel.cell i _ e'
      exact ⟨v, s, q v c⟩
    · cases e
theorem vq_int {i : Int} {j : Nat} : VQ X (.Constant (.int i) j pos) (qC (.int i)) := PE.imp pe_int fun σ H Q ⟨G, ρ, d, rel, e, q⟩ => by cases e; exact q _ (.int i)
theorem vq_neg (ha : VQ X a fa) : VQ X (.UnaryOp .USub a pos) (q1 gNeg fa) :=
  PE.imp (pe_un un_neg ha) fun σ H Q ⟨G, ρ, d, rel, e, q⟩ => by
    simp only [q1, Option.bind_eq_some_iff] at e
    obtain ⟨y, e1, e2⟩ := e
    refine ⟨G, ρ, y, rel, e1, fun v hv => ?_⟩
    cases hv with
    | int i => cases e2; exact ⟨i, rfl, q _ (.int _)⟩
    | _ => cases e2
theorem vq_opI {op : Operator} {C : Int → Int → Prop} {k : Int → Int → Int} {g : D → D → Option D} (ho : OpR X (binaryOp op) (rI C fun i j => .int (k i j))) (hg : ∀ y z d, g y z = some d → ∃ i j, y = .int i ∧ z = .int j ∧ C i j ∧ d = .int (k i j)) (ha : VQ X a fa) (hb : VQ X b fb) : VQ X (.BinOp a op b pos) (qOp g fa fb) :=
  PE.imp (pe_op ho ha hb) fun σ H Q ⟨G, ρ, d, rel, e, q⟩ => by
    simp only [qOp, Option.bind_eq_some_iff] at e
    obtain ⟨y, e1, z, e2, e3⟩ := e
    obtain ⟨i, j, rfl, rfl, hc, rfl⟩ := hg _ _ _ e3
    refine ⟨G, ρ, _, rel, e1, fun u hu => ⟨G, ρ, _, rel, e2, fun v hv => ?_⟩⟩
    cases hu; cases hv
    exact ⟨i, j, rfl, rfl, hc, q _ (.int _)⟩
theorem vq_fdiv (ha : VQ X a fa) (hb : VQ X b fb) : VQ X (.BinOp a .FloorDiv b pos) (qOp gFdiv fa fb) := vq_opI op_fdivX (fun y z d e => by
  cases y <;> cases z <;> first | (cases e; done) | (simp only [gFdiv] at e; split at e <;> cases e; exact ⟨_, _, rfl, rfl, ‹_›, rfl⟩)) ha hb
theorem vq_mod (ha : VQ X a fa) (hb : VQ X b fb) : VQ X (.BinOp a .Mod b pos) (qOp gMod fa fb) := vq_opI op_modN (fun y z d e => by
  cases y <;> cases z <;> first | (cases e; done) | (simp only [gMod] at e; split at e <;> cases e; exact ⟨_, _, rfl, rfl, ‹_›, rfl⟩)) ha hb
def gAddI : D → D → Option D
  | .int i, .int j => some (.int (i + j))
  | _, _ => none
theorem vq_add (ha : VQ X a fa) (hb : VQ X b fb) : VQ X (.BinOp a .Add b pos) (qOp gAddI fa fb) := PE.imp (pe_op op_add ha hb) fun σ H Q ⟨G, ρ, d, rel, e, q⟩ => by
  simp only [qOp, Option.bind_eq_some_iff] at e
  obtain ⟨y, e1, z, e2, e3⟩ := e
  refine ⟨G, ρ, _, rel, e1, fun u hu => ⟨G, ρ, _, rel, e2, fun v hv => ?_⟩⟩
  cases y <;> cases z <;> first | (cases e3; done) | skip
  cases e3; cases hu; cases hv
  exact ⟨_, _, rfl, rfl, q _ (.int _)⟩
theorem vq_sub (ha : VQ X a fa) (hb : VQ X b fb) : VQ X (.BinOp a .Sub b pos) (qOp gSub fa fb) := PE.imp (pe_op op_sub ha hb) fun σ H Q ⟨G, ρ, d, rel, e, q⟩ => by
  simp only [qOp, Option.bind_eq_some_iff] at e
  obtain ⟨y, e1, z, e2, e3⟩ := e
  refine ⟨G, ρ, _, rel, e1, fun u hu => ⟨G, ρ, _, rel, e2, fun v hv => ?_⟩⟩
  cases y <;> cases z <;> first | (cases e3; done) | skip
  cases e3; cases hu; cases hv
  exact ⟨_, _, rfl, rfl, q _ (.int _)⟩
theorem vq_ix (ha : VQ X a fa) (hb : VQ X b fb) (hp : PlainIx b := by exact fun _ _ => rfl) : VQ X (.Subscript a b pos) (qOp gIx fa fb) :=
  PE.imp (pe_ix ix_seq ha hb hp) fun σ H Q ⟨G, ρ, d, rel, e, q⟩ => by
    simp only [qOp, Option.bind_eq_some_iff] at e
    obtain ⟨y, e1, z, e2, e3⟩ := e
    exact ⟨G, ρ, y, rel, e1, fun u hu => ⟨G, ρ, z, rel, e2, fun v hv => gIx_ok rel (.im hu) hv e3 q⟩⟩
/-! #### places in a tree -/
def tePl (K : PySem.W.Frag) (i : Nat) (fp : En → Option (List Nat)) : TE := fun σ H Q => ∃ G ρ l v0 t0 p t, Rel K G H σ ρ ∧ ρ[i]? = some (some l) ∧ l.tr = some t0 ∧ σ[i]? = some (some v0) ∧ fp ρ = some p ∧ subT t0 p = some t ∧ ∀ v, NodeAt H v0 t0 p v t → Q v H
abbrev VPl (X : Cx) (e : Expr) (i : Nat) (fp : En → Option (List Nat)) : Prop := PE X e (tePl X.K i fp)
def rootT (c : Option (Option L)) : Option Tr := match c with
  | some (some l) => l.tr
  | _ => none
/-- what stands at a place -/
def nodeQ (i : Nat) (fp : En → Option (List Nat)) (ρ : En) : Option Tr := (rootT ρ[i]?).bind fun t0 => (fp ρ).bind fun p => subT t0 p
def pVar : En → Option (List Nat) := fun _ => some []
def ixT (t : Option Tr) (p : Option (List Nat)) (k : Option D) : Option (List Nat) := match t, p, k with
  | some (.ls ts), some p, some (.int z) => (ixN ts.length z).map fun j => p ++ [j]
  | _, _, _ => none
def pIx (i : Nat) (fp : En → Option (List Nat)) (fk : En → Option D) : En → Option (List Nat) := fun ρ => ixT (nodeQ i fp ρ) (fp ρ) (fk ρ)
def itT (t : Option Tr) (k : Option D) : Option D := match t, k with
  | some (.ls ts), some (.int z) => match L2.atI ts z with
    | some (.im d) => some d
    | _ => none
  | _, _ => none
def qItem (i : Nat) (fp : En → Option (List Nat)) (fk : En → Option D) : En → Option D := fun ρ => itT (nodeQ i fp ρ) (fk ρ)
def lenT (t : Option Tr) : Option D := match t with
  | some (.ls ts) => some (.int ts.length)
  | _ => none
def qLenT (i : Nat) (fp : En → Option (List Nat)) : En → Option D := fun ρ => lenT (nodeQ i fp ρ)
theorem subT_snoc : ∀ {t : Tr} {p : List Nat} {ts : List Tr} {j : Nat} {u : Tr}, subT t p = some (.ls ts) → ts[j]? = some u → subT t (p ++ [j]) = some u
  | t, [], ts, j, u, h, e => by
    unfold subT at h; cases h
    show subT (.ls ts) [j] = some u
    unfold subT; rw [e]; unfold subT; rfl
  | .im d, k :: p, ts, j, u, h, e => by unfold subT at h; cases h
  | .ls us, k :: p, ts, j, u, h, e => by
    unfold subT at h
    split at h
    · rename_i t e1
      show subT (.ls us) (k :: (p ++ [j])) = some u
      unfold subT; rw [e1]
      exact subT_snoc h e
    · cases h
theorem vpl_var (i : Nat) (hN : X.N[i]? = some x := by rfl) (hv : Vis X.env.scope x := by first | exact Or.inl rfl | exact Or.inr (Or.inl rfl) | exact Or.inr (Or.inr rfl)) (hd : (x == ("__debug__" : Str)) = false := by decide)
    (hcd : (x == ("__classdict__" : Str)) = false := by decide) : VPl X (.Name x pos) i pVar :=
  PE.imp (pe_var hN hv hd hcd) fun σ H Q ⟨G, ρ, l, v0, t0, p, t, rel, e, m, s, ep, es, q⟩ => by
    cases ep
    unfold subT at es; cases es
    exact ⟨v0, s, q v0 .nil⟩
/-- the node's list, and its items -/
theorem node_at {K : PySem.W.Frag} {G H : Hp} {σ : L2.St} {ρ : En} {i : Nat} {l : L} {v0 v : V} {t0 : Tr} {p : List Nat} {ts : List Tr} (rel : Rel K G H σ ρ) (e : ρ[i]? = some (some l)) (m : l.tr = some t0) (s : σ[i]? = some (some v0)) (n : NodeAt H v0 t0 p v (.ls ts)) :
    ∃ o vs, v = .ref o ∧ H o = some (.lst vs) ∧ vs.length = ts.length ∧ TR K G H v (.ls ts) := by
  have r := n.tr ((tr_fo m).1.mp (rel.at_ e s))
  obtain ⟨o, vs, ev, _, ho, hl⟩ := r.list
  exact ⟨o, vs, ev, ho, hl, r⟩
theorem atI_two {vs : List V} {ts : List Tr} {z : Int} {t : Tr} (hl : vs.length = ts.length) (e : L2.atI ts z = some t) : ∃ (j : Nat) (v : V), ixN ts.length z = some j ∧ ts[j]? = some t ∧ vs[j]? = some v ∧ L2.atI vs z = some v := by
  unfold L2.atI at e ⊢
  rw [hl]
  cases q : ixN ts.length z with
  | none => rw [q] at e; cases e
  | some j =>
    rw [q] at e
    have ht : ts[j]? = some t := e
    have hj : j < vs.length := by rw [hl]; exact (List.getElem?_eq_some_iff.mp ht).1
    exact ⟨j, vs[j], rfl, ht, List.getElem?_eq_getElem hj, List.getElem?_eq_getElem hj⟩
theorem atI_ix {ts : List Tr} {z : Int} {j : Nat} (h : ixN ts.length z = some j) : L2.atI ts z = ts[j]? := by
  unfold L2.atI; rw [h]; rfl
theorem vpl_ix {i : Nat} {fp : En → Option (List Nat)} (ha : VPl X a i fp) (hb : VQ X b fb) (hp : PlainIx b := by exact fun _ _ => rfl) : VPl X (.Subscript a b pos) i (pIx i fp fb) :=
  PE.imp (pe_ix ix_seq ha hb hp) fun σ H Q ⟨G, ρ, l, v0, t0, p, t, rel, e, m, s, ep, es, q⟩ => by
    unfold pIx ixT at ep
    split at ep
    · rename_i ts p1 z e1 e2 e3
      simp only [Option.map_eq_some_iff] at ep
      obtain ⟨j, ej, rfl⟩ := ep
      have es1 : subT t0 p1 = some (.ls ts) := by
        unfold nodeQ rootT at e1
        rw [e] at e1
        simp only [m, e2, Option.bind_some] at e1
        exact e1
      refine ⟨G, ρ, l, v0, t0, p1, .ls ts, rel, e, m, s, e2, es1, fun u nd => ⟨G, ρ, _, rel, e3, fun w' hw => ?_⟩⟩
      obtain ⟨o, vs, rfl, ho, hl, tr⟩ := node_at rel e m s nd
      have hj : j < ts.length := (ixN_seq ej).2.1
      have et : ts[j]? = some t := by
        have := subT_snoc es1 (List.getElem?_eq_getElem hj)
        rw [es] at this; cases this; exact List.getElem?_eq_getElem hj
      obtain ⟨j', v, ej', et', ev, ea⟩ := atI_two (z := z) hl (by rw [atI_ix ej]; exact et)
      rw [ej] at ej'; cases ej'
      cases hw
      exact .inl ⟨o, vs, z, v, rfl, rfl, .inl (.inl ho), ea, q v (nd.snoc ho ev et)⟩
    · cases ep
theorem vq_item {i : Nat} {fp : En → Option (List Nat)} (ha : VPl X a i fp) (hb : VQ X b fb) (hp : PlainIx b := by exact fun _ _ => rfl) : VQ X (.Subscript a b pos) (qItem i fp fb) :=
  PE.imp (pe_ix ix_seq ha hb hp) fun σ H Q ⟨G, ρ, d, rel, ed, q⟩ => by
    unfold qItem itT at ed
    split at ed
    · rename_i ts z e1 e3
      split at ed
      · rename_i d' ea
        cases ed
        unfold nodeQ rootT at e1
        simp only [Option.bind_eq_some_iff] at e1
        obtain ⟨t0, e0, p1, e2, es1⟩ := e1
        split at e0
        · rename_i l el
          obtain ⟨v0, s, _⟩ := rel.cell i l el
          refine ⟨G, ρ, l, v0, t0, p1, .ls ts, rel, el, e0, s, e2, es1, fun u nd => ⟨G, ρ, _, rel, e3, fun w' hw => ?_⟩⟩
          obtain ⟨o, vs, rfl, ho, hl, tr⟩ := node_at rel el e0 s nd
          obtain ⟨j, v, ej, et, ev, ea'⟩ := atI_two (z := z) hl ea
          cases hw
          have hv : DR X.K G v d := by
            cases tr with
            | ls g h l c n dj => rw [ho] at h; cases h; cases c j v _ ev et with | im h => exact h
          exact .inl ⟨o, vs, z, v, rfl, rfl, .inl (.inl ho), ea', q v hv⟩
        · cases e0
      · cases ed
    · cases ed
theorem vq_lenT {i : Nat} {fp : En → Option (List Nat)} (hg : Gl X "len") (hm : X.mg "len" = none) (ha : VPl X a i fp) (he : starEach [a] X.env = [(false, eval a X.env)] := by rfl) : VQ X (.Call (.Name "len" p) [a] [] pos) (qLenT i fp) :=
  PE.imp (pe_callB call_len hg hm PySem.boot_len (pa_cons ha pa_nil (by rw [he]; rfl)) (by decide) (by decide) (by rw [he]; rfl) (by rfl)) fun σ H Q ⟨G, ρ, d, rel, ed, q⟩ => by
    unfold qLenT lenT at ed
    split at ed
    · rename_i ts e1
      cases ed
      unfold nodeQ rootT at e1
      simp only [Option.bind_eq_some_iff] at e1
      obtain ⟨t0, e0, p1, e2, es1⟩ := e1
      split at e0
      · rename_i l el
        obtain ⟨v0, s, _⟩ := rel.cell i l el
        refine ⟨G, ρ, l, v0, t0, p1, .ls ts, rel, el, e0, s, e2, es1, fun u nd => ?_⟩
        obtain ⟨o, vs, rfl, ho, hl, tr⟩ := node_at rel el e0 s nd
        exact ⟨_, ts.length, rfl, .inl ⟨vs, .inl (.inl ho), hl.symm⟩, q _ (.int _)⟩
      · cases e0
    · cases ed
/-! #### changes -/
def appT (t : Option Tr) (p : Option (List Nat)) (d : Option D) (i : Nat) (ρ : En) : R Fl := match t, p, d with
  | some (.ls ts), some p, some d => if ts.length < sizeLine then (match ρ[i]? with
    | some (some l) => (match l.tr with
      | some t0 => .ok .nx (ρ.set i (some (l.putT (updT t0 p (.ls (ts ++ [.im d]))))))
      | none => .no)
    | _ => .no) else .no
  | _, _, _ => .no
def dAppT (i : Nat) (fp : En → Option (List Nat)) (fa : En → Option D) : En → R Fl := fun ρ => appT (nodeQ i fp ρ) (fp ρ) (fa ρ) i ρ
theorem Chg.app {K : PySem.W.Frag} {G : Hp} {vs : List V} {ts : List Tr} {v : V} {d : D} (hl : vs.length = ts.length) (hv : DR K G v d) : Chg K G vs ts (vs ++ [v]) (ts ++ [.im d]) where
  len := by simp [hl]
  new := fun k u t e1 e2 => by
    by_cases h : k < vs.length
    · rw [List.getElem?_append_left h] at e1
      rw [List.getElem?_append_left (by omega)] at e2
      exact .inl ⟨e1, e2⟩
    · rw [List.getElem?_append_right (by omega)] at e1
      rw [List.getElem?_append_right (by omega)] at e2
      have : k - vs.length = 0 := by
        have := (List.getElem?_eq_some_iff.mp e1).1
        simpa using this
      rw [this] at e1; rw [← hl, this] at e2
      cases e1; cases e2
      exact .inr ⟨d, rfl, hv⟩
  old := fun k u t e1 e2 => .inl ⟨by rw [List.getElem?_append_left (List.getElem?_eq_some_iff.mp e1).1]; exact e1, by rw [List.getElem?_append_left (List.getElem?_eq_some_iff.mp e2).1]; exact e2⟩
theorem Chg.set {K : PySem.W.Frag} {G : Hp} {vs : List V} {ts : List Tr} {v : V} {d d0 : D} {j : Nat} (hl : vs.length = ts.length) (h0 : ts[j]? = some (.im d0)) (hv : DR K G v d) : Chg K G vs ts (vs.set j v) (ts.set j (.im d)) where
  len := by simp [hl]
  new := fun k u t e1 e2 => by
    have hj : j < ts.length := (List.getElem?_eq_some_iff.mp h0).1
    by_cases h : k = j
    · subst h
      rw [List.getElem?_set_self (by omega)] at e1
      rw [List.getElem?_set_self hj] at e2
      cases e1; cases e2
      exact .inr ⟨d, rfl, hv⟩
    · rw [List.getElem?_set_ne (Ne.symm h)] at e1 e2
      exact .inl ⟨e1, e2⟩
  old := fun k u t e1 e2 => by
    by_cases h : k = j
    · subst h; rw [h0] at e2; cases e2; exact .inr ⟨d0, rfl⟩
    · exact .inl ⟨by rw [List.getElem?_set_ne (Ne.symm h)]; exact e1, by rw [List.getElem?_set_ne (Ne.symm h)]; exact e2⟩
theorem vs_appT {i : Nat} {fp : En → Option (List Nat)} {apos pos2 : Pos} (ha : VPl X a i fp) (he : VQ X e f)
    (hbase : attributeBase a "append" X.env (eval a X.env) = eval a X.env := by rfl) (hline : (apos.endLine == pos.line) = true := by rfl)
    (hfew : ((backTo pos (starEach [e] X.env)).all (fun x => !x.1) && (backToKw pos (keywordEach [] X.env)).all (fun x => x.1.isSome) && decide (([e] : List Expr).length + ([] : List Keyword).length + (if ([] : List Keyword).isEmpty then 0 else 1) < 30)) = true := by rfl)
    (hs : starEach [e] X.env = (false, eval e X.env) :: starEach [] X.env := by rfl) (hsw : swapsWith (.Call (.Attribute a "append" apos) [e] [] pos) none pos2.line X.env = pure false := by rfl) :
    VS X w (.Expr (.Call (.Attribute a "append" apos) [e] [] pos) pos2) (dAppT i fp f) :=
  PS.imp (ps_expr (pe_bm PySem.F.plainAttrs_list PySem.F.slot_list_append PySem.F.type_list_append mt_append ha (pa_cons he pa_nil hs) hbase hfew hline hs (by rfl)) hsw) fun Z σ H ⟨G, ρ, rel, h⟩ => by
    unfold dAppT appT at h
    split at h
    · rename_i ts p1 d e1 e2 e3
      split at h
      · rename_i hz
        split at h
        · rename_i l el
          split at h
          · rename_i t0 e0
            obtain ⟨v0, s, _⟩ := rel.cell i l el
            have es1 : subT t0 p1 = some (.ls ts) := by
              unfold nodeQ rootT at e1
              rw [el] at e1
              simp only [e0, e2, Option.bind_some] at e1
              exact e1
            refine ⟨G, ρ, l, v0, t0, p1, .ls ts, rel, el, e0, s, e2, es1, fun u nd => ?_⟩
            obtain ⟨o, vs, rfl, ho, hl, tr⟩ := node_at rel el e0 s nd
            refine ⟨.inl ⟨rfl, vs, .inl (.inl ho)⟩, G, ρ, d, rel, e3, fun v hv => ?_⟩
            obtain ⟨r2, s2⟩ := rel.changeT el e0 s nd ho (Chg.app hl hv)
            exact ⟨o, vs, v, rfl, rfl, ho, by rw [hl]; exact hz, FnS.nx h r2 s2⟩
          · exact h.elim
        · exact h.elim
      · exact h.elim
    · exact h.elim
/-! #### trees that are written -/
structure NewTs (K : PySem.W.Frag) (H : Hp) (σ : L2.St) (G' H' : Hp) (ρ' : En) (vs : List V) (ts : List Tr) : Prop where
  len : vs.length = ts.length
  tr : ∀ (k : Nat) (v : V) (t : Tr), vs[k]? = some v → ts[k]? = some t → TR K G' H' v t
  new : ∀ (k : Nat) (v : V) (t : Tr) (a : Addr), vs[k]? = some v → ts[k]? = some t → Foot H' v t a → ¬ Own H' σ ρ' a ∧ H a = none
  dj : ∀ (j k : Nat) (v u : V) (t s : Tr) (a : Addr), vs[j]? = some v → ts[j]? = some t → vs[k]? = some u → ts[k]? = some s → Foot H' v t a → Foot H' u s a → j = k
abbrev VNs (X : Cx) (w : Wh) (es : List Expr) (ga : En → R (List Tr)) : Prop := PA X es (fun σ H Q => ∃ G ρ, Rel X.K G H σ ρ ∧ Fn X.K w G H σ ρ (ga ρ) (fun G' H' ρ' ts => ∀ vs, NewTs X.K H σ G' H' ρ' vs ts → Q vs H'))
def tNil : En → R (List Tr) := fun ρ => .ok [] ρ
def tIm (f : En → R D) (g : En → R (List Tr)) : En → R (List Tr) := fun ρ => (f ρ).bind fun d ρ1 => (g ρ1).bind fun ts ρ2 => .ok (.im d :: ts) ρ2
def tNew (f : En → R (List D)) (g : En → R (List Tr)) : En → R (List Tr) := fun ρ => (f ρ).bind fun ds ρ1 => (g ρ1).bind fun ts ρ2 => .ok (.ls (ds.map .im) :: ts) ρ2
variable {es : List Expr} {fe : En → R D} {fl : En → R (List D)} {ga : En → R (List Tr)}
theorem vns_nil : VNs X w [] tNil := PA.imp pa_nil fun σ H Q ⟨G, ρ, rel, h⟩ => (show Fn X.K w G H σ ρ (.ok [] ρ) _ from h) G H rel Stp.refl [] ⟨rfl, fun k v t e => by simp at e, fun k v t a e => by simp at e, fun j k v u t s a e => by simp at e⟩
theorem vns_im (he : VE X w e fe) (ht : VNs X w es ga) (hs : starEach (e :: es) X.env = (false, eval e X.env) :: starEach es X.env := by rfl) : VNs X w (e :: es) (tIm fe ga) :=
  PA.imp (pa_cons he ht hs) fun σ H Q ⟨G, ρ, rel, h⟩ => ⟨G, ρ, rel, (Fn.bind rel h).imp fun G1 H1 ρ1 d ⟨r1, s1, h1⟩ v hv => ⟨G1, ρ1, r1, (Fn.bind r1 h1).imp fun G2 H2 ρ2 ts ⟨r2, s2, h2⟩ vs hvs => by
    refine (show Fn X.K w G2 H2 σ ρ2 (.ok (.im d :: ts) ρ2) _ from h2) G2 H2 r2 Stp.refl (v :: vs) ⟨by simp [hvs.len], fun k u t e1 e2 => ?_, fun k u t a e1 e2 f => ?_, fun j k u u2 t t2 a e1 e2 e3 e4 f1 f2 => ?_⟩
    · cases k with
      | zero => cases e1; cases e2; exact .im (hv.mono s2.g)
      | succ k => exact hvs.tr k u t (by simpa using e1) (by simpa using e2)
    · cases k with
      | zero => cases e1; cases e2; cases f
      | succ k =>
        obtain ⟨n1, n2⟩ := hvs.new k u t a (by simpa using e1) (by simpa using e2) f
        refine ⟨n1, ?_⟩
        cases q : H a with
        | none => rfl
        | some o => exact absurd n2 (s1.tr a (by rw [q]; exact fun z => nomatch z))
    · cases j with
      | zero => cases e1; cases e2; cases f1
      | succ j =>
        cases k with
        | zero => cases e3; cases e4; cases f2
        | succ k => exact congrArg (· + 1) (hvs.dj j k u u2 t t2 a (by simpa using e1) (by simpa using e2) (by simpa using e3) (by simpa using e4) f1 f2)⟩⟩
theorem flat_tr {K : PySem.W.Frag} {G H : Hp} {p : Addr} {us : List V} {ds : List D} (hg : G p = none) (hp : H p = some (.lst us)) (hd : DRs K G us ds) : TR K G H (.ref p) (.ls (ds.map .im)) ∧ ∀ a, Foot H (.ref p) (.ls (ds.map .im)) a → a = p := by
  have im_ : ∀ (k : Nat) (t : Tr), (ds.map Tr.im)[k]? = some t → ∃ d, ds[k]? = some d ∧ t = .im d := fun k t e => by
    rw [List.getElem?_map, Option.map_eq_some_iff] at e
    obtain ⟨d, e, rfl⟩ := e
    exact ⟨d, e, rfl⟩
  refine ⟨.ls hg hp (by rw [List.length_map]; exact hd.length) (fun k v t e1 e2 => ?_) (fun k v t e1 e2 f => ?_) (fun j k v u t s a e1 e2 e3 e4 f1 f2 => ?_), fun a f => ?_⟩
  · obtain ⟨d, e, rfl⟩ := im_ k t e2
    obtain ⟨v', e', h⟩ := hd.get e
    rw [e1] at e'; cases e'
    exact .im h
  · obtain ⟨d, e, rfl⟩ := im_ k t e2; cases f
  · obtain ⟨d, e, rfl⟩ := im_ j t e2; cases f1
  · cases f with
    | here => rfl
    | sub h e1 e2 f => obtain ⟨d, e, rfl⟩ := im_ _ _ e2; cases f
theorem vns_new (he : VN X w e fl) (ht : VNs X w es ga) (hs : starEach (e :: es) X.env = (false, eval e X.env) :: starEach es X.env := by rfl) : VNs X w (e :: es) (tNew fl ga) :=
  PA.imp (pa_cons he ht hs) fun σ H Q ⟨G, ρ, rel, h⟩ => ⟨G, ρ, rel, (Fn.bind rel h).imp fun G1 H1 ρ1 ds ⟨r1, s1, h1⟩ p hn => ⟨G1, ρ1, r1, (Fn.bind r1 h1).imp fun G2 H2 ρ2 ts ⟨r2, s2, h2⟩ vs hvs => by
    have na : NewAt X.K G2 H2 σ ρ2 p ds := NewAt.step ⟨hn.g, hn.own, hn.here⟩ s2
    obtain ⟨us, hu, hd⟩ := na.here
    obtain ⟨tr0, f0⟩ := flat_tr na.g hu hd
    have old : H1 p ≠ none := by obtain ⟨us', h', _⟩ := hn.here; rw [h']; exact fun z => nomatch z
    refine (show Fn X.K w G2 H2 σ ρ2 (.ok (.ls (ds.map .im) :: ts) ρ2) _ from h2) G2 H2 r2 Stp.refl (.ref p :: vs) ⟨by simp [hvs.len], fun k u t e1 e2 => ?_, fun k u t a e1 e2 f => ?_, fun j k u u2 t t2 a e1 e2 e3 e4 f1 f2 => ?_⟩
    · cases k with
      | zero => cases e1; cases e2; exact tr0
      | succ k => exact hvs.tr k u t (by simpa using e1) (by simpa using e2)
    · cases k with
      | zero =>
        cases e1; cases e2
        have := f0 a f
        subst this
        exact ⟨na.own, hn.new⟩
      | succ k =>
        obtain ⟨n1, n2⟩ := hvs.new k u t a (by simpa using e1) (by simpa using e2) f
        refine ⟨n1, ?_⟩
        cases q : H a with
        | none => rfl
        | some o => exact absurd n2 (s1.tr a (by rw [q]; exact fun z => nomatch z))
    · cases j with
      | zero =>
        cases e1; cases e2
        cases k with
        | zero => rfl
        | succ k =>
          have := f0 a f1
          subst this
          exact absurd (hvs.new k u2 t2 a (by simpa using e3) (by simpa using e4) f2).2 old
      | succ j =>
        cases k with
        | zero =>
          cases e3; cases e4
          have := f0 a f2
          subst this
          exact absurd (hvs.new j u t a (by simpa using e1) (by simpa using e2) f1).2 old
        | succ k => exact congrArg (· + 1) (hvs.dj j k u u2 t t2 a (by simpa using e1) (by simpa using e2) (by simpa using e3) (by simpa using e4) f1 f2)⟩⟩
end
end Dn
namespace Dn
open PySem PySem.Spec PyProof.Rows L2
section
variable {K : PySem.W.Frag} {G H : Hp} {σ : L2.St} {ρ : En}
/-- the slot i takes a new tree of its own -/
theorem Rel.putT (r : Rel K G H σ ρ) {i : Nat} {c : Option L} (hi : ρ[i]? = some c) {v : V} {t : Tr} (tr : TR K G H v t) (hn : ∀ a, Foot H v t a → ¬ Own H σ ρ a) :
    Rel K G H (σ.set i (some v)) (ρ.set i (some (.ot t))) ∧ ∀ a, Own H (σ.set i (some v)) (ρ.set i (some (.ot t))) a → Own H σ ρ a ∨ Foot H v t a := by
  obtain ⟨r', ow⟩ := r.set1 (G' := G) (H' := H) (v' := v) (l' := .ot t) hi (Same.refl _) r.sub (fun a h => (r.own h.own).1) (fun a _ => rfl) tr (fun a f z => hn a f z.own)
  refine ⟨r', fun a h => ?_⟩
  rcases ow a h with z | z
  · exact .inl z.own
  · exact .inr z
theorem Stp.putT {G0 H0 : Hp} {σ0 : L2.St} {ρ0 : En} (s : Stp G0 H0 σ0 ρ0 G H σ ρ) (r : Rel K G H σ ρ) {i : Nat} {c : Option L} (hi : ρ[i]? = some c) (hb : ∀ ds, c ≠ some (L.bo ds)) (ht : ∀ t, c ≠ some (L.bt t)) {v : V} {t : Tr} (tr : TR K G H v t) (hn : ∀ a, Foot H v t a → ¬ Own H σ ρ a) (h0 : ∀ a, Foot H v t a → H0 a = none) :
    Stp G0 H0 σ0 ρ0 G H (σ.set i (some v)) (ρ.set i (some (.ot t))) := by
  obtain ⟨_, ow⟩ := r.putT hi tr hn
  refine ⟨s.g, s.h, s.fr, fun a h => ?_, s.tr, by rw [List.length_set]; exact s.ln, fun j es e => ?_, fun j t e => ?_⟩
  · rcases ow a h with z | z
    · exact s.ow a z
    · exact .inr (h0 a z)
  · obtain ⟨e1, ds', e2⟩ := s.bo j es e
    have hj : j ≠ i := fun z => by subst z; rw [hi] at e2; exact hb ds' (Option.some.inj e2)
    exact ⟨(List.getElem?_set_ne (Ne.symm hj)).trans e1, ds', by rw [List.getElem?_set_ne (Ne.symm hj)]; exact e2⟩
  · obtain ⟨e1, t', e2, f2⟩ := s.bt j t e
    have hj : j ≠ i := fun z => by subst z; rw [hi] at e2; exact ht t' (Option.some.inj e2)
    exact ⟨(List.getElem?_set_ne (Ne.symm hj)).trans e1, t', by rw [List.getElem?_set_ne (Ne.symm hj)]; exact e2, f2⟩
end
def dAsgT (i : Nat) (ga : En → R (List Tr)) : En → R Fl := fun ρ => (ga ρ).bind fun ts ρ1 => if ts.length ≤ sizeLine then (if free ρ1[i]? = true then .ok .nx (ρ1.set i (some (.ot (.ls ts)))) else .no) else .no
section
variable {X : Cx} {w : Wh} {es : List Expr} {ga : En → R (List Tr)} {x : Str} {pos : Pos}
theorem vs_asgT (i : Nat) {pos' lpos : Pos} (hN : X.N.Nodup) (h : VNs X w es ga) (hi : X.N[i]? = some x := by rfl) (hx : Loc X.env.scope x := by first | exact Or.inl rfl | exact Or.inr rfl) (hs : swapsWith (.List es lpos) (some (.Name x pos')) pos.line X.env = pure false := by rfl)
    (hf : X.fn x = true ∨ X.env.scope.names.lookup x = some .local := by first | exact .inl rfl | exact .inr rfl | assumption) : VS X w (.Assign [.Name x pos'] (.List es lpos) pos) (dAsgT i ga) :=
  PS.imp (ps_set hN hi hx (pe_lst h) hs hf) fun D σ H ⟨G, ρ, rel, h⟩ => ⟨G, ρ, rel, by
    unfold dAsgT at h
    cases q : ga ρ with
    | no => rw [q] at h; exact h
    | ex c ρ' => rw [q] at h; exact fun G' H' cls dx r1 s1 x => h G' H' σ cls dx r1 s1 x
    | ok ts ρ1 =>
      rw [q] at h
      intro G1 H1 r1 s1 vs hvs
      have h1 : FnS X.K w G H σ ρ (if ts.length ≤ sizeLine then (if free ρ1[i]? = true then .ok .nx (ρ1.set i (some (.ot (.ls ts)))) else .no) else .no) D := h
      split at h1
      · rename_i hz
        split at h1
        · rename_i hf
          refine ⟨by rw [hvs.len]; exact hz, fun p hp => ?_⟩
          obtain ⟨c, hc, hb, ht⟩ := free_ok hf
          obtain ⟨r2, s2⟩ := r1.laidM (o := .lst vs) hp
          have hp0 : H p = none := by
            cases q : H p with
            | none => rfl
            | some o => exact absurd hp (s1.tr p (by rw [q]; exact fun z => nomatch z))
          have np : ∀ (k : Nat) (v : V) (t : Tr) (a : Addr), vs[k]? = some v → ts[k]? = some t → Foot H1 v t a → upd H1 p (.lst vs) a = H1 a := fun k v t a e1 e2 f => by
            obtain ⟨_, us, q⟩ := (hvs.tr k v t e1 e2).foot f
            exact upd_ne fun z => by subst z; rw [hp] at q; cases q
          have back : ∀ (k : Nat) (v : V) (t : Tr) (a : Addr), vs[k]? = some v → ts[k]? = some t → Foot (upd H1 p (.lst vs)) v t a → Foot H1 v t a := fun k v t a e1 e2 f => f.from fun b q => np k v t b e1 e2 q
          have tr : TR X.K G1 (upd H1 p (.lst vs)) (.ref p) (.ls ts) := by
            refine .ls (Same.free r1.sub hp) upd_same hvs.len (fun k v t e1 e2 => ?_) (fun k v t e1 e2 f => ?_) (fun j k v u t s a e1 e2 e3 e4 f1 f2 => ?_)
            · exact (hvs.tr k v t e1 e2).keep (Same.refl _) (fun a f => ((hvs.tr k v t e1 e2).foot f).1) (fun a f => np k v t a e1 e2 f)
            · obtain ⟨_, us, q⟩ := (hvs.tr k v t e1 e2).foot (back k v t p e1 e2 f)
              rw [hp] at q; cases q
            · exact hvs.dj j k v u t s a e1 e2 e3 e4 (back j v t a e1 e2 f1) (back k u s a e3 e4 f2)
          have h0 : ∀ a, Foot (upd H1 p (.lst vs)) (.ref p) (.ls ts) a → ¬ Own (upd H1 p (.lst vs)) σ ρ1 a ∧ H a = none := fun a f => by
            cases f with
            | here => exact ⟨fun z => not_own r1 hp ((own_upd r1 hp _).mp z), hp0⟩
            | sub h e1 e2 f =>
              rw [upd_same] at h; cases h
              obtain ⟨n1, n2⟩ := hvs.new _ _ _ _ e1 e2 (back _ _ _ _ e1 e2 f)
              exact ⟨fun z => n1 ((own_upd r1 hp _).mp z), n2⟩
          have st := s1.trans rel s2
          exact FnS.nx h1 (r2.putT hc tr fun a f => (h0 a f).1).1 (st.putT r2 hc hb ht tr (fun a f => (h0 a f).1) (fun a f => (h0 a f).2))
        · exact h1.elim
      · exact h1.elim⟩
end
/-! reckoning -/
@[simp] theorem dQ_eq (f : En → Option D) (ρ : En) : dQ f ρ = lift (f ρ) ρ := rfl
def imQ (c : Option (Option L)) : Option D := match c with
  | some (some (.im d)) => some d
  | _ => none
@[simp] theorem qVar_eq (i : Nat) (ρ : En) : qVar i ρ = imQ ρ[i]? := by
  unfold qVar imQ
  rfl
@[simp] theorem imQ_im (d : D) : imQ (some (some (.im d))) = some d := rfl
@[simp] theorem qC_eq (d : D) (ρ : En) : qC d ρ = some d := rfl
@[simp] theorem qOp_eq (g : D → D → Option D) (fa fb : En → Option D) (ρ : En) : qOp g fa fb ρ = (fa ρ).bind fun x => (fb ρ).bind fun y => g x y := rfl
@[simp] theorem q1_eq (g : D → Option D) (fa : En → Option D) (ρ : En) : q1 g fa ρ = (fa ρ).bind g := rfl
@[simp] theorem gAddI_int (i j : Int) : gAddI (.int i) (.int j) = some (.int (i + j)) := rfl
@[simp] theorem rootT_ot (t : Tr) : rootT (some (some (.ot t))) = some t := rfl
@[simp] theorem rootT_bt (t : Tr) : rootT (some (some (.bt t))) = some t := rfl
@[simp] theorem nodeQ_eq (i : Nat) (fp : En → Option (List Nat)) (ρ : En) : nodeQ i fp ρ = (rootT ρ[i]?).bind fun t0 => (fp ρ).bind fun p => subT t0 p := rfl
@[simp] theorem pVar_eq (ρ : En) : pVar ρ = some [] := rfl
@[simp] theorem pIx_eq (i : Nat) (fp : En → Option (List Nat)) (fk : En → Option D) (ρ : En) : pIx i fp fk ρ = ixT (nodeQ i fp ρ) (fp ρ) (fk ρ) := rfl
@[simp] theorem qItem_eq (i : Nat) (fp : En → Option (List Nat)) (fk : En → Option D) (ρ : En) : qItem i fp fk ρ = itT (nodeQ i fp ρ) (fk ρ) := rfl
@[simp] theorem qLenT_eq (i : Nat) (fp : En → Option (List Nat)) (ρ : En) : qLenT i fp ρ = lenT (nodeQ i fp ρ) := rfl
@[simp] theorem dAppT_eq (i : Nat) (fp : En → Option (List Nat)) (fa : En → Option D) (ρ : En) : dAppT i fp fa ρ = appT (nodeQ i fp ρ) (fp ρ) (fa ρ) i ρ := rfl
@[simp] theorem subT_nil (t : Tr) : subT t [] = some t := by unfold subT; rfl
@[simp] theorem tNil_eq (ρ : En) : tNil ρ = .ok [] ρ := rfl
@[simp] theorem tIm_eq (f : En → R D) (g : En → R (List Tr)) (ρ : En) : tIm f g ρ = (f ρ).bind fun d ρ1 => (g ρ1).bind fun ts ρ2 => .ok (.im d :: ts) ρ2 := rfl
@[simp] theorem tNew_eq (f : En → R (List D)) (g : En → R (List Tr)) (ρ : En) : tNew f g ρ = (f ρ).bind fun ds ρ1 => (g ρ1).bind fun ts ρ2 => .ok (.ls (ds.map .im) :: ts) ρ2 := rfl
@[simp] theorem dAsgT_eq (i : Nat) (ga : En → R (List Tr)) (ρ : En) : dAsgT i ga ρ = (ga ρ).bind fun ts ρ1 => if ts.length ≤ sizeLine then (if free ρ1[i]? = true then .ok .nx (ρ1.set i (some (.ot (.ls ts)))) else .no) else .no := rfl
@[simp] theorem free_ot (t : Tr) : free (some (some (.ot t))) = true := rfl
end Dn
namespace Dn
open PySem PySem.Spec PyProof.Rows L2
/-! ### a new list so many times -/
def repL (ds : List D) (k : D) : Option D := match k with
  | .int n => if 0 ≤ n ∧ n ≤ 10000 ∧ ds.length * n.toNat ≤ sizeLine then some (.list (List.replicate n.toNat ds).flatten) else none
  | _ => none
def dMulL (fl : En → R (List D)) (fk : En → Option D) : En → R D := fun ρ => (fl ρ).bind fun ds ρ1 => lift ((fk ρ1).bind fun k => repL ds k) ρ1
theorem DRs.rep {K : PySem.W.Frag} {G : Hp} {vs : List V} {ds : List D} (h : DRs K G vs ds) : ∀ n : Nat, DRs K G (List.replicate n vs).flatten (List.replicate n ds).flatten
  | 0 => .nil
  | n + 1 => by
    rw [List.replicate_succ, List.replicate_succ, List.flatten_cons, List.flatten_cons]
    exact h.append (DRs.rep h n)
section
variable {X : Cx} {w : Wh} {a b : Expr} {fl : En → R (List D)} {fk : En → Option D} {pos : Pos}
theorem ve_mulL (ha : VN X w a fl) (hb : VQ X b fk) : VE X w (.BinOp a .Mult b pos) (dMulL fl fk) :=
  PE.imp (pe_op op_rep ha hb) fun σ H Q ⟨G, ρ, rel, h⟩ => ⟨G, ρ, rel, (Fn.bind rel h).imp fun G1 H1 ρ1 ds ⟨r1, s1, h1⟩ p n => by
    obtain ⟨d, e, q⟩ := Fn.lift h1
    simp only [Option.bind_eq_some_iff] at e
    obtain ⟨k, ek, e⟩ := e
    refine ⟨G1, ρ1, k, r1, ek, fun v hv => ?_⟩
    unfold repL at e
    split at e
    · rename_i z
      split at e
      · rename_i hz
        cases e
        cases hv
        obtain ⟨us, hp, hd⟩ := n.here
        refine ⟨p, z, us, rfl, rfl, hp, by omega, by omega, by rw [hd.length]; exact hz.2.2, ?_⟩
        exact hand_new r1 q (DR.newL r1 (hd.rep _))
      · cases e
    · cases e⟩
end
@[simp] theorem dMulL_eq (fl : En → R (List D)) (fk : En → Option D) (ρ : En) : dMulL fl fk ρ = (fl ρ).bind fun ds ρ1 => lift ((fk ρ1).bind fun k => repL ds k) ρ1 := rfl
end Dn
namespace Dn
open PySem PySem.Spec PyProof.Rows L2
/-! ### names for lists within a tree: quiet blocks -/
/-- slot j stands for the place (slot i, path) -/
abbrev Al := Nat → Option (Nat × List Nat)
def al0 : Al := fun _ => none
def putAl (j : Nat) (x : Option (Nat × List Nat)) (α : Al) : Al := fun k => if k = j then x else α k
def AlOK (H : Hp) (σ : L2.St) (ρ : En) (α : Al) : Prop := ∀ (j i : Nat) (p : List Nat), α j = some (i, p) → ∃ (l : L) (t0 : Tr) (v0 v : V) (us : List Tr), ρ[i]? = some (some l) ∧ l.tr = some t0 ∧ σ[i]? = some (some v0) ∧ σ[j]? = some (some v) ∧ NodeAt H v0 t0 p v (.ls us)
theorem AlOK.nil {H : Hp} {σ : L2.St} {ρ : En} : AlOK H σ ρ al0 := fun j i p e => by cases e
section
variable {K : PySem.W.Frag} {G H G' H' G1 H1 : Hp} {σ σ1 : L2.St} {ρ ρ1 : En}
theorem NodeAt.to {v : V} {t : Tr} {p : List Nat} {v' : V} {t' : Tr} (n : NodeAt H v t p v' t') : (∀ a, Foot H v t a → H' a = H a) → NodeAt H' v t p v' t' := by
  induction n with
  | nil => exact fun _ => .nil
  | cons h e1 e2 _ ih => exact fun k => .cons (by rw [k _ .here]; exact h) e1 e2 (ih fun a f => k a (.sub h e1 e2 f))
/-- a list's place stays where a list is changed -/
theorem NodeAt.chg {v v' : V} {t t' : Tr} {p : List Nat} {o : Addr} {vs vs' : List V} {ts ts' : List Tr} (n : NodeAt H v t p v' t') (ev : v' = .ref o) (et : t' = .ls ts) (ho : H o = some (.lst vs)) (c : Chg K G vs ts vs' ts') : TR K G H v t →
    ∀ {q : List Nat} {w : V} {us : List Tr}, NodeAt H v t q w (.ls us) → ∃ us', NodeAt (upd H o (.lst vs')) v (updT t p (.ls ts')) q w (.ls us') := by
  induction n with
  | nil =>
    subst ev; subst et
    intro r q w us m
    cases r with
    | @ls _ vs0 _ g h l ch nf dj =>
      rw [ho] at h; cases h
      unfold updT
      generalize hu : Tr.ls us = u at m
      cases m with
      | nil => exact ⟨ts', .nil⟩
      | @cons _ vs1 _ k x s q' _ _ h e1 e2 m =>
        rw [ho] at h; cases h
        rcases c.old k x s e1 e2 with ⟨f1, f2⟩ | ⟨d, rfl⟩
        · have m' := m.to (H' := upd H o (.lst vs')) fun a f => upd_ne fun z => by subst z; exact nf k x s e1 e2 f
          rw [← hu] at m'
          exact ⟨us, .cons upd_same f1 f2 m'⟩
        · cases m with
          | nil => cases hu
  | @cons b xs ts0 k0 x s p' v' t' h e1 e2 nd ih =>
    subst ev; subst et
    intro r q w us m
    cases r with
    | ls g h' l ch nf dj =>
      rw [h] at h'; cases h'
      have fo : Foot H x s o := nd.foot .here
      have hb : o ≠ b := fun z => by subst z; exact nf k0 x s e1 e2 fo
      have hk : k0 < ts0.length := (List.getElem?_eq_some_iff.mp e2).1
      have hb' : upd H o (.lst vs') b = some (.lst xs) := by rw [upd_ne (Ne.symm hb)]; exact h
      unfold updT
      rw [e2]
      generalize hu : Tr.ls us = u at m
      cases m with
      | nil => exact ⟨ts0.set k0 (updT s p' (.ls ts')), .nil⟩
      | @cons _ vs1 _ k y z q' _ _ h2 f1 f2 m =>
        rw [h] at h2; cases h2
        by_cases hkk : k = k0
        · subst hkk
          rw [e1] at f1; cases f1
          rw [e2] at f2; cases f2
          rw [← hu] at m
          obtain ⟨us', m'⟩ := ih rfl rfl (ch k x s e1 e2) m
          exact ⟨us', .cons hb' e1 (List.getElem?_set_self hk) m'⟩
        · have m' := m.to (H' := upd H o (.lst vs')) fun a f => upd_ne fun w => by subst w; exact hkk (dj k k0 y x z s _ f1 f2 e1 e2 f fo)
          rw [← hu] at m'
          exact ⟨us, .cons hb' f1 (by rw [List.getElem?_set_ne (Ne.symm hkk)]; exact f2) m'⟩
end
/-! #### the judgements -/
abbrev RA := Option (Fl × En × Al)
def FnA (K : PySem.W.Frag) (G H : Hp) (σ : L2.St) (ρ : En) (r : RA) (D : Ends) : Prop := match r with
  | some (.nx, ρ', α') => ∀ G' H' σ', Rel K G' H' σ' ρ' → Stp G H σ ρ G' H' σ' ρ' → AlOK H' σ' ρ' α' → D.nx σ' H'
  | some (.rt d, ρ', _) => ∀ G' H' σ' v, Rel K G' H' σ' ρ' → Stp G H σ ρ G' H' σ' ρ' → DR K G' v d → D.rt v H'
  | _ => False
abbrev tsA (K : PySem.W.Frag) (f : En → Al → RA) : TS := fun D σ H => ∃ G ρ α, Rel K G H σ ρ ∧ AlOK H σ ρ α ∧ FnA K G H σ ρ (f ρ α) D
abbrev QS (X : Cx) (st : Stmt) (f : En → Al → RA) : Prop := PS X st (tsA X.K f)
abbrev QSs (X : Cx) (sts : List Stmt) (f : En → Al → RA) : Prop := PSs X sts (tsA X.K f)
abbrev VQA (X : Cx) (e : Expr) (f : En → Al → Option D) : Prop := PE X e (fun σ H Q => ∃ G ρ α d, Rel X.K G H σ ρ ∧ AlOK H σ ρ α ∧ f ρ α = some d ∧ ∀ v, DR X.K G v d → Q v H)
abbrev VTA (X : Cx) (e : Expr) (f : En → Al → Option Bool) : Prop := PT X e (fun σ H Q => ∃ G ρ α b, Rel X.K G H σ ρ ∧ AlOK H σ ρ α ∧ f ρ α = some b ∧ Q b H)
/-- a place: the slot, the path -/
abbrev VPA (X : Cx) (e : Expr) (f : En → Al → Option (Nat × List Nat)) : Prop := PE X e (fun σ H Q => ∃ G ρ α i p l v0 t0 t, Rel X.K G H σ ρ ∧ AlOK H σ ρ α ∧ f ρ α = some (i, p) ∧ ρ[i]? = some (some l) ∧ l.tr = some t0 ∧ σ[i]? = some (some v0) ∧ subT t0 p = some t ∧ ∀ v, NodeAt H v0 t0 p v t → Q v H)
section
variable {K : PySem.W.Frag} {G H G1 H1 : Hp} {σ σ1 : L2.St} {ρ ρ1 : En}
theorem FnA.after (rel : Rel K G H σ ρ) (s1 : Stp G H σ ρ G1 H1 σ1 ρ1) {r : RA} {D : Ends} (h : FnA K G H σ ρ r D) : FnA K G1 H1 σ1 ρ1 r D := by
  unfold FnA at h ⊢
  split at h
  · exact fun G' H' σ' r2 s2 => h G' H' σ' r2 (s1.trans rel s2)
  · exact fun G' H' σ' v r2 s2 => h G' H' σ' v r2 (s1.trans rel s2)
  · exact h.elim
end
/-- a block goes on -/
def aSeq (f g : En → Al → RA) : En → Al → RA := fun ρ α => match f ρ α with
  | some (.nx, ρ1, α1) => g ρ1 α1
  | r => r
def aNx : En → Al → RA := fun ρ α => some (.nx, ρ, α)
def aIf (c : En → Al → Option Bool) (f g : En → Al → RA) : En → Al → RA := fun ρ α => (c ρ α).bind fun b => if b = true then f ρ α else g ρ α
def aRet (f : En → Al → Option D) : En → Al → RA := fun ρ α => (f ρ α).bind fun d => some (.rt d, ρ, α)
/-- the whole block from no names -/
def dA (f : En → Al → RA) : En → R Fl := fun ρ => match f ρ al0 with
  | some (.nx, ρ', _) => .ok .nx ρ'
  | some (.rt d, ρ', _) => .ok (.rt d) ρ'
  | _ => .no
section
variable {X : Cx} {w : Wh} {st : Stmt} {rest sts sa sb : List Stmt} {f g : En → Al → RA} {e c a b : Expr} {fe fa fb : En → Al → Option D} {fc : En → Al → Option Bool} {fp : En → Al → Option (Nat × List Nat)} {pos p2 : Pos} {x : Str}
theorem vss_a (h : QSs X sts f) : VSs X w sts (dA f) := PSs.imp h fun D σ H ⟨G, ρ, rel, h⟩ => by
  refine ⟨G, ρ, al0, rel, AlOK.nil, ?_⟩
  unfold dA at h
  split at h
  · rename_i q; rw [q]; exact fun G' H' σ' r s _ => h G' H' σ' r s
  · rename_i q; rw [q]; exact h
  · exact h.elim
theorem qss_nil : QSs X [] aNx := PSs.imp pss_nil fun D σ H ⟨G, ρ, α, rel, ok, h⟩ => (show FnA X.K G H σ ρ (some (.nx, ρ, α)) D from h) G H σ rel Stp.refl ok
theorem qss_cons (h1 : QS X st f) (h2 : QSs X rest g) : QSs X (st :: rest) (aSeq f g) := PSs.imp (pss_cons h1 h2) fun D σ H ⟨G, ρ, α, rel, ok, h⟩ => by
  refine ⟨G, ρ, α, rel, ok, ?_⟩
  unfold aSeq at h
  split at h
  · rename_i ρ1 α1 q
    rw [q]
    exact fun G' H' σ' r s ok' => ⟨G', ρ1, α1, r, ok', FnA.after rel s h⟩
  · rename_i hn
    cases q : f ρ α with
    | none => rw [q] at h; exact h
    | some r =>
      obtain ⟨fl, ρ1, α1⟩ := r
      cases fl with
      | nx => exact absurd q (hn ρ1 α1)
      | _ => rw [q] at h; exact h
theorem qss_one (h1 : QS X st f) : QSs X [st] f := pss_one h1
theorem qs_if (hc : VTA X c fc) (ha : QSs X sa f) (hb : QSs X sb g) : QS X (.If c sa sb pos) (aIf fc f g) := PS.imp (ps_if hc ha hb) fun D σ H ⟨G, ρ, α, rel, ok, h⟩ => by
  unfold aIf at h
  cases q : fc ρ α with
  | none => rw [q] at h; exact h.elim
  | some b =>
    rw [q] at h
    refine ⟨G, ρ, α, b, rel, ok, q, ?_⟩
    cases b with
    | true => exact iteT ⟨G, ρ, α, rel, ok, h⟩
    | false => exact iteF ⟨G, ρ, α, rel, ok, h⟩
theorem qs_ret (he : VQA X e fe) : QS X (.Return (some e) pos) (aRet fe) := PS.imp (ps_ret he) fun D σ H ⟨G, ρ, α, rel, ok, h⟩ => by
  unfold aRet at h
  cases q : fe ρ α with
  | none => rw [q] at h; exact h.elim
  | some d =>
    rw [q] at h
    exact ⟨G, ρ, α, d, rel, ok, q, fun v hv => (show FnA X.K G H σ ρ (some (.rt d, ρ, α)) D from h) G H σ v rel Stp.refl hv⟩
/-! quiet expressions -/
def aVar (i : Nat) : En → Al → Option D := fun ρ _ => imQ ρ[i]?
def aC (d : D) : En → Al → Option D := fun _ _ => some d
def aOp (g : D → D → Option D) (fa fb : En → Al → Option D) : En → Al → Option D := fun ρ α => (fa ρ α).bind fun x => (fb ρ α).bind fun y => g x y
def aCmp (g : D → D → Option Bool) (fa fb : En → Al → Option D) : En → Al → Option Bool := fun ρ α => (fa ρ α).bind fun x => (fb ρ α).bind fun y => g x y
def nodeA (ρ : En) (r : Option (Nat × List Nat)) : Option Tr := r.bind fun q => (rootT ρ[q.1]?).bind fun t0 => subT t0 q.2
def aItem (fp : En → Al → Option (Nat × List Nat)) (fk : En → Al → Option D) : En → Al → Option D := fun ρ α => itT (nodeA ρ (fp ρ α)) (fk ρ α)
def aLen (fp : En → Al → Option (Nat × List Nat)) : En → Al → Option D := fun ρ α => lenT (nodeA ρ (fp ρ α))
def pRoot (i : Nat) : En → Al → Option (Nat × List Nat) := fun ρ _ => (rootT ρ[i]?).map fun _ => (i, [])
def pAl (j : Nat) : En → Al → Option (Nat × List Nat) := fun _ α => α j
def ixA (t : Option Tr) (r : Option (Nat × List Nat)) (k : Option D) : Option (Nat × List Nat) := match t, r, k with
  | some (.ls ts), some q, some (.int z) => (ixN ts.length z).map fun j => (q.1, q.2 ++ [j])
  | _, _, _ => none
def pIxA (fp : En → Al → Option (Nat × List Nat)) (fk : En → Al → Option D) : En → Al → Option (Nat × List Nat) := fun ρ α => ixA (nodeA ρ (fp ρ α)) (fp ρ α) (fk ρ α)
theorem qa_var (i : Nat) (hN : X.N[i]? = some x := by rfl) (hv : Vis X.env.scope x := by first | exact Or.inl rfl | exact Or.inr (Or.inl rfl) | exact Or.inr (Or.inr rfl)) (hd : (x == ("__debug__" : Str)) = false := by decide)
    (hcd : (x == ("__classdict__" : Str)) = false := by decide) : VQA X (.Name x pos) (aVar i) :=
  PE.imp (vq_var i hN hv hd hcd) fun σ H Q ⟨G, ρ, α, d, rel, ok, e, q⟩ => ⟨G, ρ, d, rel, by rw [qVar_eq]; exact e, q⟩
theorem qa_int {i : Int} {j : Nat} : VQA X (.Constant (.int i) j pos) (aC (.int i)) := PE.imp pe_int fun σ H Q ⟨G, ρ, α, d, rel, ok, e, q⟩ => by cases e; exact q _ (.int i)
theorem qa_op {op : Operator} {C : Int → Int → Prop} {k : Int → Int → Int} {g : D → D → Option D} (ho : OpR X (binaryOp op) (rI C fun i j => .int (k i j))) (hg : ∀ y z d, g y z = some d → ∃ i j, y = .int i ∧ z = .int j ∧ C i j ∧ d = .int (k i j)) (ha : VQA X a fa) (hb : VQA X b fb) : VQA X (.BinOp a op b pos) (aOp g fa fb) :=
  PE.imp (pe_op ho ha hb) fun σ H Q ⟨G, ρ, α, d, rel, ok, e, q⟩ => by
    simp only [aOp, Option.bind_eq_some_iff] at e
    obtain ⟨y, e1, z, e2, e3⟩ := e
    obtain ⟨i, j, rfl, rfl, hc, rfl⟩ := hg _ _ _ e3
    refine ⟨G, ρ, α, _, rel, ok, e1, fun u hu => ⟨G, ρ, α, _, rel, ok, e2, fun v hv => ?_⟩⟩
    cases hu; cases hv
    exact ⟨i, j, rfl, rfl, hc, q _ (.int _)⟩
theorem op_addI : OpR X (binaryOp .Add) (rI (fun _ _ => True) fun i j => .int (i + j)) := opI fun _ _ _ _ _ _ _ _ q => add_int q
theorem qa_add (ha : VQA X a fa) (hb : VQA X b fb) : VQA X (.BinOp a .Add b pos) (aOp gAddI fa fb) := qa_op op_addI (fun y z d e => by
  cases y <;> cases z <;> first | (cases e; done) | (cases e; exact ⟨_, _, rfl, rfl, trivial, rfl⟩)) ha hb
theorem qa_sub (ha : VQA X a fa) (hb : VQA X b fb) : VQA X (.BinOp a .Sub b pos) (aOp gSub fa fb) := qa_op op_subA (fun y z d e => by
  cases y <;> cases z <;> first | (cases e; done) | (cases e; exact ⟨_, _, rfl, rfl, trivial, rfl⟩)) ha hb
theorem qa_mul (ha : VQA X a fa) (hb : VQA X b fb) : VQA X (.BinOp a .Mult b pos) (aOp gMul fa fb) := qa_op op_mulX (fun y z d e => by
  cases y <;> cases z <;> first | (cases e; done) | (simp only [gMul] at e; split at e <;> cases e; exact ⟨_, _, rfl, rfl, mulX_log ‹_›, rfl⟩)) ha hb
theorem qa_fdiv (ha : VQA X a fa) (hb : VQA X b fb) : VQA X (.BinOp a .FloorDiv b pos) (aOp gFdiv fa fb) := qa_op op_fdivX (fun y z d e => by
  cases y <;> cases z <;> first | (cases e; done) | (simp only [gFdiv] at e; split at e <;> cases e; exact ⟨_, _, rfl, rfl, ‹_›, rfl⟩)) ha hb
theorem qa_mod (ha : VQA X a fa) (hb : VQA X b fb) : VQA X (.BinOp a .Mod b pos) (aOp gMod fa fb) := qa_op op_modN (fun y z d e => by
  cases y <;> cases z <;> first | (cases e; done) | (simp only [gMod] at e; split at e <;> cases e; exact ⟨_, _, rfl, rfl, ‹_›, rfl⟩)) ha hb
theorem qa_pow (ha : VQA X a fa) (hb : VQA X b fb) : VQA X (.BinOp a .Pow b pos) (aOp gPow fa fb) := qa_op op_powB (fun y z d e => by
  cases y <;> cases z <;> first | (cases e; done) | (simp only [gPow] at e; split at e <;> cases e; exact ⟨_, _, rfl, rfl, ‹_›, rfl⟩)) ha hb
theorem ta_cmp {op : CmpOp} {r : R2} {k : D → D → Option Bool} (ho : OpR X (compareOp op) r) (hs : OpB X.K r k) (ha : VQA X a fa) (hb : VQA X b fb) (hm : behindInMarks op b = false) : VTA X (.Compare a [op] [b] pos) (aCmp k fa fb) :=
  PT.imp (pt_cmpR ho ha hb hm) fun σ H Q ⟨G, ρ, α, d, rel, ok, e, q⟩ => by
    simp only [aCmp, Option.bind_eq_some_iff] at e
    obtain ⟨y, e1, z, e2, e3⟩ := e
    exact ⟨G, ρ, α, y, rel, ok, e1, fun u hu => ⟨G, ρ, α, z, rel, ok, e2, fun v hv => hs u v y z d H _ (hu.mono rel.sub) (hv.mono rel.sub) e3 ⟨d, rfl, q⟩⟩⟩
theorem vp_root (i : Nat) (hN : X.N[i]? = some x := by rfl) (hv : Vis X.env.scope x := by first | exact Or.inl rfl | exact Or.inr (Or.inl rfl) | exact Or.inr (Or.inr rfl)) (hd : (x == ("__debug__" : Str)) = false := by decide)
    (hcd : (x == ("__classdict__" : Str)) = false := by decide) : VPA X (.Name x pos) (pRoot i) :=
  PE.imp (pe_var hN hv hd hcd) fun σ H Q ⟨G, ρ, α, j, p, l, v0, t0, t, rel, ok, ep, el, m, s, es, q⟩ => by
    simp only [pRoot, Option.map_eq_some_iff] at ep
    obtain ⟨_, _, ep⟩ := ep
    cases ep
    rw [subT_nil] at es; cases es
    exact ⟨v0, s, q v0 .nil⟩
theorem NodeAt.fun_ {H : Hp} {v : V} {t : Tr} {p : List Nat} {v1 v2 : V} {t1 t2 : Tr} (a : NodeAt H v t p v1 t1) : NodeAt H v t p v2 t2 → v1 = v2 ∧ t1 = t2 := by
  induction a with
  | nil => intro b; cases b with | nil => exact ⟨rfl, rfl⟩
  | cons h e1 e2 _ ih =>
    intro b
    cases b with
    | cons h' f1 f2 b =>
      rw [h] at h'; cases h'
      rw [e1] at f1; cases f1
      rw [e2] at f2; cases f2
      exact ih b
theorem vp_al (j : Nat) (hN : X.N[j]? = some x := by rfl) (hv : Vis X.env.scope x := by first | exact Or.inl rfl | exact Or.inr (Or.inl rfl) | exact Or.inr (Or.inr rfl)) (hd : (x == ("__debug__" : Str)) = false := by decide)
    (hcd : (x == ("__classdict__" : Str)) = false := by decide) : VPA X (.Name x pos) (pAl j) :=
  PE.imp (pe_var hN hv hd hcd) fun σ H Q ⟨G, ρ, α, i, p, l, v0, t0, t, rel, ok, ep, el, m, s, es, q⟩ => by
    obtain ⟨l', t0', v0', v, us, e1, e2, e3, e4, n⟩ := ok j i p ep
    rw [el] at e1; cases e1
    rw [m] at e2; cases e2
    rw [s] at e3; cases e3
    have := n.sub
    rw [es] at this; cases this
    exact ⟨v, e4, q v n⟩
end
end Dn
namespace Dn
open PySem PySem.Spec PyProof.Rows L2
section
variable {K : PySem.W.Frag} {G H : Hp} {σ : L2.St} {ρ : En}
theorem nodeA_sub {ρ : En} {i : Nat} {p : List Nat} {l : L} {t0 t : Tr} (el : ρ[i]? = some (some l)) (m : l.tr = some t0) : nodeA ρ (some (i, p)) = subT t0 p := by
  unfold nodeA rootT
  simp only [Option.bind_some, el, m]
theorem nodeA_some {ρ : En} {r : Option (Nat × List Nat)} {t : Tr} (h : nodeA ρ r = some t) : ∃ i p l t0, r = some (i, p) ∧ ρ[i]? = some (some l) ∧ l.tr = some t0 ∧ subT t0 p = some t := by
  unfold nodeA at h
  simp only [Option.bind_eq_some_iff] at h
  obtain ⟨⟨i, p⟩, rfl, t0, e0, e1⟩ := h
  unfold rootT at e0
  split at e0
  · exact ⟨i, p, _, t0, rfl, by assumption, e0, e1⟩
  · cases e0
end
section
variable {X : Cx} {w : Wh} {e a b : Expr} {fe fa fb : En → Al → Option D} {fp : En → Al → Option (Nat × List Nat)} {pos p p2 : Pos} {x : Str}
theorem vp_ix (ha : VPA X a fp) (hb : VQA X b fb) (hp : PlainIx b := by exact fun _ _ => rfl) : VPA X (.Subscript a b pos) (pIxA fp fb) :=
  PE.imp (pe_ix ix_seq ha hb hp) fun σ H Q ⟨G, ρ, α, i, p, l, v0, t0, t, rel, ok, ep, el, m, s, es, q⟩ => by
    unfold pIxA ixA at ep
    split at ep
    · rename_i ts q1 z e1 e2 e3
      simp only [Option.map_eq_some_iff] at ep
      obtain ⟨j, ej, ep⟩ := ep
      obtain ⟨i1, p1⟩ := q1
      cases ep
      rw [e2, nodeA_sub (t := .ls ts) el m] at e1
      refine ⟨G, ρ, α, i1, p1, l, v0, t0, .ls ts, rel, ok, e2, el, m, s, e1, fun u nd => ⟨G, ρ, α, _, rel, ok, e3, fun w' hw => ?_⟩⟩
      obtain ⟨o, vs, rfl, ho, hl, tr⟩ := node_at rel el m s nd
      have hj : j < ts.length := (ixN_seq ej).2.1
      have et : ts[j]? = some t := by
        have := subT_snoc e1 (List.getElem?_eq_getElem hj)
        rw [es] at this; cases this; exact List.getElem?_eq_getElem hj
      obtain ⟨j', v, ej', et', ev, ea⟩ := atI_two (z := z) hl (by rw [atI_ix ej]; exact et)
      rw [ej] at ej'; cases ej'
      cases hw
      exact .inl ⟨o, vs, z, v, rfl, rfl, .inl (.inl ho), ea, q v (nd.snoc ho ev et)⟩
    · cases ep
theorem qa_item (ha : VPA X a fp) (hb : VQA X b fb) (hp : PlainIx b := by exact fun _ _ => rfl) : VQA X (.Subscript a b pos) (aItem fp fb) :=
  PE.imp (pe_ix ix_seq ha hb hp) fun σ H Q ⟨G, ρ, α, d, rel, ok, ed, q⟩ => by
    unfold aItem itT at ed
    split at ed
    · rename_i ts z e1 e3
      split at ed
      · rename_i d' ea
        cases ed
        obtain ⟨i, p1, l, t0, e2, el, m, es1⟩ := nodeA_some e1
        obtain ⟨v0, s, _⟩ := rel.cell i l el
        refine ⟨G, ρ, α, i, p1, l, v0, t0, .ls ts, rel, ok, e2, el, m, s, es1, fun u nd => ⟨G, ρ, α, _, rel, ok, e3, fun w' hw => ?_⟩⟩
        obtain ⟨o, vs, rfl, ho, hl, tr⟩ := node_at rel el m s nd
        obtain ⟨j, v, ej, et, ev, ea'⟩ := atI_two (z := z) hl ea
        cases hw
        have hv : DR X.K G v d := by
          cases tr with
          | ls g h l c n dj => rw [ho] at h; cases h; cases c j v _ ev et with | im h => exact h
        exact .inl ⟨o, vs, z, v, rfl, rfl, .inl (.inl ho), ea', q v hv⟩
      · cases ed
    · cases ed
theorem qa_len (hg : Gl X "len") (hm : X.mg "len" = none) (ha : VPA X a fp) (he : starEach [a] X.env = [(false, eval a X.env)] := by rfl) : VQA X (.Call (.Name "len" p) [a] [] pos) (aLen fp) :=
  PE.imp (pe_callB call_len hg hm PySem.boot_len (pa_cons ha pa_nil (by rw [he]; rfl)) (by decide) (by decide) (by rw [he]; rfl) (by rfl)) fun σ H Q ⟨G, ρ, α, d, rel, ok, ed, q⟩ => by
    unfold aLen lenT at ed
    split at ed
    · rename_i ts e1
      cases ed
      obtain ⟨i, p1, l, t0, e2, el, m, es1⟩ := nodeA_some e1
      obtain ⟨v0, s, _⟩ := rel.cell i l el
      refine ⟨G, ρ, α, i, p1, l, v0, t0, .ls ts, rel, ok, e2, el, m, s, es1, fun u nd => ?_⟩
      obtain ⟨o, vs, rfl, ho, hl, tr⟩ := node_at rel el m s nd
      exact ⟨_, ts.length, rfl, .inl ⟨vs, .inl (.inl ho), hl.symm⟩, q _ (.int _)⟩
    · cases ed
/-! #### statements -/
def aSet (j : Nat) (fe : En → Al → Option D) : En → Al → RA := fun ρ α => (fe ρ α).bind fun d => if free ρ[j]? = true ∧ (rootT ρ[j]?).isNone = true then some (.nx, ρ.set j (some (.im d)), putAl j none α) else none
theorem AlOK.put {H : Hp} {σ : L2.St} {ρ : En} {α : Al} {j : Nat} {v : V} {l : L} (ok : AlOK H σ ρ α) (hr : (rootT ρ[j]?).isNone = true) : AlOK H (σ.set j (some v)) (ρ.set j (some l)) (putAl j none α) := fun k i p e => by
  unfold putAl at e
  split at e
  · cases e
  · rename_i hk
    obtain ⟨l', t0, v0, u, us, e1, e2, e3, e4, n⟩ := ok k i p e
    have hi : i ≠ j := fun z => by
      subst z
      rw [e1] at hr
      unfold rootT at hr
      simp only [e2] at hr
      cases hr
    exact ⟨l', t0, v0, u, us, by rw [List.getElem?_set_ne (Ne.symm hi)]; exact e1, e2, by rw [List.getElem?_set_ne (Ne.symm hi)]; exact e3, by rw [List.getElem?_set_ne (Ne.symm hk)]; exact e4, n⟩
theorem qs_set (j : Nat) {pos' : Pos} (hN : X.N.Nodup) (he : VQA X e fe) (hi : X.N[j]? = some x := by rfl) (hx : Loc X.env.scope x := by first | exact Or.inl rfl | exact Or.inr rfl) (hs : swapsWith e (some (.Name x pos')) pos.line X.env = pure false := by rfl)
    (hf : X.fn x = true ∨ X.env.scope.names.lookup x = some .local := by first | exact .inl rfl | exact .inr rfl | assumption) : QS X (.Assign [.Name x pos'] e pos) (aSet j fe) :=
  PS.imp (ps_set hN hi hx he hs hf) fun D σ H ⟨G, ρ, α, rel, ok, h⟩ => by
    unfold aSet at h
    cases q : fe ρ α with
    | none => rw [q] at h; exact h.elim
    | some d =>
      rw [q] at h
      have h' : FnA X.K G H σ ρ (if free ρ[j]? = true ∧ (rootT ρ[j]?).isNone = true then some (.nx, ρ.set j (some (.im d)), putAl j none α) else none) D := h
      refine ⟨G, ρ, α, d, rel, ok, q, fun v hv => ?_⟩
      split at h'
      · rename_i hc
        obtain ⟨c, hc1, hb, ht⟩ := free_ok hc.1
        obtain ⟨r1, s1⟩ := rel.put hc1 hb ht hv
        exact h' G H _ r1 s1 (ok.put hc.2)
      · exact h'.elim
/-- name = a list's place -/
def aAl (j : Nat) (fp : En → Al → Option (Nat × List Nat)) : En → Al → RA := fun ρ α => match fp ρ α, nodeA ρ (fp ρ α) with
  | some q, some (.ls _) => if free ρ[j]? = true ∧ (rootT ρ[j]?).isNone = true then some (.nx, ρ.set j none, putAl j (some q) α) else none
  | _, _ => none
theorem Rel.hide {K : PySem.W.Frag} {G H : Hp} {σ : L2.St} {ρ : En} (r : Rel K G H σ ρ) {j : Nat} {c : Option L} (hc : ρ[j]? = some c) (hb : ∀ ds, c ≠ some (L.bo ds)) (ht : ∀ t, c ≠ some (L.bt t)) (v : V) : Rel K G H (σ.set j (some v)) (ρ.set j none) ∧ Stp G H σ ρ G H (σ.set j (some v)) (ρ.set j none) := by
  have lk : ∀ k l, (ρ.set j none)[k]? = some (some l) → k ≠ j ∧ ρ[k]? = some (some l) := fun k l e => by
    by_cases hk : k = j
    · subst hk; rw [set_same hc] at e; cases e
    · rw [List.getElem?_set_ne (Ne.symm hk)] at e; exact ⟨hk, e⟩
  have sk : ∀ k, k ≠ j → (σ.set j (some v))[k]? = σ[k]? := fun k hk => List.getElem?_set_ne (Ne.symm hk)
  refine ⟨⟨r.sub, by simp [r.len], fun k l e => ?_, fun k m l l2 u u2 a ek em sk1 sm fk fm => ?_⟩, ⟨Same.refl _, fun _ _ h _ => h, fun _ h => .inl h, fun a ⟨k, l, u, e, s, f⟩ => .inl ?_, fun _ h => h, by rw [List.length_set], fun k ds e => ?_, fun k t e => ?_⟩⟩
  · obtain ⟨hk, e'⟩ := lk k l e
    obtain ⟨u, s, c⟩ := r.cell k l e'
    exact ⟨u, by rw [sk k hk]; exact s, c⟩
  · obtain ⟨hk, ek'⟩ := lk k l ek
    obtain ⟨hm, em'⟩ := lk m l2 em
    rw [sk k hk] at sk1; rw [sk m hm] at sm
    exact r.apart k m l l2 u u2 a ek' em' sk1 sm fk fm
  · obtain ⟨hk, e'⟩ := lk k l e
    rw [sk k hk] at s
    exact ⟨k, l, u, e', s, f⟩
  · have hk : k ≠ j := fun z => by subst z; rw [hc] at e; exact hb ds (Option.some.inj e)
    exact ⟨sk k hk, ds, by rw [List.getElem?_set_ne (Ne.symm hk)]; exact e⟩
  · have hk : k ≠ j := fun z => by subst z; rw [hc] at e; exact ht t (Option.some.inj e)
    exact ⟨sk k hk, t, by rw [List.getElem?_set_ne (Ne.symm hk)]; exact e, fun _ _ _ f => f⟩
theorem qs_al (j : Nat) {pos' : Pos} (hN : X.N.Nodup) (he : VPA X e fp) (hi : X.N[j]? = some x := by rfl) (hx : Loc X.env.scope x := by first | exact Or.inl rfl | exact Or.inr rfl) (hs : swapsWith e (some (.Name x pos')) pos.line X.env = pure false := by rfl)
    (hf : X.fn x = true ∨ X.env.scope.names.lookup x = some .local := by first | exact .inl rfl | exact .inr rfl | assumption) : QS X (.Assign [.Name x pos'] e pos) (aAl j fp) :=
  PS.imp (ps_set hN hi hx he hs hf) fun D σ H ⟨G, ρ, α, rel, ok, h⟩ => by
    unfold aAl at h
    split at h
    · rename_i q ts e1 e2
      obtain ⟨i, p1, l, t0, e3, el, m, es1⟩ := nodeA_some e2
      rw [e1] at e3; cases e3
      obtain ⟨v0, s, _⟩ := rel.cell i l el
      refine ⟨G, ρ, α, i, p1, l, v0, t0, .ls ts, rel, ok, e1, el, m, s, es1, fun v nd => ?_⟩
      split at h
      · rename_i hc
        obtain ⟨c, hc1, hb, ht⟩ := free_ok hc.1
        obtain ⟨r1, s1⟩ := rel.hide hc1 hb ht v
        have hij : i ≠ j := fun z => by
          subst z
          have := hc.2
          rw [el] at this
          unfold rootT at this
          simp only [m] at this
          cases this
        have hjσ : j < σ.length := by rw [rel.len]; exact (List.getElem?_eq_some_iff.mp hc1).1
        refine h G H _ r1 s1 fun k i2 p2 e => ?_
        unfold putAl at e
        split at e
        · rename_i hk
          subst hk
          cases e
          exact ⟨l, t0, v0, v, ts, by rw [List.getElem?_set_ne (Ne.symm hij)]; exact el, m, by rw [List.getElem?_set_ne (Ne.symm hij)]; exact s, List.getElem?_set_self hjσ, nd⟩
        · rename_i hk
          obtain ⟨l', t0', v0', u, us, f1, f2, f3, f4, n⟩ := ok k i2 p2 e
          have hi : i2 ≠ j := fun z => by
            subst z
            have := hc.2
            rw [f1] at this
            unfold rootT at this
            simp only [f2] at this
            cases this
          exact ⟨l', t0', v0', u, us, by rw [List.getElem?_set_ne (Ne.symm hi)]; exact f1, f2, by rw [List.getElem?_set_ne (Ne.symm hi)]; exact f3, by rw [List.getElem?_set_ne (Ne.symm hk)]; exact f4, n⟩
      · exact h.elim
    · exact h.elim
theorem AlOK.chg {K : PySem.W.Frag} {G H : Hp} {σ : L2.St} {ρ : En} {α : Al} (rel : Rel K G H σ ρ) (ok : AlOK H σ ρ α) {i : Nat} {l : L} {t0 : Tr} {v0 : V} (el : ρ[i]? = some (some l)) (m : l.tr = some t0) (s : σ[i]? = some (some v0)) {p : List Nat} {o : Addr} {vs vs' : List V} {ts ts' : List Tr} (n : NodeAt H v0 t0 p (.ref o) (.ls ts)) (ho : H o = some (.lst vs)) (c : Chg K G vs ts vs' ts') :
    AlOK (upd H o (.lst vs')) σ (ρ.set i (some (l.putT (updT t0 p (.ls ts'))))) α := fun k i2 p2 e => by
  obtain ⟨l', t1, v1, u, us, e1, e2, e3, e4, nd⟩ := ok k i2 p2 e
  by_cases hi : i2 = i
  · subst hi
    rw [el] at e1; cases e1
    rw [m] at e2; cases e2
    rw [s] at e3; cases e3
    obtain ⟨us', n'⟩ := n.chg rfl rfl ho c ((tr_fo m).1.mp (rel.at_ el s)) nd
    exact ⟨_, _, v0, u, us', set_same el, putT_tr m, s, e4, n'⟩
  · have away : ∀ a, Foot H v1 t1 a → upd H o (.lst vs') a = H a := fun a f => upd_ne fun z => by
      subst z
      have f1 : Fo H l v0 a := ((tr_fo (K := K) (G := G) m).2 a).mpr (n.foot .here)
      have f2 : Fo H l' v1 a := ((tr_fo (K := K) (G := G) e2).2 a).mpr f
      exact hi (rel.apart i2 i l' l v1 v0 a e1 el e3 s f2 f1)
    exact ⟨l', t1, v1, u, us, by rw [List.getElem?_set_ne (Ne.symm hi)]; exact e1, e2, e3, e4, nd.to away⟩
/-- place.append(e) -/
def aApp (fp : En → Al → Option (Nat × List Nat)) (fe : En → Al → Option D) : En → Al → RA := fun ρ α => match fp ρ α, nodeA ρ (fp ρ α), fe ρ α with
  | some q, some (.ls ts), some d => if ts.length < sizeLine then (match ρ[q.1]? with
    | some (some l) => (match l.tr with
      | some t0 => some (.nx, ρ.set q.1 (some (l.putT (updT t0 q.2 (.ls (ts ++ [.im d]))))), α)
      | none => none)
    | _ => none) else none
  | _, _, _ => none
theorem qs_app {apos : Pos} (ha : VPA X a fp) (he : VQA X e fe)
    (hbase : attributeBase a "append" X.env (eval a X.env) = eval a X.env := by rfl) (hline : (apos.endLine == pos.line) = true := by rfl)
    (hfew : ((backTo pos (starEach [e] X.env)).all (fun x => !x.1) && (backToKw pos (keywordEach [] X.env)).all (fun x => x.1.isSome) && decide (([e] : List Expr).length + ([] : List Keyword).length + (if ([] : List Keyword).isEmpty then 0 else 1) < 30)) = true := by rfl)
    (hs : starEach [e] X.env = (false, eval e X.env) :: starEach [] X.env := by rfl) (hsw : swapsWith (.Call (.Attribute a "append" apos) [e] [] pos) none p2.line X.env = pure false := by rfl) :
    QS X (.Expr (.Call (.Attribute a "append" apos) [e] [] pos) p2) (aApp fp fe) :=
  PS.imp (ps_expr (pe_bm PySem.F.plainAttrs_list PySem.F.slot_list_append PySem.F.type_list_append mt_append ha (pa_cons he pa_nil hs) hbase hfew hline hs (by rfl)) hsw) fun Z σ H ⟨G, ρ, α, rel, ok, h⟩ => by
    unfold aApp at h
    split at h
    · rename_i q1 ts d e1 e2 e3
      obtain ⟨i, p1⟩ := q1
      split at h
      · rename_i hz
        split at h
        · rename_i l el
          split at h
          · rename_i t0 e0
            obtain ⟨v0, s, _⟩ := rel.cell i l el
            rw [e1, nodeA_sub (t := .ls ts) el e0] at e2
            refine ⟨G, ρ, α, i, p1, l, v0, t0, .ls ts, rel, ok, e1, el, e0, s, e2, fun u nd => ?_⟩
            obtain ⟨o, vs, rfl, ho, hl, tr⟩ := node_at rel el e0 s nd
            refine ⟨.inl ⟨rfl, vs, .inl (.inl ho)⟩, G, ρ, α, d, rel, ok, e3, fun v hv => ?_⟩
            obtain ⟨r2, s2⟩ := rel.changeT el e0 s nd ho (Chg.app hl hv)
            exact ⟨o, vs, v, rfl, rfl, ho, by rw [hl]; exact hz, h _ _ _ r2 s2 (ok.chg rel el e0 s nd ho (Chg.app hl hv))⟩
          · exact h.elim
        · exact h.elim
      · exact h.elim
    · exact h.elim
/-- place[k] = e: one datum for another -/
def aPut (fp : En → Al → Option (Nat × List Nat)) (fk fe : En → Al → Option D) : En → Al → RA := fun ρ α => match fe ρ α, fp ρ α, nodeA ρ (fp ρ α), fk ρ α with
  | some d, some q, some (.ls ts), some (.int z) => (match ixN ts.length z with
    | some j => (match ts[j]? with
      | some (.im _) => (match ρ[q.1]? with
        | some (some l) => (match l.tr with
          | some t0 => some (.nx, ρ.set q.1 (some (l.putT (updT t0 q.2 (.ls (ts.set j (.im d)))))), α)
          | none => none)
        | _ => none)
      | _ => none)
    | none => none)
  | _, _, _, _ => none
theorem qs_put (hv : VQA X e fe) (ha : VPA X a fp) (hk : VQA X b fb)
    (hasg : ∀ v, assign (.Subscript a b pos) X.env v = (do
      let ov ← holding [v] (eval a X.env)
      let iv ← holding [v, ov] (eval b X.env)
      standAt pos
      holding [v, ov, iv] (setItem ov iv v)
      release [v, ov, iv] []) := by intro _; rfl)
    (hs : swapsWithSole [.Subscript a b pos] e p2.line X.env = pure false := by rfl) (hw : swappedStores [.Subscript a b pos] e X.env = pure none := by rfl)
    (h1 : (assignEach [.Subscript a b pos] X.env).map (·.2) = [assign (.Subscript a b pos) X.env] := by rfl) : QS X (.Assign [.Subscript a b pos] e p2) (aPut fp fb fe) :=
  PS.imp (ps_asg hv (pg_sub ha hk set_list hasg) hs hw h1) fun Z σ H ⟨G, ρ, α, rel, ok, h⟩ => by
    unfold aPut at h
    split at h
    · rename_i d q1 ts z e3 e1 e2 e4
      obtain ⟨i, p1⟩ := q1
      split at h
      · rename_i j ej
        split at h
        · rename_i d0 e5
          split at h
          · rename_i l el
            split at h
            · rename_i t0 e0
              obtain ⟨v0, s, _⟩ := rel.cell i l el
              rw [e1, nodeA_sub (t := .ls ts) el e0] at e2
              refine ⟨G, ρ, α, d, rel, ok, e3, fun v hv => ⟨G, ρ, α, i, p1, l, v0, t0, .ls ts, rel, ok, e1, el, e0, s, e2, fun u nd => ?_⟩⟩
              obtain ⟨o, vs, rfl, ho, hl, tr⟩ := node_at rel el e0 s nd
              refine ⟨G, ρ, α, _, rel, ok, e4, fun y hy => ?_⟩
              cases hy
              obtain ⟨r2, s2⟩ := rel.changeT el e0 s nd ho (Chg.set hl e5 hv)
              exact ⟨o, vs, z, j, rfl, rfl, ho, by rw [hl]; exact ej, h _ _ _ r2 s2 (ok.chg rel el e0 s nd ho (Chg.set hl e5 hv))⟩
            · exact h.elim
          · exact h.elim
        · exact h.elim
      · exact h.elim
    · exact h.elim
end
end Dn
namespace Dn
open PySem PySem.Spec PyProof.Rows L2
/-! reckoning with quiet blocks -/
section
variable (ρ : En) (α : Al)
def thnA (r : RA) (g : En → Al → RA) : RA := match r with
  | some (.nx, ρ1, α1) => g ρ1 α1
  | r => r
@[simp] theorem aSeq_eq (f g : En → Al → RA) : aSeq f g ρ α = thnA (f ρ α) g := rfl
@[simp] theorem thnA_nx (g : En → Al → RA) : thnA (some (.nx, ρ, α)) g = g ρ α := rfl
@[simp] theorem thnA_rt (d : D) (g : En → Al → RA) : thnA (some (.rt d, ρ, α)) g = some (.rt d, ρ, α) := rfl
@[simp] theorem aNx_eq : aNx ρ α = some (.nx, ρ, α) := rfl
@[simp] theorem aIf_eq (c : En → Al → Option Bool) (f g : En → Al → RA) : aIf c f g ρ α = (c ρ α).bind fun b => if b = true then f ρ α else g ρ α := rfl
@[simp] theorem aRet_eq (f : En → Al → Option D) : aRet f ρ α = (f ρ α).bind fun d => some (.rt d, ρ, α) := rfl
@[simp] theorem aVar_eq (i : Nat) : aVar i ρ α = imQ ρ[i]? := rfl
@[simp] theorem aC_eq (d : D) : aC d ρ α = some d := rfl
@[simp] theorem aOp_eq (g : D → D → Option D) (fa fb : En → Al → Option D) : aOp g fa fb ρ α = (fa ρ α).bind fun x => (fb ρ α).bind fun y => g x y := rfl
@[simp] theorem aCmp_eq (g : D → D → Option Bool) (fa fb : En → Al → Option D) : aCmp g fa fb ρ α = (fa ρ α).bind fun x => (fb ρ α).bind fun y => g x y := rfl
@[simp] theorem aItem_eq (fp : En → Al → Option (Nat × List Nat)) (fk : En → Al → Option D) : aItem fp fk ρ α = itT (nodeA ρ (fp ρ α)) (fk ρ α) := rfl
@[simp] theorem aLen_eq (fp : En → Al → Option (Nat × List Nat)) : aLen fp ρ α = lenT (nodeA ρ (fp ρ α)) := rfl
@[simp] theorem pRoot_eq (i : Nat) : pRoot i ρ α = (rootT ρ[i]?).map fun _ => (i, []) := rfl
@[simp] theorem pAl_eq (j : Nat) : pAl j ρ α = α j := rfl
@[simp] theorem pIxA_eq (fp : En → Al → Option (Nat × List Nat)) (fk : En → Al → Option D) : pIxA fp fk ρ α = ixA (nodeA ρ (fp ρ α)) (fp ρ α) (fk ρ α) := rfl
@[simp] theorem nodeA_at (i : Nat) (p : List Nat) : nodeA ρ (some (i, p)) = (rootT ρ[i]?).bind fun t0 => subT t0 p := rfl
@[simp] theorem putAl_same (j : Nat) (x : Option (Nat × List Nat)) : putAl j x α j = x := if_pos rfl
theorem putAl_ne {j k : Nat} (x : Option (Nat × List Nat)) (h : k ≠ j) : putAl j x α k = α k := if_neg h
@[simp] theorem aSet_eq (j : Nat) (fe : En → Al → Option D) : aSet j fe ρ α = (fe ρ α).bind fun d => if free ρ[j]? = true ∧ (rootT ρ[j]?).isNone = true then some (.nx, ρ.set j (some (.im d)), putAl j none α) else none := rfl
@[simp] theorem rootT_no : rootT (some none) = none := rfl
@[simp] theorem rootT_im (d : D) : rootT (some (some (.im d))) = none := rfl
@[simp] theorem rootT_ow (d : List D) : rootT (some (some (.ow d))) = none := rfl
@[simp] theorem dA_rt (f : En → Al → RA) {d : D} {ρ' : En} {α' : Al} (h : f ρ al0 = some (.rt d, ρ', α')) : dA f ρ = .ok (.rt d) ρ' := by unfold dA; rw [h]
end
end Dn
namespace PySem
namespace DnExt
open PySem.AutoSeq1
theorem list_extendP (l : Addr) (items : Array Value) (n : Nat) (b : Addr) (items2 : Array Value) (n2 : Nat) (o2 : Obj) (h1 : o2.cls = .type "list") (h2 : o2.data = .seq items2 n2) (h3 : o2.dict = none) (hc0 : ¬(!items.isEmpty && Builtin.List.listTooLong (items.size + items2.size)) = true) (hc1 : items.size ≤ sizeLine) (hs2 : items.size + items2.size ≤ sizeLine + 1) :
    Meets (Builtin.«list.extend» ⟨[.ref l, .ref b], []⟩) (fun _ R s => s.heap.get? l = some { cls := .type "list", dict := none, data := .seq items n, slots := #[] } ∧ s.heap.get? b = some o2 ∧ R (.ok (.ret Value.none)) { s with heap := s.heap.update l (Obj.mapSeq fun x => x ++ items2), toks := s.toks }) :=
  .of_wp fun prog w A R s h => by
    obtain ⟨hp, g, d, tk, os⟩ := s; obtain ⟨hl, hb, h⟩ := h; have f1 := idx_int; have f2 := sub_tuple_tuple; have f3 := sub_list_list; have f4 := sub_tuple_list; have f5 := sub_list_tuple;
    obtain ⟨c2, d2, dt2, sl2⟩ := o2
    dsimp only at h1 h2 h3
    subst h1 h2 h3
    have hz' : (items ++ items2).size ≤ sizeLine + 1 := by rw [Array.size_append]; exact hs2
    wp_walk using (wpAny_updateSeq hl rfl (hz := hc1) (_hz' := hz')), AutoSeq1.wpAny_loadPart' hl, AutoSeq1.wpAny_loadPart' hb; exact ⟨_, rfl, h⟩
end DnExt
end PySem
namespace Dn
open PySem PySem.Spec PyProof.Rows L2
def rExtendS (K : PySem.W.Frag) : V → List V → Hp → VK → Prop := fun x vs H Q => ∃ l b xs zs, x = .ref l ∧ vs = [.ref b] ∧ H l = some (.lst xs) ∧ SqL K H b zs ∧ xs.length + zs.length ≤ sizeLine ∧ Q .non (upd H l (.lst (xs ++ zs)))
theorem mt_extendS {X : Cx} : MtM X "list.extend" (rExtendS X.K) := by
  intro pins s σ H x vs v us Q I rx rv h
  obtain ⟨l, b, xs, zs, rfl, rfl, hH, hB, hz, q⟩ := h
  cases rx
  obtain ⟨u, rfl, ru⟩ := rv.one
  cases ru
  obtain ⟨z, its, n, r, hl, e⟩ := I.lstM hH
  obtain ⟨its2, r2, ⟨o2, n2, e2, c2, d2, t2⟩, z2⟩ := I.list hB
  have hl2 := r2.length
  have hsz : its.toArray.size + its2.toArray.size ≤ sizeLine := by rw [List.size_toArray, List.size_toArray]; omega
  have hlong : ¬ (!its.toArray.isEmpty && Builtin.List.listTooLong (its.toArray.size + its2.toArray.size)) = true := by
    rw [notLongL hsz, Bool.and_false]
    exact Bool.false_ne_true
  refine call_meets F.slot_list_extend ⟨_, e, rfl⟩ F.entry_list_extend (F.args_list_extend_2 _ _)
    (PySem.DnExt.list_extendP l its.toArray n b its2.toArray n2 o2 c2 t2 d2 hlong (by rw [List.size_toArray]; omega) (by omega)) ⟨e, e2, ?_⟩
  refine ⟨.non, _, I.lset (its' := its ++ its2) hH e (by simp) (r.append r2) ?_, rfl, q⟩
  rw [List.length_append]
  omega
/-- x.extend(e) -/
def dExt (i : Nat) (f : En → R D) : En → R Fl := atMine i f fun l ds d ρ => match d with
  | .list es => if ds.length + es.length ≤ sizeLine then .ok .nx (ρ.set i (some (l.put (ds ++ es)))) else .no
  | _ => .no
section
variable {X : Cx} {w : Wh} {x : Str} {p pos : Pos} {e : Expr} {fe : En → R D}
theorem vs_extend (i : Nat) {apos : Pos} (he : VE X w e fe) (hN : X.N[i]? = some x := by rfl) (hv : Vis X.env.scope x := by first | exact Or.inl rfl | exact Or.inr (Or.inl rfl) | exact Or.inr (Or.inr rfl)) (hd : (x == ("__debug__" : Str)) = false := by decide) (hcd : (x == ("__classdict__" : Str)) = false := by decide)
    (hbase : attributeBase (.Name x p) "extend" X.env (eval (.Name x p) X.env) = eval (.Name x p) X.env := by rfl) (hline : (apos.endLine == pos.line) = true := by rfl)
    (hfew : ((backTo pos (starEach [e] X.env)).all (fun x => !x.1) && (backToKw pos (keywordEach [] X.env)).all (fun x => x.1.isSome) && decide (([e] : List Expr).length + ([] : List Keyword).length + (if ([] : List Keyword).isEmpty then 0 else 1) < 30)) = true := by rfl)
    (hs : starEach [e] X.env = (false, eval e X.env) :: starEach [] X.env := by rfl) {pos2 : Pos} (hsw : swapsWith (.Call (.Attribute (.Name x p) "extend" apos) [e] [] pos) none pos2.line X.env = pure false := by rfl) :
    VS X w (.Expr (.Call (.Attribute (.Name x p) "extend" apos) [e] [] pos) pos2) (dExt i fe) :=
  PS.imp (ps_expr (pe_bm PySem.F.plainAttrs_list PySem.F.slot_list_extend PySem.F.type_list_extend mt_extendS (pe_var hN hv hd hcd) (pa_cons he pa_nil hs) hbase hfew hline hs (by rfl)) hsw) fun Z σ H ⟨G, ρ, rel, h⟩ => by
    obtain ⟨o, s, ⟨vs, ho⟩, h⟩ := FnS.mine rel h
    refine ⟨.ref o, s, .inl ⟨rfl, vs, .inl (.inl ho)⟩, G, ρ, rel, h.imp fun G1 H1 ρ1 d ⟨l, ds, e1, m, r1, s1, h1⟩ v hv => ?_⟩
    obtain ⟨o', ws, s', go, hw, hd⟩ := r1.mine e1 m
    rw [s] at s'; cases s'
    cases hv with
    | @lst b zs es hq hds =>
      have h2 : FnS X.K w G1 H1 σ ρ1 (if ds.length + es.length ≤ sizeLine then .ok .nx (ρ1.set i (some (l.put (ds ++ es)))) else .no) Z := h1
      split at h2
      · obtain ⟨r2, s2⟩ := r1.change e1 m s (hd.append hds)
        exact ⟨o, b, ws, zs, rfl, rfl, hw, r1.sub.seq hq, by rw [hd.length, hds.length]; assumption, FnS.nx h2 r2 s2⟩
      · exact h2.elim
    | _ => exact h1.elim
/-! ### a call without arguments -/
def dFn0 (den : En → R L) : En → R D := fun ρ => match den [] with
  | .ok (.im d) _ => .ok d ρ
  | .ok (.ow ds) _ => .ok (.list ds) ρ
  | _ => .no
theorem ve_call0 {k : Nat} {f : Addr} {fd : FuncData} {ps : List Str} {den : En → R L} {ca : String → Option Value} (F : FnOk X.prog X.w X.K X.mg X.base (L2.CX X.prog X.w) k f fd ps (spD X.K ca 0 den)) (hr : Room k X.A) (tk : Takes X w.W) (hca : w.ca = ca) (hg : Gl X x) (hm : X.mg x = some (.ref f)) (hk : PySem.W.keepIn X.K (.ref f) = true) (hb : Binds X.K fd ps [])
    (hdb : (x == ("__debug__" : Str)) = false := by decide) : VE X w (.Call (.Name x p) [] [] pos) (dFn0 den) :=
  PE.imp (pe_call0 F hr hg hm hk hb .nil (passes_call tk (E := fun _ _ _ => False) fun _ _ _ _ z => z.elim) hdb) fun σ H Q ⟨G, ρ, rel, h⟩ => by
    have hl : lend [] ρ = some [] := rfl
    have h' : Fn X.K w G H σ ρ (match den [] with | .ok (.im d) _ => R.ok d ρ | .ok (.ow ds) _ => .ok (.list ds) ρ | _ => .no) (QD X.K Q) := h
    have key := call_ok (X := X) (w := w0 w) (n := 0) (den := den) (ca := ca) (σ := σ) (H := H) (G := G) (ρ := ρ) (vs := []) (as := []) (ls := []) hca (Q := Q) rel .nil rfl hl
      (fun d ls' e => ?_) (fun ds ls' e => ?_) (fun c ls' e => ?_) (fun e => ?_) (fun l ls' e => ?_)
    · exact key
    · rw [e] at h'
      exact fun G' H' r' s' v hv => by rw [give_nil] at r' s'; exact h' G' H' r' s' v hv
    · rw [e] at h'
      intro G' H' r' s' p hg ho ⟨us, hp, hd⟩ hn
      rw [give_nil] at r' s' ho
      obtain ⟨r2, sg, hdr, hfr⟩ := r'.settle hg ho hp hd
      refine h' _ H' r2 ⟨s'.g.trans sg, s'.h, fun a z => ?_, s'.ow, s'.tr, s'.ln, s'.bo, s'.bt⟩ _ hdr
      rcases hfr a z with y | rfl
      · exact s'.fr a y
      · exact .inr (.inl hn)
    · rw [e] at h'; exact h'.elim
    · rw [e] at h'; exact h'.elim
    · rw [e] at h'
      cases l <;> first | exact .inl ⟨_, rfl⟩ | exact .inr ⟨_, rfl⟩ | exact h'.elim
end
@[simp] theorem dFn0_eq (den : En → R L) (ρ : En) : dFn0 den ρ = (match den [] with
  | .ok (.im d) _ => .ok d ρ
  | .ok (.ow ds) _ => .ok (.list ds) ρ
  | _ => .no) := rfl
end Dn
namespace Dn
open PySem PySem.Spec PyProof.Rows L2
/-! ### sorted(ints) -/
def insI (x : Int) : List Int → List Int
  | [] => [x]
  | y :: ys => if x ≤ y then x :: y :: ys else y :: insI x ys
/-- in rising order -/
def srtI : List Int → List Int
  | [] => []
  | x :: xs => insI x (srtI xs)
theorem insI_perm (x : Int) : ∀ ys : List Int, (insI x ys).Perm (x :: ys)
  | [] => .refl _
  | y :: ys => by
    unfold insI
    split
    · exact .refl _
    · exact ((insI_perm x ys).cons y).trans (.swap x y ys)
theorem srtI_perm : ∀ xs : List Int, (srtI xs).Perm xs
  | [] => .refl _
  | x :: xs => (insI_perm x (srtI xs)).trans ((srtI_perm xs).cons x)
theorem insI_up (x : Int) : ∀ ys : List Int, ys.Pairwise (· ≤ ·) → (insI x ys).Pairwise (· ≤ ·)
  | [], _ => List.pairwise_singleton _ _
  | y :: ys, h => by
    unfold insI
    have hy := List.pairwise_cons.mp h
    split
    · rename_i hx
      refine List.pairwise_cons.mpr ⟨fun z hz => ?_, h⟩
      rcases List.mem_cons.mp hz with rfl | hz
      · exact hx
      · have := hy.1 z hz; omega
    · rename_i hx
      refine List.pairwise_cons.mpr ⟨fun z hz => ?_, insI_up x ys hy.2⟩
      rcases List.mem_cons.mp ((insI_perm x ys).mem_iff.mp hz) with rfl | hz
      · omega
      · exact hy.1 z hz
theorem srtI_up : ∀ xs : List Int, (srtI xs).Pairwise (· ≤ ·)
  | [] => .nil
  | x :: xs => insI_up x _ (srtI_up xs)
theorem up_eq : ∀ {xs ys : List Int}, xs.Pairwise (· ≤ ·) → ys.Pairwise (· ≤ ·) → xs.Perm ys → xs = ys
  | [], ys, _, _, p => (List.nil_perm.mp p).symm
  | x :: xs, [], _, _, p => List.perm_nil.mp p
  | x :: xs, y :: ys, h1, h2, p => by
    have a := List.pairwise_cons.mp h1
    have b := List.pairwise_cons.mp h2
    have e : x = y := by
      have h3 : x ∈ y :: ys := p.mem_iff.mp List.mem_cons_self
      have h4 : y ∈ x :: xs := p.mem_iff.mpr List.mem_cons_self
      rcases List.mem_cons.mp h3 with h3 | h3
      · exact h3
      · rcases List.mem_cons.mp h4 with h4 | h4
        · exact h4.symm
        · have := b.1 x h3; have := a.1 y h4; omega
    subst e
    rw [up_eq a.2 b.2 (List.Perm.cons_inv p)]
def gSorted : List D → Option D
  | [.list ds] => (allOf asInt ds).map fun ns => .list ((srtI ns).map PyData.int)
  | _ => none
section
variable {K : PySem.W.Frag}
theorem cs_sorted : CallS K (rSortedI K) gSorted := fun vs ds d G H σ ρ Q rel h e q => by
  obtain ⟨x, rfl⟩ : ∃ x, ds = [x] := one_of (fun a b t => by cases a <;> rfl) rfl e
  cases h with
  | cons h t =>
    cases t
    cases x with
    | list ds =>
      simp only [gSorted, Option.map_eq_some_iff] at e
      obtain ⟨ns, e, rfl⟩ := e
      obtain ⟨a, vs, rfl, h, hs⟩ := h.lst'
      rw [mapM_ints e] at hs
      rw [hs.ints] at h
      refine ⟨a, ns, rfl, rel.sub.seq h, fun ns' p hp hu hn => ?_⟩
      have : ns' = srtI ns := up_eq hu (srtI_up ns) (hp.trans (srtI_perm ns).symm)
      subst this
      exact hand_new rel q (DR.newL rel (DRs.ofInts _)) p hn
    | _ => cases e
end
@[simp] theorem gSorted_list (ds : List D) : gSorted [.list ds] = (allOf asInt ds).map fun ns => .list ((srtI ns).map PyData.int) := rfl
end Dn
namespace Dn
open PySem PySem.Spec PyProof.Rows L2
/-! ### defs that call themselves: so many times at most -/
theorem vss_no {X : Cx} {w : Wh} {sts : List Stmt} : VSs X w sts (fun _ => .no) := ⟨fun pins s σ H D I h => by
  obtain ⟨G, ρ, rel, h⟩ := h
  exact h.elim⟩
def recD (n : Nat) (b : (En → R L) → En → R Fl) : Nat → En → R L
  | 0 => dDef n (fun _ => .no)
  | k + 1 => dDef n (b (recD n b k))
@[simp] theorem recD_succ (n : Nat) (b : (En → R L) → En → R Fl) (k : Nat) : recD n b (k + 1) = dDef n (b (recD n b k)) := rfl
end Dn
namespace Dn
open PySem PySem.Spec PyProof.Rows L2
/-! ### an expression over all slots as they stand, then the slots as ahead -/
def L.vw : L → Option L
  | .xn _ _ _ => none
  | l => some (.im l.all)
@[simp] theorem vw_im (d : D) : (L.im d).vw = some (.im d) := rfl
@[simp] theorem vw_ow (d : List D) : (L.ow d).vw = some (.im (.list d)) := rfl
@[simp] theorem vw_bo (d : List D) : (L.bo d).vw = some (.im (.list d)) := rfl
@[simp] theorem vw_ot (d : Tr) : (L.ot d).vw = some (.im (trD d)) := rfl
@[simp] theorem vw_bt (d : Tr) : (L.bt d).vw = some (.im (trD d)) := rfl
def viewE (ρ : En) : En := ρ.map fun c => c.bind L.vw
/-- a new list of flat things -/
def nView (f : En → R (List D)) : En → R (List D) := fun ρ => match f (viewE ρ) with
  | .ok ds _ => if ds.all flat = true then .ok ds ρ else .no
  | _ => .no
section
variable {K : PySem.W.Frag} {G H : Hp} {σ : L2.St} {ρ : En}
theorem Rel.viewAll (r : Rel K G H σ ρ) : Rel K (Gt G H σ ρ) H σ (viewE ρ) ∧ ∀ a, ¬ Own H σ (viewE ρ) a := by
  have at_ : ∀ (i : Nat) (l : L), (viewE ρ)[i]? = some (some l) → ∃ l0, ρ[i]? = some (some l0) ∧ l = .im l0.all ∧ ∀ a dx c, l0 ≠ .xn a dx c := fun i l e => by
    unfold viewE at e
    rw [List.getElem?_map, Option.map_eq_some_iff] at e
    obtain ⟨c, e1, e2⟩ := e
    cases c with
    | none => cases e2
    | some l0 =>
      cases l0 <;> first | (cases e2; done) | (cases e2; exact ⟨_, e1, rfl, fun a dx c z => by cases z⟩)
  have no : ∀ a, ¬ Own H σ (viewE ρ) a := fun a ⟨i, l, v, e, _, f⟩ => by
    obtain ⟨l0, _, rfl, _⟩ := at_ i l e
    exact f.elim
  refine ⟨⟨Gt_h r, by unfold viewE; rw [List.length_map]; exact r.len, fun i l e => ?_, fun i j l m v u a ei ej si sj fi fj => absurd ⟨i, l, v, ei, si, fi⟩ (no a)⟩, no⟩
  obtain ⟨l0, e0, rfl, hx⟩ := at_ i l e
  obtain ⟨v, s, _⟩ := r.cell i l0 e0
  have hv : AVs K G σ [v] [.sl i] := .sl s .nil
  have hl : lendT ρ [.sl i] = some [some (.im l0.all)] := by rw [lendT_sl e0 hx]; rfl
  obtain ⟨_, h2⟩ := lendT_ok r hv hl
  obtain ⟨d, v', ed, ev, hd⟩ := h2 0 _ rfl
  cases ed
  have : v' = v := by simpa using ev.symm
  subst this
  exact ⟨v', s, hd⟩
theorem flat_drs {G' : Hp} : ∀ {vs : List V} {ds : List D}, DRs K G vs ds → ds.all flat = true → DRs K G' vs ds
  | _, _, .nil, _ => .nil
  | _, _, .cons h t, e => by
    rw [List.all_cons, Bool.and_eq_true] at e
    exact .cons (flat_dr h e.1) (flat_drs t e.2)
end
section
variable {X : Cx} {w : Wh} {e : Expr} {f : En → R (List D)}
theorem vn_view (h : VN X w e f) : VN X w e (nView f) := PE.imp h fun σ H Q ⟨G, ρ, rel, h⟩ => by
  obtain ⟨r0, no⟩ := rel.viewAll
  refine ⟨_, _, r0, ?_⟩
  unfold nView at h
  cases q : f (viewE ρ) with
  | no => rw [q] at h; exact h.elim
  | ex c ρ' => rw [q] at h; exact h.elim
  | ok ds ρ' =>
    rw [q] at h
    have h' : Fn X.K w G H σ ρ (if ds.all flat = true then R.ok ds ρ else .no) (QN X.K H σ Q) := h
    split at h'
    · rename_i hf
      intro G1 H1 r1 s1 p n
      have sH : Same H H1 := fun a o ea => s1.h a o ea (no a)
      obtain ⟨r2, s2⟩ := rel.still sH
      obtain ⟨vs, hp, hd⟩ := n.here
      refine h' G H1 r2 s2 p ⟨Same.free rel.sub n.new, fun z => ?_, ⟨vs, hp, flat_drs hd hf⟩, n.new⟩
      rcases s2.ow p z with y | y
      · obtain ⟨_, us, q'⟩ := rel.own y
        rw [n.new] at q'; cases q'
      · exact not_own rel n.new (by
          have hk : ∀ a, Own H σ ρ a → H1 a = H a := fun a z => by
            obtain ⟨_, us, q⟩ := rel.own z
            rw [q]; exact sH _ _ q
          exact ((rel.keep (G' := G) (H' := H1) (Same.refl _) (rel.sub.trans sH) (fun a z => (rel.own z).1) hk).2 p).mp z)
    · exact h'.elim
end
@[simp] theorem nView_eq (f : En → R (List D)) (ρ : En) : nView f ρ = (match f (viewE ρ) with
  | .ok ds _ => if ds.all flat = true then .ok ds ρ else .no
  | _ => .no) := rfl
@[simp] theorem viewE_nil : viewE [] = [] := rfl
@[simp] theorem viewE_cons (c : Option L) (ρ : En) : viewE (c :: ρ) = c.bind L.vw :: viewE ρ := rfl
end Dn
namespace Dn
open PySem PySem.Spec PyProof.Rows L2
/-! ### exceptions with a field -/
/-- what C.__init__(self, f) does -/
def spI (C : Addr) (f : Str) : Sp := fun vs H Q _ => ∃ a y, vs = [.ref a, y] ∧ H a = some (exo a C none) ∧ ∀ dx, H dx = none → dx ≠ a → Q .non (upd (upd H dx (exd dx [(f, y)])) a (exo a C (some dx)))
theorem init_ok {P : Program} {wd : World} {K : PySem.W.Frag} {mg : Str → Option Value} {base : Heap} {CX : CXT} {qual : Str} {params : Arguments} {scope : Scope} {fI C : Addr} {fd : FuncData} {r f : Str} {p1 p2 p3 p4 : Pos}
    (F : FunD K "__init__" qual params [.Assign [.Attribute (.Name "self" p1) f p2] (.Name r p3) p4] scope [] [] fI fd) (S : FnScope ["self", r] ["self", r] scope) (T : OexC K C) (hno : PySem.W.findIn K (.ref C) f = some none)
    (hv : ∀ X : Cx, X.env.scope = scope → Vis X.env.scope "self" ∧ Vis X.env.scope r) (hd : (r == ("__debug__" : Str)) = false) (hcd : (r == ("__classdict__" : Str)) = false) : FnOk P wd K mg base CX 1 fI fd ["self", r] (spI C f) := by
  refine F.ok S (fun vs H Q E h => ?_) (fun cdv A outer s H vs Q E hr h => ?_)
  · obtain ⟨a, y, rfl, _⟩ := h; rfl
  · obtain ⟨v1, v2⟩ := hv (cxOf CX P wd K mg base ["self", r] qual scope fI cdv A outer s H E) rfl
    refine ⟨_, pss_one (ps_ost (pe_var (i := 0) rfl v1) (pe_var (i := 1) rfl v2 hd hcd)), ?_⟩
    obtain ⟨a, y, rfl, ea, q⟩ := h
    exact ⟨y, rfl, .ref a, rfl, a, C, rfl, T, hno, .inl ⟨ea, q⟩⟩
def dRaiseF (c : String) (f : Str) (fe : En → R D) : En → R Fl := fun ρ => (fe ρ).bind fun d ρ1 => .ex ⟨c, some (f, d)⟩ ρ1
@[simp] theorem dRaiseF_eq (c : String) (f : Str) (fe : En → R D) (ρ : En) : dRaiseF c f fe ρ = (fe ρ).bind fun d ρ1 => .ex ⟨c, some (f, d)⟩ ρ1 := rfl
section
variable {X : Cx} {w : Wh} {x : Str} {p p2 pos np pos' : Pos}
theorem vs_raiseF {nm : String} {f : Str} {C fI : Addr} {k : Nat} {fd : FuncData} {ps : List Str} {CX : CXT} {e : Expr} {fe : En → R D} (hc : X.calm = true) (tk : Takes X w.W) (hca : w.ca nm = some (.ref C)) (T : OexC X.K C)
    (iC : PySem.W.findIn X.K (.ref C) "__init__" = some (some (.ref fI))) (tI : PySem.W.typeIn X.K (.ref fI) = some (.type "function")) (F1 : FnOk X.prog X.w X.K X.mg X.base CX k fI fd ps (spI C f)) (hr : Room (k + 1) X.A) (hb : Binds X.K fd ps [])
    (hx : Passes CX X (fun _ _ _ => False)) (hg : Gl X x) (hm : X.mg x = some (.ref C)) (he : VE X w e fe) (hdb : (x == ("__debug__" : Str)) = false := by decide)
    (hs : starEach [e] X.env = (false, eval e X.env) :: starEach [] X.env := by rfl) (hpl : (backTo pos (starEach [] X.env)).any (·.1) = false := by rfl) : VS X w (.Raise (some (.Call (.Name x p) [e] [] pos)) none pos') (dRaiseF nm f fe) :=
  PS.imp (ps_raise hc tk (pmk_oex (dvs := []) T iC tI F1 hr hb .nil hx hg hm (pa_cons he pa_nil hs) hdb hs hpl)) fun Z σ H ⟨G, ρ, rel, h⟩ => by
    refine ⟨G, ρ, rel, (FnS.bind rel h).imp fun G1 H1 ρ1 d ⟨r1, s1, h1⟩ v hv => ?_⟩
    refine ⟨by simp, fun a ha => ?_⟩
    refine ⟨a, v, rfl, upd_same, fun dx hdx hne => ⟨rfl, dx, [(f, v)], upd_same, ?_, ?_, ?_⟩⟩
    · rw [upd_ne hne, upd_same]
    · rwa [upd_ne hne] at hdx
    · have hdx1 : H1 dx = none := by rwa [upd_ne hne] at hdx
      have eH : upd (del (upd (upd (upd H1 a (exo a C none)) dx (exd dx [(f, v)])) a (exo a C (some dx))) a) dx (.xd [(f, v)]) = upd H1 dx (.xd [(f, v)]) := by
        funext b
        by_cases hb : b = dx
        · subst hb; rw [upd_same, upd_same]
        · rw [upd_ne hb, upd_ne hb]
          by_cases ha' : b = a
          · subst ha'; rw [del_same, ha]
          · rw [del_ne ha', upd_ne ha', upd_ne hb, upd_ne ha']
      rw [eH]
      obtain ⟨r2, s2⟩ := r1.laid (p := dx) (o := .xd [(f, v)]) hdx1
      have h2 : FnS X.K w G1 H1 σ ρ1 (.ex ⟨nm, some (f, d)⟩ ρ1) Z := h1
      exact h2 _ _ _ _ _ r2 s2 ⟨hca, (fun e => nomatch e), fun f' d' e => by cases e; exact ⟨dx, v, rfl, upd_same, hv.mono s2.g⟩⟩
end

/-! ### try .. except X as e -/
section
variable {K : PySem.W.Frag} {G H G0 H0 : Hp} {σ σ0 : L2.St} {ρ ρ0 : En}
/-- a slot that holds nothing of one's own -/
def quietC (c : Option L) : Prop := c = none ∨ ∃ a dx e, c = some (.xn a dx e)
theorem own_slot {i : Nat} {c : Option L} (hc : quietC c) {v : Option V} {a : Addr} (h : Own H (σ.set i v) (ρ.set i c) a) : Own H σ ρ a := by
  obtain ⟨j, l, u, e, s, f⟩ := h
  by_cases hj : j = i
  · subst hj
    by_cases hl : j < ρ.length
    · rw [List.getElem?_set_self hl] at e
      rcases hc with rfl | ⟨a', dx, x, rfl⟩
      · cases e
      · cases e; exact f.elim
    · rw [List.getElem?_eq_none (by simpa using hl)] at e; cases e
  · rw [List.getElem?_set_ne (Ne.symm hj)] at e s
    exact ⟨j, l, u, e, s, f⟩
theorem Stp.slot (s : Stp G0 H0 σ0 ρ0 G H σ ρ) {i : Nat} (hb : ∀ ds, ρ0[i]? ≠ some (some (L.bo ds))) (ht : ∀ t, ρ0[i]? ≠ some (some (L.bt t))) {c : Option L} (hc : quietC c) (v : Option V) : Stp G0 H0 σ0 ρ0 G H (σ.set i v) (ρ.set i c) := by
  refine ⟨s.g, s.h, s.fr, fun a h => s.ow a (own_slot hc h), s.tr, by rw [List.length_set]; exact s.ln, fun j ds e => ?_, fun j t e => ?_⟩
  · have hj : j ≠ i := fun z => by subst z; exact hb ds e
    obtain ⟨e1, ds', e2⟩ := s.bo j ds e
    exact ⟨by rw [List.getElem?_set_ne (Ne.symm hj)]; exact e1, ds', by rw [List.getElem?_set_ne (Ne.symm hj)]; exact e2⟩
  · have hj : j ≠ i := fun z => by subst z; exact ht t e
    obtain ⟨e1, t', e2, f⟩ := s.bt j t e
    exact ⟨by rw [List.getElem?_set_ne (Ne.symm hj)]; exact e1, t', by rw [List.getElem?_set_ne (Ne.symm hj)]; exact e2, f⟩
theorem Rel.unset (r : Rel K G H σ ρ) (i : Nat) : Rel K G H (σ.set i none) (ρ.set i none) := by
  have key : ∀ (j : Nat) (l : L), (ρ.set i none)[j]? = some (some l) → j ≠ i ∧ ρ[j]? = some (some l) := fun j l e => by
    by_cases hj : j = i
    · subst hj
      by_cases hl : j < ρ.length
      · rw [List.getElem?_set_self hl] at e; cases e
      · rw [List.getElem?_eq_none (by simpa using hl)] at e; cases e
    · rw [List.getElem?_set_ne (Ne.symm hj)] at e; exact ⟨hj, e⟩
  refine ⟨r.sub, by rw [List.length_set, List.length_set]; exact r.len, fun j l e => ?_, fun j k l m v u a ej ek sj sk fj fk => ?_⟩
  · obtain ⟨hj, e'⟩ := key j l e
    obtain ⟨v, s, c⟩ := r.cell j l e'
    exact ⟨v, by rw [List.getElem?_set_ne (Ne.symm hj)]; exact s, c⟩
  · obtain ⟨hj, ej'⟩ := key j l ej
    obtain ⟨hk, ek'⟩ := key k m ek
    rw [List.getElem?_set_ne (Ne.symm hj)] at sj
    rw [List.getElem?_set_ne (Ne.symm hk)] at sk
    exact r.apart j k l m v u a ej' ek' sj sk fj fk
theorem Rel.setX (r : Rel K G H σ ρ) {i : Nat} (hi : i < ρ.length) {a : Addr} {dx : Option Addr} {c : Exn} (hs : ∀ f d, c.arg = some (f, d) → ∃ o y, dx = some o ∧ G o = some (.xd [(f, y)]) ∧ DR K G y d) : Rel K G H (σ.set i (some (.ref a))) (ρ.set i (some (.xn a dx c))) := by
  obtain ⟨r', _⟩ := r.set1 (G' := G) (H' := H) (v' := .ref a) (l' := .xn a dx c) (c := ρ[i]) (by rw [List.getElem?_eq_getElem hi]) (Same.refl _) r.sub (fun a h => (r.own h.own).1) (fun _ _ => rfl) ⟨rfl, hs⟩ (fun a f => f.elim)
  exact r'
end
def wipe1 (i : Nat) : R Fl → R Fl
  | .ok (.rl _) _ => .no
  | .ok f ρ => .ok f (ρ.set i none)
  | r => r
open Classical in
/-- the same whatever the exception's addresses are -/
noncomputable def asK (F : Addr → Option Addr → R Fl) : R Fl := if ∀ a dx, F a dx = F 0 none then F 0 none else .no
theorem asK_eq {F : Addr → Option Addr → R Fl} {r : R Fl} (h : ∀ a dx, F a dx = r) : asK F = r := by
  unfold asK
  rw [if_pos (fun a dx => by rw [h, h]), h]
theorem asK_of {F : Addr → Option Addr → R Fl} (h : asK F ≠ .no) (a : Addr) (dx : Option Addr) : asK F = F a dx := by
  unfold asK at h ⊢
  split
  · rename_i q; exact (q a dx).symm
  · rename_i q; rw [if_neg q] at h; exact absurd rfl h
noncomputable def dTryAs (i : Nat) (b : En → R Fl) (cat : String → Option Bool) (s : Addr → Option Addr → Exn → En → R Fl) : En → R Fl := fun ρ => match b ρ with
  | .ex e ρ1 => match cat e.cls with
    | some true => if free ρ1[i]? = true then asK (fun a dx => wipe1 i (noX (s a dx e (ρ1.set i (some (.xn a dx e)))))) else .no
    | some false => .ex e ρ1
    | none => .no
  | r => r
section
variable {X : Cx} {w : Wh} {x n : Str} {p p2 pos np pos' : Pos}
theorem vs_tryAs (i : Nat) {c : Value} {b₀ : Stmt} {body suite : List Stmt} {fb : En → R Fl} {fs : Addr → Option Addr → Exn → En → R Fl} {cat : String → Option Bool} (hs : X.stack = X.env :: X.outer) (hf : X.env.frame = some X.env.locals) (hN : X.N.Nodup) (hi : X.N[i]? = some n)
    (hln : X.env.kindOf n = some .local) (hc : Names X x c) (tk : Takes X w.W) (hcalm : X.calm = true) {k : Nat} (hr : Room k X.A)
    (hcat : ∀ e b cls, cat e = some b → w.ca e = some cls → PySem.W.exmOne X.K cls c = some b)
    (hb : ∀ (W : WX) (pn : List (Addr × Obj)) (xe : Value → Shared → Prop), Gd (X.tr pn xe) ⟨w.ca, W⟩ k → VSs (X.tr pn xe) ⟨w.ca, W⟩ body fb)
    (hsu : ∀ (a : Addr) (oe : Obj) (cls : Value) (d : Option Addr) (pn : List (Addr × Obj)) (e : Exn), Zc cls d oe → (∃ vs, oe.data = .fields vs) → w.ca e.cls = some cls → (e.arg = none → d = none ∨ ∃ n, cls = Value.type n) →
      VSs (X.suite a ((a, oe) :: pn)) (w0 w) (b₀ :: suite) (fs a d e)) :
    VS X w (.Try body [.ExceptHandler (some (.Name x np)) (some n) (b₀ :: suite) pos'] [] [] pos) (dTryAs i fb cat fs) :=
  PS.imp (ps_try_as (i := i) (tb := fun W => tsS X.K ⟨w.ca, W⟩ fb) (ts := fun a cls d D σ H => ∃ e : Exn, w.ca e.cls = some cls ∧ (e.arg = none → d = none ∨ ∃ n, cls = Value.type n) ∧ tsS X.K (w0 w) (fs a d e) D σ H) hs hf hN hi hln hc tk (fun W pn xe t po => hb W pn xe ⟨hcalm, t, po, hr⟩)
    (fun a oe cls d pn hz hfl => ⟨fun pins s σ H D I ⟨e, h1, h2, h⟩ => (hsu a oe cls d pn e hz hfl h1 h2).run pins s σ H D I h⟩)) fun Z σ H ⟨G, ρ, rel, h⟩ => by
    refine ⟨G, ρ, rel, ?_⟩
    unfold dTryAs at h
    cases q : fb ρ with
    | no => rw [q] at h; exact h
    | ok f ρ1 => rw [q] at h; cases f <;> exact h
    | ex e ρ1 =>
      rw [q] at h
      have h2 : FnS X.K w G H σ ρ (match cat e.cls with | some true => if free ρ1[i]? = true then asK (fun a dx => wipe1 i (noX (fs a dx e (ρ1.set i (some (.xn a dx e)))))) else .no | some false => .ex e ρ1 | none => .no) Z := h
      intro G' H' σ' cls dx r' s' x'
      cases q2 : cat e.cls with
      | none => rw [q2] at h2; exact h2.elim
      | some b =>
        rw [q2] at h2
        refine ⟨b, hcat e.cls b cls q2 x'.hc, fun hb a ha => ?_, fun hb => ?_⟩
        · subst hb
          have h3 : FnS X.K w G H σ ρ (if free ρ1[i]? = true then asK (fun a dx => wipe1 i (noX (fs a dx e (ρ1.set i (some (.xn a dx e)))))) else .no) Z := h2
          split at h3
          · rename_i hfree
            obtain ⟨c0, hc0, nb, nt⟩ := free_ok hfree
            have hil : i < ρ1.length := (List.getElem?_eq_some_iff.mp hc0).1
            have hb0 : ∀ ds, ρ[i]? ≠ some (some (L.bo ds)) := fun ds z => by
              obtain ⟨_, ds', e2⟩ := s'.bo i ds z
              rw [hc0] at e2; cases e2; exact nb _ rfl
            have ht0 : ∀ t, ρ[i]? ≠ some (some (L.bt t)) := fun t z => by
              obtain ⟨_, t', e2, _⟩ := s'.bt i t z
              rw [hc0] at e2; cases e2; exact nt _ rfl
            have rX := r'.setX hil (a := a) (dx := dx) (c := e) (fun f d ea => x'.hs f d ea)
            have sA := s'.slot hb0 ht0 (c := some (.xn a dx e)) (.inr ⟨a, dx, e, rfl⟩) (some (.ref a))
            refine ⟨e, x'.hc, x'.hn, G', ρ1.set i (some (.xn a dx e)), rX, ?_⟩
            have hno : asK (fun a dx => wipe1 i (noX (fs a dx e (ρ1.set i (some (.xn a dx e)))))) ≠ .no := fun z => by rw [z] at h3; exact h3.elim
            rw [asK_of hno a dx] at h3
            have h4 : FnS X.K w G H σ ρ (wipe1 i (noX (fs a dx e (ρ1.set i (some (.xn a dx e)))))) Z := h3
            cases q3 : fs a dx e (ρ1.set i (some (.xn a dx e))) with
            | no => rw [q3] at h4; exact h4.elim
            | ex e2 ρ2 => rw [q3] at h4; exact h4.elim
            | ok f ρ2 =>
              rw [q3] at h4
              have qn : quietC (none : Option L) := .inl rfl
              cases f with
              | nx => exact fun G2 H2 σ2 r2 s2 => h4 G2 H2 _ (r2.unset i) ((sA.trans rel s2).slot hb0 ht0 qn none)
              | bk => exact fun G2 H2 σ2 r2 s2 => h4 G2 H2 _ (r2.unset i) ((sA.trans rel s2).slot hb0 ht0 qn none)
              | ct => exact fun G2 H2 σ2 r2 s2 => h4 G2 H2 _ (r2.unset i) ((sA.trans rel s2).slot hb0 ht0 qn none)
              | rt d => exact fun G2 H2 σ2 v r2 s2 hv => h4 G2 H2 _ v (r2.unset i) ((sA.trans rel s2).slot hb0 ht0 qn none) hv
              | rl ds => exact h4.elim
          · exact h3.elim
        · subst hb
          exact h2 G' H' σ' cls dx r' s' (x'.to rfl)
end
open Classical in
noncomputable def atX {α : Type} (a : Addr) (dx : Option Addr) (c : Exn) (i : Nat) (g : En → R α) : En → R α := fun ρ => if ρ[i]? = some (some (.xn a dx c)) then g ρ else .no
theorem atX_eq {α : Type} {a : Addr} {dx : Option Addr} {c : Exn} {i : Nat} {g : En → R α} {ρ : En} (h : ρ[i]? = some (some (.xn a dx c))) : atX a dx c i g ρ = g ρ := if_pos h
/-- e.f, e of the class nm -/
noncomputable def dXF (a : Addr) (dx : Option Addr) (c : Exn) (i : Nat) (nm : String) (f : Str) : En → R D := atX a dx c i fun ρ => match c.arg with
  | some (f', d) => if f' = f ∧ c.cls = nm then .ok d ρ else .no
  | none => .no
/-- isinstance(e, C), by the table -/
noncomputable def dIsE (a : Addr) (dx : Option Addr) (c : Exn) (i : Nat) (tab : String → Option Bool) : En → R Bool := atX a dx c i fun ρ => match tab c.cls with
  | some b => .ok b ρ
  | none => .no
section
variable {X : Cx} {w : Wh} {x n : Str} {p p1 p2 pos : Pos} {a : Addr} {d : Option Addr} {c : Exn} {oe : Obj} {cls : Value} {pn : List (Addr × Obj)}
theorem ve_xf (i : Nat) {nm : String} {f : Str} {C : Addr} (hz : Zc cls d oe) (hf : ∃ vs, oe.data = .fields vs) (hc : w.ca c.cls = some cls) (hca : w.ca nm = some (.ref C)) (T : XfC X.K C) (hno : PySem.W.findIn X.K (.ref C) f = some none)
    (hN : (X.suite a ((a, oe) :: pn)).N[i]? = some n := by rfl) (hv : Vis (X.suite a ((a, oe) :: pn)).env.scope n := by first | exact Or.inl rfl | exact Or.inr (Or.inl rfl) | exact Or.inr (Or.inr rfl)) (hd : (n == ("__debug__" : Str)) = false := by decide)
    (hcd : (n == ("__classdict__" : Str)) = false := by decide) (hb : attributeBase (.Name n p) f X.env (eval (.Name n p) X.env) = eval (.Name n p) X.env := by rfl) : VE (X.suite a ((a, oe) :: pn)) w (.Attribute (.Name n p) f pos) (dXF a d c i nm f) :=
  PE.imp (pe_xf (X := X) (C := C) T hno hz hf (pe_var hN hv hd hcd) hb) fun σ H Q ⟨G, ρ, rel, h⟩ => by
    unfold dXF atX at h
    split at h
    · rename_i e
      cases q : c.arg with
      | none => rw [q] at h; exact h.elim
      | some fd =>
        obtain ⟨f', dd⟩ := fd
        rw [q] at h
        have h2 : Fn X.K w G H σ ρ (if f' = f ∧ c.cls = nm then R.ok dd ρ else .no) (QD X.K Q) := h
        split at h2
        · rename_i hh
          obtain ⟨rfl, hnm⟩ := hh
          obtain ⟨v, s, ev, hs⟩ := rel.cell i _ e
          subst ev
          obtain ⟨o, y, ed, hG, hy⟩ := hs _ _ q
          have ecls : cls = .ref C := by rw [hnm, hca] at hc; cases hc; rfl
          refine ⟨.ref a, s, rfl, ecls, o, [(f', y)], y, ed, rel.sub _ _ hG, by simp [List.lookup], ?_⟩
          exact h2.ok rel y hy
        · exact h2.elim
    · exact h.elim
/-- isinstance(e, c), e the exception that the suite holds, whatever dict it has -/
def rIsX (K : PySem.W.Frag) (D a : Addr) (d : Option Addr) : List V → Hp → VK → Prop := fun xs H Q => ∃ (c : V) (cv : Value) (b : Bool), xs = [.ref a, c] ∧ (∀ u, RelV c u → u = cv) ∧ PySem.W.kitOne K (.ref D) cv = some b ∧ (∀ dd, d = some dd → ∃ fs, H dd = some (.xd fs)) ∧ Q (.bl b) H
theorem call_isX {D : Addr} (C : ExcC X.K D) (hz : Zc (.ref D) d oe) (hf : ∃ vs, oe.data = .fields vs) : CallR (X.suite a ((a, oe) :: pn)) (.builtin "isinstance") (rIsX X.K D a d) := by
  intro pins s σ H xs us Q I r h
  obtain ⟨c, cv, b, rfl, hcv, e, hdd, q⟩ := h
  cases r with
  | cons rx rr =>
    cases rr with
    | cons rt rr =>
      cases rr
      cases rx
      have ec := hcv _ rt
      subst ec
      obtain ⟨hget, _⟩ := I.pin (a, oe) (List.mem_append.mpr (.inl List.mem_cons_self))
      obtain ⟨vs, hv⟩ := hf
      obtain ⟨cd, hcl, _⟩ := PySem.W.any_some C.hd
      have hclS : (PySem.W.clsIn X.K D).isSome = true := by rw [hcl]; rfl
      obtain ⟨od, J⟩ : ∃ od, PySem.W.InstAt s.heap a oe D od := by
        cases d with
        | none =>
          refine ⟨none, hget, hz.1, ?_, ?_⟩
          · unfold PySem.W.notCls; rw [hv] <;> rfl
          · rw [hz.2]; trivial
        | some dd =>
          obtain ⟨fs, hH⟩ := hdd dd rfl
          have hx : ObjOk X.prog X.w H s.heap dd (.xd fs) := I.hok dd _ hH
          obtain ⟨mA, hns, hr⟩ := hx
          obtain ⟨od, ho, hl⟩ := lookIn_ns hns
          exact ⟨some od, hget, hz.1, by unfold PySem.W.notCls; rw [hv] <;> rfl, by rw [hz.2]; exact ho⟩
      exact PySem.W.kia_one (PySem.W.kitx_exc (gt := none) hclS C.hg C.hk C.hs C.ha C.hn C.ht C.hm) I.kIn J e (fun z => nomatch z) fun tk => ⟨.bl b, H, I.kept (t' := tk) fun _ _ z => z, rfl, q⟩
theorem ve_isE (i : Nat) {D : Addr} {y : Str} {yv : V} {cv : Value} {tab : String → Option Bool} (hz : Zc cls d oe) (hf : ∃ vs, oe.data = .fields vs) (hc : w.ca c.cls = some cls) (hn : c.arg = none → d = none ∨ ∃ n, cls = Value.type n) (hcls : tab c.cls ≠ none → cls = .ref D ∧ ExcC X.K D)
    (htab : ∀ b, tab c.cls = some b → PySem.W.kitOne X.K cls cv = some b) (hg : Gl X "isinstance") (hm : X.mg "isinstance" = none) (hy : PE (X.suite a ((a, oe) :: pn)) (.Name y p2) (tC yv)) (hcv : ∀ u, RelV yv u → u = cv)
    (hN : (X.suite a ((a, oe) :: pn)).N[i]? = some n := by rfl) (hv : Vis (X.suite a ((a, oe) :: pn)).env.scope n := by first | exact Or.inl rfl | exact Or.inr (Or.inl rfl) | exact Or.inr (Or.inr rfl)) (hd : (n == ("__debug__" : Str)) = false := by decide)
    (hcd : (n == ("__classdict__" : Str)) = false := by decide)
    (he : starEach [Expr.Name n p1, Expr.Name y p2] X.env = [(false, eval (.Name n p1) X.env), (false, eval (.Name y p2) X.env)] := by rfl) (he2 : starEach [Expr.Name y p2] X.env = [(false, eval (.Name y p2) X.env)] := by rfl) :
    VE (X.suite a ((a, oe) :: pn)) w (.Call (.Name "isinstance" p) [.Name n p1, .Name y p2] [] pos) (dB (dIsE a d c i tab)) := by
  by_cases ht : tab c.cls = none
  · refine ⟨fun pins s σ H Q I ⟨G, ρ, rel, h⟩ => ?_⟩
    exfalso
    have h2 : Fn X.K w G H σ ρ ((dIsE a d c i tab ρ).bind fun b ρ1 => .ok (.bool b) ρ1) (QD X.K Q) := h
    unfold dIsE atX at h2
    split at h2
    · rw [ht] at h2; exact h2
    · exact h2
  · obtain ⟨rfl, E⟩ := hcls ht
    refine PE.imp (pe_callB (call_isX (X := X) E hz hf) hg hm (by decide +kernel) (pa_cons (pe_var hN hv hd hcd) (pa_cons hy pa_nil (by rw [he2]; rfl)) (by rw [he, he2])) (by decide) (by decide) (by rw [he, he2]) (by rw [he2]; rfl)) fun σ H Q ⟨G, ρ, rel, h⟩ => ?_
    have h2 : Fn X.K w G H σ ρ ((dIsE a d c i tab ρ).bind fun b ρ1 => .ok (.bool b) ρ1) (QD X.K Q) := h
    unfold dIsE atX at h2
    split at h2
    · rename_i es
      cases q : tab c.cls with
      | none => exact absurd q ht
      | some b =>
        rw [q] at h2
        have h3 : Fn X.K w G H σ ρ (.ok (.bool b) ρ) (QD X.K Q) := h2
        obtain ⟨v, s, ev, hs⟩ := rel.cell i _ es
        subst ev
        refine ⟨.ref a, s, ?_⟩
        refine ⟨yv, cv, b, rfl, hcv, htab b q, fun dd ed => ?_, h3.ok rel _ (.bl b)⟩
        cases q2 : c.arg with
        | none =>
          rcases hn q2 with z | ⟨n, z⟩
          · rw [z] at ed; cases ed
          · cases z
        | some fd =>
          obtain ⟨f', d'⟩ := fd
          obtain ⟨o, y', ed', hG, _⟩ := hs _ _ q2
          rw [ed] at ed'; cases ed'
          exact ⟨_, rel.sub _ _ hG⟩
    · exact h2.elim
end
end Dn
namespace Dn
open PySem PySem.Spec PyProof.Rows L2
/-! ### what the head tells of exception classes -/
def oexB (K : PySem.W.Frag) (C : Addr) : Bool := (match K.lookup C with
  | some ⟨.type "type", _, .cls cd, sl⟩ => (match cd.mro, sl.toList with
    | .ref C' :: bm, [_, _, _, _, some (.builtin n), _] => C' == C && n == "ValueError.__new__" && !cd.hasDel && PySem.HandSPX.refsVE bm && cd.hasDict
    | _, _ => false)
  | _ => false) && (decide (PySem.W.findIn K (.ref C) "__setattr__" = some (some (.builtin "object.__setattr__"))) && (decide (PySem.W.subIn K (.ref C) (.type "BaseException") = some true) && (decide (PySem.W.typeIn K (.ref C) = some (.type "type")) && PySem.W.keepIn K (.ref C))))
theorem oexB_ok {K : PySem.W.Frag} {C : Addr} (h : oexB K C = true) : OexC K C := by
  obtain ⟨h1, h⟩ := Bool.and_eq_true_iff.mp h
  obtain ⟨h2, h⟩ := Bool.and_eq_true_iff.mp h
  obtain ⟨h3, h⟩ := Bool.and_eq_true_iff.mp h
  obtain ⟨h4, h5⟩ := Bool.and_eq_true_iff.mp h
  refine ⟨?_, of_decide_eq_true h2, of_decide_eq_true h3, of_decide_eq_true h4, h5⟩
  split at h1
  · rename_i dd cd sl ho
    split at h1
    · rename_i C' bm k0 k1 k2 k3 n k5 hm hs
      simp only [Bool.and_eq_true, beq_iff_eq, Bool.not_eq_true'] at h1
      obtain ⟨⟨⟨⟨rfl, rfl⟩, hdel⟩, ht⟩, hdict⟩ := h1
      obtain ⟨nm, bs, mro, ns, qn, hd, sn, sub, ab, col, del⟩ := cd
      dsimp only at hm hdel hdict
      subst hm hdel hdict
      have hsl : sl = #[k0, k1, k2, k3, some (.builtin "ValueError.__new__"), k5] := by
        obtain ⟨l⟩ := sl
        simp only at hs
        rw [hs]
      subst hsl
      exact ⟨nm, qn, ns, bs, bm, sn, sub, ab, col, dd, k0, k1, k2, k3, k5, ho, ht⟩
    · cases h1
  · cases h1
/-- a class with its own __init__, which stores one field -/
structure IniC (K : PySem.W.Frag) (x f : Str) : Prop where
  o : OexC K (He.ga K x)
  i : PySem.W.findIn K (.ref (He.ga K x)) "__init__" = some (some (.ref (He.fAd K (x, some "__init__"))))
  t : PySem.W.typeIn K (.ref (He.fAd K (x, some "__init__"))) = some (.type "function")
  n : PySem.W.findIn K (.ref (He.ga K x)) f = some none
  x : XfC K (He.ga K x)
def iniB (x f : Str) (K : PySem.W.Frag) : Bool := oexB K (He.ga K x) && (decide (PySem.W.findIn K (.ref (He.ga K x)) "__init__" = some (some (.ref (He.fAd K (x, some "__init__"))))) && (decide (PySem.W.typeIn K (.ref (He.fAd K (x, some "__init__"))) = some (.type "function")) && (decide (PySem.W.findIn K (.ref (He.ga K x)) f = some none) && xfB K (He.ga K x))))
theorem iniB_ok {K : PySem.W.Frag} {x f : Str} (h : iniB x f K = true) : IniC K x f := by
  obtain ⟨h1, h⟩ := Bool.and_eq_true_iff.mp h
  obtain ⟨h2, h⟩ := Bool.and_eq_true_iff.mp h
  obtain ⟨h3, h⟩ := Bool.and_eq_true_iff.mp h
  obtain ⟨h4, h5⟩ := Bool.and_eq_true_iff.mp h
  exact ⟨oexB_ok h1, of_decide_eq_true h2, of_decide_eq_true h3, of_decide_eq_true h4, xfB_ok h5⟩
def exiB (x : Str) (K : PySem.W.Frag) : Bool :=
  decide (PySem.W.findIn K (.ref (He.ga K x)) "__getattribute__" = some (some (.builtin "BaseException.__getattribute__"))) && (decide (PySem.W.findIn K (.ref (He.ga K x)) "__getattr__" = some none) && (decide (PySem.W.subIn K (.ref (He.ga K x)) (.type "BaseException") = some true) && (PySem.W.hasDictIn K (He.ga K x) &&
  (decide (PySem.W.findIn K (.ref (He.ga K x)) "__class__" = some (some (.builtin "object.__class__"))) && (decide (PySem.W.specialIn K (.builtin "object.__class__") "__get__" = some (some (.builtin "getset_descriptor.__get__"))) && (decide (PySem.W.takesIn K (.builtin "object.__class__") = some true) && decide (PySem.W.mroIn K (He.ga K x) (.type "object") = some true)))))))
theorem exiB_ok {x : Str} {K : PySem.W.Frag} (h : exiB x K = true) : ExcC K (He.ga K x) := by
  obtain ⟨h1, h⟩ := Bool.and_eq_true_iff.mp h
  obtain ⟨h2, h⟩ := Bool.and_eq_true_iff.mp h
  obtain ⟨h3, h⟩ := Bool.and_eq_true_iff.mp h
  obtain ⟨h4, h⟩ := Bool.and_eq_true_iff.mp h
  obtain ⟨h5, h⟩ := Bool.and_eq_true_iff.mp h
  obtain ⟨h6, h⟩ := Bool.and_eq_true_iff.mp h
  obtain ⟨h7, h8⟩ := Bool.and_eq_true_iff.mp h
  exact ⟨of_decide_eq_true h1, of_decide_eq_true h2, of_decide_eq_true h3, h4, of_decide_eq_true h5, of_decide_eq_true h6, of_decide_eq_true h7, of_decide_eq_true h8⟩
def kitB (x : Str) (y : Option Str) (t : String) (b : Bool) (K : PySem.W.Frag) : Bool := decide (PySem.W.kitOne K (.ref (He.ga K x)) (match y with | some y => .ref (He.ga K y) | none => .type t) = some b)
theorem kitB_own {x y : Str} {t : String} {b : Bool} {K : PySem.W.Frag} (h : kitB x (some y) t b K = true) : PySem.W.kitOne K (.ref (He.ga K x)) (.ref (He.ga K y)) = some b := of_decide_eq_true h
theorem kitB_ty {x : Str} {t : String} {b : Bool} {K : PySem.W.Frag} (h : kitB x none t b K = true) : PySem.W.kitOne K (.ref (He.ga K x)) (.type t) = some b := of_decide_eq_true h
/-- all of these -/
def allB (l : List (PySem.W.Frag → Bool)) (K : PySem.W.Frag) : Bool := l.all fun f => f K
theorem allB_at {l : List (PySem.W.Frag → Bool)} {K : PySem.W.Frag} (h : allB l K = true) (i : Nat) {f : PySem.W.Frag → Bool} (e : l[i]? = some f := by rfl) : f K = true := List.all_eq_true.mp h f (List.mem_of_getElem? e)
/-! reckoning -/
@[simp] theorem dXF_at (a : Addr) (dx : Option Addr) (c : Exn) (i : Nat) (nm : String) (f : Str) (ρ : En) (h : ρ[i]? = some (some (.xn a dx c))) : dXF a dx c i nm f ρ = (match c.arg with | some (f', d) => if f' = f ∧ c.cls = nm then .ok d ρ else .no | none => .no) := atX_eq h
@[simp] theorem dIsE_at (a : Addr) (dx : Option Addr) (c : Exn) (i : Nat) (tab : String → Option Bool) (ρ : En) (h : ρ[i]? = some (some (.xn a dx c))) : dIsE a dx c i tab ρ = (match tab c.cls with | some b => .ok b ρ | none => .no) := atX_eq h
theorem tryAs_ok {i : Nat} {b : En → R Fl} {cat : String → Option Bool} {s : Addr → Option Addr → Exn → En → R Fl} {ρ ρ1 : En} {f : Fl} (h : b ρ = .ok f ρ1) : dTryAs i b cat s ρ = .ok f ρ1 := by
  unfold dTryAs; rw [h]
theorem tryAs_ex {i : Nat} {b : En → R Fl} {cat : String → Option Bool} {s : Addr → Option Addr → Exn → En → R Fl} {ρ ρ1 ρ2 : En} {e : Exn} {d : D} (h : b ρ = .ex e ρ1) (hc : cat e.cls = some true) (hf : free ρ1[i]? = true)
    (hs : ∀ a dx, ∃ ρ3, s a dx e (ρ1.set i (some (.xn a dx e))) = .ok (.rt d) ρ3 ∧ ρ3.set i none = ρ2) : dTryAs i b cat s ρ = .ok (.rt d) ρ2 := by
  unfold dTryAs
  rw [h]
  show (match cat e.cls with | some true => if free ρ1[i]? = true then asK (fun a dx => wipe1 i (noX (s a dx e (ρ1.set i (some (.xn a dx e)))))) else .no | some false => .ex e ρ1 | none => .no) = _
  rw [hc]
  show (if free ρ1[i]? = true then asK (fun a dx => wipe1 i (noX (s a dx e (ρ1.set i (some (.xn a dx e)))))) else .no) = _
  rw [if_pos hf]
  refine asK_eq fun a dx => ?_
  obtain ⟨ρ3, e3, e4⟩ := hs a dx
  rw [e3]
  show R.ok (Fl.rt d) (ρ3.set i none) = _
  rw [e4]
/-- never reached -/
def dNever : En → R Fl := fun _ => .no
theorem vs_never {X : Cx} {w : Wh} {st : Stmt} : VS X w st dNever := ⟨fun pins s σ H D I ⟨_, _, _, h⟩ => h.elim⟩
end Dn
namespace Dn
open PySem PySem.Spec PyProof.Rows L2
abbrev cI (i : Int) : Option L := some (.im (.int i))
abbrev cD (d : D) : Option L := some (.im d)
/-- the greatest divisor, by the loop -/
theorem gcd_loop : ∀ (n : Nat) (a b : Int), b.natAbs ≤ n → ∃ g : Int, g.natAbs = Int.gcd a b ∧
    dWhile (dCmp gNe (dVar 1) (dC (.int 0))) (dPar 0 1 (aIm (dVar 1) (aIm (dOp gMod (dVar 0) (dVar 1)) aNil))) [cI a, cI b] = .ok .nx [cI g, cI 0]
  | n, a, b, h => by
    rw [dWhile_turn]
    by_cases hb : b = 0
    · subst hb
      exact ⟨a, by simp, by simp⟩
    · cases n with
      | zero => omega
      | succ n =>
        have hlt : (a.fmod b).natAbs < b.natAbs := by
          rcases Int.lt_trichotomy b 0 with h1 | h1 | h1
          · have e : a.fmod b = -((-a).fmod (-b)) := by rw [Int.neg_fmod_neg]; omega
            rw [e, Int.natAbs_neg, Int.fmod_eq_emod_of_nonneg _ (by omega)]
            have h2 := Int.emod_nonneg (-a) (show -b ≠ 0 by omega)
            have h3 := Int.emod_lt_of_pos (-a) (show 0 < -b by omega)
            omega
          · exact absurd h1 hb
          · rw [Int.fmod_eq_emod_of_nonneg _ (by omega)]
            have h2 := Int.emod_nonneg a hb
            have h3 := Int.emod_lt_of_pos a h1
            omega
        obtain ⟨g, hg, e⟩ := gcd_loop n b (a.fmod b) (by omega)
        refine ⟨g, ?_, ?_⟩
        · rw [hg]
          have e1 : a.fmod b = a - b * a.fdiv b := by have := Int.fmod_add_mul_fdiv a b; omega
          rw [e1, Int.gcd_sub_mul_left_right, Int.gcd_comm]
        · simp [hb, gMod_of hb, e]
theorem pow60 : gPow (.int 10) (.int 60) = some (.int (10 ^ 60)) := gPow_of (by decide) (by decide) (by decide)
theorem pow59 : gPow (.int 10) (.int 59) = some (.int (10 ^ 59)) := gPow_of (by decide) (by decide) (by decide)
/-- a number in lowest terms, made of two ints -/
theorem lowest_of (top bottom : Int) (hb : 0 < bottom) (M : Nat) (h1 : top.natAbs < M) (h2 : bottom.natAbs < M) {n : Nat} (hM : M ≤ 2 ^ n) (hn : 0 < n) (h9 : n ≤ 9000) : ∃ t b : Int, 0 < b ∧ t.natAbs < M ∧ b.natAbs < M ∧ Int.gcd t b = 1 ∧ t * bottom = top * b ∧
    gFdiv (.int top) (.int (Int.gcd top bottom)) = some (.int t) ∧ gFdiv (.int bottom) (.int (Int.gcd top bottom)) = some (.int b) := by
  have hg : 0 < Int.gcd top bottom := Int.gcd_pos_of_ne_zero_right _ (by omega)
  have d1 := Int.gcd_dvd_left top bottom
  have d2 := Int.gcd_dvd_right top bottom
  have hle : Int.gcd top bottom ≤ bottom.natAbs := Nat.le_of_dvd (by omega) (by have := Int.natAbs_dvd_natAbs.mpr d2; simpa using this)
  have hgl : (Int.gcd top bottom : Int).natAbs < 2 ^ n := by
    rw [Int.natAbs_natCast]
    exact Nat.lt_of_le_of_lt hle (Nat.lt_of_lt_of_le h2 hM)
  refine ⟨top / Int.gcd top bottom, bottom / Int.gcd top bottom, ?_, ?_, ?_, ?_, ?_, gFdiv_pos (by omega) hgl hn h9, gFdiv_pos (by omega) hgl hn h9⟩
  · exact Int.ediv_pos_of_pos_of_dvd hb (by omega) d2
  · obtain ⟨q, hq⟩ := d1
    have e : top / (Int.gcd top bottom : Int) = q := by
      conv => lhs; lhs; rw [hq]
      exact Int.mul_ediv_cancel_left q (by omega)
    rw [e]
    have : top.natAbs = Int.gcd top bottom * q.natAbs := by
      conv => lhs; rw [hq]
      rw [Int.natAbs_mul]; rfl
    have h3 : q.natAbs ≤ Int.gcd top bottom * q.natAbs := Nat.le_mul_of_pos_left _ hg
    omega
  · obtain ⟨q, hq⟩ := d2
    have e : bottom / (Int.gcd top bottom : Int) = q := by
      conv => lhs; lhs; rw [hq]
      exact Int.mul_ediv_cancel_left q (by omega)
    rw [e]
    have : bottom.natAbs = Int.gcd top bottom * q.natAbs := by
      conv => lhs; rw [hq]
      rw [Int.natAbs_mul]; rfl
    have h3 : q.natAbs ≤ Int.gcd top bottom * q.natAbs := Nat.le_mul_of_pos_left _ hg
    omega
  · exact Int.gcd_ediv_gcd_ediv_gcd hg
  · obtain ⟨q, hq⟩ := d1
    obtain ⟨r, hr⟩ := d2
    have e1 : top / (Int.gcd top bottom : Int) = q := by
      conv => lhs; lhs; rw [hq]
      exact Int.mul_ediv_cancel_left q (by omega)
    have e2 : bottom / (Int.gcd top bottom : Int) = r := by
      conv => lhs; lhs; rw [hr]
      exact Int.mul_ediv_cancel_left r (by omega)
    rw [e1, e2]
    generalize (Int.gcd top bottom : Int) = g at hq hr
    rw [hq, hr]
    rw [Int.mul_comm g r, ← Int.mul_assoc, Int.mul_comm (q * r) g, ← Int.mul_assoc]
/-- the same over any bottom but 0 -/
theorem lowest_any (top bottom : Int) (hb : bottom ≠ 0) (M : Nat) (h1 : top.natAbs < M) (h2 : bottom.natAbs < M) {n : Nat} (hM : M ≤ 2 ^ n) (hn : 0 < n) (h9 : n ≤ 9000) : ∃ t b : Int, 0 < b ∧ t.natAbs < M ∧ b.natAbs < M ∧ Int.gcd t b = 1 ∧ t * bottom = top * b ∧
    gFdiv (.int top) (.int (if bottom < 0 then 0 - (Int.gcd top bottom : Int) else Int.gcd top bottom)) = some (.int t) ∧ gFdiv (.int bottom) (.int (if bottom < 0 then 0 - (Int.gcd top bottom : Int) else Int.gcd top bottom)) = some (.int b) := by
  by_cases h : bottom < 0
  · obtain ⟨t, b, c1, c2, c3, c4, c5, c6, c7⟩ := lowest_of (-top) (-bottom) (by omega) M (by omega) (by omega) hM hn h9
    rw [Int.neg_gcd, Int.gcd_neg] at c6 c7
    refine ⟨t, b, c1, c2, c3, c4, ?_, ?_, ?_⟩
    · rw [Int.mul_neg, Int.neg_mul] at c5; omega
    · have hg : (Int.gcd top bottom : Int) ≠ 0 := by have := Int.gcd_pos_of_ne_zero_right top hb; omega
      rw [if_pos h]
      have hl : (Int.gcd top bottom : Int).natAbs < 2 ^ n := by
        rw [Int.natAbs_natCast]
        have := Int.gcd_dvd_right top bottom
        have hle : Int.gcd top bottom ≤ bottom.natAbs := Nat.le_of_dvd (by omega) (by have := Int.natAbs_dvd_natAbs.mpr this; simpa using this)
        exact Nat.lt_of_le_of_lt hle (Nat.lt_of_lt_of_le h2 hM)
      rw [gFdiv_of (by omega) (show (0 - (Int.gcd top bottom : Int)).natAbs < 2 ^ n by rw [Int.zero_sub, Int.natAbs_neg]; exact hl) hn h9]
      rw [gFdiv_of hg hl hn h9] at c6
      have e : top.fdiv (0 - (Int.gcd top bottom : Int)) = (-top).fdiv (Int.gcd top bottom) := by
        rw [Int.zero_sub, ← Int.neg_fdiv_neg (-top), Int.neg_neg]
      rw [e]; exact c6
    · have hg : (Int.gcd top bottom : Int) ≠ 0 := by have := Int.gcd_pos_of_ne_zero_right top hb; omega
      rw [if_pos h]
      have hl : (Int.gcd top bottom : Int).natAbs < 2 ^ n := by
        rw [Int.natAbs_natCast]
        have := Int.gcd_dvd_right top bottom
        have hle : Int.gcd top bottom ≤ bottom.natAbs := Nat.le_of_dvd (by omega) (by have := Int.natAbs_dvd_natAbs.mpr this; simpa using this)
        exact Nat.lt_of_le_of_lt hle (Nat.lt_of_lt_of_le h2 hM)
      rw [gFdiv_of (by omega) (show (0 - (Int.gcd top bottom : Int)).natAbs < 2 ^ n by rw [Int.zero_sub, Int.natAbs_neg]; exact hl) hn h9]
      rw [gFdiv_of hg hl hn h9] at c7
      have e : bottom.fdiv (0 - (Int.gcd top bottom : Int)) = (-bottom).fdiv (Int.gcd top bottom) := by
        rw [Int.zero_sub, ← Int.neg_fdiv_neg (-bottom), Int.neg_neg]
      rw [e]; exact c7
  · rw [if_neg h]
    exact lowest_of top bottom (by omega) M h1 h2 hM hn h9
/-- a number as data -/
abbrev nD (t d : Int) : D := .tuple [.int t, .int d]
/-- over a range, by the turn -/
theorem forL_ix {g : D → En → R Unit} {b : En → R Fl} {f : Nat → D} {P : Nat → En → Prop} : ∀ (n k : Nat), (∀ i, k ≤ i → i < k + n → ∀ ρ, P i ρ → ∃ ρ1 ρ2, g (f i) ρ = .ok () ρ1 ∧ b ρ1 = .ok .nx ρ2 ∧ P (i + 1) ρ2) → ∀ ρ, P k ρ →
    ∃ ρ', dForL g b ((List.range' k n).map f) ρ = .ok .nx ρ' ∧ P (k + n) ρ'
  | 0, k, _, ρ, h => ⟨ρ, rfl, h⟩
  | n + 1, k, h, ρ, hp => by
    obtain ⟨ρ1, ρ2, e1, e2, p2⟩ := h k (Nat.le_refl _) (by omega) ρ hp
    obtain ⟨ρ', e, p'⟩ := forL_ix n (k + 1) (fun i h1 h2 => h i (by omega) (by omega)) ρ2 p2
    refine ⟨ρ', ?_, by rw [show k + (n + 1) = k + 1 + n by omega]; exact p'⟩
    rw [List.range'_succ, List.map_cons]
    show (g (f k) ρ).bind _ = _
    rw [e1]
    show (b ρ1).bind _ = _
    rw [e2]
    exact e
theorem forL_rng {g : D → En → R Unit} {b : En → R Fl} {lo : Int} {n : Nat} {P : Nat → En → Prop} (h : ∀ i, i < n → ∀ ρ, P i ρ → ∃ ρ1 ρ2, g (.int (lo + (i : Int))) ρ = .ok () ρ1 ∧ b ρ1 = .ok .nx ρ2 ∧ P (i + 1) ρ2) (ρ : En) (hp : P 0 ρ) :
    ∃ ρ', dForL g b (rngD lo n) ρ = .ok .nx ρ' ∧ P n ρ' := by
  obtain ⟨ρ', e, p⟩ := forL_ix (f := fun i => PyData.int (lo + (i : Int))) n 0 (fun i _ h2 => h i (by omega)) ρ hp
  refine ⟨ρ', ?_, by simpa using p⟩
  rw [rngD, List.range_eq_range']
  exact e
/-! what is the same is equal -/
mutual
theorem eqv_refl : ∀ {d : PyData}, d.canLay0 = true → PyData.eqv d d = true
  | .none, _ => by simp only [PyData.eqv]
  | .bool b, _ => by simp only [PyData.eqv]; simp
  | .int i, _ => by simp only [PyData.eqv]; simp
  | .str s, _ => by simp only [PyData.eqv]; simp
  | .list l, h => by
    simp only [PyData.eqv]
    exact eqvAll_refl (by simpa [PyData.canLay0] using h)
  | .tuple l, h => by
    simp only [PyData.eqv]
    exact eqvAll_refl (by simpa [PyData.canLay0] using h)
  | .dict l, h => by simp [PyData.canLay0] at h
theorem eqvAll_refl : ∀ {l : List PyData}, PyData.canLayAll0 l = true → PyData.eqvAll l l = true
  | [], _ => by simp only [PyData.eqvAll]
  | d :: l, h => by
    simp only [PyData.canLayAll0, Bool.and_eq_true] at h
    simp only [PyData.eqvAll, eqv_refl h.1, eqvAll_refl h.2, Bool.and_true]
end
theorem gEq_self {d : D} (h : shp d = true) : gEq d d = some true := by rw [gEq_of h h, eqv_refl (SeqAt.canLay_of_shaped h)]
theorem gNe_self {d : D} (h : shp d = true) : gNe d d = some false := by rw [gNe_of h h, eqv_refl (SeqAt.canLay_of_shaped h)]; rfl
theorem fm_congr {α β : Type} {f g : α → Option β} : ∀ {l : List α}, (∀ x ∈ l, f x = g x) → l.filterMap f = l.filterMap g
  | [], _ => rfl
  | a :: l, h => by rw [List.filterMap_cons, List.filterMap_cons, h a List.mem_cons_self, fm_congr fun x hx => h x (List.mem_cons_of_mem _ hx)]
/-- a comprehension whose turns change what stands about -/
theorem lcL_inv {t : D → En → R (Option D)} {vs : List Nat} {P : En → Prop} {S : D → Prop} : ∀ {ds acc : List D} {ρ : En}, (∀ d ∈ ds, ∀ ρ, P ρ → ∃ y ρ3, t d (wipeE ρ vs) = .ok (some y) ρ3 ∧ S y ∧ P (restE ρ ρ3 vs)) → P ρ → acc.length + ds.length ≤ sizeLine →
    ∃ ys ρ', lcL t vs ds acc ρ = .ok (acc ++ ys) ρ' ∧ ys.length = ds.length ∧ (∀ y ∈ ys, S y) ∧ P ρ'
  | [], acc, ρ, _, p, _ => ⟨[], ρ, by rw [lcL, List.append_nil], rfl, fun y h => by simp at h, p⟩
  | d :: ds, acc, ρ, h, p, hl => by
    obtain ⟨y, ρ3, e1, s1, p1⟩ := h d List.mem_cons_self ρ p
    have hl' : acc.length + (ds.length + 1) ≤ sizeLine := hl
    obtain ⟨ys, ρ', e2, l2, s2, p2⟩ := lcL_inv (acc := acc ++ [y]) (fun d hd => h d (List.mem_cons_of_mem _ hd)) p1 (by rw [List.length_append]; simp; omega)
    refine ⟨y :: ys, ρ', ?_, by simp [l2], fun z hz => ?_, p2⟩
    · rw [lcL, e1]
      show (if acc.length < sizeLine then lcL t vs ds (acc ++ [y]) (restE ρ ρ3 vs) else .no) = _
      rw [if_pos (by omega), e2]
      simp
    · rcases List.mem_cons.mp hz with q | q
      · subst q; exact s1
      · exact s2 z q
end Dn
namespace Dn
open PySem PySem.Spec PyProof.Rows L2
/-! ### the same data, with empty dicts within, compared -/
mutual
def okE : PyData → Bool
  | .dict l => l.isEmpty
  | .list l => okEs l
  | .tuple l => okEs l
  | _ => true
def okEs : List PyData → Bool
  | [] => true
  | d :: l => okE d && okEs l
end
mutual
def dpE : PyData → Nat
  | .list l => dpEs l + 1
  | .tuple l => dpEs l + 1
  | _ => 1
def dpEs : List PyData → Nat
  | [] => 0
  | d :: l => max (dpE d) (dpEs l)
end
section
variable {X : Cx} {pins : List (Addr × Obj)} {σ : L2.St} {H : Hp} {s : Shared}
theorem dict0_eq {A : Around} {a b : Addr} (I : Inv X pins σ H s) (ha : H a = some (.dK [])) (hb : H b = some (.dK [])) (hu : A.units < cLine) : SeqAt.EqAt A s (.ref a) (.ref b) true := by
  by_cases hab : a = b
  · subst hab; exact SeqAt.EqAt.same _
  · refine SeqAt.EqAt.of_refs hab fun prog w E Q q => ?_
    obtain ⟨_, ya, va, ra, da⟩ := (show ObjOk X.prog X.w H s.heap a (.dK []) from I.hok a _ ha)
    obtain ⟨_, yb, vb, rb, db⟩ := (show ObjOk X.prog X.w H s.heap b (.dK []) from I.hok b _ hb)
    have e0 : ∀ {vs : List (Key × Value)}, KV [] vs → vs = [] := fun h => List.length_eq_zero_iff.mp h.length.symm
    rw [e0 ra] at da
    rw [e0 rb] at db
    have to : ∀ {c : Addr}, s.heap.DictOf (mixKind X.prog X.w) c [] → s.heap.DictOf (mixKind prog w) c [] := fun ⟨o, es, ep, h1, h2, h3, h4, h5, h6⟩ => by
      have : es = #[] := by
        have := h5.length
        exact Array.eq_empty_of_size_eq_zero (by simpa using this)
      subst this
      exact ⟨o, #[], ep, h1, h2, h3, fun e he => by simp at he, .nil, by simp⟩
    exact PySem.W.keq_eq (knd := mixKind prog w) (r := true) ya yb (to da) (to db) hu (fun _ => .nil) q

theorem paired_at {xs : List V} {us : List Value} (r : Paired RelV xs us) : ∀ {j : Nat} {v : V}, xs[j]? = some v → ∃ u, us[j]? = some u ∧ RelV v u := fun {j v} e => Vals.get r e
mutual
theorem eqE (I : Inv X pins σ H s) : ∀ (d : PyData) (A : Around) (x y : V) (v u : Value), okE d = true → A.units + dpE d < cLine → DR X.K H x d → DR X.K H y d → RelV x v → RelV y u → SeqAt.EqAt A s v u true
  | .none, A, x, y, v, u, _, _, hx, hy, rx, ry => by
    cases hx; cases hy; cases rx; cases ry; exact SeqAt.EqAt.same _
  | .bool b, A, x, y, v, u, _, _, hx, hy, rx, ry => by
    cases hx; cases hy; cases rx; cases ry; exact SeqAt.EqAt.same _
  | .int i, A, x, y, v, u, _, _, hx, hy, rx, ry => by
    cases hx; cases hy
    obtain ⟨t, rfl⟩ := rx
    obtain ⟨t', rfl⟩ := ry
    have := SeqAt.EqAt.int_int (A := A) (s := s) i t i t'
    simpa using this
  | .str a, A, x, y, v, u, _, _, hx, hy, rx, ry => by
    cases hx; cases hy
    obtain ⟨t, rfl⟩ := rx
    obtain ⟨t', rfl⟩ := ry
    have := SeqAt.EqAt.str_str (A := A) (s := s) a t a t'
    simpa using this
  | .list l, A, x, y, v, u, ho, hu, hx, hy, rx, ry => by
    cases hx with
    | lst h1 d1 =>
      cases hy with
      | lst h2 d2 =>
        cases rx; cases ry
        rename_i a xs b ys
        by_cases hab : a = b
        · subst hab; exact SeqAt.EqAt.same _
        obtain ⟨its, r, p, _⟩ := I.list h1
        obtain ⟨its2, r2, p2, _⟩ := I.list h2
        have hu2 : A.in1.units + dpEs l < cLine := by
          have h3 : A.units + (dpEs l + 1) < cLine := by simpa [dpE] using hu
          show A.units + 1 + dpEs l < cLine
          omega
        have E := eqEs I l A.in1 xs ys its its2 (by simpa [okE] using ho) hu2 d1 d2 r r2
        have hl : its.toArray.size = its2.toArray.size := by
          have := r.length; have := r2.length; have := d1.length; have := d2.length
          simp; omega
        have R := SeqAt.RcAt.lists (A := A) (s := s) (e := fun _ => true) p.isList p2.isList hl (by omega) (fun j h1 h2 => by
          have := E j (by simpa using h1) (by simpa using h2)
          simpa using this)
        have et : (List.range its.toArray.size).all (fun _ => true) = true := by simp
        rw [et] at R
        exact SeqAt.EqAt.of_refs hab R
  | .tuple l, A, x, y, v, u, ho, hu, hx, hy, rx, ry => by
    cases hx with
    | tup h1 d1 =>
      cases hy with
      | tup h2 d2 =>
        cases rx; cases ry
        rename_i a xs b ys
        by_cases hab : a = b
        · subst hab; exact SeqAt.EqAt.same _
        obtain ⟨its, r, p, _⟩ := I.tuple h1
        obtain ⟨its2, r2, p2, _⟩ := I.tuple h2
        have hu2 : A.in1.units + dpEs l < cLine := by
          have h3 : A.units + (dpEs l + 1) < cLine := by simpa [dpE] using hu
          show A.units + 1 + dpEs l < cLine
          omega
        have E := eqEs I l A.in1 xs ys its its2 (by simpa [okE] using ho) hu2 d1 d2 r r2
        have hl : its.toArray.size = its2.toArray.size := by
          have := r.length; have := r2.length; have := d1.length; have := d2.length
          simp; omega
        have R := SeqAt.RcAt.tuples (A := A) (s := s) (e := fun _ => true) p p2 (by omega) (fun j h1 h2 => by
          have := E j (by simpa using h1) (by simpa using h2)
          simpa using this)
        have et : ((List.range (min its.toArray.size its2.toArray.size)).all (fun _ => true) && its.toArray.size == its2.toArray.size) = true := by rw [hl]; simp
        rw [et] at R
        exact SeqAt.EqAt.of_refs hab R
  | .dict l, A, x, y, v, u, ho, hu, hx, hy, rx, ry => by
    have : l = [] := by simpa [okE] using ho
    subst this
    generalize hD : PyData.dict [] = D0 at hx hy
    cases hx with
    | @dic a kvs ds h1 d1 =>
      have k0 : kvs = [] := by
        have := congrArg (fun d => match d with | PyData.dict l => l.length | _ => 0) hD
        simp at this
        have h2 := d1.length
        simp at h2
        cases kvs with
        | nil => rfl
        | cons p r => simp at h2 this; omega
      subst k0
      generalize hD2 : PyData.dict _ = D1 at hy
      cases hy with
      | @dic b kvs2 ds2 h2 d2 =>
        have k2 : kvs2 = [] := by
          have := congrArg (fun d => match d with | PyData.dict l => l.length | _ => 0) hD2
          simp at this
          have h3 := d2.length
          simp at h3
          cases kvs2 with
          | nil => rfl
          | cons p r => simp at h3 this; omega
        subst k2
        cases rx; cases ry
        exact dict0_eq I h1 h2 (by omega)
      | _ => cases hD2
    | _ => cases hD
theorem eqEs (I : Inv X pins σ H s) : ∀ (l : List PyData) (A : Around) (xs ys : List V) (vs us : List Value), okEs l = true → A.units + dpEs l < cLine → DRs X.K H xs l → DRs X.K H ys l → Paired RelV xs vs → Paired RelV ys us → ∀ (j : Nat) (h1 : j < vs.length) (h2 : j < us.length), SeqAt.EqAt A s vs[j] us[j] true
  | [], A, xs, ys, vs, us, _, _, hx, hy, rx, ry => fun j h1 h2 => by
    cases hx; cases rx; simp at h1
  | d :: l, A, xs, ys, vs, us, ho, hu, hx, hy, rx, ry => fun j h1 h2 => by
    cases hx with
    | cons hd ht =>
      cases hy with
      | cons hd2 ht2 =>
        cases rx with
        | cons r1 rt =>
          cases ry with
          | cons r2 rt2 =>
            have ho' : okE d = true ∧ okEs l = true := by simpa [okEs] using ho
            have hm : dpE d ≤ dpEs (d :: l) ∧ dpEs l ≤ dpEs (d :: l) := by simp only [dpEs]; omega
            cases j with
            | zero => exact eqE I d A _ _ _ _ ho'.1 (by omega) hd hd2 r1 r2
            | succ j => exact eqEs I l A _ _ _ _ ho'.2 (by omega) ht ht2 rt rt2 j (by simpa using h1) (by simpa using h2)
end
end
/-- what is compared is the same -/
def seqE : PyData → Bool
  | .list _ => true
  | .tuple _ => true
  | _ => false
def rNeE (K : PySem.W.Frag) : R2 := fun x y H Q => ∃ d, seqE d = true ∧ okE d = true ∧ dpE d ≤ 60 ∧ DR K H x d ∧ DR K H y d ∧ Q (.bl false) H
section
variable {X : Cx}
theorem op_neE (hu : X.A.units + 64 < cLine) : OpR X (compareOp .NotEq) (rNeE X.K) := by
  intro pins s σ H x y v u Q I rx ry h
  obtain ⟨d, sd, od, dd, hx, hy, q⟩ := h
  cases d with
  | list l =>
    cases hx with
    | lst h1 d1 =>
      cases hy with
      | lst h2 d2 =>
        cases rx; cases ry
        obtain ⟨its, r, p, _⟩ := I.list h1
        obtain ⟨its2, r2, p2, _⟩ := I.list h2
        have hu2 : X.A.in1.units + dpEs l < cLine := by
          have h3 : dpEs l + 1 ≤ 60 := by simpa [dpE] using dd
          show X.A.units + 1 + dpEs l < cLine
          omega
        have E := eqEs I l X.A.in1 _ _ its its2 (by simpa [okE] using od) hu2 d1 d2 r r2
        have hl : its.toArray.size = its2.toArray.size := by
          have := r.length; have := r2.length; have := d1.length; have := d2.length
          simp; omega
        have R := SeqAt.RcNeAt.lists (A := X.A) (s := s) (e := fun _ => true) p.isList p2.isList hl (by omega) (fun j h1 h2 => by
          have := E j (by simpa using h1) (by simpa using h2)
          simpa using this)
        have et : (!(List.range its.toArray.size).all (fun _ => true)) = false := by simp
        rw [et] at R
        exact R X.prog X.w _ _ ⟨.bl false, H, I, rfl, q⟩
  | tuple l =>
    cases hx with
    | tup h1 d1 =>
      cases hy with
      | tup h2 d2 =>
        cases rx; cases ry
        obtain ⟨its, r, p, _⟩ := I.tuple h1
        obtain ⟨its2, r2, p2, _⟩ := I.tuple h2
        have hu2 : X.A.in1.units + dpEs l < cLine := by
          have h3 : dpEs l + 1 ≤ 60 := by simpa [dpE] using dd
          show X.A.units + 1 + dpEs l < cLine
          omega
        have E := eqEs I l X.A.in1 _ _ its its2 (by simpa [okE] using od) hu2 d1 d2 r r2
        have hl : its.toArray.size = its2.toArray.size := by
          have := r.length; have := r2.length; have := d1.length; have := d2.length
          simp; omega
        have R := SeqAt.RcNeAt.tuples (A := X.A) (s := s) (e := fun _ => true) p p2 (by omega) (fun j h1 h2 => by
          have := E j (by simpa using h1) (by simpa using h2)
          simpa using this)
        have et : (!((List.range (min its.toArray.size its2.toArray.size)).all (fun _ => true) && its.toArray.size == its2.toArray.size)) = false := by rw [hl]; simp
        rw [et] at R
        exact R X.prog X.w _ _ ⟨.bl false, H, I, rfl, q⟩
  | _ => cases sd
open Classical in
noncomputable def gNeE (a b : D) : Option Bool := match gNe a b with
  | some r => some r
  | none => if a = b ∧ seqE a = true ∧ okE a = true ∧ dpE a ≤ 60 then some false else none
theorem op_neX (hu : X.A.units + 64 < cLine) : OpR X (compareOp .NotEq) (fun x y H Q => rNeD X.K x y H Q ∨ rNeE X.K x y H Q) := (op_neD hu).or (op_neE hu)
open Classical in
theorem ob_neX : OpB X.K (fun x y H Q => rNeD X.K x y H Q ∨ rNeE X.K x y H Q) gNeE := fun x y dx dy b H Q hx hy e q => by
  unfold gNeE at e
  cases q1 : gNe dx dy with
  | some r =>
    rw [q1] at e; cases e
    exact .inl (ob_ne x y dx dy b H Q hx hy q1 q)
  | none =>
    rw [q1] at e
    have e' : (if dx = dy ∧ seqE dx = true ∧ okE dx = true ∧ dpE dx ≤ 60 then some false else none) = some b := e
    split at e'
    · rename_i h
      obtain ⟨rfl, h1, h2, h3⟩ := h
      cases e'
      exact .inr ⟨dx, h1, h2, h3, hx, hy, q⟩
    · cases e'
theorem gNeE_of {a b : D} {r : Bool} (h : gNe a b = some r) : gNeE a b = some r := by unfold gNeE; rw [h]
theorem gNeE_self {a : D} (h1 : seqE a = true) (h2 : okE a = true) (h3 : dpE a ≤ 60) : gNeE a a = some false := by
  unfold gNeE
  cases q : gNe a a with
  | none => exact if_pos ⟨rfl, h1, h2, h3⟩
  | some r =>
    show some r = _
    unfold gNe gEq at q
    split at q
    · rename_i h
      rw [eqv_refl (SeqAt.canLay_of_shaped h.1)] at q
      cases q; rfl
    · cases q
end
end Dn
namespace Dn
open PySem PySem.Spec PyProof.Rows L2
/-! ### a told list so many times -/
theorem int_rmul_listW (a : Int) (t : Tok) (l : Addr) (items : Array Value) (n : Nat) (dd : Option Addr) (sl : Array (Option Value)) :
    Meets (Builtin.«int.__rmul__» ⟨[.int a t, .ref l], []⟩) (fun _ R s => s.heap.get? l = some { cls := .type "list", dict := dd, data := .seq items n, slots := sl } ∧ R (.ok (.ret Value.notImplemented)) s) :=
  .of_wp fun prog w A R s h => by obtain ⟨hp, g, d, tk, os⟩ := s; obtain ⟨hl, h⟩ := h; wp_walk using wpAny_loadPart' hl; exact ⟨_, rfl, h⟩
theorem list_mulW (l : Addr) (items : Array Value) (n : Nat) (dd : Option Addr) (sl : Array (Option Value)) (x : Int) (u : Tok) (hc0 : ¬(!Builtin.List.listFitsIndex x) = true) (hc1 : ¬items.size * x.toNat > (2 ^ 63 - 1) / 8) (hc2 : ¬Builtin.List.listTooLong (items.size * x.toNat) = true) :
    Meets (Builtin.«list.__mul__» ⟨[.ref l, .int x u], []⟩) (fun _ R s => s.heap.get? l = some { cls := .type "list", dict := dd, data := .seq items n, slots := sl } ∧ R (.ok (.ret (Value.ref s.heap.objs.size))) { s with heap := s.heap.push { cls := Value.type "list", data := Data.seq (List.foldl (fun x1 x2 => x1 ++ x2) #[] (List.replicate (if items.isEmpty = true then 0 else x.toNat) items)) }, toks := s.toks }) :=
  .of_wp fun prog w A R s h => by
    obtain ⟨hp, g, d, tk, os⟩ := s; obtain ⟨hl, h⟩ := h
    have hsz := PySem.AutoListH.joined_fits hc2
    wp_walk using wpAny_loadPart' hl; refine wpAny_ite_false (decide_eq_false (Nat.not_lt.mpr hsz)) ?_; wp_walk using wpAny_loadPart' hl; exact ⟨_, rfl, h⟩
def rRepR (K : PySem.W.Frag) : R2 := fun x y H Q => ∃ l k xs, x = .ref l ∧ y = .int k ∧ SqL K H l xs ∧ 0 ≤ k ∧ k < 2 ^ 63 ∧ xs.length * k.toNat ≤ sizeLine ∧
  ∀ p, H p = none → Q (.ref p) (upd H p (.lst (List.replicate k.toNat xs).flatten))
section
variable {X : Cx} {w : Wh} {a b : Expr} {fa fb : En → R D} {pos : Pos}
theorem op_repR : OpR X (binaryOp .Mult) (rRepR X.K) := by
  intro pins s σ H x y v u Q I rx ry h
  obtain ⟨l, k, xs, rfl, rfl, hH, h1, h2, hz, q⟩ := h
  cases rx
  obtain ⟨t, rfl⟩ := ry
  obtain ⟨its, r, ⟨⟨cls, dd, data, sl⟩, n, e, hc, hdn, hd⟩, z⟩ := I.list hH
  simp only at hc hd
  subst hc hd
  have hl := r.length
  have hlen : its.toArray.size * k.toNat ≤ sizeLine := by rw [List.size_toArray, ← hl]; exact hz
  have hcap : ¬ its.toArray.size * k.toNat > (2 ^ 63 - 1) / 8 := by
    have : (sizeLine : Nat) ≤ (2 ^ 63 - 1) / 8 := by decide
    omega
  have hfit : ¬ (!Builtin.List.listFitsIndex k) = true := by
    rw [fitsIndex_both (by omega) h2]
    exact Bool.false_ne_true
  have hlong : ¬ Builtin.List.listTooLong (its.toArray.size * k.toNat) = true := by
    rw [notLongL hlen]
    exact Bool.false_ne_true
  have hnew : List.foldl (fun x1 x2 => x1 ++ x2) #[] (List.replicate (if its.toArray.isEmpty = true then 0 else k.toNat) its.toArray) = (List.replicate k.toNat its).flatten.toArray := by
    have f0 : ∀ m : Nat, List.foldl (fun x1 x2 => x1 ++ x2) #[] (List.replicate m its.toArray) = (List.replicate m its).flatten.toArray := fun m => by
      have := foldl_rep its m []
      rw [List.nil_append] at this
      exact this
    rw [f0]
    cases its with
    | nil => simp
    | cons a r' => rw [if_neg (by simp)]
  refine wpAny_binaryOp_repeat_ref (T := "list") (U := "int") (by decide) ⟨_, e, rfl⟩ (fun s' => typeIs_int s' k t) noFill_list_mul F.fills_int_mul F.slot_int_rmul repeat_list F.slot_int_index.lookup
    (call_meets F.slot_int_rmul (typeIs_int s k t) F.entry_int_rmul (F.args_int_rmul_2 _ _) (int_rmul_listW k t l its.toArray n dd sl)
      ⟨e, rfl, ⟨_, e, rfl⟩, call_meets F.slot_list_mul ⟨_, e, rfl⟩ F.entry_list_mul (F.args_list_mul_2 _ _) (list_mulW l its.toArray n dd sl k t hfit hcap hlong) ⟨e, ?_⟩⟩)
  rw [hnew]
  exact ⟨.ref _, _, I.lnew (t' := s.toks) (r.rep k.toNat) (by rw [PyProof.Rows.lm_len_rep_flat, Nat.mul_comm]; exact hz), rfl, q _ I.fresh⟩
def gMulX : D → D → Option D
  | .list ds, k => repL ds k
  | x, y => gMul x y
theorem op_mulLX : OpR X (binaryOp .Mult) (fun x y H Q => rI CMulX (fun i j => .int (i * j)) x y H Q ∨ rRepR X.K x y H Q) := op_mulX.or op_repR
theorem os_mulLX : OpS X.K (fun x y H Q => rI CMulX (fun i j => .int (i * j)) x y H Q ∨ rRepR X.K x y H Q) gMulX := by
  intro w x y dx dy d G H σ ρ Q r hx hy e q
  cases hx with
  | @lst a xs ds h hs =>
    replace e : repL ds dy = some d := e
    unfold repL at e
    split at e
    · rename_i z
      split at e
      · rename_i hz
        cases e
        cases hy
        refine .inr ⟨a, z, xs, rfl, rfl, r.sub.seq h, by omega, by omega, by rw [hs.length]; exact hz.2.2, ?_⟩
        exact hand_new r q (DR.newL r (hs.rep _))
      · cases e
    · cases e
  | int i => exact .inl (os_mul w _ _ _ _ _ G H σ ρ Q r (.int i) hy e q)
  | _ => cases e
theorem ve_mulX (ha : VE X w a fa) (hb : VE X w b fb) : VE X w (.BinOp a .Mult b pos) (dOp gMulX fa fb) := ve_op op_mulLX os_mulLX ha hb
end
theorem gMulX_int (i j : Int) : gMulX (.int i) (.int j) = gMul (.int i) (.int j) := rfl
theorem gMulX_list {ds : List D} {n : Nat} (h : n ≤ 10000) (hl : ds.length * n ≤ 1000000) : gMulX (.list ds) (.int (n : Int)) = some (.list (List.replicate n ds).flatten) := by
  have hs := PySem.sizeLine_eq
  show repL ds (.int (n : Int)) = _
  unfold repL
  simp only
  rw [if_pos ⟨by omega, by omega, by simp only [Int.toNat_natCast]; omega⟩]
  rfl
end Dn
namespace Dn
open PySem PySem.Spec PyProof.Rows L2
/-! ### a list of any things != [] -/
def rNe0 (K : PySem.W.Frag) : R2 := fun x y H Q => ∃ l m xs, x = .ref l ∧ y = .ref m ∧ SqL K H l xs ∧ SqL K H m [] ∧ Q (.bl (!xs.isEmpty)) H
section
variable {X : Cx}
theorem op_ne0 (hu : X.A.units + 64 < cLine) : OpR X (compareOp .NotEq) (rNe0 X.K) := by
  intro pins s σ H x y v u Q I rx ry h
  obtain ⟨l, m, xs, rfl, rfl, h1, h2, q⟩ := h
  cases rx
  cases ry
  obtain ⟨its, r, p, _⟩ := I.list h1
  obtain ⟨its2, r2, p2, _⟩ := I.list h2
  cases r2
  have hl : xs.length = its.length := r.length
  cases its with
  | nil =>
    have hx : xs = [] := List.eq_nil_of_length_eq_zero (by simpa using hl)
    subst hx
    have R := SeqAt.RcNeAt.lists (A := X.A) (s := s) (e := fun _ => true) p.isList p2.isList rfl (by omega) (fun j h1 h2 => by simp at h2)
    exact R X.prog X.w _ _ ⟨.bl false, H, I, rfl, q⟩
  | cons a its =>
    have R := SeqAt.RcNeAt.lists_lengths (A := X.A) (s := s) p.isList p2.isList (by simp) (by omega)
    refine R X.prog X.w _ _ ⟨.bl true, H, I, rfl, ?_⟩
    cases xs with
    | nil => cases hl
    | cons _ _ => exact q
theorem op_ne0X (hu : X.A.units + 64 < cLine) : OpR X (compareOp .NotEq) (fun x y H Q => rNeD X.K x y H Q ∨ rNe0 X.K x y H Q) := (op_neD hu).or (op_ne0 hu)
def gNe0 (a b : D) : Option Bool := match gNe a b with
  | some r => some r
  | none => match a, b with
    | .list xs, .list [] => some (!xs.isEmpty)
    | _, _ => none
theorem ob_ne0X : OpB X.K (fun x y H Q => rNeD X.K x y H Q ∨ rNe0 X.K x y H Q) gNe0 := fun x y dx dy b H Q hx hy e q => by
  unfold gNe0 at e
  cases q1 : gNe dx dy with
  | some r =>
    rw [q1] at e; cases e
    exact .inl (ob_ne x y dx dy b H Q hx hy q1 q)
  | none =>
    rw [q1] at e
    cases dx with
    | list xs =>
      cases dy with
      | list ys =>
        cases ys with
        | nil =>
          cases e
          cases hx with
          | lst hq hs =>
            cases hy with
            | lst hq2 hs2 =>
              cases hs2
              refine .inr ⟨_, _, _, rfl, rfl, hq, hq2, ?_⟩
              rw [hs.emp]; exact q
        | cons _ _ => cases e
      | _ => cases e
    | _ => cases dy <;> cases e
@[simp] theorem gNe0_nil (xs : List D) : gNe0 (.list xs) (.list []) = some (!xs.isEmpty) := by
  unfold gNe0
  cases q : gNe (.list xs) (.list []) with
  | none => rfl
  | some r =>
    unfold gNe gEq at q
    split at q
    · simp only [Option.map_some, Option.some.injEq] at q
      subst q
      cases xs <;> simp [PyData.eqv, PyData.eqvAll]
    · cases q
end
end Dn
namespace Dn
open PySem PySem.Spec PyProof.Rows L2
/-! ### except (A, B): a suite that raises -/
section
variable {X : Cx} {pins : List (Addr × Obj)} {σ : L2.St} {H : Hp} {s : Shared}
/-- what flies goes on flying where only new objects were laid -/
theorem fly_more {B h h' : Heap} {l : List Env} {a : Addr} {Z : Obj → Prop} (k : ∀ b o, h.get? b = some o → h'.get? b = some o) (f : HandSPX.FlyingZ B l a Z h) : HandSPX.FlyingZ B l a Z h' := by
  obtain ⟨f1, f2, f3, oe, vs, T, oT, ts, e1, e2, e3, e4, e5, e6, e7, e8, e9⟩ := f
  exact ⟨fun b o e => k b o (f1 b o e), f2, f3.of_keeps fun b o e _ => ⟨o, k b o e, rfl⟩, oe, vs, T, oT, ts, k _ _ e1, e2, e3, e4, e5, e6, k _ _ e7, e8, e9⟩
/-- the two names of a clause: a new tuple, and the look -/
theorem clause2 {x1 x2 : Str} {c1 c2 cls : Value} {p1 p2 tp : Pos} {kk : Nat} {b : Bool} {a : Addr} {pn : List (Addr × Obj)} {E : Value → Shared → Prop} {Q : Bool → Shared → Prop} (n1 : Names X x1 c1) (n2 : Names X x2 c2)
    (S : Inv (X.suite a pn) [] σ H s) (LT : PySem.W.Looks (model X.prog X.w) s.heap (typeOf (.ref a)) cls) (he : PySem.W.exmAny X.K cls [c1, c2] = some b)
    (q : ∀ h', (∀ c o, s.heap.get? c = some o → h'.get? c = some o) → Q b { s with heap := h' }) :
    wpAny (model X.prog X.w) (X.A.mark (some (.ref a))) (eval (.Tuple [.Name x1 p1, .Name x2 p2] kk tp) X.env) (fun c s₁ => wpAny (model X.prog X.w) (X.A.mark (some (.ref a))) (excMatches (.ref a) c) Q E s₁) E s := by
  have one : ∀ {x : Str} {c : Value} {p : Pos} {R : Value → Shared → Prop}, Names X x c → R c s → wpAny (model X.prog X.w) (X.A.mark (some (.ref a))) (eval (.Name x p) X.env) R E s := fun {x c p R} n r => by
    obtain ⟨g1, g2, m | ⟨m, v, u⟩⟩ := n
    · exact ld_glob (X := X.suite a pn) S g1 m r g2
    · exact ld_blt (X := X.suite a pn) S g1 m v r u g2
  have kp : ∀ c o, s.heap.get? c = some o → (s.heap.push { cls := .type "tuple", data := .seq [c1, c2].toArray }).get? c = some o := fun _ _ z => Heap.get?_push_of_some _ z
  refine wpAny_Tuple (wpAny_items_cons (one n1 (wpAny_items_cons (one n2 (wpAny_items_nil ⟨by size_fits, ?_⟩)))))
  exact (PySem.W.exm_tup2 (S.kIn.keeps kp) (LT.keeps kp) (Heap.get?_push_size s.heap rfl) he).here (q _ kp)
/-- what the body may raise: the clause takes it -/
def wTup (K : PySem.W.Frag) (c1 c2 : Value) (ts : Addr → Value → Option Addr → TS) (D : Ends) : WX := fun cls d σ H => PySem.W.exmAny K cls [c1, c2] = some true ∧ ∀ a, H a = none → ts a cls d D σ H
end
section
variable {X : Cx} {x1 x2 : Str} {c1 c2 : Value} {body suite : List Stmt} {b₀ : Stmt} {p1 p2 tp pos pos' : Pos} {kk : Nat} {tb : WX → TS} {ts : Addr → Value → Option Addr → TS} {Wout : WX}
open L2H HotX in
theorem ps_try_tup (stk : X.stack = X.env :: X.outer) (fr : X.env.frame = some X.env.locals) (n1 : Names X x1 c1) (n2 : Names X x2 c2) (back : ∀ hd : Option Value, PassesOwnAt (model X.prog X.w) (X.A.mark hd) X.A X.env X.xe) (tk : L2.Takes X Wout)
    (hb : ∀ (W : WX) (pn : List (Addr × Obj)) (xe : Value → Shared → Prop), L2N.Takes (X.tr pn xe) W → PassesOwn (model X.prog X.w) X.A X.env xe → PSs (X.tr pn xe) body (tb W))
    (hsu : ∀ (a : Addr) (oe : Obj) (cls : Value) (d : Option Addr) (pn : List (Addr × Obj)), L2N.Zn cls d oe → L2.Takes (suiteX X a ((a, oe) :: pn)) Wout → HotC (suiteX X a ((a, oe) :: pn)) → PSs (suiteX X a ((a, oe) :: pn)) (b₀ :: suite) (ts a cls d)) :
    PS X (.Try body [.ExceptHandler (some (.Tuple [.Name x1 p1, .Name x2 p2] kk tp)) none (b₀ :: suite) pos'] [] [] pos) (fun D σ H => tb (wTup X.K c1 c2 ts D) D σ H) := ⟨fun pins s σ H D I h => by
  have ok := I.ok
  have afr : X.A.frames = some (X.env :: X.outer) := by rw [ok.frames, stk]
  refine wpAny_Try_except (wpAny_mono ((hb (wTup X.K c1 c2 ts D) (X.pn ++ pins) (fun e s₁ => wpAny (model X.prog X.w) X.A (noteFrame e X.env) (fun _ s₂ => wpAny (model X.prog X.w) X.A (setFlight e none) (fun _ s₃ =>
    wpAny (model X.prog X.w) X.A (handleBy e X.env [.ExceptHandler (some (.Tuple [.Name x1 p1, .Name x2 p2] kk tp)) none (b₀ :: suite) pos']) (SP X pins D) X.xe s₃) X.xe s₂) X.xe s₁) ?_ PassesOwn.looking).run [] s σ H D (I.toTry _) h) (fun f s1 r => ?_) fun e s1 he => he)
  · rintro u s' ⟨a, B, sI, pins', σ', H', cls, d, rfl, J', nb, up, sky, na, os, ag, hit, go⟩
    have J : Inv X pins σ' H' sI := J'.ofTry ok
    rw [show (X.tr (X.pn ++ pins) _).stack = X.env :: X.outer from stk] at sky
    show wpAny (model X.prog X.w) X.A (noteFrame (.ref a) X.env) _ _ _
    refine L2N.Sky.land L2N.Zn.steady afr fr sky fun h3 fly up3 => ?_
    have J3 : Inv X pins σ' H' { s' with heap := h3 } := J.landed nb fly.1 (up.trans up3) os ag
    obtain ⟨o3, v3, e3, z3, d3⟩ := fly.there
    have apart : a ∉ frs (X.env :: X.outer) := fun hm => by
      obtain ⟨_, o', e', no⟩ := fly.2.2.1.mem hm
      rw [e3] at e'
      cases e'
      exact no _ d3
    have nL : a ≠ X.env.locals := fun z => apart (List.mem_filterMap.mpr ⟨X.env, List.mem_cons_self, by rw [fr, z]⟩)
    have nF : a ∉ X.fs := fun hm => by
      obtain ⟨e, he, q⟩ := List.mem_filterMap.mp hm
      exact apart (List.mem_filterMap.mpr ⟨e, List.mem_cons_of_mem _ he, q⟩)
    refine wpAny_handleBy_cons (codeAny_handlers_test (clause2 n1 n2 (J3.suite e3 d3 na nL nF) (fun A Q E s k q => wpAny_typeOf_ref (k _ _ e3) (by rw [z3.1]; exact q)) hit fun h4 k4 => ?_)) (by intro q; cases q)
    refine codeAny_handlers_suite (HandSPX.lands_againZ (fly_more k4 fly) fun h5 fly5 up5 => ?_)
    have J5 : Inv X pins σ' H' { s' with heap := h5 } := J.landed nb fly5.1 (((up.trans up3).trans (Heap.UpToSlots.of_keeps k4)).trans up5) os ag
    obtain ⟨o5, v5, e5, z5, d5⟩ := fly5.there
    refine wpAny_mono ((hsu a o5 cls d (X.pn ++ pins) z5 (fun u2 s2 y => ?_) ⟨(a, o5), ⟨rfl, v5, d5, z5.2.2 v5 d5⟩, List.mem_cons_self⟩).run [] _ _ H' _ (suiteX_of (J5.suite e5 d5 na nL nF)) (go a na)) (fun f s6 r => ?_) (fun e6 s6 z => back (some (.ref a)) e6 s6 z)
    · obtain ⟨a2, B2, sI2, pn2, σ2, H2, cls2, d2, y1, y2, y3⟩ := y
      exact tk u2 s2 ⟨a2, B2, sI2, pins, σ2, H2, cls2, d2, y1, unsuiteX y2 ok, y3⟩
    · cases f with
      | next => obtain ⟨σ6, H6, S6, q6⟩ := r; exact ⟨_, _, unsuiteX S6 ok, q6⟩
      | brk => obtain ⟨σ6, H6, S6, q6⟩ := r; exact ⟨_, _, unsuiteX S6 ok, q6⟩
      | cont => obtain ⟨σ6, H6, S6, q6⟩ := r; exact ⟨_, _, unsuiteX S6 ok, q6⟩
      | ret u => obtain ⟨v6, σ6, H6, S6, r6, q6⟩ := r; exact ⟨_, _, _, unsuiteX S6 ok, r6, q6⟩
  · cases f with
    | next => obtain ⟨σ', H', J', q⟩ := r; exact wpAny_execs_nil ⟨σ', H', J'.ofTry ok, q⟩
    | brk => obtain ⟨σ', H', J', q⟩ := r; exact ⟨σ', H', J'.ofTry ok, q⟩
    | cont => obtain ⟨σ', H', J', q⟩ := r; exact ⟨σ', H', J'.ofTry ok, q⟩
    | ret u => obtain ⟨v, σ', H', J', r', q⟩ := r; exact ⟨v, σ', H', J'.ofTry ok, r', q⟩⟩
end
end Dn
namespace Dn
open PySem PySem.Spec PyProof.Rows L2
/-! ### defs whose exceptions are known to have no context -/
theorem sky_zc {B h : Heap} {l : List Env} {a L : Addr} {cls : Value} {d : Option Addr} (x : Sky B l a (L2N.Zn cls d) L h) : Sky B l a (Zc cls d) L h := by
  rcases x with ⟨x1, x2, x3, oe, vs, x4, x5, x6, x7⟩ | ⟨x1, x2, x3, oe, vs, T, oT, ts, x4, x5, x6⟩ | ⟨x1, x2, x3, oe, vs, T, oT, ts, x4, x5, x6⟩
  · exact .inl ⟨x1, x2, x3, oe, vs, x4, x5.zc, x6, x7⟩
  · exact .inr (.inl ⟨x1, x2, x3, oe, vs, T, oT, ts, x4, x5.zc, x6⟩)
  · exact .inr (.inr ⟨x1, x2, x3, oe, vs, T, oT, ts, x4, x5.zc, x6⟩)
theorem toN {X : Cx} {W : WX} (t : L2.Takes X W) : L2N.Takes X W := fun u s' ⟨a, B, sI, pins, σ, H, cls, d, e, I, nb, up, sky, r⟩ => t u s' ⟨a, B, sI, pins, σ, H, cls, d, e, I, nb, up, sky_zc sky, r⟩
structure GdN (X : Cx) (w : Wh) (k : Nat) : Prop where
  calm : X.calm = true
  tn : L2N.Takes X w.W
  po : PassesOwn (model X.prog X.w) X.A X.env X.xe
  hr : Room k X.A
theorem GdN.u65 {X : Cx} {w : Wh} {k : Nat} (g : GdN X w k) : X.A.units + 65 < cLine := by have := g.hr.un; omega
theorem Gd.tn {X : Cx} {w : Wh} {k : Nat} (g : Gd X w k) : L2N.Takes X w.W := toN g.tk
theorem fn_denN {P : Program} {wd : World} {K : PySem.W.Frag} {mg : Str → Option Value} {base : Heap} {ca : String → Option Value} {x qual : Str} {params : Arguments} {body : List Stmt} {scope : Scope} {dvs : List V} {kws : List (Str × V)} {f : Addr} {fd : FuncData} {N ps : List Str} {k : Nat} {b : En → R Fl}
    (F : FunD K x qual params body scope dvs kws f fd) (S : FnScope N ps scope)
    (hb : ∀ (cdv : Value) (A : Around) (outer : List Env) (s : Shared) (H : Hp) (E : XK), GdN (cxOf (L2N.CX P wd) P wd K mg base N qual scope f cdv A outer s H E) (wh ca E) k →
      VSs (cxOf (L2N.CX P wd) P wd K mg base N qual scope f cdv A outer s H E) (wh ca E) body b) :
    FnOk P wd K mg base (L2N.CX P wd) (k + 1) f fd ps (spD K ca ps.length (dDef N.length b)) := by
  refine F.ok S (fun vs H Q E h => ?_) (fun cdv A outer s H vs Q E hr h => ?_)
  · obtain ⟨_, _, _, _, e, _⟩ := h; exact e
  · obtain ⟨G, ls, rel, no, hl, h⟩ := h
    refine ⟨_, hb cdv A outer s H E ⟨rfl, L2N.takes_of rfl rfl rfl rfl, passes_of rfl, hr⟩, ?_⟩
    obtain ⟨r0, o1, o2⟩ := rel.more (n := N.length)
    refine ⟨G, _, r0, ?_⟩
    unfold dDef at h
    show FnS K (wh ca E) G H (vs.map some ++ List.replicate (N.length - vs.length) none) (ls ++ List.replicate (N.length - ls.length) none) (b (ls ++ List.replicate (N.length - ls.length) none)) { nx := fun _ H' => Q .non H', rt := Q }
    cases q : b (ls ++ List.replicate (N.length - ls.length) none) with
    | no => rw [q] at h; exact h
    | ex c ρ' =>
      rw [q] at h
      intro G' H' σ' cls dx r' s' x'
      obtain ⟨r2, s2, _⟩ := rel.back no r' s'
      exact h G' H' cls dx r2 s2 x'
    | ok fl ρ' =>
      rw [q] at h
      cases fl with
      | nx =>
        intro G' H' σ' r' s'
        obtain ⟨r2, s2, _⟩ := rel.back no r' s'
        exact h G' H' .non r2 s2 .non
      | bk => exact h.elim
      | ct => exact h.elim
      | rt d =>
        intro G' H' σ' v r' s' hv
        obtain ⟨r2, s2, _⟩ := rel.back no r' s'
        exact h G' H' v r2 s2 hv
      | rl ds =>
        intro G' H' σ' p r' s' ho
        obtain ⟨r2, s2, o3⟩ := rel.back no r' s'
        refine h G' H' p r2 s2 ho.g (fun z => ho.own (o3 p z)) ho.here ?_
        rcases ho.new with z | ⟨i, l, v, e, lo, _⟩
        · exact z
        · by_cases hi : i < ls.length
          · rw [List.getElem?_append_left hi] at e
            have := no i l e
            rw [lo] at this; cases this
          · rw [List.getElem?_append_right (by omega), List.getElem?_replicate] at e
            split at e <;> cases e
section
variable {X : Cx} {w : Wh} {k n : Nat} {f : Addr} {fd : FuncData} {ps : List Str} {den : En → R L} {ca : String → Option Value} {x : Str} {p pos : Pos} {e : Expr} {es : List Expr} {ga : En → R (List AV)}
theorem ve_callN (F : FnOk X.prog X.w X.K X.mg X.base (L2N.CX X.prog X.w) k f fd ps (spD X.K ca n den)) (hr : Room k X.A) (tk : L2N.Takes X w.W) (hca : w.ca = ca) (hg : Gl X x) (hm : X.mg x = some (.ref f)) (hk : PySem.W.keepIn X.K (.ref f) = true) (hb : Binds X.K fd ps [])
    (ha : VA X w (e :: es) ga) (hdb : (x == ("__debug__" : Str)) = false := by decide) (he : starEach (e :: es) X.env = (false, eval e X.env) :: starEach es X.env := by rfl) (hpl : (backTo pos (starEach es X.env)).any (·.1) = false := by rfl) :
    VE X w (.Call (.Name x p) (e :: es) [] pos) (dFn n den ga) :=
  PE.imp (pe_callS F hr hg hm hk hb (L2N.passAt tk) ha hdb he hpl) fun σ H Q ⟨G, ρ, rel, h⟩ => ⟨G, ρ, rel, (Fn.bind rel h).imp fun G1 H1 ρ1 as ⟨r1, s1, h1⟩ vs hvs => by
    split at h1
    · rename_i hl
      cases q : lend as ρ1 with
      | none => rw [q] at h1; exact h1.elim
      | some ls =>
        rw [q] at h1
        have h1' : Fn X.K w G1 H1 σ ρ1 (match den ls with | .ok (.im d) ls' => R.ok d (giveB as ls' ρ1) | .ok (.ow ds) ls' => .ok (.list ds) (giveB as ls' ρ1) | .ok _ _ => .no | .ex c ls' => .ex c (giveB as ls' ρ1) | .no => .no) (QD X.K Q) := h1
        refine call_ok hca r1 hvs hl q (fun d ls' e => ?_) (fun ds ls' e => ?_) (fun c ls' e => ?_) (fun e => ?_) (fun l ls' e => ?_)
        · rw [e] at h1'; exact fun G' H' r' s' v hv => h1' G' H' r' s' v hv
        · rw [e] at h1'
          intro G' H' r' s' p hg ho ⟨us, hp, hd⟩ hn
          obtain ⟨r2, sg, hdr, hfr⟩ := r'.settle hg ho hp hd
          refine h1' _ H' r2 ⟨s'.g.trans sg, s'.h, fun a z => ?_, s'.ow, s'.tr, s'.ln, s'.bo, s'.bt⟩ _ hdr
          rcases hfr a z with y | rfl
          · exact s'.fr a y
          · exact .inr (.inl hn)
        · rw [e] at h1'; exact fun G' H' cls dx r' s' x' => h1' G' H' cls dx r' s' x'
        · rw [e] at h1'; exact h1'
        · rw [e] at h1'
          cases l <;> first | exact .inl ⟨_, rfl⟩ | exact .inr ⟨_, rfl⟩ | exact h1'.elim
    · exact h1.elim⟩
end
section
variable {X : Cx} {w : Wh} {x : Str} {p p2 pos np pos' : Pos} {C : Addr} {B newId initId : String} {bmB : List Value}
theorem vs_raiseN {nm : String} {m : Str} {j : Nat} (hc : X.calm = true) (tk : L2N.Takes X w.W) (hca : w.ca nm = some (.ref C)) (F : ExcBaseFacts B newId initId bmB) (q : PySem.W.excIn X.K C bmB newId = true) (gC : X.mg x = some (.ref C)) (kC : PySem.W.keepIn X.K (.ref C) = true) (r : Raises X (.ref C)) (hg : Gl X x)
    (hdb : (x == ("__debug__" : Str)) = false := by decide) : VS X w (.Raise (some (.Call (.Name x p) [.Constant (.str m) j p2] [] pos)) none pos') (dRaise nm) :=
  PS.imp (L2N.ps_raise hc tk (L2N.pmk_own F q gC kC r hg hdb)) fun Z σ H ⟨G, ρ, rel, h⟩ => by
    have h' : FnS X.K w G H σ ρ (.ex ⟨nm, none⟩ ρ) Z := h
    exact h' G H σ _ none rel Stp.refl ⟨hca, fun _ => .inl rfl, fun f d e => nomatch e⟩
end
end Dn
namespace Dn
open PySem PySem.Spec PyProof.Rows L2
/-! ### raise C(e) from None within an except suite -/
theorem init_okH {P : Program} {wd : World} {K : PySem.W.Frag} {mg : Str → Option Value} {base : Heap} {CX : CXT} {qual : Str} {params : Arguments} {scope : Scope} {fI C : Addr} {fd : FuncData} {r f : Str} {p1 p2 p3 p4 : Pos}
    (F : FunD K "__init__" qual params [.Assign [.Attribute (.Name "self" p1) f p2] (.Name r p3) p4] scope [] [] fI fd) (S : FnScope ["self", r] ["self", r] scope) (T : OexC K C) (hno : PySem.W.findIn K (.ref C) f = some none)
    (hv : ∀ X : Cx, X.env.scope = scope → Vis X.env.scope "self" ∧ Vis X.env.scope r) (hd : (r == ("__debug__" : Str)) = false) (hcd : (r == ("__classdict__" : Str)) = false) : L2H.FnH P wd K mg base CX 1 fI fd ["self", r] (spI C f) := by
  obtain ⟨oc, od, dV, kV, doc, pm, an, cdv, ct, osl, rfl, lk, hcode, _, _⟩ := F.ex
  refine L2H.fn_ofH lk hcode S (fun vs H Q E h => ?_) (fun A outer s H vs Q E p hot hr h => ?_)
  · obtain ⟨a, y, rfl, _⟩ := h; rfl
  · obtain ⟨v1, v2⟩ := hv (L2H.cxH CX P wd K mg base ["self", r] qual scope fI cdv A outer s H E p) rfl
    refine ⟨_, pss_one (ps_ost (pe_var (i := 0) rfl v1) (pe_var (i := 1) rfl v2 hd hcd)), ?_⟩
    obtain ⟨a, y, rfl, ea, q⟩ := h
    exact ⟨y, rfl, .ref a, rfl, a, C, rfl, T, hno, .inl ⟨ea, q⟩⟩
section
variable {X : Cx} {w : Wh} {x : Str} {p p2 pos np pos' : Pos}
theorem vs_raiseFH {j : Nat} {cpos : Pos} {nm : String} {f : Str} {C fI : Addr} {k : Nat} {fd : FuncData} {ps : List Str} {CX : CXT} {e : Expr} {fe : En → R D} (hc : L2H.HotC X) (tk : L2.Takes X w.W) (hca : w.ca nm = some (.ref C)) (T : OexC X.K C)
    (iC : PySem.W.findIn X.K (.ref C) "__init__" = some (some (.ref fI))) (tI : PySem.W.typeIn X.K (.ref fI) = some (.type "function")) (F1 : L2H.FnH X.prog X.w X.K X.mg X.base CX k fI fd ps (spI C f)) (hr : L2H.RoomH (k + 1) X.A) (hb : Binds X.K fd ps [])
    (hx : Passes CX X (fun _ _ _ => False)) (hg : Gl X x) (hm : X.mg x = some (.ref C)) (he : VE X w e fe) (hdb : (x == ("__debug__" : Str)) = false := by decide)
    (hs : starEach [e] X.env = (false, eval e X.env) :: starEach [] X.env := by rfl) (hpl : (backTo pos (starEach [] X.env)).any (·.1) = false := by rfl) : VS X w (.Raise (some (.Call (.Name x p) [e] [] pos)) (some (.Constant .none j cpos)) pos') (dRaiseF nm f fe) :=
  PS.imp (L2H.ps_raiseHN hc tk (L2H.pmk5_oexH T iC tI F1 hr hc hb hx hg hm (pa_cons he pa_nil hs) hdb hs hpl)) fun Z σ H ⟨G, ρ, rel, h⟩ => by
    refine ⟨G, ρ, rel, (FnS.bind rel h).imp fun G1 H1 ρ1 d ⟨r1, s1, h1⟩ v hv => ?_⟩
    refine ⟨by simp, fun a ha => ?_⟩
    refine ⟨a, v, rfl, upd_same, fun dx hdx hne => ⟨rfl, dx, [(f, v)], upd_same, ?_, ?_, ?_⟩⟩
    · rw [upd_ne hne, upd_same]
    · rwa [upd_ne hne] at hdx
    · have hdx1 : H1 dx = none := by rwa [upd_ne hne] at hdx
      have eH : upd (del (upd (upd (upd H1 a (exo a C none)) dx (exd dx [(f, v)])) a (exo a C (some dx))) a) dx (.xd [(f, v)]) = upd H1 dx (.xd [(f, v)]) := by
        funext b
        by_cases hb : b = dx
        · subst hb; rw [upd_same, upd_same]
        · rw [upd_ne hb, upd_ne hb]
          by_cases ha' : b = a
          · subst ha'; rw [del_same, ha]
          · rw [del_ne ha', upd_ne ha', upd_ne hb, upd_ne ha']
      rw [eH]
      obtain ⟨r2, s2⟩ := r1.laid (p := dx) (o := .xd [(f, v)]) hdx1
      have h2 : FnS X.K w G1 H1 σ ρ1 (.ex ⟨nm, some (f, d)⟩ ρ1) Z := h1
      exact h2 _ _ _ _ _ r2 s2 ⟨hca, (fun e => nomatch e), fun f' d' e => by cases e; exact ⟨dx, v, rfl, upd_same, hv.mono s2.g⟩⟩
end
def dTryR (b : En → R Fl) (cat : String → Option Bool) (s : En → R Fl) : En → R Fl := fun ρ => match b ρ with
  | .ex e ρ1 => match cat e.cls with
    | some true => s ρ1
    | _ => .no
  | r => r
section
variable {X : Cx} {w : Wh} {x1 x2 : Str} {c1 c2 : Value} {p1 p2 tp pos pos' : Pos} {kk : Nat} {b₀ : Stmt} {body suite : List Stmt} {fb fs : En → R Fl} {cat : String → Option Bool}
theorem vs_tryTup (hs : X.stack = X.env :: X.outer) (hf : X.env.frame = some X.env.locals) (n1 : Names X x1 c1) (n2 : Names X x2 c2) (back : ∀ hd : Option Value, PassesOwnAt (model X.prog X.w) (X.A.mark hd) X.A X.env X.xe) (tk : L2.Takes X w.W) (hcalm : X.calm = true) {k : Nat} (hr : Room k X.A)
    (hcat : ∀ e cls, cat e = some true → w.ca e = some cls → PySem.W.exmAny X.K cls [c1, c2] = some true)
    (hb : ∀ (W : WX) (pn : List (Addr × Obj)) (xe : Value → Shared → Prop), GdN (X.tr pn xe) ⟨w.ca, W⟩ k → VSs (X.tr pn xe) ⟨w.ca, W⟩ body fb)
    (hsu : ∀ (a : Addr) (oe : Obj) (pn : List (Addr × Obj)), L2.Takes (L2H.suiteX X a ((a, oe) :: pn)) w.W → L2H.HotC (L2H.suiteX X a ((a, oe) :: pn)) → VSs (L2H.suiteX X a ((a, oe) :: pn)) w (b₀ :: suite) fs) :
    VS X w (.Try body [.ExceptHandler (some (.Tuple [.Name x1 p1, .Name x2 p2] kk tp)) none (b₀ :: suite) pos'] [] [] pos) (dTryR fb cat fs) :=
  PS.imp (ps_try_tup (tb := fun W => tsS X.K ⟨w.ca, W⟩ fb) (ts := fun _ _ _ => tsS X.K w fs) hs hf n1 n2 back tk (fun W pn xe t po => hb W pn xe ⟨hcalm, t, po, hr⟩) (fun a oe cls d pn _ t h => hsu a oe pn t h)) fun Z σ H ⟨G, ρ, rel, h⟩ => by
    refine ⟨G, ρ, rel, ?_⟩
    unfold dTryR at h
    cases q : fb ρ with
    | no => rw [q] at h; exact h
    | ok f ρ1 => rw [q] at h; cases f <;> exact h
    | ex e ρ1 =>
      rw [q] at h
      have h2 : FnS X.K w G H σ ρ (match cat e.cls with | some true => fs ρ1 | _ => .no) Z := h
      intro G' H' σ' cls dx r' s' x'
      cases q2 : cat e.cls with
      | none => rw [q2] at h2; exact h2.elim
      | some b =>
        cases b with
        | false => rw [q2] at h2; exact h2.elim
        | true =>
          rw [q2] at h2
          exact ⟨hcat e.cls cls q2 x'.hc, fun a ha => ⟨G', ρ1, r', FnS.after rel r' s' h2⟩⟩
end
def catOr (f g : String → Option Bool) : String → Option Bool := fun s => match f s, g s with
  | some a, some b => some (a || b)
  | _, _ => none
theorem catOr_ok {K : PySem.W.Frag} {ca : String → Option Value} {c1 c2 : Value} {f g : String → Option Bool} (hf : ∀ e b cls, f e = some b → ca e = some cls → PySem.W.exmOne K cls c1 = some b) (hg : ∀ e b cls, g e = some b → ca e = some cls → PySem.W.exmOne K cls c2 = some b) :
    ∀ e cls, catOr f g e = some true → ca e = some cls → PySem.W.exmAny K cls [c1, c2] = some true := fun e cls h hc => by
  unfold catOr at h
  cases q1 : f e with
  | none => rw [q1] at h; cases h
  | some a =>
    cases q2 : g e with
    | none => rw [q1, q2] at h; cases h
    | some b =>
      rw [q1, q2] at h
      have h : (a || b) = true := Option.some.inj h
      simp only [PySem.W.exmAny, hf e a cls q1 hc, hg e b cls q2 hc, Bool.or_false, h]
theorem tryR_ok {b s : En → R Fl} {cat : String → Option Bool} {ρ ρ1 : En} {f : Fl} (h : b ρ = .ok f ρ1) : dTryR b cat s ρ = .ok f ρ1 := by
  unfold dTryR; rw [h]
theorem tryR_ex {b s : En → R Fl} {cat : String → Option Bool} {ρ ρ1 : En} {e : Exn} (h : b ρ = .ex e ρ1) (hc : cat e.cls = some true) : dTryR b cat s ρ = s ρ1 := by
  unfold dTryR; rw [h]
  show (match cat e.cls with | some true => s ρ1 | _ => .no) = _
  rw [hc]
end Dn
namespace Dn
open PySem PySem.Spec PyProof.Rows L2
/-! ### a new list out of two -/
def lsO : D → Option (List D)
  | .list l => some l
  | _ => none
def catO (x y : D) : Option (List D) := match lsO x, lsO y with
  | some a, some b => if a.length + b.length ≤ sizeLine then some (a ++ b) else none
  | _, _ => none
def nCat (fa fb : En → R D) : En → R (List D) := fun ρ => (fa ρ).bind fun x ρ1 => (fb ρ1).bind fun y ρ2 => lift (catO x y) ρ2
section
variable {X : Cx} {w : Wh} {a b : Expr} {fa fb : En → R D} {pos : Pos}
theorem vn_cat (ha : VE X w a fa) (hb : VE X w b fb) : VN X w (.BinOp a .Add b pos) (nCat fa fb) :=
  PE.imp (pe_op op_catR ha hb) fun σ H Q ⟨G, ρ, rel, h⟩ => ⟨G, ρ, rel, (Fn.bind rel h).imp fun G1 H1 ρ1 dx ⟨r1, s1, h1⟩ x hx => ⟨G1, ρ1, r1, (Fn.bind r1 h1).imp fun G2 H2 ρ2 dy ⟨r2, s2, h2⟩ y hy => by
    obtain ⟨ds, e, q⟩ := Fn.lift h2
    have hx2 := hx.mono s2.g
    unfold catO at e
    cases dx with
    | list la =>
      cases dy with
      | list lb =>
        obtain ⟨p, us, rfl, hp, hu⟩ := hx2.lst'
        obtain ⟨p2, us2, rfl, hp2, hu2⟩ := hy.lst'
        have e2 : (if la.length + lb.length ≤ sizeLine then some (la ++ lb) else none) = some ds := e
        split at e2
        · rename_i hz
          cases e2
          refine ⟨p, p2, us, us2, rfl, rfl, r2.sub.seq hp, r2.sub.seq hp2, by rw [hu.length, hu2.length]; exact hz, fun l hl => ?_⟩
          obtain ⟨r3, s3⟩ := r2.laidM (o := .lst (us ++ us2)) hl
          exact q _ _ r3 s3 l (NewL.of rel r2 (Stp.trans rel s1 s2) hl (hu.append hu2))
        · cases e2
      | _ => cases e
    | _ => cases e⟩⟩
end
@[simp] theorem nCat_eq (fa fb : En → R D) (ρ : En) : nCat fa fb ρ = (fa ρ).bind fun x ρ1 => (fb ρ1).bind fun y ρ2 => lift (catO x y) ρ2 := rfl
theorem catO_of {a b : List D} (h : a.length + b.length ≤ sizeLine) : catO (.list a) (.list b) = some (a ++ b) := if_pos h
end Dn
namespace Dn
open PySem PySem.Spec PyProof.Rows L2
/-! ### enumerate, zip -/
def enumD (ds : List D) : List D := ds.mapIdx fun i d => .tuple [.int (i : Int), d]
def zipD (xs ys : List D) : List D := List.zipWith (fun x y => .tuple [x, y]) xs ys
theorem its_enum {K : PySem.W.Frag} {G0 : Hp} {a : Addr} {vs : List V} {ds : List D} (h : SqL K G0 a vs) (hd : DRs K G0 vs ds) : ItS K G0 (Ite K a) (enumD ds) where
  go := fun i H hi s => by
    have hi' : i < vs.length := by rw [hd.length]; simpa [enumD] using hi
    exact ⟨vs, vs[i]'hi', s.seq h, List.getElem?_eq_getElem _⟩
  stop := fun H s => ⟨vs, s.seq h, by rw [hd.length]; simp [enumD]⟩
  yld := fun i H x H' d e y G σ ρ sG r => by
    obtain ⟨T, z, rfl, hT, rfl, f⟩ := y
    simp only [enumD, List.getElem?_mapIdx, Option.map_eq_some_iff] at e
    obtain ⟨d', ed, rfl⟩ := e
    obtain ⟨v, ev, hv⟩ := hd.get ed
    have := f vs ((sG.trans r.sub).seq h)
    rw [ev] at this; cases this
    obtain ⟨r2, s2⟩ := r.laid (o := .tup [.int (i : Nat), z]) hT
    exact ⟨_, r2, s2, .tup (.inl (.inl upd_same)) (.cons (.int _) (.cons (hv.mono (sG.trans s2.g)) .nil))⟩
theorem its_zip {K : PySem.W.Frag} {G0 : Hp} {a b : Addr} {vs us : List V} {ds es : List D} (h : SqL K G0 a vs) (hd : DRs K G0 vs ds) (h2 : SqL K G0 b us) (hd2 : DRs K G0 us es) : ItS K G0 (Itz K a b) (zipD ds es) where
  go := fun i H hi s => by
    have hi' : i < vs.length ∧ i < us.length := by
      rw [hd.length, hd2.length]
      simp [zipD] at hi
      omega
    exact ⟨vs, us, vs[i]'hi'.1, us[i]'hi'.2, s.seq h, s.seq h2, List.getElem?_eq_getElem _, List.getElem?_eq_getElem _⟩
  stop := fun H s => ⟨vs, us, s.seq h, s.seq h2, by rw [hd.length, hd2.length]; simp [zipD]; omega⟩
  yld := fun i H x H' d e y G σ ρ sG r => by
    obtain ⟨T, z1, z2, rfl, hT, rfl, f1, f2⟩ := y
    simp only [zipD, List.getElem?_zipWith, Option.map_eq_some_iff] at e
    split at e
    · rename_i d1 d2 e1 e2
      cases e
      obtain ⟨v, ev, hv⟩ := hd.get e1
      obtain ⟨u, eu, hu⟩ := hd2.get e2
      have q1 := f1 vs ((sG.trans r.sub).seq h)
      rw [ev] at q1; cases q1
      have q2 := f2 us ((sG.trans r.sub).seq h2)
      rw [eu] at q2; cases q2
      obtain ⟨r2, s2⟩ := r.laid (o := .tup [z1, z2]) hT
      exact ⟨_, r2, s2, .tup (.inl (.inl upd_same)) (.cons (hv.mono (sG.trans s2.g)) (.cons (hu.mono (sG.trans s2.g)) .nil))⟩
    · cases e
def iEn (f : En → R D) : En → R (List D) := fun ρ => (f ρ).bind fun d ρ1 => lift ((lsO d).map enumD) ρ1
def zp2 (ds : List D) (ρ : En) : R (List D) := match ds with
  | [.list a, .list b] => .ok (zipD a b) ρ
  | _ => .no
def iZp (ga : En → R (List AV)) : En → R (List D) := fun ρ => (dAll ga ρ).bind fun ds ρ1 => zp2 ds ρ1
section
variable {X : Cx} {w : Wh} {e e2 : Expr} {f g : En → R D} {p pos tpos : Pos} {elts : List Expr} {kk : Nat}
theorem vi_enum (hg : Gl X "enumerate") (hm : X.mg "enumerate" = none) (he : VE X w e f) (hs : starEach [e] X.env = [(false, eval e X.env)] := by rfl) : VI X w (.Tuple elts kk tpos) (.Call (.Name "enumerate" p) [e] [] pos) (iEn f) :=
  PI.imp (pi_enum hg hm (pa_cons he pa_nil hs) hs) fun σ H R ⟨G, ρ, rel, h⟩ => ⟨G, ρ, rel, (Fn.bind rel h).imp fun G1 H1 ρ1 d ⟨r1, s1, h1⟩ v hv => by
    obtain ⟨ds, e, q⟩ := Fn.lift h1
    cases d with
    | list l =>
      cases e
      obtain ⟨a, vs, rfl, hq, hds⟩ := hv.lst'
      exact ⟨a, vs, rfl, r1.sub.seq hq, q _ _ r1 Stp.refl _ (its_enum hq hds)⟩
    | _ => cases e⟩
theorem vi_zip {ga : En → R (List AV)} (hg : Gl X "zip") (hm : X.mg "zip" = none) (ha : VA X w [e, e2] ga) (hs : starEach [e, e2] X.env = (false, eval e X.env) :: starEach [e2] X.env := by rfl) (hpl : (backTo pos (starEach [e2] X.env)).any (·.1) = false := by rfl) :
    VI X w (.Tuple elts kk tpos) (.Call (.Name "zip" p) [e, e2] [] pos) (iZp ga) :=
  PI.imp (pi_zip hg hm ha hs hpl) fun σ H R ⟨G, ρ, rel, h⟩ => ⟨G, ρ, rel, (Fn.all rel h).imp fun G1 H1 ρ1 as ⟨r1, s1, ds, e, h1⟩ vs hvs => by
    have hd := hvs.all e
    unfold zp2 at h1
    split at h1
    · rename_i la lb
      cases hd with
      | cons h t =>
        cases t with
        | cons h2 t2 =>
          cases t2
          obtain ⟨a, us, rfl, hq, hu⟩ := h.lst'
          obtain ⟨b, us2, rfl, hq2, hu2⟩ := h2.lst'
          exact ⟨a, b, us, us2, rfl, r1.sub.seq hq, r1.sub.seq hq2, h1 _ _ r1 Stp.refl _ (its_zip hq hu hq2 hu2)⟩
    · exact h1.elim⟩
end
@[simp] theorem iEn_eq (f : En → R D) (ρ : En) : iEn f ρ = (f ρ).bind fun d ρ1 => lift ((lsO d).map enumD) ρ1 := rfl
@[simp] theorem iZp_eq (ga : En → R (List AV)) (ρ : En) : iZp ga ρ = (dAll ga ρ).bind fun ds ρ1 => zp2 ds ρ1 := rfl
@[simp] theorem zp2_two (a b : List D) (ρ : En) : zp2 [.list a, .list b] ρ = .ok (zipD a b) ρ := rfl
@[simp] theorem lsO_list (l : List D) : lsO (.list l) = some l := rfl
end Dn
namespace Dn
open PySem PySem.Spec PyProof.Rows L2
/-! ### list(range(a, b)) -/
def rgL (x y : D) : Option (List D) := match x, y with
  | .int i, .int j => if -(2 ^ 62) ≤ i ∧ i < 2 ^ 62 ∧ -(2 ^ 62) ≤ j ∧ j < 2 ^ 62 ∧ (j - i).toNat ≤ 2 ^ 24 then some (rngD i (j - i).toNat) else none
  | _, _ => none
def nRg2 (fa fb : En → R D) : En → R (List D) := fun ρ => (fa ρ).bind fun x ρ1 => (fb ρ1).bind fun y ρ2 => lift (rgL x y) ρ2
def nRg1 (fb : En → R D) : En → R (List D) := fun ρ => (fb ρ).bind fun y ρ1 => lift (rgL (.int 0) y) ρ1
theorem drs_rg {K : PySem.W.Frag} {G : Hp} (a b : Int) : DRs K G (rgV a b) (rngD a (b - a).toNat) := by
  unfold rgV rngD
  generalize List.range (b - a).toNat = l
  induction l with
  | nil => exact .nil
  | cons i l ih => exact .cons (.int _) ih
section
variable {X : Cx} {w : Wh} {a b : Expr} {fa fb : En → R D} {p p2 pos pos2 : Pos}
theorem vn_rg2 (hc : X.calm = true) (hg : Gl X "list") (hm : X.mg "list" = none) (hg2 : Gl X "range") (hm2 : X.mg "range" = none) (ha : VE X w a fa) (hb : VE X w b fb) (na : starEach [a, b] X.env = (false, eval a X.env) :: starEach [b] X.env := by rfl)
    (nb : starEach [b] X.env = (false, eval b X.env) :: starEach [] X.env := by rfl) (hp : (backTo pos2 (starEach [b] X.env)).any (·.1) = false := by rfl)
    (nl : starEach [.Call (.Name "range" p2) [a, b] [] pos2] X.env = (false, eval (.Call (.Name "range" p2) [a, b] [] pos2) X.env) :: starEach [] X.env := by rfl) :
    VN X w (.Call (.Name "list" p) [.Call (.Name "range" p2) [a, b] [] pos2] [] pos) (nRg2 fa fb) :=
  PE.imp (pe_listRg hc hg hm (prg_2 hg2 hm2 ha hb na nb hp) nl) fun σ H Q ⟨G, ρ, rel, h⟩ => ⟨G, ρ, rel, (Fn.bind rel h).imp fun G1 H1 ρ1 dx ⟨r1, s1, h1⟩ x hx => ⟨G1, ρ1, r1, (Fn.bind r1 h1).imp fun G2 H2 ρ2 dy ⟨r2, s2, h2⟩ y hy => by
    obtain ⟨ds, e, q⟩ := Fn.lift h2
    cases dx with
    | int i =>
      cases dy with
      | int j =>
        have e2 : (if -(2 ^ 62) ≤ i ∧ i < 2 ^ 62 ∧ -(2 ^ 62) ≤ j ∧ j < 2 ^ 62 ∧ (j - i).toNat ≤ 2 ^ 24 then some (rngD i (j - i).toNat) else none) = some ds := e
        split at e2
        · rename_i hz
          cases e2
          cases hx
          cases hy
          exact ⟨i, j, rfl, rfl, hz, fun l hl => by
            obtain ⟨r3, s3⟩ := r2.laidM (o := .lst (rgV i j)) hl
            exact q _ _ r3 s3 l (NewL.of rel r2 (Stp.trans rel s1 s2) hl (drs_rg i j))⟩
        · cases e2
      | _ => cases e
    | _ => cases dy <;> cases e⟩⟩
theorem vn_rg1 (hc : X.calm = true) (hg : Gl X "list") (hm : X.mg "list" = none) (hg2 : Gl X "range") (hm2 : X.mg "range" = none) (hb : VE X w b fb) (nb : starEach [b] X.env = (false, eval b X.env) :: starEach [] X.env := by rfl)
    (nl : starEach [.Call (.Name "range" p2) [b] [] pos2] X.env = (false, eval (.Call (.Name "range" p2) [b] [] pos2) X.env) :: starEach [] X.env := by rfl) :
    VN X w (.Call (.Name "list" p) [.Call (.Name "range" p2) [b] [] pos2] [] pos) (nRg1 fb) :=
  PE.imp (pe_listRg hc hg hm (prg_1 hg2 hm2 hb nb) nl) fun σ H Q ⟨G, ρ, rel, h⟩ => ⟨G, ρ, rel, (Fn.bind rel h).imp fun G1 H1 ρ1 dy ⟨r1, s1, h1⟩ y hy => by
    obtain ⟨ds, e, q⟩ := Fn.lift h1
    cases dy with
    | int j =>
      have e2 : (if -(2 ^ 62) ≤ (0 : Int) ∧ (0 : Int) < 2 ^ 62 ∧ -(2 ^ 62) ≤ j ∧ j < 2 ^ 62 ∧ (j - 0).toNat ≤ 2 ^ 24 then some (rngD 0 (j - 0).toNat) else none) = some ds := e
      split at e2
      · rename_i hz
        cases e2
        cases hy
        exact ⟨_, rfl, hz, fun l hl => by
          obtain ⟨r3, s3⟩ := r1.laidM (o := .lst (rgV 0 j)) hl
          exact q _ _ r3 s3 l (NewL.of rel r1 s1 hl (drs_rg 0 j))⟩
      · cases e2
    | _ => cases e⟩
end
@[simp] theorem nRg2_eq (fa fb : En → R D) (ρ : En) : nRg2 fa fb ρ = (fa ρ).bind fun x ρ1 => (fb ρ1).bind fun y ρ2 => lift (rgL x y) ρ2 := rfl
@[simp] theorem nRg1_eq (fb : En → R D) (ρ : En) : nRg1 fb ρ = (fb ρ).bind fun y ρ1 => lift (rgL (.int 0) y) ρ1 := rfl
/-! ### d.get(k, x) -/
def gGetK (d k z : D) : Option D := match d with
  | .dict ps => (asKey k).map fun q => ((ps.find? fun p => isKey q p.1).map (·.2)).getD z
  | _ => none
theorem find_no {K : PySem.W.Frag} {G : Hp} {q : Key} : ∀ {kvs : List (Key × V)} {ds : List D}, DRs K G (kvs.map (·.2)) ds → (((kvs.map fun p => kD p.1).zip ds).find? fun p => isKey q p.1) = none → valV kvs q = none
  | [], _, _, _ => rfl
  | (k, v) :: kvs, _, .cons h t, e => by
    by_cases hk : k = q
    · subst hk
      simp [List.find?_cons, isKey_kD] at e
    · have hf : (isKey q (kD k)) = false := by rw [isKey_kD]; exact decide_eq_false hk
      simp only [List.map_cons, List.zip_cons_cons, List.find?_cons, hf] at e
      have := find_no t e
      simpa [valV, hk] using this
section
variable {X : Cx} {w : Wh} {o e f : Expr} {fo fe ff : En → R D} {apos cpos : Pos}
def dGet (fo fe ff : En → R D) : En → R D := fun ρ => (fo ρ).bind fun x ρ1 => match x with
  | .dict _ => (fe ρ1).bind fun y ρ2 => (ff ρ2).bind fun z ρ3 => lift (gGetK x y z) ρ3
  | _ => .no
theorem ve_get (hu : X.A.units + 1 < cLine) (ho : VE X w o fo) (he : VE X w e fe) (hf : VE X w f ff) (m : M2 X o "get" apos e f cpos) : VE X w (.Call (.Attribute o "get" apos) [e, f] [] cpos) (dGet fo fe ff) :=
  PE.imp (pe_dget2 hu ho he hf m) fun σ H Q ⟨G, ρ, rel, h⟩ => ⟨G, ρ, rel, (Fn.bind rel h).imp fun G1 H1 ρ1 dx ⟨r1, s1, h1⟩ x hx => by
    cases hx with
    | @dic a kvs ds hq hds =>
      have h1 : Fn X.K w G1 H1 σ ρ1 ((fe ρ1).bind fun y ρ2 => (ff ρ2).bind fun z ρ3 => lift (gGetK (.dict ((kvs.map fun p => kD p.1).zip ds)) y z) ρ3) (QD X.K Q) := h1
      refine ⟨a, rfl, .inl ⟨kvs, .inl (r1.sub _ _ hq)⟩, G1, ρ1, r1, (Fn.bind r1 h1).imp fun G2 H2 ρ2 dy ⟨r2, s2, h2⟩ y hy => ⟨G2, ρ2, r2, (Fn.bind r2 h2).imp fun G3 H3 ρ3 dz ⟨r3, s3, h3⟩ z hz => ?_⟩⟩
      obtain ⟨d, e, q⟩ := Fn.lift h3
      simp only [gGetK, Option.map_eq_some_iff] at e
      obtain ⟨k, ek, e⟩ := e
      have ey : y = kV k := by
        cases hy with
        | int i => cases ek; rfl
        | str s => cases ek; rfl
        | _ => cases ek
      subst ey
      have hd3 := hds.mono (s2.g.trans s3.g)
      refine ⟨valV kvs k, DGet.k (r3.sub _ _ (s3.g _ _ (s2.g _ _ hq))), ?_⟩
      cases qf : (((kvs.map fun p => kD p.1).zip ds).find? fun p => isKey k p.1) with
      | none =>
        rw [qf] at e
        have e : dz = d := e
        subst e
        rw [find_no hd3 qf]
        exact q _ _ r3 Stp.refl _ hz
      | some pr =>
        rw [qf] at e
        have e : pr.2 = d := e
        subst e
        obtain ⟨v, ev, hv⟩ := find_kds hd3 (d := pr.2) (by rw [qf]; rfl)
        rw [ev]
        exact q _ _ r3 Stp.refl _ hv
    | _ => exact h1.elim⟩
end
end Dn
namespace Dn
open PySem PySem.Spec PyProof.Rows L2
/-! ### a choice as a test -/
section
variable {X : Cx} {w : Wh} {c a b : Expr} {pos : Pos} {tA tB tC : TT} {gc ga gb : En → R Bool}
theorem pt_ifT (hc : PT X c tA) (ha : PT X a tB) (hb : PT X b tC) : PT X (.IfExp c a b pos) (fun σ H Q => tA σ H fun d H1 => if d = true then tB σ H1 Q else tC σ H1 Q) := ⟨fun pins s σ H Q I h => by
  rw [arm_isTrue_IfExp]
  refine wpAny_bind (thn (hc.run pins s σ H _ I h) fun d s1 ⟨H1, I1, q1⟩ => ?_)
  cases d with
  | true => exact ha.run pins s1 σ H1 Q I1 q1
  | false => exact hb.run pins s1 σ H1 Q I1 q1⟩
theorem vt_ifT (hc : VT X w c gc) (ha : VT X w a ga) (hb : VT X w b gb) : VT X w (.IfExp c a b pos) (dIfE gc ga gb) :=
  PT.imp (pt_ifT hc ha hb) fun σ H Q ⟨G, ρ, rel, h⟩ => ⟨G, ρ, rel, (Fn.bind rel h).imp fun G1 H1 ρ1 b ⟨r1, s1, h1⟩ => by
    cases b with
    | true => exact ⟨G1, ρ1, r1, h1⟩
    | false => exact ⟨G1, ρ1, r1, h1⟩⟩
end
end Dn
namespace Dn
open PySem PySem.Spec PyProof.Rows L2
/-! ### three names at once, the last one a new list -/
def dPar3L (i j l : Nat) (fa fb : En → R D) (fl : En → R (List D)) : En → R Fl := fun ρ => (fa ρ).bind fun x ρ1 => (fb ρ1).bind fun y ρ2 => (fl ρ2).bind fun ds ρ3 => (putIm i x ρ3).bind fun _ ρ4 => (putIm j y ρ4).bind fun _ ρ5 => (putOw l ds ρ5).bind fun _ ρ6 => .ok .nx ρ6
section
variable {X : Cx} {w : Wh} {x y z : Str} {a b c : Expr} {fa fb : En → R D} {fl : En → R (List D)} {px py pz pt pos pt2 : Pos} {kt k2 : Nat}
theorem vs_par3L (i j l : Nat) (hc : X.calm = true) (hN : X.N.Nodup) (ha : VE X w a fa) (hb : VE X w b fb) (hl : VN X w c fl) (hi : X.N[i]? = some x := by rfl) (hj : X.N[j]? = some y := by rfl) (hk : X.N[l]? = some z := by rfl) (hij : i ≠ j := by decide) (hil : i ≠ l := by decide) (hjl : j ≠ l := by decide)
    (hx : X.env.scope.names.lookup x = some .local := by rfl) (hy : X.env.scope.names.lookup y = some .local := by rfl) (hz : X.env.scope.names.lookup z = some .local := by rfl)
    (n1 : starEach [a, b, c] X.env = (false, eval a X.env) :: starEach [b, c] X.env := by rfl) (n2 : starEach [b, c] X.env = (false, eval b X.env) :: starEach [c] X.env := by rfl) (n3 : starEach [c] X.env = (false, eval c X.env) :: starEach [] X.env := by rfl)
    (hw : swappedStores [.Tuple [.Name x px, .Name y py, .Name z pz] kt pt] (.Tuple [a, b, c] k2 pt2) X.env = pure (some [x, y, z]) := by rfl)
    (hs : swapsWithSole [.Tuple [.Name x px, .Name y py, .Name z pz] kt pt] (.Tuple [a, b, c] k2 pt2) pos.line X.env = pure false := by rfl) :
    VS X w (.Assign [.Tuple [.Name x px, .Name y py, .Name z pz] kt pt] (.Tuple [a, b, c] k2 pt2) pos) (dPar3L i j l fa fb fl) :=
  PS.imp (ps_par3 hc hN hi hj hk hij hil hjl hx hy hz (pa_cons ha (pa_cons hb (pa_cons hl pa_nil n3) n2) n1) hw hs) fun D σ H ⟨G, ρ, rel, h⟩ => by
    refine ⟨G, ρ, rel, (FnS.bind rel h).imp fun G1 H1 ρ1 dx ⟨r1, s1, h1⟩ u hu => ⟨G1, ρ1, r1, (FnS.bind r1 h1).imp fun G2 H2 ρ2 dy ⟨r2, s2, h2⟩ v hv => ⟨G2, ρ2, r2, ?_⟩⟩⟩
    cases q : fl ρ2 with
    | no => rw [q] at h2; exact h2
    | ex c ρ' => rw [q] at h2; exact fun G' H' cls dx r1 s1 x => h2 G' H' σ cls dx r1 s1 x
    | ok ds ρ3 =>
      rw [q] at h2
      intro G3 H3 r3 s3 p n
      refine ⟨u, v, .ref p, rfl, ?_⟩
      have h3 : FnS X.K w G2 H2 σ ρ2 ((putIm i dx ρ3).bind fun _ ρ4 => (putIm j dy ρ4).bind fun _ ρ5 => (putOw l ds ρ5).bind fun _ ρ6 => .ok .nx ρ6) D := h2
      unfold putIm at h3
      split at h3
      · rename_i f1
        obtain ⟨c1, e1, b1, t1⟩ := free_ok f1
        obtain ⟨r4, s4⟩ := r3.put e1 b1 t1 (hu.mono (s2.g.trans s3.g))
        have h4 : FnS X.K w G2 H2 σ ρ2 ((if free (ρ3.set i (some (.im dx)))[j]? = true then R.ok () ((ρ3.set i (some (.im dx))).set j (some (.im dy))) else .no).bind fun _ ρ5 => (putOw l ds ρ5).bind fun _ ρ6 => .ok .nx ρ6) D := h3
        split at h4
        · rename_i f2
          obtain ⟨c2, e2, b2, t2⟩ := free_ok f2
          obtain ⟨r5, s5⟩ := r4.put e2 b2 t2 (hv.mono s3.g)
          have h5 : FnS X.K w G2 H2 σ ρ2 ((putOw l ds ((ρ3.set i (some (.im dx))).set j (some (.im dy)))).bind fun _ ρ6 => .ok .nx ρ6) D := h4
          unfold putOw at h5
          split at h5
          · rename_i f3
            obtain ⟨c3, e3, b3, t3⟩ := free_ok f3
            have nA : NewAt X.K G3 H3 σ ρ3 p ds := ⟨n.g, n.own, n.here⟩
            have n5 := (nA.step s4).step s5
            have sA := Stp.trans r2 (Stp.trans r2 s3 s4) s5
            exact FnS.nx (show FnS X.K w G2 H2 σ ρ2 (.ok .nx (((ρ3.set i (some (.im dx))).set j (some (.im dy))).set l (some (.ow ds)))) D from h5) (r5.putL e3 n5.g n5.own n5.here).1 (sA.putL r5 e3 b3 t3 n5.g n5.own n5.here n.new)
          · exact h5.elim
        · exact h4.elim
      · exact h3.elim
end
end Dn
namespace Lw
open PySem PySem.Spec PyProof.Rows L2 Dn
def topS (i : Nat) : Stmt := PySem.Challenge.pw_twobytwo_k01_belts_of_places.main.body.getD i (.Pass ⟨0, 0, 0, 0⟩)
def dd_divisor : He.DefD := ⟨("divisor", none), "divisor", "divisor", defArgs (topS 4), defBody (topS 4), defScope (topS 4), [], []⟩
def dd_lowest : He.DefD := ⟨("lowest", none), "lowest", "lowest", defArgs (topS 5), defBody (topS 5), defScope (topS 5), [], []⟩
def dd_plus : He.DefD := ⟨("plus", none), "plus", "plus", defArgs (topS 6), defBody (topS 6), defScope (topS 6), [], []⟩
def dd_minus : He.DefD := ⟨("minus", none), "minus", "minus", defArgs (topS 7), defBody (topS 7), defScope (topS 7), [], []⟩
def dd_times : He.DefD := ⟨("times", none), "times", "times", defArgs (topS 8), defBody (topS 8), defScope (topS 8), [], []⟩
def dd_over : He.DefD := ⟨("over", none), "over", "over", defArgs (topS 9), defBody (topS 9), defScope (topS 9), [], []⟩
def dd_under : He.DefD := ⟨("under", none), "under", "under", defArgs (topS 10), defBody (topS 10), defScope (topS 10), [], []⟩
def dd_floor_of : He.DefD := ⟨("floor_of", none), "floor_of", "floor_of", defArgs (topS 11), defBody (topS 11), defScope (topS 11), [], []⟩
def dd_rounded : He.DefD := ⟨("rounded", none), "rounded", "rounded", defArgs (topS 12), defBody (topS 12), defScope (topS 12), [], []⟩
def dd_along_straight : He.DefD := ⟨("along_straight", none), "along_straight", "along_straight", defArgs (topS 14), defBody (topS 14), defScope (topS 14), [], []⟩
def dd_back_straight : He.DefD := ⟨("back_straight", none), "back_straight", "back_straight", defArgs (topS 15), defBody (topS 15), defScope (topS 15), [], []⟩
def dd_power_of : He.DefD := ⟨("power_of", none), "power_of", "power_of", defArgs (topS 16), defBody (topS 16), defScope (topS 16), [], []⟩
def dd_along_turns : He.DefD := ⟨("along_turns", none), "along_turns", "along_turns", defArgs (topS 17), defBody (topS 17), defScope (topS 17), [], []⟩
def dd_back_turns : He.DefD := ⟨("back_turns", none), "back_turns", "back_turns", defArgs (topS 18), defBody (topS 18), defScope (topS 18), [], []⟩
def dd_along_pieces : He.DefD := ⟨("along_pieces", none), "along_pieces", "along_pieces", defArgs (topS 19), defBody (topS 19), defScope (topS 19), [], []⟩
def dd_back_pieces : He.DefD := ⟨("back_pieces", none), "back_pieces", "back_pieces", defArgs (topS 20), defBody (topS 20), defScope (topS 20), [], []⟩
def dd_stretch_on : He.DefD := ⟨("stretch_on", none), "stretch_on", "stretch_on", defArgs (topS 21), defBody (topS 21), defScope (topS 21), [], []⟩
def dd_amid : He.DefD := ⟨("amid", none), "amid", "amid", defArgs (topS 22), defBody (topS 22), defScope (topS 22), [], []⟩
def dd_along_order : He.DefD := ⟨("along_order", none), "along_order", "along_order", defArgs (topS 23), defBody (topS 23), defScope (topS 23), [], []⟩
def dd_place_on : He.DefD := ⟨("place_on", none), "place_on", "place_on", defArgs (topS 24), defBody (topS 24), defScope (topS 24), [], []⟩
def dd_read_on : He.DefD := ⟨("read_on", none), "read_on", "read_on", defArgs (topS 25), defBody (topS 25), defScope (topS 25), [], []⟩
def dd_ends_at : He.DefD := ⟨("ends_at", none), "ends_at", "ends_at", defArgs (topS 27), defBody (topS 27), defScope (topS 27), [], []⟩
def dd_ceiling_of : He.DefD := ⟨("ceiling_of", none), "ceiling_of", "ceiling_of", defArgs (topS 28), defBody (topS 28), defScope (topS 28), [], []⟩
def dd_day_belt : He.DefD := ⟨("day_belt", none), "day_belt", "day_belt", defArgs (topS 29), defBody (topS 29), defScope (topS 29), [], []⟩
def dd_belt_at : He.DefD := ⟨("belt_at", none), "belt_at", "belt_at", defArgs (topS 30), defBody (topS 30), defScope (topS 30), [], []⟩
def dd_law_is_whole : He.DefD := ⟨("_law_is_whole", none), "_law_is_whole", "_law_is_whole", defArgs (topS 32), defBody (topS 32), defScope (topS 32), [], []⟩
def dd_law_like : He.DefD := ⟨("_law_like", none), "_law_like", "_law_like", defArgs (topS 33), defBody (topS 33), defScope (topS 33), [], []⟩
def dd_law_pool : He.DefD := ⟨("_law_pool", none), "_law_pool", "_law_pool", defArgs (topS 34), defBody (topS 34), defScope (topS 34), [], []⟩
def dd_law_take : He.DefD := ⟨("_law_take", none), "_law_take", "_law_take", defArgs (topS 35), defBody (topS 35), defScope (topS 35), [], []⟩
def dd_law_one : He.DefD := ⟨("_law_one", none), "_law_one", "_law_one", defArgs (topS 36), defBody (topS 36), defScope (topS 36), [], []⟩
def dd_law_tb_whole : He.DefD := ⟨("_law_tb_whole", none), "_law_tb_whole", "_law_tb_whole", defArgs (topS 37), defBody (topS 37), defScope (topS 37), [], []⟩
def dd_law_tb_common : He.DefD := ⟨("_law_tb_common", none), "_law_tb_common", "_law_tb_common", defArgs (topS 38), defBody (topS 38), defScope (topS 38), [], []⟩
def dd_law_tb_made : He.DefD := ⟨("_law_tb_made", none), "_law_tb_made", "_law_tb_made", defArgs (topS 39), defBody (topS 39), defScope (topS 39), [], []⟩
def dd_law_tb_plus : He.DefD := ⟨("_law_tb_plus", none), "_law_tb_plus", "_law_tb_plus", defArgs (topS 40), defBody (topS 40), defScope (topS 40), [], []⟩
def dd_law_tb_minus : He.DefD := ⟨("_law_tb_minus", none), "_law_tb_minus", "_law_tb_minus", defArgs (topS 41), defBody (topS 41), defScope (topS 41), [], []⟩
def dd_law_tb_times : He.DefD := ⟨("_law_tb_times", none), "_law_tb_times", "_law_tb_times", defArgs (topS 42), defBody (topS 42), defScope (topS 42), [], []⟩
def dd_law_tb_over : He.DefD := ⟨("_law_tb_over", none), "_law_tb_over", "_law_tb_over", defArgs (topS 43), defBody (topS 43), defScope (topS 43), [], []⟩
def dd_law_tb_less : He.DefD := ⟨("_law_tb_less", none), "_law_tb_less", "_law_tb_less", defArgs (topS 44), defBody (topS 44), defScope (topS 44), [], []⟩
def dd_law_tb_floor : He.DefD := ⟨("_law_tb_floor", none), "_law_tb_floor", "_law_tb_floor", defArgs (topS 45), defBody (topS 45), defScope (topS 45), [], []⟩
def dd_law_tb_rounded : He.DefD := ⟨("_law_tb_rounded", none), "_law_tb_rounded", "_law_tb_rounded", defArgs (topS 46), defBody (topS 46), defScope (topS 46), [], []⟩
def dd_law_tb_power : He.DefD := ⟨("_law_tb_power", none), "_law_tb_power", "_law_tb_power", defArgs (topS 47), defBody (topS 47), defScope (topS 47), [], []⟩
def dd_law_tb_between : He.DefD := ⟨("_law_tb_between", none), "_law_tb_between", "_law_tb_between", defArgs (topS 48), defBody (topS 48), defScope (topS 48), [], []⟩
def dd_law_tb_along : He.DefD := ⟨("_law_tb_along", none), "_law_tb_along", "_law_tb_along", defArgs (topS 49), defBody (topS 49), defScope (topS 49), [], []⟩
def dd_law_tb_pieces : He.DefD := ⟨("_law_tb_pieces", none), "_law_tb_pieces", "_law_tb_pieces", defArgs (topS 50), defBody (topS 50), defScope (topS 50), [], []⟩
def dd_law_tb_place : He.DefD := ⟨("_law_tb_place", none), "_law_tb_place", "_law_tb_place", defArgs (topS 51), defBody (topS 51), defScope (topS 51), [], []⟩
def dd_law_tb_star_at : He.DefD := ⟨("_law_tb_star_at", none), "_law_tb_star_at", "_law_tb_star_at", defArgs (topS 52), defBody (topS 52), defScope (topS 52), [], []⟩
def dd_law_tb_read : He.DefD := ⟨("_law_tb_read", none), "_law_tb_read", "_law_tb_read", defArgs (topS 53), defBody (topS 53), defScope (topS 53), [], []⟩
def dd_law_tb_reach : He.DefD := ⟨("_law_tb_reach", none), "_law_tb_reach", "_law_tb_reach", defArgs (topS 54), defBody (topS 54), defScope (topS 54), [], []⟩
def dd_law_tb_belt : He.DefD := ⟨("_law_tb_belt", none), "_law_tb_belt", "_law_tb_belt", defArgs (topS 55), defBody (topS 55), defScope (topS 55), [], []⟩
def dd_law_tb_is_number : He.DefD := ⟨("_law_tb_is_number", none), "_law_tb_is_number", "_law_tb_is_number", defArgs (topS 56), defBody (topS 56), defScope (topS 56), [], []⟩
def dd_law_tb_is_day : He.DefD := ⟨("_law_tb_is_day", none), "_law_tb_is_day", "_law_tb_is_day", defArgs (topS 57), defBody (topS 57), defScope (topS 57), [], []⟩
def dd_law_tb_are_pieces : He.DefD := ⟨("_law_tb_are_pieces", none), "_law_tb_are_pieces", "_law_tb_are_pieces", defArgs (topS 58), defBody (topS 58), defScope (topS 58), [], []⟩
def dd_law_tb_is_scale : He.DefD := ⟨("_law_tb_is_scale", none), "_law_tb_is_scale", "_law_tb_is_scale", defArgs (topS 59), defBody (topS 59), defScope (topS 59), [], []⟩
def dd_law_number_drawn : He.DefD := ⟨("_law_number_drawn", none), "_law_number_drawn", "_law_number_drawn", defArgs (topS 60), defBody (topS 60), defScope (topS 60), [], []⟩
def dd_law_step_drawn : He.DefD := ⟨("_law_step_drawn", none), "_law_step_drawn", "_law_step_drawn", defArgs (topS 61), defBody (topS 61), defScope (topS 61), [], []⟩
def dd_law_pieces_drawn : He.DefD := ⟨("_law_pieces_drawn", none), "_law_pieces_drawn", "_law_pieces_drawn", defArgs (topS 62), defBody (topS 62), defScope (topS 62), [], []⟩
def dd_law_scale_drawn : He.DefD := ⟨("_law_scale_drawn", none), "_law_scale_drawn", "_law_scale_drawn", defArgs (topS 63), defBody (topS 63), defScope (topS 63), [], []⟩
def dd_law_alongs : He.DefD := ⟨("_law_alongs", none), "_law_alongs", "_law_alongs", defArgs (topS 64), defBody (topS 64), defScope (topS 64), [], []⟩
def dd_law_shows_at : He.DefD := ⟨("_law_shows_at", none), "_law_shows_at", "_law_shows_at", defArgs (topS 65), defBody (topS 65), defScope (topS 65), [], []⟩
def dd_law_belt_right : He.DefD := ⟨("_law_belt_right", none), "_law_belt_right", "_law_belt_right", defArgs (topS 66), defBody (topS 66), defScope (topS 66), [], []⟩
def dd_law_none_right : He.DefD := ⟨("_law_none_right", none), "_law_none_right", "_law_none_right", defArgs (topS 67), defBody (topS 67), defScope (topS 67), [], []⟩
def dd_law_scale_right : He.DefD := ⟨("_law_scale_right", none), "_law_scale_right", "_law_scale_right", defArgs (topS 68), defBody (topS 68), defScope (topS 68), [], []⟩
def dd_law : He.DefD := ⟨("law", none), "law", "law", defArgs (topS 69), defBody (topS 69), defScope (topS 69), [], []⟩
def fnL : List He.DefD := [dd_divisor, dd_lowest, dd_plus, dd_minus, dd_times, dd_over, dd_under, dd_floor_of, dd_rounded, dd_along_straight, dd_back_straight, dd_power_of, dd_along_turns, dd_back_turns, dd_along_pieces, dd_back_pieces, dd_stretch_on, dd_amid, dd_along_order, dd_place_on, dd_read_on, dd_ends_at, dd_ceiling_of, dd_day_belt, dd_belt_at, dd_law_is_whole, dd_law_like, dd_law_pool, dd_law_take, dd_law_one, dd_law_tb_whole, dd_law_tb_common, dd_law_tb_made, dd_law_tb_plus, dd_law_tb_minus, dd_law_tb_times, dd_law_tb_over, dd_law_tb_less, dd_law_tb_floor, dd_law_tb_rounded, dd_law_tb_power, dd_law_tb_between, dd_law_tb_along, dd_law_tb_pieces, dd_law_tb_place, dd_law_tb_star_at, dd_law_tb_read, dd_law_tb_reach, dd_law_tb_belt, dd_law_tb_is_number, dd_law_tb_is_day, dd_law_tb_are_pieces, dd_law_tb_is_scale, dd_law_number_drawn, dd_law_step_drawn, dd_law_pieces_drawn, dd_law_scale_drawn, dd_law_alongs, dd_law_shows_at, dd_law_belt_right, dd_law_none_right, dd_law_scale_right, dd_law]
def faL : List He.Fa := [.glo "divisor", .glo "lowest", .glo "plus", .glo "minus", .glo "times", .glo "over", .glo "under", .glo "floor_of", .glo "rounded", .glo "along_straight", .glo "back_straight", .glo "power_of", .glo "along_turns", .glo "back_turns", .glo "along_pieces", .glo "back_pieces", .glo "stretch_on", .glo "amid", .glo "along_order", .glo "place_on", .glo "read_on", .glo "ends_at", .glo "ceiling_of", .glo "day_belt", .glo "belt_at", .glo "_law_is_whole", .glo "_law_like", .glo "_law_pool", .glo "_law_take", .glo "_law_one", .glo "_law_tb_whole", .glo "_law_tb_common", .glo "_law_tb_made", .glo "_law_tb_plus", .glo "_law_tb_minus", .glo "_law_tb_times", .glo "_law_tb_over", .glo "_law_tb_less", .glo "_law_tb_floor", .glo "_law_tb_rounded", .glo "_law_tb_power", .glo "_law_tb_between", .glo "_law_tb_along", .glo "_law_tb_pieces", .glo "_law_tb_place", .glo "_law_tb_star_at", .glo "_law_tb_read", .glo "_law_tb_reach", .glo "_law_tb_belt", .glo "_law_tb_is_number", .glo "_law_tb_is_day", .glo "_law_tb_are_pieces", .glo "_law_tb_is_scale", .glo "_law_number_drawn", .glo "_law_step_drawn", .glo "_law_pieces_drawn", .glo "_law_scale_drawn", .glo "_law_alongs", .glo "_law_shows_at", .glo "_law_belt_right", .glo "_law_none_right", .glo "_law_scale_right", .glo "law", .free "abs", .free "range", .free "len", .free "isinstance", .free "bool", .free "int", .free "str", .free "dict", .free "list", .free "tuple", .free "max", .glo "NoNumber", .exc "NoNumber"]
structure Tx (K : PySem.W.Frag) (mg : Str → Option Value) : Prop where
  says : He.SaysD faL fnL K
  glo : ∀ x, (He.Fa.glo x).ok K = true → mg x = some (.ref (He.ga K x))
  free : ∀ x, (He.Fa.free x).ok K = true → mg x = none
  str : ∀ x z, (He.Fa.str x z).ok K = true → ∃ t, mg x = some (.str z t)
  int : ∀ x z, (He.Fa.int x z).ok K = true → ∃ t, mg x = some (.int z t)
section
variable {K : PySem.W.Frag} {mg : Str → Option Value}
theorem x_divisor (T : Tx K mg) : ∃ fd, FunD K "divisor" "divisor" (defArgs (topS 4)) (defBody (topS 4)) (defScope (topS 4)) [] [] (He.ga K "divisor") fd := T.says.def_ 0 (d := dd_divisor) rfl
noncomputable def fd_divisor (T : Tx K mg) : FuncData := (x_divisor T).choose
theorem F_divisor (T : Tx K mg) : FunD K "divisor" "divisor" (defArgs (topS 4)) (defBody (topS 4)) (defScope (topS 4)) [] [] (He.ga K "divisor") (fd_divisor T) := (x_divisor T).choose_spec
theorem g_divisor (T : Tx K mg) : mg "divisor" = some (.ref (He.ga K "divisor")) := T.glo _ (T.says.fact 0 (f := .glo "divisor") rfl)
theorem bi_divisor (T : Tx K mg) : Binds K (fd_divisor T) ["one", "other"] [] := (F_divisor T).bindsN fun _ _ _ _ _ _ us hl => match us, hl with | [_, _], _ => rfl
theorem x_lowest (T : Tx K mg) : ∃ fd, FunD K "lowest" "lowest" (defArgs (topS 5)) (defBody (topS 5)) (defScope (topS 5)) [] [] (He.ga K "lowest") fd := T.says.def_ 1 (d := dd_lowest) rfl
noncomputable def fd_lowest (T : Tx K mg) : FuncData := (x_lowest T).choose
theorem F_lowest (T : Tx K mg) : FunD K "lowest" "lowest" (defArgs (topS 5)) (defBody (topS 5)) (defScope (topS 5)) [] [] (He.ga K "lowest") (fd_lowest T) := (x_lowest T).choose_spec
theorem g_lowest (T : Tx K mg) : mg "lowest" = some (.ref (He.ga K "lowest")) := T.glo _ (T.says.fact 1 (f := .glo "lowest") rfl)
theorem bi_lowest (T : Tx K mg) : Binds K (fd_lowest T) ["top", "bottom"] [] := (F_lowest T).bindsN fun _ _ _ _ _ _ us hl => match us, hl with | [_, _], _ => rfl
theorem x_plus (T : Tx K mg) : ∃ fd, FunD K "plus" "plus" (defArgs (topS 6)) (defBody (topS 6)) (defScope (topS 6)) [] [] (He.ga K "plus") fd := T.says.def_ 2 (d := dd_plus) rfl
noncomputable def fd_plus (T : Tx K mg) : FuncData := (x_plus T).choose
theorem F_plus (T : Tx K mg) : FunD K "plus" "plus" (defArgs (topS 6)) (defBody (topS 6)) (defScope (topS 6)) [] [] (He.ga K "plus") (fd_plus T) := (x_plus T).choose_spec
theorem g_plus (T : Tx K mg) : mg "plus" = some (.ref (He.ga K "plus")) := T.glo _ (T.says.fact 2 (f := .glo "plus") rfl)
theorem bi_plus (T : Tx K mg) : Binds K (fd_plus T) ["one", "other"] [] := (F_plus T).bindsN fun _ _ _ _ _ _ us hl => match us, hl with | [_, _], _ => rfl
theorem x_minus (T : Tx K mg) : ∃ fd, FunD K "minus" "minus" (defArgs (topS 7)) (defBody (topS 7)) (defScope (topS 7)) [] [] (He.ga K "minus") fd := T.says.def_ 3 (d := dd_minus) rfl
noncomputable def fd_minus (T : Tx K mg) : FuncData := (x_minus T).choose
theorem F_minus (T : Tx K mg) : FunD K "minus" "minus" (defArgs (topS 7)) (defBody (topS 7)) (defScope (topS 7)) [] [] (He.ga K "minus") (fd_minus T) := (x_minus T).choose_spec
theorem g_minus (T : Tx K mg) : mg "minus" = some (.ref (He.ga K "minus")) := T.glo _ (T.says.fact 3 (f := .glo "minus") rfl)
theorem bi_minus (T : Tx K mg) : Binds K (fd_minus T) ["one", "other"] [] := (F_minus T).bindsN fun _ _ _ _ _ _ us hl => match us, hl with | [_, _], _ => rfl
theorem x_times (T : Tx K mg) : ∃ fd, FunD K "times" "times" (defArgs (topS 8)) (defBody (topS 8)) (defScope (topS 8)) [] [] (He.ga K "times") fd := T.says.def_ 4 (d := dd_times) rfl
noncomputable def fd_times (T : Tx K mg) : FuncData := (x_times T).choose
theorem F_times (T : Tx K mg) : FunD K "times" "times" (defArgs (topS 8)) (defBody (topS 8)) (defScope (topS 8)) [] [] (He.ga K "times") (fd_times T) := (x_times T).choose_spec
theorem g_times (T : Tx K mg) : mg "times" = some (.ref (He.ga K "times")) := T.glo _ (T.says.fact 4 (f := .glo "times") rfl)
theorem bi_times (T : Tx K mg) : Binds K (fd_times T) ["one", "other"] [] := (F_times T).bindsN fun _ _ _ _ _ _ us hl => match us, hl with | [_, _], _ => rfl
theorem x_over (T : Tx K mg) : ∃ fd, FunD K "over" "over" (defArgs (topS 9)) (defBody (topS 9)) (defScope (topS 9)) [] [] (He.ga K "over") fd := T.says.def_ 5 (d := dd_over) rfl
noncomputable def fd_over (T : Tx K mg) : FuncData := (x_over T).choose
theorem F_over (T : Tx K mg) : FunD K "over" "over" (defArgs (topS 9)) (defBody (topS 9)) (defScope (topS 9)) [] [] (He.ga K "over") (fd_over T) := (x_over T).choose_spec
theorem g_over (T : Tx K mg) : mg "over" = some (.ref (He.ga K "over")) := T.glo _ (T.says.fact 5 (f := .glo "over") rfl)
theorem bi_over (T : Tx K mg) : Binds K (fd_over T) ["one", "other"] [] := (F_over T).bindsN fun _ _ _ _ _ _ us hl => match us, hl with | [_, _], _ => rfl
theorem x_under (T : Tx K mg) : ∃ fd, FunD K "under" "under" (defArgs (topS 10)) (defBody (topS 10)) (defScope (topS 10)) [] [] (He.ga K "under") fd := T.says.def_ 6 (d := dd_under) rfl
noncomputable def fd_under (T : Tx K mg) : FuncData := (x_under T).choose
theorem F_under (T : Tx K mg) : FunD K "under" "under" (defArgs (topS 10)) (defBody (topS 10)) (defScope (topS 10)) [] [] (He.ga K "under") (fd_under T) := (x_under T).choose_spec
theorem g_under (T : Tx K mg) : mg "under" = some (.ref (He.ga K "under")) := T.glo _ (T.says.fact 6 (f := .glo "under") rfl)
theorem bi_under (T : Tx K mg) : Binds K (fd_under T) ["one", "other"] [] := (F_under T).bindsN fun _ _ _ _ _ _ us hl => match us, hl with | [_, _], _ => rfl
theorem x_floor_of (T : Tx K mg) : ∃ fd, FunD K "floor_of" "floor_of" (defArgs (topS 11)) (defBody (topS 11)) (defScope (topS 11)) [] [] (He.ga K "floor_of") fd := T.says.def_ 7 (d := dd_floor_of) rfl
noncomputable def fd_floor_of (T : Tx K mg) : FuncData := (x_floor_of T).choose
theorem F_floor_of (T : Tx K mg) : FunD K "floor_of" "floor_of" (defArgs (topS 11)) (defBody (topS 11)) (defScope (topS 11)) [] [] (He.ga K "floor_of") (fd_floor_of T) := (x_floor_of T).choose_spec
theorem g_floor_of (T : Tx K mg) : mg "floor_of" = some (.ref (He.ga K "floor_of")) := T.glo _ (T.says.fact 7 (f := .glo "floor_of") rfl)
theorem bi_floor_of (T : Tx K mg) : Binds K (fd_floor_of T) ["one"] [] := (F_floor_of T).bindsN fun _ _ _ _ _ _ us hl => match us, hl with | [_], _ => rfl
theorem x_rounded (T : Tx K mg) : ∃ fd, FunD K "rounded" "rounded" (defArgs (topS 12)) (defBody (topS 12)) (defScope (topS 12)) [] [] (He.ga K "rounded") fd := T.says.def_ 8 (d := dd_rounded) rfl
noncomputable def fd_rounded (T : Tx K mg) : FuncData := (x_rounded T).choose
theorem F_rounded (T : Tx K mg) : FunD K "rounded" "rounded" (defArgs (topS 12)) (defBody (topS 12)) (defScope (topS 12)) [] [] (He.ga K "rounded") (fd_rounded T) := (x_rounded T).choose_spec
theorem g_rounded (T : Tx K mg) : mg "rounded" = some (.ref (He.ga K "rounded")) := T.glo _ (T.says.fact 8 (f := .glo "rounded") rfl)
theorem bi_rounded (T : Tx K mg) : Binds K (fd_rounded T) ["one"] [] := (F_rounded T).bindsN fun _ _ _ _ _ _ us hl => match us, hl with | [_], _ => rfl
theorem x_along_straight (T : Tx K mg) : ∃ fd, FunD K "along_straight" "along_straight" (defArgs (topS 14)) (defBody (topS 14)) (defScope (topS 14)) [] [] (He.ga K "along_straight") fd := T.says.def_ 9 (d := dd_along_straight) rfl
noncomputable def fd_along_straight (T : Tx K mg) : FuncData := (x_along_straight T).choose
theorem F_along_straight (T : Tx K mg) : FunD K "along_straight" "along_straight" (defArgs (topS 14)) (defBody (topS 14)) (defScope (topS 14)) [] [] (He.ga K "along_straight") (fd_along_straight T) := (x_along_straight T).choose_spec
theorem g_along_straight (T : Tx K mg) : mg "along_straight" = some (.ref (He.ga K "along_straight")) := T.glo _ (T.says.fact 9 (f := .glo "along_straight") rfl)
theorem bi_along_straight (T : Tx K mg) : Binds K (fd_along_straight T) ["lo", "hi", "cell", "long"] [] := (F_along_straight T).bindsN fun _ _ _ _ _ _ us hl => match us, hl with | [_, _, _, _], _ => rfl
theorem x_back_straight (T : Tx K mg) : ∃ fd, FunD K "back_straight" "back_straight" (defArgs (topS 15)) (defBody (topS 15)) (defScope (topS 15)) [] [] (He.ga K "back_straight") fd := T.says.def_ 10 (d := dd_back_straight) rfl
noncomputable def fd_back_straight (T : Tx K mg) : FuncData := (x_back_straight T).choose
theorem F_back_straight (T : Tx K mg) : FunD K "back_straight" "back_straight" (defArgs (topS 15)) (defBody (topS 15)) (defScope (topS 15)) [] [] (He.ga K "back_straight") (fd_back_straight T) := (x_back_straight T).choose_spec
theorem g_back_straight (T : Tx K mg) : mg "back_straight" = some (.ref (He.ga K "back_straight")) := T.glo _ (T.says.fact 10 (f := .glo "back_straight") rfl)
theorem bi_back_straight (T : Tx K mg) : Binds K (fd_back_straight T) ["lo", "hi", "place", "long"] [] := (F_back_straight T).bindsN fun _ _ _ _ _ _ us hl => match us, hl with | [_, _, _, _], _ => rfl
theorem x_power_of (T : Tx K mg) : ∃ fd, FunD K "power_of" "power_of" (defArgs (topS 16)) (defBody (topS 16)) (defScope (topS 16)) [] [] (He.ga K "power_of") fd := T.says.def_ 11 (d := dd_power_of) rfl
noncomputable def fd_power_of (T : Tx K mg) : FuncData := (x_power_of T).choose
theorem F_power_of (T : Tx K mg) : FunD K "power_of" "power_of" (defArgs (topS 16)) (defBody (topS 16)) (defScope (topS 16)) [] [] (He.ga K "power_of") (fd_power_of T) := (x_power_of T).choose_spec
theorem g_power_of (T : Tx K mg) : mg "power_of" = some (.ref (He.ga K "power_of")) := T.glo _ (T.says.fact 11 (f := .glo "power_of") rfl)
theorem bi_power_of (T : Tx K mg) : Binds K (fd_power_of T) ["base", "many"] [] := (F_power_of T).bindsN fun _ _ _ _ _ _ us hl => match us, hl with | [_, _], _ => rfl
theorem x_along_turns (T : Tx K mg) : ∃ fd, FunD K "along_turns" "along_turns" (defArgs (topS 17)) (defBody (topS 17)) (defScope (topS 17)) [] [] (He.ga K "along_turns") fd := T.says.def_ 12 (d := dd_along_turns) rfl
noncomputable def fd_along_turns (T : Tx K mg) : FuncData := (x_along_turns T).choose
theorem F_along_turns (T : Tx K mg) : FunD K "along_turns" "along_turns" (defArgs (topS 17)) (defBody (topS 17)) (defScope (topS 17)) [] [] (He.ga K "along_turns") (fd_along_turns T) := (x_along_turns T).choose_spec
theorem g_along_turns (T : Tx K mg) : mg "along_turns" = some (.ref (He.ga K "along_turns")) := T.glo _ (T.says.fact 12 (f := .glo "along_turns") rfl)
theorem bi_along_turns (T : Tx K mg) : Binds K (fd_along_turns T) ["scale", "cell"] [] := (F_along_turns T).bindsN fun _ _ _ _ _ _ us hl => match us, hl with | [_, _], _ => rfl
theorem x_back_turns (T : Tx K mg) : ∃ fd, FunD K "back_turns" "back_turns" (defArgs (topS 18)) (defBody (topS 18)) (defScope (topS 18)) [] [] (He.ga K "back_turns") fd := T.says.def_ 13 (d := dd_back_turns) rfl
noncomputable def fd_back_turns (T : Tx K mg) : FuncData := (x_back_turns T).choose
theorem F_back_turns (T : Tx K mg) : FunD K "back_turns" "back_turns" (defArgs (topS 18)) (defBody (topS 18)) (defScope (topS 18)) [] [] (He.ga K "back_turns") (fd_back_turns T) := (x_back_turns T).choose_spec
theorem g_back_turns (T : Tx K mg) : mg "back_turns" = some (.ref (He.ga K "back_turns")) := T.glo _ (T.says.fact 13 (f := .glo "back_turns") rfl)
theorem bi_back_turns (T : Tx K mg) : Binds K (fd_back_turns T) ["scale", "place"] [] := (F_back_turns T).bindsN fun _ _ _ _ _ _ us hl => match us, hl with | [_, _], _ => rfl
theorem x_along_pieces (T : Tx K mg) : ∃ fd, FunD K "along_pieces" "along_pieces" (defArgs (topS 19)) (defBody (topS 19)) (defScope (topS 19)) [] [] (He.ga K "along_pieces") fd := T.says.def_ 14 (d := dd_along_pieces) rfl
noncomputable def fd_along_pieces (T : Tx K mg) : FuncData := (x_along_pieces T).choose
theorem F_along_pieces (T : Tx K mg) : FunD K "along_pieces" "along_pieces" (defArgs (topS 19)) (defBody (topS 19)) (defScope (topS 19)) [] [] (He.ga K "along_pieces") (fd_along_pieces T) := (x_along_pieces T).choose_spec
theorem g_along_pieces (T : Tx K mg) : mg "along_pieces" = some (.ref (He.ga K "along_pieces")) := T.glo _ (T.says.fact 14 (f := .glo "along_pieces") rfl)
theorem bi_along_pieces (T : Tx K mg) : Binds K (fd_along_pieces T) ["pieces", "cell"] [] := (F_along_pieces T).bindsN fun _ _ _ _ _ _ us hl => match us, hl with | [_, _], _ => rfl
theorem x_back_pieces (T : Tx K mg) : ∃ fd, FunD K "back_pieces" "back_pieces" (defArgs (topS 20)) (defBody (topS 20)) (defScope (topS 20)) [] [] (He.ga K "back_pieces") fd := T.says.def_ 15 (d := dd_back_pieces) rfl
noncomputable def fd_back_pieces (T : Tx K mg) : FuncData := (x_back_pieces T).choose
theorem F_back_pieces (T : Tx K mg) : FunD K "back_pieces" "back_pieces" (defArgs (topS 20)) (defBody (topS 20)) (defScope (topS 20)) [] [] (He.ga K "back_pieces") (fd_back_pieces T) := (x_back_pieces T).choose_spec
theorem g_back_pieces (T : Tx K mg) : mg "back_pieces" = some (.ref (He.ga K "back_pieces")) := T.glo _ (T.says.fact 15 (f := .glo "back_pieces") rfl)
theorem bi_back_pieces (T : Tx K mg) : Binds K (fd_back_pieces T) ["pieces", "place"] [] := (F_back_pieces T).bindsN fun _ _ _ _ _ _ us hl => match us, hl with | [_, _], _ => rfl
theorem x_stretch_on (T : Tx K mg) : ∃ fd, FunD K "stretch_on" "stretch_on" (defArgs (topS 21)) (defBody (topS 21)) (defScope (topS 21)) [] [] (He.ga K "stretch_on") fd := T.says.def_ 16 (d := dd_stretch_on) rfl
noncomputable def fd_stretch_on (T : Tx K mg) : FuncData := (x_stretch_on T).choose
theorem F_stretch_on (T : Tx K mg) : FunD K "stretch_on" "stretch_on" (defArgs (topS 21)) (defBody (topS 21)) (defScope (topS 21)) [] [] (He.ga K "stretch_on") (fd_stretch_on T) := (x_stretch_on T).choose_spec
theorem g_stretch_on (T : Tx K mg) : mg "stretch_on" = some (.ref (He.ga K "stretch_on")) := T.glo _ (T.says.fact 16 (f := .glo "stretch_on") rfl)
theorem bi_stretch_on (T : Tx K mg) : Binds K (fd_stretch_on T) ["scale", "word"] [] := (F_stretch_on T).bindsN fun _ _ _ _ _ _ us hl => match us, hl with | [_, _], _ => rfl
theorem x_amid (T : Tx K mg) : ∃ fd, FunD K "amid" "amid" (defArgs (topS 22)) (defBody (topS 22)) (defScope (topS 22)) [] [] (He.ga K "amid") fd := T.says.def_ 17 (d := dd_amid) rfl
noncomputable def fd_amid (T : Tx K mg) : FuncData := (x_amid T).choose
theorem F_amid (T : Tx K mg) : FunD K "amid" "amid" (defArgs (topS 22)) (defBody (topS 22)) (defScope (topS 22)) [] [] (He.ga K "amid") (fd_amid T) := (x_amid T).choose_spec
theorem g_amid (T : Tx K mg) : mg "amid" = some (.ref (He.ga K "amid")) := T.glo _ (T.says.fact 17 (f := .glo "amid") rfl)
theorem bi_amid (T : Tx K mg) : Binds K (fd_amid T) ["stretch"] [] := (F_amid T).bindsN fun _ _ _ _ _ _ us hl => match us, hl with | [_], _ => rfl
theorem x_along_order (T : Tx K mg) : ∃ fd, FunD K "along_order" "along_order" (defArgs (topS 23)) (defBody (topS 23)) (defScope (topS 23)) [] [] (He.ga K "along_order") fd := T.says.def_ 18 (d := dd_along_order) rfl
noncomputable def fd_along_order (T : Tx K mg) : FuncData := (x_along_order T).choose
theorem F_along_order (T : Tx K mg) : FunD K "along_order" "along_order" (defArgs (topS 23)) (defBody (topS 23)) (defScope (topS 23)) [] [] (He.ga K "along_order") (fd_along_order T) := (x_along_order T).choose_spec
theorem g_along_order (T : Tx K mg) : mg "along_order" = some (.ref (He.ga K "along_order")) := T.glo _ (T.says.fact 18 (f := .glo "along_order") rfl)
theorem bi_along_order (T : Tx K mg) : Binds K (fd_along_order T) ["scale", "cell"] [] := (F_along_order T).bindsN fun _ _ _ _ _ _ us hl => match us, hl with | [_, _], _ => rfl
theorem x_place_on (T : Tx K mg) : ∃ fd, FunD K "place_on" "place_on" (defArgs (topS 24)) (defBody (topS 24)) (defScope (topS 24)) [] [] (He.ga K "place_on") fd := T.says.def_ 19 (d := dd_place_on) rfl
noncomputable def fd_place_on (T : Tx K mg) : FuncData := (x_place_on T).choose
theorem F_place_on (T : Tx K mg) : FunD K "place_on" "place_on" (defArgs (topS 24)) (defBody (topS 24)) (defScope (topS 24)) [] [] (He.ga K "place_on") (fd_place_on T) := (x_place_on T).choose_spec
theorem g_place_on (T : Tx K mg) : mg "place_on" = some (.ref (He.ga K "place_on")) := T.glo _ (T.says.fact 19 (f := .glo "place_on") rfl)
theorem bi_place_on (T : Tx K mg) : Binds K (fd_place_on T) ["scale", "cell"] [] := (F_place_on T).bindsN fun _ _ _ _ _ _ us hl => match us, hl with | [_, _], _ => rfl
theorem x_read_on (T : Tx K mg) : ∃ fd, FunD K "read_on" "read_on" (defArgs (topS 25)) (defBody (topS 25)) (defScope (topS 25)) [] [] (He.ga K "read_on") fd := T.says.def_ 20 (d := dd_read_on) rfl
noncomputable def fd_read_on (T : Tx K mg) : FuncData := (x_read_on T).choose
theorem F_read_on (T : Tx K mg) : FunD K "read_on" "read_on" (defArgs (topS 25)) (defBody (topS 25)) (defScope (topS 25)) [] [] (He.ga K "read_on") (fd_read_on T) := (x_read_on T).choose_spec
theorem g_read_on (T : Tx K mg) : mg "read_on" = some (.ref (He.ga K "read_on")) := T.glo _ (T.says.fact 20 (f := .glo "read_on") rfl)
theorem bi_read_on (T : Tx K mg) : Binds K (fd_read_on T) ["scale", "place"] [] := (F_read_on T).bindsN fun _ _ _ _ _ _ us hl => match us, hl with | [_, _], _ => rfl
theorem x_ends_at (T : Tx K mg) : ∃ fd, FunD K "ends_at" "ends_at" (defArgs (topS 27)) (defBody (topS 27)) (defScope (topS 27)) [] [] (He.ga K "ends_at") fd := T.says.def_ 21 (d := dd_ends_at) rfl
noncomputable def fd_ends_at (T : Tx K mg) : FuncData := (x_ends_at T).choose
theorem F_ends_at (T : Tx K mg) : FunD K "ends_at" "ends_at" (defArgs (topS 27)) (defBody (topS 27)) (defScope (topS 27)) [] [] (He.ga K "ends_at") (fd_ends_at T) := (x_ends_at T).choose_spec
theorem g_ends_at (T : Tx K mg) : mg "ends_at" = some (.ref (He.ga K "ends_at")) := T.glo _ (T.says.fact 21 (f := .glo "ends_at") rfl)
theorem bi_ends_at (T : Tx K mg) : Binds K (fd_ends_at T) ["scale", "along"] [] := (F_ends_at T).bindsN fun _ _ _ _ _ _ us hl => match us, hl with | [_, _], _ => rfl
theorem x_ceiling_of (T : Tx K mg) : ∃ fd, FunD K "ceiling_of" "ceiling_of" (defArgs (topS 28)) (defBody (topS 28)) (defScope (topS 28)) [] [] (He.ga K "ceiling_of") fd := T.says.def_ 22 (d := dd_ceiling_of) rfl
noncomputable def fd_ceiling_of (T : Tx K mg) : FuncData := (x_ceiling_of T).choose
theorem F_ceiling_of (T : Tx K mg) : FunD K "ceiling_of" "ceiling_of" (defArgs (topS 28)) (defBody (topS 28)) (defScope (topS 28)) [] [] (He.ga K "ceiling_of") (fd_ceiling_of T) := (x_ceiling_of T).choose_spec
theorem g_ceiling_of (T : Tx K mg) : mg "ceiling_of" = some (.ref (He.ga K "ceiling_of")) := T.glo _ (T.says.fact 22 (f := .glo "ceiling_of") rfl)
theorem bi_ceiling_of (T : Tx K mg) : Binds K (fd_ceiling_of T) ["one"] [] := (F_ceiling_of T).bindsN fun _ _ _ _ _ _ us hl => match us, hl with | [_], _ => rfl
theorem x_day_belt (T : Tx K mg) : ∃ fd, FunD K "day_belt" "day_belt" (defArgs (topS 29)) (defBody (topS 29)) (defScope (topS 29)) [] [] (He.ga K "day_belt") fd := T.says.def_ 23 (d := dd_day_belt) rfl
noncomputable def fd_day_belt (T : Tx K mg) : FuncData := (x_day_belt T).choose
theorem F_day_belt (T : Tx K mg) : FunD K "day_belt" "day_belt" (defArgs (topS 29)) (defBody (topS 29)) (defScope (topS 29)) [] [] (He.ga K "day_belt") (fd_day_belt T) := (x_day_belt T).choose_spec
theorem g_day_belt (T : Tx K mg) : mg "day_belt" = some (.ref (He.ga K "day_belt")) := T.glo _ (T.says.fact 23 (f := .glo "day_belt") rfl)
theorem bi_day_belt (T : Tx K mg) : Binds K (fd_day_belt T) ["low", "high", "shut"] [] := (F_day_belt T).bindsN fun _ _ _ _ _ _ us hl => match us, hl with | [_, _, _], _ => rfl
theorem x_belt_at (T : Tx K mg) : ∃ fd, FunD K "belt_at" "belt_at" (defArgs (topS 30)) (defBody (topS 30)) (defScope (topS 30)) [] [] (He.ga K "belt_at") fd := T.says.def_ 24 (d := dd_belt_at) rfl
noncomputable def fd_belt_at (T : Tx K mg) : FuncData := (x_belt_at T).choose
theorem F_belt_at (T : Tx K mg) : FunD K "belt_at" "belt_at" (defArgs (topS 30)) (defBody (topS 30)) (defScope (topS 30)) [] [] (He.ga K "belt_at") (fd_belt_at T) := (x_belt_at T).choose_spec
theorem g_belt_at (T : Tx K mg) : mg "belt_at" = some (.ref (He.ga K "belt_at")) := T.glo _ (T.says.fact 24 (f := .glo "belt_at") rfl)
theorem bi_belt_at (T : Tx K mg) : Binds K (fd_belt_at T) ["scale", "along"] [] := (F_belt_at T).bindsN fun _ _ _ _ _ _ us hl => match us, hl with | [_, _], _ => rfl
theorem x_law_is_whole (T : Tx K mg) : ∃ fd, FunD K "_law_is_whole" "_law_is_whole" (defArgs (topS 32)) (defBody (topS 32)) (defScope (topS 32)) [] [] (He.ga K "_law_is_whole") fd := T.says.def_ 25 (d := dd_law_is_whole) rfl
noncomputable def fd_law_is_whole (T : Tx K mg) : FuncData := (x_law_is_whole T).choose
theorem F_law_is_whole (T : Tx K mg) : FunD K "_law_is_whole" "_law_is_whole" (defArgs (topS 32)) (defBody (topS 32)) (defScope (topS 32)) [] [] (He.ga K "_law_is_whole") (fd_law_is_whole T) := (x_law_is_whole T).choose_spec
theorem g_law_is_whole (T : Tx K mg) : mg "_law_is_whole" = some (.ref (He.ga K "_law_is_whole")) := T.glo _ (T.says.fact 25 (f := .glo "_law_is_whole") rfl)
theorem bi_law_is_whole (T : Tx K mg) : Binds K (fd_law_is_whole T) ["thing"] [] := (F_law_is_whole T).bindsN fun _ _ _ _ _ _ us hl => match us, hl with | [_], _ => rfl
theorem x_law_like (T : Tx K mg) : ∃ fd, FunD K "_law_like" "_law_like" (defArgs (topS 33)) (defBody (topS 33)) (defScope (topS 33)) [] [] (He.ga K "_law_like") fd := T.says.def_ 26 (d := dd_law_like) rfl
noncomputable def fd_law_like (T : Tx K mg) : FuncData := (x_law_like T).choose
theorem F_law_like (T : Tx K mg) : FunD K "_law_like" "_law_like" (defArgs (topS 33)) (defBody (topS 33)) (defScope (topS 33)) [] [] (He.ga K "_law_like") (fd_law_like T) := (x_law_like T).choose_spec
theorem g_law_like (T : Tx K mg) : mg "_law_like" = some (.ref (He.ga K "_law_like")) := T.glo _ (T.says.fact 26 (f := .glo "_law_like") rfl)
theorem bi_law_like (T : Tx K mg) : Binds K (fd_law_like T) ["told", "owed"] [] := (F_law_like T).bindsN fun _ _ _ _ _ _ us hl => match us, hl with | [_, _], _ => rfl
theorem x_law_pool (T : Tx K mg) : ∃ fd, FunD K "_law_pool" "_law_pool" (defArgs (topS 34)) (defBody (topS 34)) (defScope (topS 34)) [] [] (He.ga K "_law_pool") fd := T.says.def_ 27 (d := dd_law_pool) rfl
noncomputable def fd_law_pool (T : Tx K mg) : FuncData := (x_law_pool T).choose
theorem F_law_pool (T : Tx K mg) : FunD K "_law_pool" "_law_pool" (defArgs (topS 34)) (defBody (topS 34)) (defScope (topS 34)) [] [] (He.ga K "_law_pool") (fd_law_pool T) := (x_law_pool T).choose_spec
theorem g_law_pool (T : Tx K mg) : mg "_law_pool" = some (.ref (He.ga K "_law_pool")) := T.glo _ (T.says.fact 27 (f := .glo "_law_pool") rfl)
theorem bi_law_pool (T : Tx K mg) : Binds K (fd_law_pool T) ["script"] [] := (F_law_pool T).bindsN fun _ _ _ _ _ _ us hl => match us, hl with | [_], _ => rfl
theorem x_law_take (T : Tx K mg) : ∃ fd, FunD K "_law_take" "_law_take" (defArgs (topS 35)) (defBody (topS 35)) (defScope (topS 35)) [] [] (He.ga K "_law_take") fd := T.says.def_ 28 (d := dd_law_take) rfl
noncomputable def fd_law_take (T : Tx K mg) : FuncData := (x_law_take T).choose
theorem F_law_take (T : Tx K mg) : FunD K "_law_take" "_law_take" (defArgs (topS 35)) (defBody (topS 35)) (defScope (topS 35)) [] [] (He.ga K "_law_take") (fd_law_take T) := (x_law_take T).choose_spec
theorem g_law_take (T : Tx K mg) : mg "_law_take" = some (.ref (He.ga K "_law_take")) := T.glo _ (T.says.fact 28 (f := .glo "_law_take") rfl)
theorem bi_law_take (T : Tx K mg) : Binds K (fd_law_take T) ["jar", "many"] [] := (F_law_take T).bindsN fun _ _ _ _ _ _ us hl => match us, hl with | [_, _], _ => rfl
theorem x_law_one (T : Tx K mg) : ∃ fd, FunD K "_law_one" "_law_one" (defArgs (topS 36)) (defBody (topS 36)) (defScope (topS 36)) [] [] (He.ga K "_law_one") fd := T.says.def_ 29 (d := dd_law_one) rfl
noncomputable def fd_law_one (T : Tx K mg) : FuncData := (x_law_one T).choose
theorem F_law_one (T : Tx K mg) : FunD K "_law_one" "_law_one" (defArgs (topS 36)) (defBody (topS 36)) (defScope (topS 36)) [] [] (He.ga K "_law_one") (fd_law_one T) := (x_law_one T).choose_spec
theorem g_law_one (T : Tx K mg) : mg "_law_one" = some (.ref (He.ga K "_law_one")) := T.glo _ (T.says.fact 29 (f := .glo "_law_one") rfl)
theorem bi_law_one (T : Tx K mg) : Binds K (fd_law_one T) ["jar", "things"] [] := (F_law_one T).bindsN fun _ _ _ _ _ _ us hl => match us, hl with | [_, _], _ => rfl
theorem x_law_tb_whole (T : Tx K mg) : ∃ fd, FunD K "_law_tb_whole" "_law_tb_whole" (defArgs (topS 37)) (defBody (topS 37)) (defScope (topS 37)) [] [] (He.ga K "_law_tb_whole") fd := T.says.def_ 30 (d := dd_law_tb_whole) rfl
noncomputable def fd_law_tb_whole (T : Tx K mg) : FuncData := (x_law_tb_whole T).choose
theorem F_law_tb_whole (T : Tx K mg) : FunD K "_law_tb_whole" "_law_tb_whole" (defArgs (topS 37)) (defBody (topS 37)) (defScope (topS 37)) [] [] (He.ga K "_law_tb_whole") (fd_law_tb_whole T) := (x_law_tb_whole T).choose_spec
theorem g_law_tb_whole (T : Tx K mg) : mg "_law_tb_whole" = some (.ref (He.ga K "_law_tb_whole")) := T.glo _ (T.says.fact 30 (f := .glo "_law_tb_whole") rfl)
theorem bi_law_tb_whole (T : Tx K mg) : Binds K (fd_law_tb_whole T) ["thing"] [] := (F_law_tb_whole T).bindsN fun _ _ _ _ _ _ us hl => match us, hl with | [_], _ => rfl
theorem x_law_tb_common (T : Tx K mg) : ∃ fd, FunD K "_law_tb_common" "_law_tb_common" (defArgs (topS 38)) (defBody (topS 38)) (defScope (topS 38)) [] [] (He.ga K "_law_tb_common") fd := T.says.def_ 31 (d := dd_law_tb_common) rfl
noncomputable def fd_law_tb_common (T : Tx K mg) : FuncData := (x_law_tb_common T).choose
theorem F_law_tb_common (T : Tx K mg) : FunD K "_law_tb_common" "_law_tb_common" (defArgs (topS 38)) (defBody (topS 38)) (defScope (topS 38)) [] [] (He.ga K "_law_tb_common") (fd_law_tb_common T) := (x_law_tb_common T).choose_spec
theorem g_law_tb_common (T : Tx K mg) : mg "_law_tb_common" = some (.ref (He.ga K "_law_tb_common")) := T.glo _ (T.says.fact 31 (f := .glo "_law_tb_common") rfl)
theorem bi_law_tb_common (T : Tx K mg) : Binds K (fd_law_tb_common T) ["one", "other"] [] := (F_law_tb_common T).bindsN fun _ _ _ _ _ _ us hl => match us, hl with | [_, _], _ => rfl
theorem x_law_tb_made (T : Tx K mg) : ∃ fd, FunD K "_law_tb_made" "_law_tb_made" (defArgs (topS 39)) (defBody (topS 39)) (defScope (topS 39)) [] [] (He.ga K "_law_tb_made") fd := T.says.def_ 32 (d := dd_law_tb_made) rfl
noncomputable def fd_law_tb_made (T : Tx K mg) : FuncData := (x_law_tb_made T).choose
theorem F_law_tb_made (T : Tx K mg) : FunD K "_law_tb_made" "_law_tb_made" (defArgs (topS 39)) (defBody (topS 39)) (defScope (topS 39)) [] [] (He.ga K "_law_tb_made") (fd_law_tb_made T) := (x_law_tb_made T).choose_spec
theorem g_law_tb_made (T : Tx K mg) : mg "_law_tb_made" = some (.ref (He.ga K "_law_tb_made")) := T.glo _ (T.says.fact 32 (f := .glo "_law_tb_made") rfl)
theorem bi_law_tb_made (T : Tx K mg) : Binds K (fd_law_tb_made T) ["top", "bottom"] [] := (F_law_tb_made T).bindsN fun _ _ _ _ _ _ us hl => match us, hl with | [_, _], _ => rfl
theorem x_law_tb_plus (T : Tx K mg) : ∃ fd, FunD K "_law_tb_plus" "_law_tb_plus" (defArgs (topS 40)) (defBody (topS 40)) (defScope (topS 40)) [] [] (He.ga K "_law_tb_plus") fd := T.says.def_ 33 (d := dd_law_tb_plus) rfl
noncomputable def fd_law_tb_plus (T : Tx K mg) : FuncData := (x_law_tb_plus T).choose
theorem F_law_tb_plus (T : Tx K mg) : FunD K "_law_tb_plus" "_law_tb_plus" (defArgs (topS 40)) (defBody (topS 40)) (defScope (topS 40)) [] [] (He.ga K "_law_tb_plus") (fd_law_tb_plus T) := (x_law_tb_plus T).choose_spec
theorem g_law_tb_plus (T : Tx K mg) : mg "_law_tb_plus" = some (.ref (He.ga K "_law_tb_plus")) := T.glo _ (T.says.fact 33 (f := .glo "_law_tb_plus") rfl)
theorem bi_law_tb_plus (T : Tx K mg) : Binds K (fd_law_tb_plus T) ["one", "other"] [] := (F_law_tb_plus T).bindsN fun _ _ _ _ _ _ us hl => match us, hl with | [_, _], _ => rfl
theorem x_law_tb_minus (T : Tx K mg) : ∃ fd, FunD K "_law_tb_minus" "_law_tb_minus" (defArgs (topS 41)) (defBody (topS 41)) (defScope (topS 41)) [] [] (He.ga K "_law_tb_minus") fd := T.says.def_ 34 (d := dd_law_tb_minus) rfl
noncomputable def fd_law_tb_minus (T : Tx K mg) : FuncData := (x_law_tb_minus T).choose
theorem F_law_tb_minus (T : Tx K mg) : FunD K "_law_tb_minus" "_law_tb_minus" (defArgs (topS 41)) (defBody (topS 41)) (defScope (topS 41)) [] [] (He.ga K "_law_tb_minus") (fd_law_tb_minus T) := (x_law_tb_minus T).choose_spec
theorem g_law_tb_minus (T : Tx K mg) : mg "_law_tb_minus" = some (.ref (He.ga K "_law_tb_minus")) := T.glo _ (T.says.fact 34 (f := .glo "_law_tb_minus") rfl)
theorem bi_law_tb_minus (T : Tx K mg) : Binds K (fd_law_tb_minus T) ["one", "other"] [] := (F_law_tb_minus T).bindsN fun _ _ _ _ _ _ us hl => match us, hl with | [_, _], _ => rfl
theorem x_law_tb_times (T : Tx K mg) : ∃ fd, FunD K "_law_tb_times" "_law_tb_times" (defArgs (topS 42)) (defBody (topS 42)) (defScope (topS 42)) [] [] (He.ga K "_law_tb_times") fd := T.says.def_ 35 (d := dd_law_tb_times) rfl
noncomputable def fd_law_tb_times (T : Tx K mg) : FuncData := (x_law_tb_times T).choose
theorem F_law_tb_times (T : Tx K mg) : FunD K "_law_tb_times" "_law_tb_times" (defArgs (topS 42)) (defBody (topS 42)) (defScope (topS 42)) [] [] (He.ga K "_law_tb_times") (fd_law_tb_times T) := (x_law_tb_times T).choose_spec
theorem g_law_tb_times (T : Tx K mg) : mg "_law_tb_times" = some (.ref (He.ga K "_law_tb_times")) := T.glo _ (T.says.fact 35 (f := .glo "_law_tb_times") rfl)
theorem bi_law_tb_times (T : Tx K mg) : Binds K (fd_law_tb_times T) ["one", "other"] [] := (F_law_tb_times T).bindsN fun _ _ _ _ _ _ us hl => match us, hl with | [_, _], _ => rfl
theorem x_law_tb_over (T : Tx K mg) : ∃ fd, FunD K "_law_tb_over" "_law_tb_over" (defArgs (topS 43)) (defBody (topS 43)) (defScope (topS 43)) [] [] (He.ga K "_law_tb_over") fd := T.says.def_ 36 (d := dd_law_tb_over) rfl
noncomputable def fd_law_tb_over (T : Tx K mg) : FuncData := (x_law_tb_over T).choose
theorem F_law_tb_over (T : Tx K mg) : FunD K "_law_tb_over" "_law_tb_over" (defArgs (topS 43)) (defBody (topS 43)) (defScope (topS 43)) [] [] (He.ga K "_law_tb_over") (fd_law_tb_over T) := (x_law_tb_over T).choose_spec
theorem g_law_tb_over (T : Tx K mg) : mg "_law_tb_over" = some (.ref (He.ga K "_law_tb_over")) := T.glo _ (T.says.fact 36 (f := .glo "_law_tb_over") rfl)
theorem bi_law_tb_over (T : Tx K mg) : Binds K (fd_law_tb_over T) ["one", "other"] [] := (F_law_tb_over T).bindsN fun _ _ _ _ _ _ us hl => match us, hl with | [_, _], _ => rfl
theorem x_law_tb_less (T : Tx K mg) : ∃ fd, FunD K "_law_tb_less" "_law_tb_less" (defArgs (topS 44)) (defBody (topS 44)) (defScope (topS 44)) [] [] (He.ga K "_law_tb_less") fd := T.says.def_ 37 (d := dd_law_tb_less) rfl
noncomputable def fd_law_tb_less (T : Tx K mg) : FuncData := (x_law_tb_less T).choose
theorem F_law_tb_less (T : Tx K mg) : FunD K "_law_tb_less" "_law_tb_less" (defArgs (topS 44)) (defBody (topS 44)) (defScope (topS 44)) [] [] (He.ga K "_law_tb_less") (fd_law_tb_less T) := (x_law_tb_less T).choose_spec
theorem g_law_tb_less (T : Tx K mg) : mg "_law_tb_less" = some (.ref (He.ga K "_law_tb_less")) := T.glo _ (T.says.fact 37 (f := .glo "_law_tb_less") rfl)
theorem bi_law_tb_less (T : Tx K mg) : Binds K (fd_law_tb_less T) ["one", "other"] [] := (F_law_tb_less T).bindsN fun _ _ _ _ _ _ us hl => match us, hl with | [_, _], _ => rfl
theorem x_law_tb_floor (T : Tx K mg) : ∃ fd, FunD K "_law_tb_floor" "_law_tb_floor" (defArgs (topS 45)) (defBody (topS 45)) (defScope (topS 45)) [] [] (He.ga K "_law_tb_floor") fd := T.says.def_ 38 (d := dd_law_tb_floor) rfl
noncomputable def fd_law_tb_floor (T : Tx K mg) : FuncData := (x_law_tb_floor T).choose
theorem F_law_tb_floor (T : Tx K mg) : FunD K "_law_tb_floor" "_law_tb_floor" (defArgs (topS 45)) (defBody (topS 45)) (defScope (topS 45)) [] [] (He.ga K "_law_tb_floor") (fd_law_tb_floor T) := (x_law_tb_floor T).choose_spec
theorem g_law_tb_floor (T : Tx K mg) : mg "_law_tb_floor" = some (.ref (He.ga K "_law_tb_floor")) := T.glo _ (T.says.fact 38 (f := .glo "_law_tb_floor") rfl)
theorem bi_law_tb_floor (T : Tx K mg) : Binds K (fd_law_tb_floor T) ["one"] [] := (F_law_tb_floor T).bindsN fun _ _ _ _ _ _ us hl => match us, hl with | [_], _ => rfl
theorem x_law_tb_rounded (T : Tx K mg) : ∃ fd, FunD K "_law_tb_rounded" "_law_tb_rounded" (defArgs (topS 46)) (defBody (topS 46)) (defScope (topS 46)) [] [] (He.ga K "_law_tb_rounded") fd := T.says.def_ 39 (d := dd_law_tb_rounded) rfl
noncomputable def fd_law_tb_rounded (T : Tx K mg) : FuncData := (x_law_tb_rounded T).choose
theorem F_law_tb_rounded (T : Tx K mg) : FunD K "_law_tb_rounded" "_law_tb_rounded" (defArgs (topS 46)) (defBody (topS 46)) (defScope (topS 46)) [] [] (He.ga K "_law_tb_rounded") (fd_law_tb_rounded T) := (x_law_tb_rounded T).choose_spec
theorem g_law_tb_rounded (T : Tx K mg) : mg "_law_tb_rounded" = some (.ref (He.ga K "_law_tb_rounded")) := T.glo _ (T.says.fact 39 (f := .glo "_law_tb_rounded") rfl)
theorem bi_law_tb_rounded (T : Tx K mg) : Binds K (fd_law_tb_rounded T) ["one"] [] := (F_law_tb_rounded T).bindsN fun _ _ _ _ _ _ us hl => match us, hl with | [_], _ => rfl
theorem x_law_tb_power (T : Tx K mg) : ∃ fd, FunD K "_law_tb_power" "_law_tb_power" (defArgs (topS 47)) (defBody (topS 47)) (defScope (topS 47)) [] [] (He.ga K "_law_tb_power") fd := T.says.def_ 40 (d := dd_law_tb_power) rfl
noncomputable def fd_law_tb_power (T : Tx K mg) : FuncData := (x_law_tb_power T).choose
theorem F_law_tb_power (T : Tx K mg) : FunD K "_law_tb_power" "_law_tb_power" (defArgs (topS 47)) (defBody (topS 47)) (defScope (topS 47)) [] [] (He.ga K "_law_tb_power") (fd_law_tb_power T) := (x_law_tb_power T).choose_spec
theorem g_law_tb_power (T : Tx K mg) : mg "_law_tb_power" = some (.ref (He.ga K "_law_tb_power")) := T.glo _ (T.says.fact 40 (f := .glo "_law_tb_power") rfl)
theorem bi_law_tb_power (T : Tx K mg) : Binds K (fd_law_tb_power T) ["base", "many"] [] := (F_law_tb_power T).bindsN fun _ _ _ _ _ _ us hl => match us, hl with | [_, _], _ => rfl
theorem x_law_tb_between (T : Tx K mg) : ∃ fd, FunD K "_law_tb_between" "_law_tb_between" (defArgs (topS 48)) (defBody (topS 48)) (defScope (topS 48)) [] [] (He.ga K "_law_tb_between") fd := T.says.def_ 41 (d := dd_law_tb_between) rfl
noncomputable def fd_law_tb_between (T : Tx K mg) : FuncData := (x_law_tb_between T).choose
theorem F_law_tb_between (T : Tx K mg) : FunD K "_law_tb_between" "_law_tb_between" (defArgs (topS 48)) (defBody (topS 48)) (defScope (topS 48)) [] [] (He.ga K "_law_tb_between") (fd_law_tb_between T) := (x_law_tb_between T).choose_spec
theorem g_law_tb_between (T : Tx K mg) : mg "_law_tb_between" = some (.ref (He.ga K "_law_tb_between")) := T.glo _ (T.says.fact 41 (f := .glo "_law_tb_between") rfl)
theorem bi_law_tb_between (T : Tx K mg) : Binds K (fd_law_tb_between T) ["lo", "one", "hi"] [] := (F_law_tb_between T).bindsN fun _ _ _ _ _ _ us hl => match us, hl with | [_, _, _], _ => rfl
theorem x_law_tb_along (T : Tx K mg) : ∃ fd, FunD K "_law_tb_along" "_law_tb_along" (defArgs (topS 49)) (defBody (topS 49)) (defScope (topS 49)) [] [] (He.ga K "_law_tb_along") fd := T.says.def_ 42 (d := dd_law_tb_along) rfl
noncomputable def fd_law_tb_along (T : Tx K mg) : FuncData := (x_law_tb_along T).choose
theorem F_law_tb_along (T : Tx K mg) : FunD K "_law_tb_along" "_law_tb_along" (defArgs (topS 49)) (defBody (topS 49)) (defScope (topS 49)) [] [] (He.ga K "_law_tb_along") (fd_law_tb_along T) := (x_law_tb_along T).choose_spec
theorem g_law_tb_along (T : Tx K mg) : mg "_law_tb_along" = some (.ref (He.ga K "_law_tb_along")) := T.glo _ (T.says.fact 42 (f := .glo "_law_tb_along") rfl)
theorem bi_law_tb_along (T : Tx K mg) : Binds K (fd_law_tb_along T) ["lo", "hi", "begin", "end", "cell"] [] := (F_law_tb_along T).bindsN fun _ _ _ _ _ _ us hl => match us, hl with | [_, _, _, _, _], _ => rfl
theorem x_law_tb_pieces (T : Tx K mg) : ∃ fd, FunD K "_law_tb_pieces" "_law_tb_pieces" (defArgs (topS 50)) (defBody (topS 50)) (defScope (topS 50)) [] [] (He.ga K "_law_tb_pieces") fd := T.says.def_ 43 (d := dd_law_tb_pieces) rfl
noncomputable def fd_law_tb_pieces (T : Tx K mg) : FuncData := (x_law_tb_pieces T).choose
theorem F_law_tb_pieces (T : Tx K mg) : FunD K "_law_tb_pieces" "_law_tb_pieces" (defArgs (topS 50)) (defBody (topS 50)) (defScope (topS 50)) [] [] (He.ga K "_law_tb_pieces") (fd_law_tb_pieces T) := (x_law_tb_pieces T).choose_spec
theorem g_law_tb_pieces (T : Tx K mg) : mg "_law_tb_pieces" = some (.ref (He.ga K "_law_tb_pieces")) := T.glo _ (T.says.fact 43 (f := .glo "_law_tb_pieces") rfl)
theorem bi_law_tb_pieces (T : Tx K mg) : Binds K (fd_law_tb_pieces T) ["scale"] [] := (F_law_tb_pieces T).bindsN fun _ _ _ _ _ _ us hl => match us, hl with | [_], _ => rfl
theorem x_law_tb_place (T : Tx K mg) : ∃ fd, FunD K "_law_tb_place" "_law_tb_place" (defArgs (topS 51)) (defBody (topS 51)) (defScope (topS 51)) [] [] (He.ga K "_law_tb_place") fd := T.says.def_ 44 (d := dd_law_tb_place) rfl
noncomputable def fd_law_tb_place (T : Tx K mg) : FuncData := (x_law_tb_place T).choose
theorem F_law_tb_place (T : Tx K mg) : FunD K "_law_tb_place" "_law_tb_place" (defArgs (topS 51)) (defBody (topS 51)) (defScope (topS 51)) [] [] (He.ga K "_law_tb_place") (fd_law_tb_place T) := (x_law_tb_place T).choose_spec
theorem g_law_tb_place (T : Tx K mg) : mg "_law_tb_place" = some (.ref (He.ga K "_law_tb_place")) := T.glo _ (T.says.fact 44 (f := .glo "_law_tb_place") rfl)
theorem bi_law_tb_place (T : Tx K mg) : Binds K (fd_law_tb_place T) ["scale", "cell"] [] := (F_law_tb_place T).bindsN fun _ _ _ _ _ _ us hl => match us, hl with | [_, _], _ => rfl
theorem x_law_tb_star_at (T : Tx K mg) : ∃ fd, FunD K "_law_tb_star_at" "_law_tb_star_at" (defArgs (topS 52)) (defBody (topS 52)) (defScope (topS 52)) [] [] (He.ga K "_law_tb_star_at") fd := T.says.def_ 45 (d := dd_law_tb_star_at) rfl
noncomputable def fd_law_tb_star_at (T : Tx K mg) : FuncData := (x_law_tb_star_at T).choose
theorem F_law_tb_star_at (T : Tx K mg) : FunD K "_law_tb_star_at" "_law_tb_star_at" (defArgs (topS 52)) (defBody (topS 52)) (defScope (topS 52)) [] [] (He.ga K "_law_tb_star_at") (fd_law_tb_star_at T) := (x_law_tb_star_at T).choose_spec
theorem g_law_tb_star_at (T : Tx K mg) : mg "_law_tb_star_at" = some (.ref (He.ga K "_law_tb_star_at")) := T.glo _ (T.says.fact 45 (f := .glo "_law_tb_star_at") rfl)
theorem bi_law_tb_star_at (T : Tx K mg) : Binds K (fd_law_tb_star_at T) ["scale", "cell"] [] := (F_law_tb_star_at T).bindsN fun _ _ _ _ _ _ us hl => match us, hl with | [_, _], _ => rfl
theorem x_law_tb_read (T : Tx K mg) : ∃ fd, FunD K "_law_tb_read" "_law_tb_read" (defArgs (topS 53)) (defBody (topS 53)) (defScope (topS 53)) [] [] (He.ga K "_law_tb_read") fd := T.says.def_ 46 (d := dd_law_tb_read) rfl
noncomputable def fd_law_tb_read (T : Tx K mg) : FuncData := (x_law_tb_read T).choose
theorem F_law_tb_read (T : Tx K mg) : FunD K "_law_tb_read" "_law_tb_read" (defArgs (topS 53)) (defBody (topS 53)) (defScope (topS 53)) [] [] (He.ga K "_law_tb_read") (fd_law_tb_read T) := (x_law_tb_read T).choose_spec
theorem g_law_tb_read (T : Tx K mg) : mg "_law_tb_read" = some (.ref (He.ga K "_law_tb_read")) := T.glo _ (T.says.fact 46 (f := .glo "_law_tb_read") rfl)
theorem bi_law_tb_read (T : Tx K mg) : Binds K (fd_law_tb_read T) ["scale", "place"] [] := (F_law_tb_read T).bindsN fun _ _ _ _ _ _ us hl => match us, hl with | [_, _], _ => rfl
theorem x_law_tb_reach (T : Tx K mg) : ∃ fd, FunD K "_law_tb_reach" "_law_tb_reach" (defArgs (topS 54)) (defBody (topS 54)) (defScope (topS 54)) [] [] (He.ga K "_law_tb_reach") fd := T.says.def_ 47 (d := dd_law_tb_reach) rfl
noncomputable def fd_law_tb_reach (T : Tx K mg) : FuncData := (x_law_tb_reach T).choose
theorem F_law_tb_reach (T : Tx K mg) : FunD K "_law_tb_reach" "_law_tb_reach" (defArgs (topS 54)) (defBody (topS 54)) (defScope (topS 54)) [] [] (He.ga K "_law_tb_reach") (fd_law_tb_reach T) := (x_law_tb_reach T).choose_spec
theorem g_law_tb_reach (T : Tx K mg) : mg "_law_tb_reach" = some (.ref (He.ga K "_law_tb_reach")) := T.glo _ (T.says.fact 47 (f := .glo "_law_tb_reach") rfl)
theorem bi_law_tb_reach (T : Tx K mg) : Binds K (fd_law_tb_reach T) ["scale", "along"] [] := (F_law_tb_reach T).bindsN fun _ _ _ _ _ _ us hl => match us, hl with | [_, _], _ => rfl
theorem x_law_tb_belt (T : Tx K mg) : ∃ fd, FunD K "_law_tb_belt" "_law_tb_belt" (defArgs (topS 55)) (defBody (topS 55)) (defScope (topS 55)) [] [] (He.ga K "_law_tb_belt") fd := T.says.def_ 48 (d := dd_law_tb_belt) rfl
noncomputable def fd_law_tb_belt (T : Tx K mg) : FuncData := (x_law_tb_belt T).choose
theorem F_law_tb_belt (T : Tx K mg) : FunD K "_law_tb_belt" "_law_tb_belt" (defArgs (topS 55)) (defBody (topS 55)) (defScope (topS 55)) [] [] (He.ga K "_law_tb_belt") (fd_law_tb_belt T) := (x_law_tb_belt T).choose_spec
theorem g_law_tb_belt (T : Tx K mg) : mg "_law_tb_belt" = some (.ref (He.ga K "_law_tb_belt")) := T.glo _ (T.says.fact 48 (f := .glo "_law_tb_belt") rfl)
theorem bi_law_tb_belt (T : Tx K mg) : Binds K (fd_law_tb_belt T) ["scale", "along"] [] := (F_law_tb_belt T).bindsN fun _ _ _ _ _ _ us hl => match us, hl with | [_, _], _ => rfl
theorem x_law_tb_is_number (T : Tx K mg) : ∃ fd, FunD K "_law_tb_is_number" "_law_tb_is_number" (defArgs (topS 56)) (defBody (topS 56)) (defScope (topS 56)) [] [] (He.ga K "_law_tb_is_number") fd := T.says.def_ 49 (d := dd_law_tb_is_number) rfl
noncomputable def fd_law_tb_is_number (T : Tx K mg) : FuncData := (x_law_tb_is_number T).choose
theorem F_law_tb_is_number (T : Tx K mg) : FunD K "_law_tb_is_number" "_law_tb_is_number" (defArgs (topS 56)) (defBody (topS 56)) (defScope (topS 56)) [] [] (He.ga K "_law_tb_is_number") (fd_law_tb_is_number T) := (x_law_tb_is_number T).choose_spec
theorem g_law_tb_is_number (T : Tx K mg) : mg "_law_tb_is_number" = some (.ref (He.ga K "_law_tb_is_number")) := T.glo _ (T.says.fact 49 (f := .glo "_law_tb_is_number") rfl)
theorem bi_law_tb_is_number (T : Tx K mg) : Binds K (fd_law_tb_is_number T) ["thing", "above", "below"] [] := (F_law_tb_is_number T).bindsN fun _ _ _ _ _ _ us hl => match us, hl with | [_, _, _], _ => rfl
theorem x_law_tb_is_day (T : Tx K mg) : ∃ fd, FunD K "_law_tb_is_day" "_law_tb_is_day" (defArgs (topS 57)) (defBody (topS 57)) (defScope (topS 57)) [] [] (He.ga K "_law_tb_is_day") fd := T.says.def_ 50 (d := dd_law_tb_is_day) rfl
noncomputable def fd_law_tb_is_day (T : Tx K mg) : FuncData := (x_law_tb_is_day T).choose
theorem F_law_tb_is_day (T : Tx K mg) : FunD K "_law_tb_is_day" "_law_tb_is_day" (defArgs (topS 57)) (defBody (topS 57)) (defScope (topS 57)) [] [] (He.ga K "_law_tb_is_day") (fd_law_tb_is_day T) := (x_law_tb_is_day T).choose_spec
theorem g_law_tb_is_day (T : Tx K mg) : mg "_law_tb_is_day" = some (.ref (He.ga K "_law_tb_is_day")) := T.glo _ (T.says.fact 50 (f := .glo "_law_tb_is_day") rfl)
theorem bi_law_tb_is_day (T : Tx K mg) : Binds K (fd_law_tb_is_day T) ["thing"] [] := (F_law_tb_is_day T).bindsN fun _ _ _ _ _ _ us hl => match us, hl with | [_], _ => rfl
theorem x_law_tb_are_pieces (T : Tx K mg) : ∃ fd, FunD K "_law_tb_are_pieces" "_law_tb_are_pieces" (defArgs (topS 58)) (defBody (topS 58)) (defScope (topS 58)) [] [] (He.ga K "_law_tb_are_pieces") fd := T.says.def_ 51 (d := dd_law_tb_are_pieces) rfl
noncomputable def fd_law_tb_are_pieces (T : Tx K mg) : FuncData := (x_law_tb_are_pieces T).choose
theorem F_law_tb_are_pieces (T : Tx K mg) : FunD K "_law_tb_are_pieces" "_law_tb_are_pieces" (defArgs (topS 58)) (defBody (topS 58)) (defScope (topS 58)) [] [] (He.ga K "_law_tb_are_pieces") (fd_law_tb_are_pieces T) := (x_law_tb_are_pieces T).choose_spec
theorem g_law_tb_are_pieces (T : Tx K mg) : mg "_law_tb_are_pieces" = some (.ref (He.ga K "_law_tb_are_pieces")) := T.glo _ (T.says.fact 51 (f := .glo "_law_tb_are_pieces") rfl)
theorem bi_law_tb_are_pieces (T : Tx K mg) : Binds K (fd_law_tb_are_pieces T) ["pieces", "length"] [] := (F_law_tb_are_pieces T).bindsN fun _ _ _ _ _ _ us hl => match us, hl with | [_, _], _ => rfl
theorem x_law_tb_is_scale (T : Tx K mg) : ∃ fd, FunD K "_law_tb_is_scale" "_law_tb_is_scale" (defArgs (topS 59)) (defBody (topS 59)) (defScope (topS 59)) [] [] (He.ga K "_law_tb_is_scale") fd := T.says.def_ 52 (d := dd_law_tb_is_scale) rfl
noncomputable def fd_law_tb_is_scale (T : Tx K mg) : FuncData := (x_law_tb_is_scale T).choose
theorem F_law_tb_is_scale (T : Tx K mg) : FunD K "_law_tb_is_scale" "_law_tb_is_scale" (defArgs (topS 59)) (defBody (topS 59)) (defScope (topS 59)) [] [] (He.ga K "_law_tb_is_scale") (fd_law_tb_is_scale T) := (x_law_tb_is_scale T).choose_spec
theorem g_law_tb_is_scale (T : Tx K mg) : mg "_law_tb_is_scale" = some (.ref (He.ga K "_law_tb_is_scale")) := T.glo _ (T.says.fact 52 (f := .glo "_law_tb_is_scale") rfl)
theorem bi_law_tb_is_scale (T : Tx K mg) : Binds K (fd_law_tb_is_scale T) ["kind", "scale"] [] := (F_law_tb_is_scale T).bindsN fun _ _ _ _ _ _ us hl => match us, hl with | [_, _], _ => rfl
theorem x_law_number_drawn (T : Tx K mg) : ∃ fd, FunD K "_law_number_drawn" "_law_number_drawn" (defArgs (topS 60)) (defBody (topS 60)) (defScope (topS 60)) [] [] (He.ga K "_law_number_drawn") fd := T.says.def_ 53 (d := dd_law_number_drawn) rfl
noncomputable def fd_law_number_drawn (T : Tx K mg) : FuncData := (x_law_number_drawn T).choose
theorem F_law_number_drawn (T : Tx K mg) : FunD K "_law_number_drawn" "_law_number_drawn" (defArgs (topS 60)) (defBody (topS 60)) (defScope (topS 60)) [] [] (He.ga K "_law_number_drawn") (fd_law_number_drawn T) := (x_law_number_drawn T).choose_spec
theorem g_law_number_drawn (T : Tx K mg) : mg "_law_number_drawn" = some (.ref (He.ga K "_law_number_drawn")) := T.glo _ (T.says.fact 53 (f := .glo "_law_number_drawn") rfl)
theorem bi_law_number_drawn (T : Tx K mg) : Binds K (fd_law_number_drawn T) ["jar"] [] := (F_law_number_drawn T).bindsN fun _ _ _ _ _ _ us hl => match us, hl with | [_], _ => rfl
theorem x_law_step_drawn (T : Tx K mg) : ∃ fd, FunD K "_law_step_drawn" "_law_step_drawn" (defArgs (topS 61)) (defBody (topS 61)) (defScope (topS 61)) [] [] (He.ga K "_law_step_drawn") fd := T.says.def_ 54 (d := dd_law_step_drawn) rfl
noncomputable def fd_law_step_drawn (T : Tx K mg) : FuncData := (x_law_step_drawn T).choose
theorem F_law_step_drawn (T : Tx K mg) : FunD K "_law_step_drawn" "_law_step_drawn" (defArgs (topS 61)) (defBody (topS 61)) (defScope (topS 61)) [] [] (He.ga K "_law_step_drawn") (fd_law_step_drawn T) := (x_law_step_drawn T).choose_spec
theorem g_law_step_drawn (T : Tx K mg) : mg "_law_step_drawn" = some (.ref (He.ga K "_law_step_drawn")) := T.glo _ (T.says.fact 54 (f := .glo "_law_step_drawn") rfl)
theorem bi_law_step_drawn (T : Tx K mg) : Binds K (fd_law_step_drawn T) ["jar"] [] := (F_law_step_drawn T).bindsN fun _ _ _ _ _ _ us hl => match us, hl with | [_], _ => rfl
theorem x_law_pieces_drawn (T : Tx K mg) : ∃ fd, FunD K "_law_pieces_drawn" "_law_pieces_drawn" (defArgs (topS 62)) (defBody (topS 62)) (defScope (topS 62)) [] [] (He.ga K "_law_pieces_drawn") fd := T.says.def_ 55 (d := dd_law_pieces_drawn) rfl
noncomputable def fd_law_pieces_drawn (T : Tx K mg) : FuncData := (x_law_pieces_drawn T).choose
theorem F_law_pieces_drawn (T : Tx K mg) : FunD K "_law_pieces_drawn" "_law_pieces_drawn" (defArgs (topS 62)) (defBody (topS 62)) (defScope (topS 62)) [] [] (He.ga K "_law_pieces_drawn") (fd_law_pieces_drawn T) := (x_law_pieces_drawn T).choose_spec
theorem g_law_pieces_drawn (T : Tx K mg) : mg "_law_pieces_drawn" = some (.ref (He.ga K "_law_pieces_drawn")) := T.glo _ (T.says.fact 55 (f := .glo "_law_pieces_drawn") rfl)
theorem bi_law_pieces_drawn (T : Tx K mg) : Binds K (fd_law_pieces_drawn T) ["jar"] [] := (F_law_pieces_drawn T).bindsN fun _ _ _ _ _ _ us hl => match us, hl with | [_], _ => rfl
theorem x_law_scale_drawn (T : Tx K mg) : ∃ fd, FunD K "_law_scale_drawn" "_law_scale_drawn" (defArgs (topS 63)) (defBody (topS 63)) (defScope (topS 63)) [] [] (He.ga K "_law_scale_drawn") fd := T.says.def_ 56 (d := dd_law_scale_drawn) rfl
noncomputable def fd_law_scale_drawn (T : Tx K mg) : FuncData := (x_law_scale_drawn T).choose
theorem F_law_scale_drawn (T : Tx K mg) : FunD K "_law_scale_drawn" "_law_scale_drawn" (defArgs (topS 63)) (defBody (topS 63)) (defScope (topS 63)) [] [] (He.ga K "_law_scale_drawn") (fd_law_scale_drawn T) := (x_law_scale_drawn T).choose_spec
theorem g_law_scale_drawn (T : Tx K mg) : mg "_law_scale_drawn" = some (.ref (He.ga K "_law_scale_drawn")) := T.glo _ (T.says.fact 56 (f := .glo "_law_scale_drawn") rfl)
theorem bi_law_scale_drawn (T : Tx K mg) : Binds K (fd_law_scale_drawn T) ["jar"] [] := (F_law_scale_drawn T).bindsN fun _ _ _ _ _ _ us hl => match us, hl with | [_], _ => rfl
theorem x_law_alongs (T : Tx K mg) : ∃ fd, FunD K "_law_alongs" "_law_alongs" (defArgs (topS 64)) (defBody (topS 64)) (defScope (topS 64)) [] [] (He.ga K "_law_alongs") fd := T.says.def_ 57 (d := dd_law_alongs) rfl
noncomputable def fd_law_alongs (T : Tx K mg) : FuncData := (x_law_alongs T).choose
theorem F_law_alongs (T : Tx K mg) : FunD K "_law_alongs" "_law_alongs" (defArgs (topS 64)) (defBody (topS 64)) (defScope (topS 64)) [] [] (He.ga K "_law_alongs") (fd_law_alongs T) := (x_law_alongs T).choose_spec
theorem g_law_alongs (T : Tx K mg) : mg "_law_alongs" = some (.ref (He.ga K "_law_alongs")) := T.glo _ (T.says.fact 57 (f := .glo "_law_alongs") rfl)
theorem bi_law_alongs (T : Tx K mg) : Binds K (fd_law_alongs T) ["jar", "scale"] [] := (F_law_alongs T).bindsN fun _ _ _ _ _ _ us hl => match us, hl with | [_, _], _ => rfl
theorem x_law_shows_at (T : Tx K mg) : ∃ fd, FunD K "_law_shows_at" "_law_shows_at" (defArgs (topS 65)) (defBody (topS 65)) (defScope (topS 65)) [] [] (He.ga K "_law_shows_at") fd := T.says.def_ 58 (d := dd_law_shows_at) rfl
noncomputable def fd_law_shows_at (T : Tx K mg) : FuncData := (x_law_shows_at T).choose
theorem F_law_shows_at (T : Tx K mg) : FunD K "_law_shows_at" "_law_shows_at" (defArgs (topS 65)) (defBody (topS 65)) (defScope (topS 65)) [] [] (He.ga K "_law_shows_at") (fd_law_shows_at T) := (x_law_shows_at T).choose_spec
theorem g_law_shows_at (T : Tx K mg) : mg "_law_shows_at" = some (.ref (He.ga K "_law_shows_at")) := T.glo _ (T.says.fact 58 (f := .glo "_law_shows_at") rfl)
theorem bi_law_shows_at (T : Tx K mg) : Binds K (fd_law_shows_at T) ["kind", "scale", "cell", "along"] [] := (F_law_shows_at T).bindsN fun _ _ _ _ _ _ us hl => match us, hl with | [_, _, _, _], _ => rfl
theorem x_law_belt_right (T : Tx K mg) : ∃ fd, FunD K "_law_belt_right" "_law_belt_right" (defArgs (topS 66)) (defBody (topS 66)) (defScope (topS 66)) [] [] (He.ga K "_law_belt_right") fd := T.says.def_ 59 (d := dd_law_belt_right) rfl
noncomputable def fd_law_belt_right (T : Tx K mg) : FuncData := (x_law_belt_right T).choose
theorem F_law_belt_right (T : Tx K mg) : FunD K "_law_belt_right" "_law_belt_right" (defArgs (topS 66)) (defBody (topS 66)) (defScope (topS 66)) [] [] (He.ga K "_law_belt_right") (fd_law_belt_right T) := (x_law_belt_right T).choose_spec
theorem g_law_belt_right (T : Tx K mg) : mg "_law_belt_right" = some (.ref (He.ga K "_law_belt_right")) := T.glo _ (T.says.fact 59 (f := .glo "_law_belt_right") rfl)
theorem bi_law_belt_right (T : Tx K mg) : Binds K (fd_law_belt_right T) ["kind", "scale", "along", "belt"] [] := (F_law_belt_right T).bindsN fun _ _ _ _ _ _ us hl => match us, hl with | [_, _, _, _], _ => rfl
theorem x_law_none_right (T : Tx K mg) : ∃ fd, FunD K "_law_none_right" "_law_none_right" (defArgs (topS 67)) (defBody (topS 67)) (defScope (topS 67)) [] [] (He.ga K "_law_none_right") fd := T.says.def_ 60 (d := dd_law_none_right) rfl
noncomputable def fd_law_none_right (T : Tx K mg) : FuncData := (x_law_none_right T).choose
theorem F_law_none_right (T : Tx K mg) : FunD K "_law_none_right" "_law_none_right" (defArgs (topS 67)) (defBody (topS 67)) (defScope (topS 67)) [] [] (He.ga K "_law_none_right") (fd_law_none_right T) := (x_law_none_right T).choose_spec
theorem g_law_none_right (T : Tx K mg) : mg "_law_none_right" = some (.ref (He.ga K "_law_none_right")) := T.glo _ (T.says.fact 60 (f := .glo "_law_none_right") rfl)
theorem bi_law_none_right (T : Tx K mg) : Binds K (fd_law_none_right T) ["kind", "scale", "along"] [] := (F_law_none_right T).bindsN fun _ _ _ _ _ _ us hl => match us, hl with | [_, _, _], _ => rfl
theorem x_law_scale_right (T : Tx K mg) : ∃ fd, FunD K "_law_scale_right" "_law_scale_right" (defArgs (topS 68)) (defBody (topS 68)) (defScope (topS 68)) [] [] (He.ga K "_law_scale_right") fd := T.says.def_ 61 (d := dd_law_scale_right) rfl
noncomputable def fd_law_scale_right (T : Tx K mg) : FuncData := (x_law_scale_right T).choose
theorem F_law_scale_right (T : Tx K mg) : FunD K "_law_scale_right" "_law_scale_right" (defArgs (topS 68)) (defBody (topS 68)) (defScope (topS 68)) [] [] (He.ga K "_law_scale_right") (fd_law_scale_right T) := (x_law_scale_right T).choose_spec
theorem g_law_scale_right (T : Tx K mg) : mg "_law_scale_right" = some (.ref (He.ga K "_law_scale_right")) := T.glo _ (T.says.fact 61 (f := .glo "_law_scale_right") rfl)
theorem bi_law_scale_right (T : Tx K mg) : Binds K (fd_law_scale_right T) ["jar"] [] := (F_law_scale_right T).bindsN fun _ _ _ _ _ _ us hl => match us, hl with | [_], _ => rfl
theorem x_law (T : Tx K mg) : ∃ fd, FunD K "law" "law" (defArgs (topS 69)) (defBody (topS 69)) (defScope (topS 69)) [] [] (He.ga K "law") fd := T.says.def_ 62 (d := dd_law) rfl
noncomputable def fd_law (T : Tx K mg) : FuncData := (x_law T).choose
theorem F_law (T : Tx K mg) : FunD K "law" "law" (defArgs (topS 69)) (defBody (topS 69)) (defScope (topS 69)) [] [] (He.ga K "law") (fd_law T) := (x_law T).choose_spec
theorem g_law (T : Tx K mg) : mg "law" = some (.ref (He.ga K "law")) := T.glo _ (T.says.fact 62 (f := .glo "law") rfl)
theorem bi_law (T : Tx K mg) : Binds K (fd_law T) ["script"] [] := (F_law T).bindsN fun _ _ _ _ _ _ us hl => match us, hl with | [_], _ => rfl
theorem Tx.n_abs (T : Tx K mg) : mg "abs" = none := T.free _ (T.says.fact 63 (f := .free "abs") rfl)
theorem Tx.n_range (T : Tx K mg) : mg "range" = none := T.free _ (T.says.fact 64 (f := .free "range") rfl)
theorem Tx.n_len (T : Tx K mg) : mg "len" = none := T.free _ (T.says.fact 65 (f := .free "len") rfl)
theorem Tx.n_isinstance (T : Tx K mg) : mg "isinstance" = none := T.free _ (T.says.fact 66 (f := .free "isinstance") rfl)
theorem Tx.n_bool (T : Tx K mg) : mg "bool" = none := T.free _ (T.says.fact 67 (f := .free "bool") rfl)
theorem Tx.n_int (T : Tx K mg) : mg "int" = none := T.free _ (T.says.fact 68 (f := .free "int") rfl)
theorem Tx.n_str (T : Tx K mg) : mg "str" = none := T.free _ (T.says.fact 69 (f := .free "str") rfl)
theorem Tx.n_dict (T : Tx K mg) : mg "dict" = none := T.free _ (T.says.fact 70 (f := .free "dict") rfl)
theorem Tx.n_list (T : Tx K mg) : mg "list" = none := T.free _ (T.says.fact 71 (f := .free "list") rfl)
theorem Tx.n_tuple (T : Tx K mg) : mg "tuple" = none := T.free _ (T.says.fact 72 (f := .free "tuple") rfl)
theorem Tx.n_max (T : Tx K mg) : mg "max" = none := T.free _ (T.says.fact 73 (f := .free "max") rfl)
theorem g_NoNumber (T : Tx K mg) : mg "NoNumber" = some (.ref (He.ga K "NoNumber")) := T.glo _ (T.says.fact 74 (f := .glo "NoNumber") rfl)
theorem e_NoNumber (T : Tx K mg) : PySem.W.excIn K (He.ga K "NoNumber") He.veBase "ValueError.__new__" = true ∧ PySem.W.keepIn K (.ref (He.ga K "NoNumber")) = true ∧ PySem.W.subIn K (.ref (He.ga K "NoNumber")) (.type "BaseException") = some true ∧ PySem.W.typeIn K (.ref (He.ga K "NoNumber")) = some (.type "type") := He.exc_ok (T.says.fact 75 (f := .exc "NoNumber") rfl)
end
/-! divisor -/
abbrev s_divisor : Stmt := topS 4
theorem sc_divisor : FnScope ["one", "other"] ["one", "other"] (defScope s_divisor) := ⟨rfl, rfl, rfl, by decide +kernel, rfl, by decide +kernel, by decide +kernel⟩
noncomputable def b_divisor_l1 : En → R Fl :=
  (dPar 0 1 (aIm (dVar 1) (aIm (dOp gMod (dVar 0) (dVar 1)) aNil)))
noncomputable def b_divisor : En → R Fl :=
  (dSeq (dWhile (dCmp gNe (dVar 1) (dC (.int 0))) b_divisor_l1)
  (dRet (dCall gAbs (aIm (dVar 0) aNil))))
noncomputable def m_divisor : En → R L := dDef 2 b_divisor
section
variable {P : Program} {wd : World} {K : PySem.W.Frag} {mg : Str → Option Value} {base : Heap}
theorem ok_divisor (T : Tx K mg) : FnOk P wd K mg base (L2.CX P wd) 1 (He.ga K "divisor") (fd_divisor T) ["one", "other"] (spD K (caK [] K) 2 m_divisor) :=
  fn_denD (F_divisor T) sc_divisor fun cdv A outer s H E g =>
  (vss_cons (vs_while g.po (vt_cmp (op_neD g.hr.units) ob_ne (ve_var 1) ve_int (nomark _))
   (vss_one (vs_par 0 1 g.calm sc_divisor.nd (va_im (ve_var 1) (va_im (ve_mod (ve_var 0) (ve_var 1)) va_nil)))))
  (vss_one (vs_ret (ve_cB call_abs cs_abs (by rfl) T.n_abs boot_B_abs (va_im (ve_var 0) va_nil)))))
end
/-! lowest -/
abbrev s_lowest : Stmt := topS 5
theorem sc_lowest : FnScope ["top", "bottom", "by"] ["top", "bottom"] (defScope s_lowest) := ⟨rfl, rfl, rfl, by decide +kernel, rfl, by decide +kernel, by decide +kernel⟩
noncomputable def b_lowest : En → R Fl :=
  (dSeq (dAsg (putIm 2) (dFn 2 m_divisor (aIm (dVar 0) (aIm (dVar 1) aNil))))
  (dSeq (dIf (dCmp gLt (dVar 1) (dC (.int 0)))
   (dAsg (putIm 2) (dOp gSub (dC (.int 0)) (dVar 2)))
   dNx)
  (dRet (dTup (aIm (dOp gFdiv (dVar 0) (dVar 2)) (aIm (dOp gFdiv (dVar 1) (dVar 2)) aNil))))))
noncomputable def m_lowest : En → R L := dDef 3 b_lowest
section
variable {P : Program} {wd : World} {K : PySem.W.Frag} {mg : Str → Option Value} {base : Heap}
theorem ok_lowest (T : Tx K mg) : FnOk P wd K mg base (L2.CX P wd) 2 (He.ga K "lowest") (fd_lowest T) ["top", "bottom"] (spD K (caK [] K) 2 m_lowest) :=
  fn_denD (F_lowest T) sc_lowest fun cdv A outer s H E g =>
  (vss_cons (vs_set 2 sc_lowest.nd (ve_call (ok_divisor T) (g.hr.mono (by decide)) g.tk rfl (by rfl) (g_divisor T) (F_divisor T).kp (bi_divisor T) (va_im (ve_var 0) (va_im (ve_var 1) va_nil))))
  (vss_cons (vs_if (vt_cmp op_ltA ob_lt (ve_var 1) ve_int (nomark _))
   (vss_one (vs_set 2 sc_lowest.nd (ve_sub ve_int (ve_var 2))))
   vss_nil)
  (vss_one (vs_ret (ve_tup (va_im (ve_fdiv (ve_var 0) (ve_var 2)) (va_im (ve_fdiv (ve_var 1) (ve_var 2)) va_nil)))))))
end
/-! plus -/
abbrev s_plus : Stmt := topS 6
theorem sc_plus : FnScope ["one", "other"] ["one", "other"] (defScope s_plus) := ⟨rfl, rfl, rfl, by decide +kernel, rfl, by decide +kernel, by decide +kernel⟩
noncomputable def b_plus : En → R Fl :=
  (dRet (dFn 2 m_lowest (aIm (dOp gAdd (dOp gMul (dIxN 0 (dC (.int 0))) (dIxN 1 (dC (.int 1)))) (dOp gMul (dIxN 1 (dC (.int 0))) (dIxN 0 (dC (.int 1))))) (aIm (dOp gMul (dIxN 0 (dC (.int 1))) (dIxN 1 (dC (.int 1)))) aNil))))
noncomputable def m_plus : En → R L := dDef 2 b_plus
section
variable {P : Program} {wd : World} {K : PySem.W.Frag} {mg : Str → Option Value} {base : Heap}
theorem ok_plus (T : Tx K mg) : FnOk P wd K mg base (L2.CX P wd) 3 (He.ga K "plus") (fd_plus T) ["one", "other"] (spD K (caK [] K) 2 m_plus) :=
  fn_denD (F_plus T) sc_plus fun cdv A outer s H E g =>
  (vss_one (vs_ret (ve_call (ok_lowest T) (g.hr.mono (by decide)) g.tk rfl (by rfl) (g_lowest T) (F_lowest T).kp (bi_lowest T) (va_im (ve_add (ve_mul (ve_ixN 0 ve_int) (ve_ixN 1 ve_int)) (ve_mul (ve_ixN 1 ve_int) (ve_ixN 0 ve_int))) (va_im (ve_mul (ve_ixN 0 ve_int) (ve_ixN 1 ve_int)) va_nil)))))
end
/-! minus -/
abbrev s_minus : Stmt := topS 7
theorem sc_minus : FnScope ["one", "other"] ["one", "other"] (defScope s_minus) := ⟨rfl, rfl, rfl, by decide +kernel, rfl, by decide +kernel, by decide +kernel⟩
noncomputable def b_minus : En → R Fl :=
  (dRet (dFn 2 m_lowest (aIm (dOp gSub (dOp gMul (dIxN 0 (dC (.int 0))) (dIxN 1 (dC (.int 1)))) (dOp gMul (dIxN 1 (dC (.int 0))) (dIxN 0 (dC (.int 1))))) (aIm (dOp gMul (dIxN 0 (dC (.int 1))) (dIxN 1 (dC (.int 1)))) aNil))))
noncomputable def m_minus : En → R L := dDef 2 b_minus
section
variable {P : Program} {wd : World} {K : PySem.W.Frag} {mg : Str → Option Value} {base : Heap}
theorem ok_minus (T : Tx K mg) : FnOk P wd K mg base (L2.CX P wd) 3 (He.ga K "minus") (fd_minus T) ["one", "other"] (spD K (caK [] K) 2 m_minus) :=
  fn_denD (F_minus T) sc_minus fun cdv A outer s H E g =>
  (vss_one (vs_ret (ve_call (ok_lowest T) (g.hr.mono (by decide)) g.tk rfl (by rfl) (g_lowest T) (F_lowest T).kp (bi_lowest T) (va_im (ve_sub (ve_mul (ve_ixN 0 ve_int) (ve_ixN 1 ve_int)) (ve_mul (ve_ixN 1 ve_int) (ve_ixN 0 ve_int))) (va_im (ve_mul (ve_ixN 0 ve_int) (ve_ixN 1 ve_int)) va_nil)))))
end
/-! times -/
abbrev s_times : Stmt := topS 8
theorem sc_times : FnScope ["one", "other"] ["one", "other"] (defScope s_times) := ⟨rfl, rfl, rfl, by decide +kernel, rfl, by decide +kernel, by decide +kernel⟩
noncomputable def b_times : En → R Fl :=
  (dRet (dFn 2 m_lowest (aIm (dOp gMul (dIxN 0 (dC (.int 0))) (dIxN 1 (dC (.int 0)))) (aIm (dOp gMul (dIxN 0 (dC (.int 1))) (dIxN 1 (dC (.int 1)))) aNil))))
noncomputable def m_times : En → R L := dDef 2 b_times
section
variable {P : Program} {wd : World} {K : PySem.W.Frag} {mg : Str → Option Value} {base : Heap}
theorem ok_times (T : Tx K mg) : FnOk P wd K mg base (L2.CX P wd) 3 (He.ga K "times") (fd_times T) ["one", "other"] (spD K (caK [] K) 2 m_times) :=
  fn_denD (F_times T) sc_times fun cdv A outer s H E g =>
  (vss_one (vs_ret (ve_call (ok_lowest T) (g.hr.mono (by decide)) g.tk rfl (by rfl) (g_lowest T) (F_lowest T).kp (bi_lowest T) (va_im (ve_mul (ve_ixN 0 ve_int) (ve_ixN 1 ve_int)) (va_im (ve_mul (ve_ixN 0 ve_int) (ve_ixN 1 ve_int)) va_nil)))))
end
/-! over -/
abbrev s_over : Stmt := topS 9
theorem sc_over : FnScope ["one", "other"] ["one", "other"] (defScope s_over) := ⟨rfl, rfl, rfl, by decide +kernel, rfl, by decide +kernel, by decide +kernel⟩
noncomputable def b_over : En → R Fl :=
  (dSeq (dIf (dCmp gEq (dIxN 1 (dC (.int 0))) (dC (.int 0)))
   (dRaise "NoNumber")
   dNx)
  (dRet (dFn 2 m_lowest (aIm (dOp gMul (dIxN 0 (dC (.int 0))) (dIxN 1 (dC (.int 1)))) (aIm (dOp gMul (dIxN 0 (dC (.int 1))) (dIxN 1 (dC (.int 0)))) aNil)))))
noncomputable def m_over : En → R L := dDef 2 b_over
section
variable {P : Program} {wd : World} {K : PySem.W.Frag} {mg : Str → Option Value} {base : Heap}
theorem ok_over (T : Tx K mg) : FnOk P wd K mg base (L2.CX P wd) 3 (He.ga K "over") (fd_over T) ["one", "other"] (spD K (caK [] K) 2 m_over) :=
  fn_denD (F_over T) sc_over fun cdv A outer s H E g =>
  (vss_cons (vs_if (vt_cmp (op_eqD g.hr.units) ob_eq (ve_ixN 1 ve_int) ve_int (nomark _))
   (vss_one (vs_raise (nm := "NoNumber") g.calm g.tk rfl PySem.F.excBase_ValueError (e_NoNumber T).1 (g_NoNumber T) (e_NoNumber T).2.1 (raises_own (e_NoNumber T).2.2.1 (e_NoNumber T).2.2.2) (by rfl)))
   vss_nil)
  (vss_one (vs_ret (ve_call (ok_lowest T) (g.hr.mono (by decide)) g.tk rfl (by rfl) (g_lowest T) (F_lowest T).kp (bi_lowest T) (va_im (ve_mul (ve_ixN 0 ve_int) (ve_ixN 1 ve_int)) (va_im (ve_mul (ve_ixN 0 ve_int) (ve_ixN 1 ve_int)) va_nil))))))
end
/-! under -/
abbrev s_under : Stmt := topS 10
theorem sc_under : FnScope ["one", "other"] ["one", "other"] (defScope s_under) := ⟨rfl, rfl, rfl, by decide +kernel, rfl, by decide +kernel, by decide +kernel⟩
noncomputable def b_under : En → R Fl :=
  (dRet (dB (dCmp gLt (dOp gMul (dIxN 0 (dC (.int 0))) (dIxN 1 (dC (.int 1)))) (dOp gMul (dIxN 1 (dC (.int 0))) (dIxN 0 (dC (.int 1)))))))
noncomputable def m_under : En → R L := dDef 2 b_under
section
variable {P : Program} {wd : World} {K : PySem.W.Frag} {mg : Str → Option Value} {base : Heap}
theorem ok_under (T : Tx K mg) : FnOk P wd K mg base (L2.CX P wd) 1 (He.ga K "under") (fd_under T) ["one", "other"] (spD K (caK [] K) 2 m_under) :=
  fn_denD (F_under T) sc_under fun cdv A outer s H E g =>
  (vss_one (vs_ret (ve_cmp op_ltA ob_lt (ve_mul (ve_ixN 0 ve_int) (ve_ixN 1 ve_int)) (ve_mul (ve_ixN 1 ve_int) (ve_ixN 0 ve_int)) (nomark _))))
end
/-! floor_of -/
abbrev s_floor_of : Stmt := topS 11
theorem sc_floor_of : FnScope ["one"] ["one"] (defScope s_floor_of) := ⟨rfl, rfl, rfl, by decide +kernel, rfl, by decide +kernel, by decide +kernel⟩
noncomputable def b_floor_of : En → R Fl :=
  (dRet (dOp gFdiv (dIxN 0 (dC (.int 0))) (dIxN 0 (dC (.int 1)))))
noncomputable def m_floor_of : En → R L := dDef 1 b_floor_of
section
variable {P : Program} {wd : World} {K : PySem.W.Frag} {mg : Str → Option Value} {base : Heap}
theorem ok_floor_of (T : Tx K mg) : FnOk P wd K mg base (L2.CX P wd) 1 (He.ga K "floor_of") (fd_floor_of T) ["one"] (spD K (caK [] K) 1 m_floor_of) :=
  fn_denD (F_floor_of T) sc_floor_of fun cdv A outer s H E g =>
  (vss_one (vs_ret (ve_fdiv (ve_ixN 0 ve_int) (ve_ixN 0 ve_int))))
end
/-! rounded -/
abbrev s_rounded : Stmt := topS 12
theorem sc_rounded : FnScope ["one"] ["one"] (defScope s_rounded) := ⟨rfl, rfl, rfl, by decide +kernel, rfl, by decide +kernel, by decide +kernel⟩
noncomputable def b_rounded : En → R Fl :=
  (dRet (dOp gFdiv (dOp gAdd (dOp gMul (dC (.int 2)) (dIxN 0 (dC (.int 0)))) (dIxN 0 (dC (.int 1)))) (dOp gMul (dC (.int 2)) (dIxN 0 (dC (.int 1))))))
noncomputable def m_rounded : En → R L := dDef 1 b_rounded
section
variable {P : Program} {wd : World} {K : PySem.W.Frag} {mg : Str → Option Value} {base : Heap}
theorem ok_rounded (T : Tx K mg) : FnOk P wd K mg base (L2.CX P wd) 1 (He.ga K "rounded") (fd_rounded T) ["one"] (spD K (caK [] K) 1 m_rounded) :=
  fn_denD (F_rounded T) sc_rounded fun cdv A outer s H E g =>
  (vss_one (vs_ret (ve_fdiv (ve_add (ve_mul ve_int (ve_ixN 0 ve_int)) (ve_ixN 0 ve_int)) (ve_mul ve_int (ve_ixN 0 ve_int)))))
end
/-! along_straight -/
abbrev s_along_straight : Stmt := topS 14
theorem sc_along_straight : FnScope ["lo", "hi", "cell", "long"] ["lo", "hi", "cell", "long"] (defScope s_along_straight) := ⟨rfl, rfl, rfl, by decide +kernel, rfl, by decide +kernel, by decide +kernel⟩
noncomputable def b_along_straight : En → R Fl :=
  (dSeq (dIf (dOr (dTru (dFn 2 m_under (aIm (dVar 2) (aIm (dVar 0) aNil)))) (dTru (dFn 2 m_under (aIm (dVar 1) (aIm (dVar 2) aNil)))))
   (dRet (dC .none))
   dNx)
  (dRet (dFn 2 m_over (aIm (dFn 2 m_times (aIm (dFn 2 m_minus (aIm (dVar 2) (aIm (dVar 0) aNil))) (aIm (dTup (aIm (dVar 3) (aIm (dC (.int 1)) aNil))) aNil))) (aIm (dFn 2 m_minus (aIm (dVar 1) (aIm (dVar 0) aNil))) aNil)))))
noncomputable def m_along_straight : En → R L := dDef 4 b_along_straight
section
variable {P : Program} {wd : World} {K : PySem.W.Frag} {mg : Str → Option Value} {base : Heap}
theorem ok_along_straight (T : Tx K mg) : FnOk P wd K mg base (L2.CX P wd) 4 (He.ga K "along_straight") (fd_along_straight T) ["lo", "hi", "cell", "long"] (spD K (caK [] K) 4 m_along_straight) :=
  fn_denD (F_along_straight T) sc_along_straight fun cdv A outer s H E g =>
  (vss_cons (vs_if (vt_w (vw_or (vt_tru (ve_call (ok_under T) (g.hr.mono (by decide)) g.tk rfl (by rfl) (g_under T) (F_under T).kp (bi_under T) (va_im (ve_var 2) (va_im (ve_var 0) va_nil)))) (vw_or1 (vt_tru (ve_call (ok_under T) (g.hr.mono (by decide)) g.tk rfl (by rfl) (g_under T) (F_under T).kp (bi_under T) (va_im (ve_var 1) (va_im (ve_var 2) va_nil)))))))
   (vss_one (vs_ret ve_non))
   vss_nil)
  (vss_one (vs_ret (ve_call (ok_over T) (g.hr.mono (by decide)) g.tk rfl (by rfl) (g_over T) (F_over T).kp (bi_over T) (va_im (ve_call (ok_times T) (g.hr.mono (by decide)) g.tk rfl (by rfl) (g_times T) (F_times T).kp (bi_times T) (va_im (ve_call (ok_minus T) (g.hr.mono (by decide)) g.tk rfl (by rfl) (g_minus T) (F_minus T).kp (bi_minus T) (va_im (ve_var 2) (va_im (ve_var 0) va_nil))) (va_im (ve_tup (va_im (ve_var 3) (va_im ve_int va_nil))) va_nil))) (va_im (ve_call (ok_minus T) (g.hr.mono (by decide)) g.tk rfl (by rfl) (g_minus T) (F_minus T).kp (bi_minus T) (va_im (ve_var 1) (va_im (ve_var 0) va_nil))) va_nil))))))
end
/-! back_straight -/
abbrev s_back_straight : Stmt := topS 15
theorem sc_back_straight : FnScope ["lo", "hi", "place", "long"] ["lo", "hi", "place", "long"] (defScope s_back_straight) := ⟨rfl, rfl, rfl, by decide +kernel, rfl, by decide +kernel, by decide +kernel⟩
noncomputable def b_back_straight : En → R Fl :=
  (dRet (dFn 2 m_plus (aIm (dVar 0) (aIm (dFn 2 m_over (aIm (dFn 2 m_times (aIm (dVar 2) (aIm (dFn 2 m_minus (aIm (dVar 1) (aIm (dVar 0) aNil))) aNil))) (aIm (dTup (aIm (dVar 3) (aIm (dC (.int 1)) aNil))) aNil))) aNil))))
noncomputable def m_back_straight : En → R L := dDef 4 b_back_straight
section
variable {P : Program} {wd : World} {K : PySem.W.Frag} {mg : Str → Option Value} {base : Heap}
theorem ok_back_straight (T : Tx K mg) : FnOk P wd K mg base (L2.CX P wd) 4 (He.ga K "back_straight") (fd_back_straight T) ["lo", "hi", "place", "long"] (spD K (caK [] K) 4 m_back_straight) :=
  fn_denD (F_back_straight T) sc_back_straight fun cdv A outer s H E g =>
  (vss_one (vs_ret (ve_call (ok_plus T) (g.hr.mono (by decide)) g.tk rfl (by rfl) (g_plus T) (F_plus T).kp (bi_plus T) (va_im (ve_var 0) (va_im (ve_call (ok_over T) (g.hr.mono (by decide)) g.tk rfl (by rfl) (g_over T) (F_over T).kp (bi_over T) (va_im (ve_call (ok_times T) (g.hr.mono (by decide)) g.tk rfl (by rfl) (g_times T) (F_times T).kp (bi_times T) (va_im (ve_var 2) (va_im (ve_call (ok_minus T) (g.hr.mono (by decide)) g.tk rfl (by rfl) (g_minus T) (F_minus T).kp (bi_minus T) (va_im (ve_var 1) (va_im (ve_var 0) va_nil))) va_nil))) (va_im (ve_tup (va_im (ve_var 3) (va_im ve_int va_nil))) va_nil))) va_nil)))))
end
/-! power_of -/
abbrev s_power_of : Stmt := topS 16
theorem sc_power_of : FnScope ["base", "many", "found", "k"] ["base", "many"] (defScope s_power_of) := ⟨rfl, rfl, rfl, by decide +kernel, rfl, by decide +kernel, by decide +kernel⟩
noncomputable def b_power_of_l1 : En → R Fl :=
  (dAsg (putIm 2) (dOp gMul (dVar 2) (dVar 0)))
noncomputable def b_power_of : En → R Fl :=
  (dSeq (dAsg (putIm 2) (dC (.int 1)))
  (dSeq (dFor (iRg1 (aIm (dVar 1) aNil)) (putIm 3) b_power_of_l1)
  (dRet (dVar 2))))
noncomputable def m_power_of : En → R L := dDef 4 b_power_of
section
variable {P : Program} {wd : World} {K : PySem.W.Frag} {mg : Str → Option Value} {base : Heap}
theorem ok_power_of (T : Tx K mg) : FnOk P wd K mg base (L2.CX P wd) 1 (He.ga K "power_of") (fd_power_of T) ["base", "many"] (spD K (caK [] K) 2 m_power_of) :=
  fn_denD (F_power_of T) sc_power_of fun cdv A outer s H E g =>
  (vss_cons (vs_set 2 sc_power_of.nd ve_int)
  (vss_cons (vs_for g.po g.calm (vi_range1 (by rfl) T.n_range (va_im (ve_var 1) va_nil)) (vg_name 3 sc_power_of.nd) nox_put
   (vss_one (vs_set 2 sc_power_of.nd (ve_mul (ve_var 2) (ve_var 0)))))
  (vss_one (vs_ret (ve_var 2)))))
end
/-! along_turns -/
abbrev s_along_turns : Stmt := topS 17
theorem sc_along_turns : FnScope ["scale", "cell", "name", "base", "low", "many", "length", "top", "bottom", "turn", "rest"] ["scale", "cell"] (defScope s_along_turns) := ⟨rfl, rfl, rfl, by decide +kernel, rfl, by decide +kernel, by decide +kernel⟩
noncomputable def b_along_turns_l1 : En → R Fl :=
  (dSeq (dAsg (putIm 8) (dOp gMul (dVar 8) (dVar 3)))
  (dAsg (putIm 9) (dOp gAdd (dVar 9) (dC (.int 1)))))
noncomputable def b_along_turns : En → R Fl :=
  (dSeq (dAsg (gTupD 5 (gsCons (putIm 2) (gsCons (putIm 3) (gsCons (putIm 4) (gsCons (putIm 5) (gsCons (putIm 6) gsNil)))))) (dVar 0))
  (dSeq (dIf (dCmp gLe (dIxN 1 (dC (.int 0))) (dC (.int 0)))
   (dRet (dC (.str "nought")))
   dNx)
  (dSeq (dAsg (putIm 7) (dOp gMul (dIxN 1 (dC (.int 0))) (dFn 2 m_power_of (aIm (dVar 3) (aIm (dOp gSub (dC (.int 0)) (dVar 4)) aNil)))))
  (dSeq (dAsg (putIm 8) (dOp gMul (dIxN 1 (dC (.int 1))) (dFn 2 m_power_of (aIm (dVar 3) (aIm (dVar 4) aNil)))))
  (dSeq (dIf (dCmp gLt (dVar 7) (dVar 8))
   (dRet (dC (.str "outside")))
   dNx)
  (dSeq (dAsg (putIm 9) (dC (.int 0)))
  (dSeq (dWhile (dAnd (dCmp gLt (dVar 9) (dVar 5)) (dCmp gLe (dOp gMul (dVar 8) (dVar 3)) (dVar 7))) b_along_turns_l1)
  (dSeq (dIf (dCmp gEq (dVar 9) (dVar 5))
   (dSeq (dIf (dCmp gGt (dVar 7) (dVar 8))
    (dRet (dC (.str "outside")))
    dNx)
   (dRet (dTup (aIm (dVar 6) (aIm (dC (.int 1)) aNil)))))
   dNx)
  (dSeq (dAsg (putIm 10) (dFn 2 m_lowest (aIm (dOp gSub (dVar 7) (dVar 8)) (aIm (dOp gMul (dVar 8) (dOp gSub (dVar 3) (dC (.int 1)))) aNil))))
  (dRet (dFn 2 m_times (aIm (dFn 2 m_plus (aIm (dTup (aIm (dVar 9) (aIm (dC (.int 1)) aNil))) (aIm (dVar 10) aNil))) (aIm (dFn 2 m_lowest (aIm (dVar 6) (aIm (dVar 5) aNil))) aNil)))))))))))))
noncomputable def m_along_turns : En → R L := dDef 11 b_along_turns
section
variable {P : Program} {wd : World} {K : PySem.W.Frag} {mg : Str → Option Value} {base : Heap}
theorem ok_along_turns (T : Tx K mg) : FnOk P wd K mg base (L2.CX P wd) 4 (He.ga K "along_turns") (fd_along_turns T) ["scale", "cell"] (spD K (caK [] K) 2 m_along_turns) :=
  fn_denD (F_along_turns T) sc_along_turns fun cdv A outer s H E g =>
  (vss_cons (vs_asg (ve_var 0) (vg_tup g.calm (vgs_cons (vg_name 2 sc_along_turns.nd) (vgs_cons (vg_name 3 sc_along_turns.nd) (vgs_cons (vg_name 4 sc_along_turns.nd) (vgs_cons (vg_name 5 sc_along_turns.nd) (vgs_cons (vg_name 6 sc_along_turns.nd) vgs_nil)))))) (nox_tup (nox_cons nox_put (nox_cons nox_put (nox_cons nox_put (nox_cons nox_put (nox_cons nox_put nox_nil)))))))
  (vss_cons (vs_if (vt_cmp op_leA ob_le (ve_ixN 1 ve_int) ve_int (nomark _))
   (vss_one (vs_ret ve_str))
   vss_nil)
  (vss_cons (vs_set 7 sc_along_turns.nd (ve_mul (ve_ixN 1 ve_int) (ve_call (ok_power_of T) (g.hr.mono (by decide)) g.tk rfl (by rfl) (g_power_of T) (F_power_of T).kp (bi_power_of T) (va_im (ve_var 3) (va_im (ve_sub ve_int (ve_var 4)) va_nil)))))
  (vss_cons (vs_set 8 sc_along_turns.nd (ve_mul (ve_ixN 1 ve_int) (ve_call (ok_power_of T) (g.hr.mono (by decide)) g.tk rfl (by rfl) (g_power_of T) (F_power_of T).kp (bi_power_of T) (va_im (ve_var 3) (va_im (ve_var 4) va_nil)))))
  (vss_cons (vs_if (vt_cmp op_ltA ob_lt (ve_var 7) (ve_var 8) (nomark _))
   (vss_one (vs_ret ve_str))
   vss_nil)
  (vss_cons (vs_set 9 sc_along_turns.nd ve_int)
  (vss_cons (vs_while g.po (vt_w (vw_and (vt_cmp op_ltA ob_lt (ve_var 9) (ve_var 5) (nomark _)) (vw_and1 (vt_cmp op_leA ob_le (ve_mul (ve_var 8) (ve_var 3)) (ve_var 7) (nomark _)))))
   (vss_cons (vs_set 8 sc_along_turns.nd (ve_mul (ve_var 8) (ve_var 3)))
  (vss_one (vs_set 9 sc_along_turns.nd (ve_add (ve_var 9) ve_int)))))
  (vss_cons (vs_if (vt_cmp (op_eqD g.hr.units) ob_eq (ve_var 9) (ve_var 5) (nomark _))
   (vss_cons (vs_if (vt_cmp op_gtA ob_gt (ve_var 7) (ve_var 8) (nomark _))
    (vss_one (vs_ret ve_str))
    vss_nil)
   (vss_one (vs_ret (ve_tup (va_im (ve_var 6) (va_im ve_int va_nil))))))
   vss_nil)
  (vss_cons (vs_set 10 sc_along_turns.nd (ve_call (ok_lowest T) (g.hr.mono (by decide)) g.tk rfl (by rfl) (g_lowest T) (F_lowest T).kp (bi_lowest T) (va_im (ve_sub (ve_var 7) (ve_var 8)) (va_im (ve_mul (ve_var 8) (ve_sub (ve_var 3) ve_int)) va_nil))))
  (vss_one (vs_ret (ve_call (ok_times T) (g.hr.mono (by decide)) g.tk rfl (by rfl) (g_times T) (F_times T).kp (bi_times T) (va_im (ve_call (ok_plus T) (g.hr.mono (by decide)) g.tk rfl (by rfl) (g_plus T) (F_plus T).kp (bi_plus T) (va_im (ve_tup (va_im (ve_var 9) (va_im ve_int va_nil))) (va_im (ve_var 10) va_nil))) (va_im (ve_call (ok_lowest T) (g.hr.mono (by decide)) g.tk rfl (by rfl) (g_lowest T) (F_lowest T).kp (bi_lowest T) (va_im (ve_var 6) (va_im (ve_var 5) va_nil))) va_nil))))))))))))))
end
/-! back_turns -/
abbrev s_back_turns : Stmt := topS 18
theorem sc_back_turns : FnScope ["scale", "place", "name", "base", "low", "many", "length", "turns", "turn", "rest", "power"] ["scale", "place"] (defScope s_back_turns) := ⟨rfl, rfl, rfl, by decide +kernel, rfl, by decide +kernel, by decide +kernel⟩
noncomputable def b_back_turns : En → R Fl :=
  (dSeq (dAsg (gTupD 5 (gsCons (putIm 2) (gsCons (putIm 3) (gsCons (putIm 4) (gsCons (putIm 5) (gsCons (putIm 6) gsNil)))))) (dVar 0))
  (dSeq (dAsg (putIm 7) (dFn 2 m_times (aIm (dVar 1) (aIm (dFn 2 m_lowest (aIm (dVar 5) (aIm (dVar 6) aNil))) aNil))))
  (dSeq (dAsg (putIm 8) (dOp gFdiv (dIxN 7 (dC (.int 0))) (dIxN 7 (dC (.int 1)))))
  (dSeq (dAsg (putIm 9) (dFn 2 m_minus (aIm (dVar 7) (aIm (dTup (aIm (dVar 8) (aIm (dC (.int 1)) aNil))) aNil))))
  (dSeq (dAsg (putIm 10) (dFn 2 m_lowest (aIm (dFn 2 m_power_of (aIm (dVar 3) (aIm (dOp gAdd (dVar 4) (dVar 8)) aNil))) (aIm (dFn 2 m_power_of (aIm (dVar 3) (aIm (dOp gSub (dOp gSub (dC (.int 0)) (dVar 4)) (dVar 8)) aNil))) aNil))))
  (dRet (dFn 2 m_times (aIm (dVar 10) (aIm (dFn 2 m_plus (aIm (dTup (aIm (dC (.int 1)) (aIm (dC (.int 1)) aNil))) (aIm (dFn 2 m_times (aIm (dVar 9) (aIm (dTup (aIm (dOp gSub (dVar 3) (dC (.int 1))) (aIm (dC (.int 1)) aNil))) aNil))) aNil))) aNil)))))))))
noncomputable def m_back_turns : En → R L := dDef 11 b_back_turns
section
variable {P : Program} {wd : World} {K : PySem.W.Frag} {mg : Str → Option Value} {base : Heap}
theorem ok_back_turns (T : Tx K mg) : FnOk P wd K mg base (L2.CX P wd) 4 (He.ga K "back_turns") (fd_back_turns T) ["scale", "place"] (spD K (caK [] K) 2 m_back_turns) :=
  fn_denD (F_back_turns T) sc_back_turns fun cdv A outer s H E g =>
  (vss_cons (vs_asg (ve_var 0) (vg_tup g.calm (vgs_cons (vg_name 2 sc_back_turns.nd) (vgs_cons (vg_name 3 sc_back_turns.nd) (vgs_cons (vg_name 4 sc_back_turns.nd) (vgs_cons (vg_name 5 sc_back_turns.nd) (vgs_cons (vg_name 6 sc_back_turns.nd) vgs_nil)))))) (nox_tup (nox_cons nox_put (nox_cons nox_put (nox_cons nox_put (nox_cons nox_put (nox_cons nox_put nox_nil)))))))
  (vss_cons (vs_set 7 sc_back_turns.nd (ve_call (ok_times T) (g.hr.mono (by decide)) g.tk rfl (by rfl) (g_times T) (F_times T).kp (bi_times T) (va_im (ve_var 1) (va_im (ve_call (ok_lowest T) (g.hr.mono (by decide)) g.tk rfl (by rfl) (g_lowest T) (F_lowest T).kp (bi_lowest T) (va_im (ve_var 5) (va_im (ve_var 6) va_nil))) va_nil))))
  (vss_cons (vs_set 8 sc_back_turns.nd (ve_fdiv (ve_ixN 7 ve_int) (ve_ixN 7 ve_int)))
  (vss_cons (vs_set 9 sc_back_turns.nd (ve_call (ok_minus T) (g.hr.mono (by decide)) g.tk rfl (by rfl) (g_minus T) (F_minus T).kp (bi_minus T) (va_im (ve_var 7) (va_im (ve_tup (va_im (ve_var 8) (va_im ve_int va_nil))) va_nil))))
  (vss_cons (vs_set 10 sc_back_turns.nd (ve_call (ok_lowest T) (g.hr.mono (by decide)) g.tk rfl (by rfl) (g_lowest T) (F_lowest T).kp (bi_lowest T) (va_im (ve_call (ok_power_of T) (g.hr.mono (by decide)) g.tk rfl (by rfl) (g_power_of T) (F_power_of T).kp (bi_power_of T) (va_im (ve_var 3) (va_im (ve_add (ve_var 4) (ve_var 8)) va_nil))) (va_im (ve_call (ok_power_of T) (g.hr.mono (by decide)) g.tk rfl (by rfl) (g_power_of T) (F_power_of T).kp (bi_power_of T) (va_im (ve_var 3) (va_im (ve_sub (ve_sub ve_int (ve_var 4)) (ve_var 8)) va_nil))) va_nil))))
  (vss_one (vs_ret (ve_call (ok_times T) (g.hr.mono (by decide)) g.tk rfl (by rfl) (g_times T) (F_times T).kp (bi_times T) (va_im (ve_var 10) (va_im (ve_call (ok_plus T) (g.hr.mono (by decide)) g.tk rfl (by rfl) (g_plus T) (F_plus T).kp (bi_plus T) (va_im (ve_tup (va_im ve_int (va_im ve_int va_nil))) (va_im (ve_call (ok_times T) (g.hr.mono (by decide)) g.tk rfl (by rfl) (g_times T) (F_times T).kp (bi_times T) (va_im (ve_var 9) (va_im (ve_tup (va_im (ve_sub (ve_var 3) ve_int) (va_im ve_int va_nil))) va_nil))) va_nil))) va_nil))))))))))
end
/-! along_pieces -/
abbrev s_along_pieces : Stmt := topS 19
theorem sc_along_pieces : FnScope ["pieces", "cell", "lo", "hi", "begin", "end", "found"] ["pieces", "cell"] (defScope s_along_pieces) := ⟨rfl, rfl, rfl, by decide +kernel, rfl, by decide +kernel, by decide +kernel⟩
noncomputable def b_along_pieces_l1 : En → R Fl :=
  (dSeq (dAsg (putIm 6) (dFn 4 m_along_straight (aIm (dVar 2) (aIm (dVar 3) (aIm (dVar 1) (aIm (dOp gSub (dVar 5) (dVar 4)) aNil))))))
  (dIf (dCmp gIsNot (dVar 6) (dC .none))
   (dRet (dFn 2 m_plus (aIm (dTup (aIm (dVar 4) (aIm (dC (.int 1)) aNil))) (aIm (dVar 6) aNil))))
   dNx))
noncomputable def b_along_pieces : En → R Fl :=
  (dSeq (dIf (dOr (dTru (dFn 2 m_under (aIm (dVar 1) (aIm (dOp gIx (dIxN 0 (dC (.int 0))) (dC (.int 0))) aNil)))) (dTru (dFn 2 m_under (aIm (dOp gIx (dIxN 0 (d1 gNeg (dC (.int 1)))) (dC (.int 1))) (aIm (dVar 1) aNil)))))
   (dRet (dC (.str "outside")))
   dNx)
  (dSeq (dFor (iD (dVar 0)) (gTupD 4 (gsCons (putIm 2) (gsCons (putIm 3) (gsCons (putIm 4) (gsCons (putIm 5) gsNil))))) b_along_pieces_l1)
  (dRet (dC (.str "gap")))))
noncomputable def m_along_pieces : En → R L := dDef 7 b_along_pieces
section
variable {P : Program} {wd : World} {K : PySem.W.Frag} {mg : Str → Option Value} {base : Heap}
theorem ok_along_pieces (T : Tx K mg) : FnOk P wd K mg base (L2.CX P wd) 5 (He.ga K "along_pieces") (fd_along_pieces T) ["pieces", "cell"] (spD K (caK [] K) 2 m_along_pieces) :=
  fn_denD (F_along_pieces T) sc_along_pieces fun cdv A outer s H E g =>
  (vss_cons (vs_if (vt_w (vw_or (vt_tru (ve_call (ok_under T) (g.hr.mono (by decide)) g.tk rfl (by rfl) (g_under T) (F_under T).kp (bi_under T) (va_im (ve_var 1) (va_im (ve_ix (ve_ixN 0 ve_int) ve_int) va_nil)))) (vw_or1 (vt_tru (ve_call (ok_under T) (g.hr.mono (by decide)) g.tk rfl (by rfl) (g_under T) (F_under T).kp (bi_under T) (va_im (ve_ix (ve_ixN 0 (ve_neg ve_int)) ve_int) (va_im (ve_var 1) va_nil)))))))
   (vss_one (vs_ret ve_str))
   vss_nil)
  (vss_cons (vs_for g.po g.calm (vi_val (ve_var 0)) (vg_tup g.calm (vgs_cons (vg_name 2 sc_along_pieces.nd) (vgs_cons (vg_name 3 sc_along_pieces.nd) (vgs_cons (vg_name 4 sc_along_pieces.nd) (vgs_cons (vg_name 5 sc_along_pieces.nd) vgs_nil))))) (nox_tup (nox_cons nox_put (nox_cons nox_put (nox_cons nox_put (nox_cons nox_put nox_nil)))))
   (vss_cons (vs_set 6 sc_along_pieces.nd (ve_call (ok_along_straight T) (g.hr.mono (by decide)) g.tk rfl (by rfl) (g_along_straight T) (F_along_straight T).kp (bi_along_straight T) (va_im (ve_var 2) (va_im (ve_var 3) (va_im (ve_var 1) (va_im (ve_sub (ve_var 5) (ve_var 4)) va_nil))))))
  (vss_one (vs_if (vt_cmp op_isNotP ob_isNot (ve_var 6) ve_non (nomark _))
   (vss_one (vs_ret (ve_call (ok_plus T) (g.hr.mono (by decide)) g.tk rfl (by rfl) (g_plus T) (F_plus T).kp (bi_plus T) (va_im (ve_tup (va_im (ve_var 4) (va_im ve_int va_nil))) (va_im (ve_var 6) va_nil)))))
   vss_nil))))
  (vss_one (vs_ret ve_str))))
end
/-! back_pieces -/
abbrev s_back_pieces : Stmt := topS 20
theorem sc_back_pieces : FnScope ["pieces", "place", "lo", "hi", "begin", "end"] ["pieces", "place"] (defScope s_back_pieces) := ⟨rfl, rfl, rfl, by decide +kernel, rfl, by decide +kernel, by decide +kernel⟩
noncomputable def b_back_pieces_l1 : En → R Fl :=
  (dIf (dAnd (dNot (dTru (dFn 2 m_under (aIm (dVar 1) (aIm (dTup (aIm (dVar 4) (aIm (dC (.int 1)) aNil))) aNil))))) (dNot (dTru (dFn 2 m_under (aIm (dTup (aIm (dVar 5) (aIm (dC (.int 1)) aNil))) (aIm (dVar 1) aNil))))))
   (dRet (dFn 4 m_back_straight (aIm (dVar 2) (aIm (dVar 3) (aIm (dFn 2 m_minus (aIm (dVar 1) (aIm (dTup (aIm (dVar 4) (aIm (dC (.int 1)) aNil))) aNil))) (aIm (dOp gSub (dVar 5) (dVar 4)) aNil))))))
   dNx)
noncomputable def b_back_pieces : En → R Fl :=
  (dSeq (dFor (iD (dVar 0)) (gTupD 4 (gsCons (putIm 2) (gsCons (putIm 3) (gsCons (putIm 4) (gsCons (putIm 5) gsNil))))) b_back_pieces_l1)
  (dRet (dC .none)))
noncomputable def m_back_pieces : En → R L := dDef 6 b_back_pieces
section
variable {P : Program} {wd : World} {K : PySem.W.Frag} {mg : Str → Option Value} {base : Heap}
theorem ok_back_pieces (T : Tx K mg) : FnOk P wd K mg base (L2.CX P wd) 5 (He.ga K "back_pieces") (fd_back_pieces T) ["pieces", "place"] (spD K (caK [] K) 2 m_back_pieces) :=
  fn_denD (F_back_pieces T) sc_back_pieces fun cdv A outer s H E g =>
  (vss_cons (vs_for g.po g.calm (vi_val (ve_var 0)) (vg_tup g.calm (vgs_cons (vg_name 2 sc_back_pieces.nd) (vgs_cons (vg_name 3 sc_back_pieces.nd) (vgs_cons (vg_name 4 sc_back_pieces.nd) (vgs_cons (vg_name 5 sc_back_pieces.nd) vgs_nil))))) (nox_tup (nox_cons nox_put (nox_cons nox_put (nox_cons nox_put (nox_cons nox_put nox_nil)))))
   (vss_one (vs_if (vt_w (vw_and (vt_not (vt_tru (ve_call (ok_under T) (g.hr.mono (by decide)) g.tk rfl (by rfl) (g_under T) (F_under T).kp (bi_under T) (va_im (ve_var 1) (va_im (ve_tup (va_im (ve_var 4) (va_im ve_int va_nil))) va_nil))))) (vw_and1 (vt_not (vt_tru (ve_call (ok_under T) (g.hr.mono (by decide)) g.tk rfl (by rfl) (g_under T) (F_under T).kp (bi_under T) (va_im (ve_tup (va_im (ve_var 5) (va_im ve_int va_nil))) (va_im (ve_var 1) va_nil))))))))
   (vss_one (vs_ret (ve_call (ok_back_straight T) (g.hr.mono (by decide)) g.tk rfl (by rfl) (g_back_straight T) (F_back_straight T).kp (bi_back_straight T) (va_im (ve_var 2) (va_im (ve_var 3) (va_im (ve_call (ok_minus T) (g.hr.mono (by decide)) g.tk rfl (by rfl) (g_minus T) (F_minus T).kp (bi_minus T) (va_im (ve_var 1) (va_im (ve_tup (va_im (ve_var 4) (va_im ve_int va_nil))) va_nil))) (va_im (ve_sub (ve_var 5) (ve_var 4)) va_nil)))))))
   vss_nil)))
  (vss_one (vs_ret ve_non)))
end
/-! stretch_on -/
abbrev s_stretch_on : Stmt := topS 21
theorem sc_stretch_on : FnScope ["scale", "word", "words", "at"] ["scale", "word"] (defScope s_stretch_on) := ⟨rfl, rfl, rfl, by decide +kernel, rfl, by decide +kernel, by decide +kernel⟩
noncomputable def b_stretch_on : En → R Fl :=
  (dSeq (dAsg (putIm 2) (dIxN 0 (dC (.int 1))))
  (dSeq (dAsg (putIm 3) (dLM1 gIndex (dVar 2) (dVar 1)))
  (dRet (dTup (aIm (dFn 2 m_lowest (aIm (dOp gMul (dVar 3) (dIxN 0 (dC (.int 2)))) (aIm (dLenN 2) aNil))) (aIm (dFn 2 m_lowest (aIm (dOp gMul (dOp gAdd (dVar 3) (dC (.int 1))) (dIxN 0 (dC (.int 2)))) (aIm (dLenN 2) aNil))) aNil))))))
noncomputable def m_stretch_on : En → R L := dDef 4 b_stretch_on
section
variable {P : Program} {wd : World} {K : PySem.W.Frag} {mg : Str → Option Value} {base : Heap}
theorem ok_stretch_on (T : Tx K mg) : FnOk P wd K mg base (L2.CX P wd) 3 (He.ga K "stretch_on") (fd_stretch_on T) ["scale", "word"] (spD K (caK [] K) 2 m_stretch_on) :=
  fn_denD (F_stretch_on T) sc_stretch_on fun cdv A outer s H E g =>
  (vss_cons (vs_set 2 sc_stretch_on.nd (ve_ixN 0 ve_int))
  (vss_cons (vs_set 3 sc_stretch_on.nd (ve_index g.u65 (ve_var 2) (ve_var 1)))
  (vss_one (vs_ret (ve_tup (va_im (ve_call (ok_lowest T) (g.hr.mono (by decide)) g.tk rfl (by rfl) (g_lowest T) (F_lowest T).kp (bi_lowest T) (va_im (ve_mul (ve_var 3) (ve_ixN 0 ve_int)) (va_im (ve_lenN 2 (by rfl) T.n_len) va_nil))) (va_im (ve_call (ok_lowest T) (g.hr.mono (by decide)) g.tk rfl (by rfl) (g_lowest T) (F_lowest T).kp (bi_lowest T) (va_im (ve_mul (ve_add (ve_var 3) ve_int) (ve_ixN 0 ve_int)) (va_im (ve_lenN 2 (by rfl) T.n_len) va_nil))) va_nil)))))))
end
/-! amid -/
abbrev s_amid : Stmt := topS 22
theorem sc_amid : FnScope ["stretch"] ["stretch"] (defScope s_amid) := ⟨rfl, rfl, rfl, by decide +kernel, rfl, by decide +kernel, by decide +kernel⟩
noncomputable def b_amid : En → R Fl :=
  (dRet (dFn 2 m_times (aIm (dFn 2 m_plus (aIm (dIxN 0 (dC (.int 0))) (aIm (dIxN 0 (dC (.int 1))) aNil))) (aIm (dTup (aIm (dC (.int 1)) (aIm (dC (.int 2)) aNil))) aNil))))
noncomputable def m_amid : En → R L := dDef 1 b_amid
section
variable {P : Program} {wd : World} {K : PySem.W.Frag} {mg : Str → Option Value} {base : Heap}
theorem ok_amid (T : Tx K mg) : FnOk P wd K mg base (L2.CX P wd) 4 (He.ga K "amid") (fd_amid T) ["stretch"] (spD K (caK [] K) 1 m_amid) :=
  fn_denD (F_amid T) sc_amid fun cdv A outer s H E g =>
  (vss_one (vs_ret (ve_call (ok_times T) (g.hr.mono (by decide)) g.tk rfl (by rfl) (g_times T) (F_times T).kp (bi_times T) (va_im (ve_call (ok_plus T) (g.hr.mono (by decide)) g.tk rfl (by rfl) (g_plus T) (F_plus T).kp (bi_plus T) (va_im (ve_ixN 0 ve_int) (va_im (ve_ixN 0 ve_int) va_nil))) (va_im (ve_tup (va_im ve_int (va_im ve_int va_nil))) va_nil)))))
end
/-! along_order -/
abbrev s_along_order : Stmt := topS 23
theorem sc_along_order : FnScope ["scale", "cell"] ["scale", "cell"] (defScope s_along_order) := ⟨rfl, rfl, rfl, by decide +kernel, rfl, by decide +kernel, by decide +kernel⟩
noncomputable def b_along_order : En → R Fl :=
  (dSeq (dIf (dCmp gNotIn (dVar 1) (dIxN 0 (dC (.int 1))))
   (dRet (dC (.str "unknown")))
   dNx)
  (dRet (dFn 1 m_amid (aIm (dFn 2 m_stretch_on (aIm (dVar 0) (aIm (dVar 1) aNil))) aNil))))
noncomputable def m_along_order : En → R L := dDef 2 b_along_order
section
variable {P : Program} {wd : World} {K : PySem.W.Frag} {mg : Str → Option Value} {base : Heap}
theorem ok_along_order (T : Tx K mg) : FnOk P wd K mg base (L2.CX P wd) 5 (He.ga K "along_order") (fd_along_order T) ["scale", "cell"] (spD K (caK [] K) 2 m_along_order) :=
  fn_denD (F_along_order T) sc_along_order fun cdv A outer s H E g =>
  (vss_cons (vs_if (vt_cmp (op_notInA g.u65) ob_notIn (ve_var 1) (ve_ixN 0 ve_int) (by rfl))
   (vss_one (vs_ret ve_str))
   vss_nil)
  (vss_one (vs_ret (ve_call (ok_amid T) (g.hr.mono (by decide)) g.tk rfl (by rfl) (g_amid T) (F_amid T).kp (bi_amid T) (va_im (ve_call (ok_stretch_on T) (g.hr.mono (by decide)) g.tk rfl (by rfl) (g_stretch_on T) (F_stretch_on T).kp (bi_stretch_on T) (va_im (ve_var 0) (va_im (ve_var 1) va_nil))) va_nil)))))
end
/-! place_on -/
abbrev s_place_on : Stmt := topS 24
theorem sc_place_on : FnScope ["scale", "cell", "found"] ["scale", "cell"] (defScope s_place_on) := ⟨rfl, rfl, rfl, by decide +kernel, rfl, by decide +kernel, by decide +kernel⟩
noncomputable def b_place_on : En → R Fl :=
  (dSeq (dIf (dCmp gIs (dVar 1) (dC .none))
   (dRet (dC (.str "nothing")))
   dNx)
  (dSeq (dIf (dCmp gEq (dIxN 0 (dC (.int 0))) (dC (.str "turns")))
   (dRet (dFn 2 m_along_turns (aIm (dVar 0) (aIm (dVar 1) aNil))))
   dNx)
  (dSeq (dIf (dCmp gEq (dIxN 0 (dC (.int 0))) (dC (.str "broken")))
   (dRet (dFn 2 m_along_pieces (aIm (dIxN 0 (dC (.int 1))) (aIm (dVar 1) aNil))))
   dNx)
  (dSeq (dIf (dCmp gEq (dIxN 0 (dC (.int 0))) (dC (.str "order")))
   (dRet (dFn 2 m_along_order (aIm (dVar 0) (aIm (dVar 1) aNil))))
   dNx)
  (dSeq (dIf (dCmp gEq (dIxN 0 (dC (.int 0))) (dC (.str "days")))
   (dAsg (putIm 2) (dFn 4 m_along_straight (aIm (dTup (aIm (dIxN 0 (dC (.int 1))) (aIm (dC (.int 1)) aNil))) (aIm (dTup (aIm (dIxN 0 (dC (.int 2))) (aIm (dC (.int 1)) aNil))) (aIm (dTup (aIm (dVar 1) (aIm (dC (.int 1)) aNil))) (aIm (dIxN 0 (dC (.int 3))) aNil))))))
   (dAsg (putIm 2) (dFn 4 m_along_straight (aIm (dIxN 0 (dC (.int 1))) (aIm (dIxN 0 (dC (.int 2))) (aIm (dVar 1) (aIm (dIxN 0 (dC (.int 3))) aNil)))))))
  (dSeq (dIf (dCmp gIs (dVar 2) (dC .none))
   (dRet (dC (.str "outside")))
   dNx)
  (dRet (dVar 2))))))))
noncomputable def m_place_on : En → R L := dDef 3 b_place_on
section
variable {P : Program} {wd : World} {K : PySem.W.Frag} {mg : Str → Option Value} {base : Heap}
theorem ok_place_on (T : Tx K mg) : FnOk P wd K mg base (L2.CX P wd) 6 (He.ga K "place_on") (fd_place_on T) ["scale", "cell"] (spD K (caK [] K) 2 m_place_on) :=
  fn_denD (F_place_on T) sc_place_on fun cdv A outer s H E g =>
  (vss_cons (vs_if (vt_cmp op_isP ob_is (ve_var 1) ve_non (nomark _))
   (vss_one (vs_ret ve_str))
   vss_nil)
  (vss_cons (vs_if (vt_cmp (op_eqD g.hr.units) ob_eq (ve_ixN 0 ve_int) ve_str (nomark _))
   (vss_one (vs_ret (ve_call (ok_along_turns T) (g.hr.mono (by decide)) g.tk rfl (by rfl) (g_along_turns T) (F_along_turns T).kp (bi_along_turns T) (va_im (ve_var 0) (va_im (ve_var 1) va_nil)))))
   vss_nil)
  (vss_cons (vs_if (vt_cmp (op_eqD g.hr.units) ob_eq (ve_ixN 0 ve_int) ve_str (nomark _))
   (vss_one (vs_ret (ve_call (ok_along_pieces T) (g.hr.mono (by decide)) g.tk rfl (by rfl) (g_along_pieces T) (F_along_pieces T).kp (bi_along_pieces T) (va_im (ve_ixN 0 ve_int) (va_im (ve_var 1) va_nil)))))
   vss_nil)
  (vss_cons (vs_if (vt_cmp (op_eqD g.hr.units) ob_eq (ve_ixN 0 ve_int) ve_str (nomark _))
   (vss_one (vs_ret (ve_call (ok_along_order T) (g.hr.mono (by decide)) g.tk rfl (by rfl) (g_along_order T) (F_along_order T).kp (bi_along_order T) (va_im (ve_var 0) (va_im (ve_var 1) va_nil)))))
   vss_nil)
  (vss_cons (vs_if (vt_cmp (op_eqD g.hr.units) ob_eq (ve_ixN 0 ve_int) ve_str (nomark _))
   (vss_one (vs_set 2 sc_place_on.nd (ve_call (ok_along_straight T) (g.hr.mono (by decide)) g.tk rfl (by rfl) (g_along_straight T) (F_along_straight T).kp (bi_along_straight T) (va_im (ve_tup (va_im (ve_ixN 0 ve_int) (va_im ve_int va_nil))) (va_im (ve_tup (va_im (ve_ixN 0 ve_int) (va_im ve_int va_nil))) (va_im (ve_tup (va_im (ve_var 1) (va_im ve_int va_nil))) (va_im (ve_ixN 0 ve_int) va_nil)))))))
   (vss_one (vs_set 2 sc_place_on.nd (ve_call (ok_along_straight T) (g.hr.mono (by decide)) g.tk rfl (by rfl) (g_along_straight T) (F_along_straight T).kp (bi_along_straight T) (va_im (ve_ixN 0 ve_int) (va_im (ve_ixN 0 ve_int) (va_im (ve_var 1) (va_im (ve_ixN 0 ve_int) va_nil))))))))
  (vss_cons (vs_if (vt_cmp op_isP ob_is (ve_var 2) ve_non (nomark _))
   (vss_one (vs_ret ve_str))
   vss_nil)
  (vss_one (vs_ret (ve_var 2)))))))))
end
/-! read_on -/
abbrev s_read_on : Stmt := topS 25
theorem sc_read_on : FnScope ["scale", "place"] ["scale", "place"] (defScope s_read_on) := ⟨rfl, rfl, rfl, by decide +kernel, rfl, by decide +kernel, by decide +kernel⟩
noncomputable def b_read_on : En → R Fl :=
  (dSeq (dIf (dCmp gEq (dIxN 0 (dC (.int 0))) (dC (.str "turns")))
   (dRet (dFn 2 m_back_turns (aIm (dVar 0) (aIm (dVar 1) aNil))))
   dNx)
  (dSeq (dIf (dCmp gEq (dIxN 0 (dC (.int 0))) (dC (.str "broken")))
   (dRet (dFn 2 m_back_pieces (aIm (dIxN 0 (dC (.int 1))) (aIm (dVar 1) aNil))))
   dNx)
  (dSeq (dIf (dCmp gEq (dIxN 0 (dC (.int 0))) (dC (.str "order")))
   (dRet (dC .none))
   dNx)
  (dSeq (dIf (dCmp gEq (dIxN 0 (dC (.int 0))) (dC (.str "days")))
   (dRet (dFn 4 m_back_straight (aIm (dTup (aIm (dIxN 0 (dC (.int 1))) (aIm (dC (.int 1)) aNil))) (aIm (dTup (aIm (dIxN 0 (dC (.int 2))) (aIm (dC (.int 1)) aNil))) (aIm (dVar 1) (aIm (dIxN 0 (dC (.int 3))) aNil))))))
   dNx)
  (dRet (dFn 4 m_back_straight (aIm (dIxN 0 (dC (.int 1))) (aIm (dIxN 0 (dC (.int 2))) (aIm (dVar 1) (aIm (dIxN 0 (dC (.int 3))) aNil))))))))))
noncomputable def m_read_on : En → R L := dDef 2 b_read_on
section
variable {P : Program} {wd : World} {K : PySem.W.Frag} {mg : Str → Option Value} {base : Heap}
theorem ok_read_on (T : Tx K mg) : FnOk P wd K mg base (L2.CX P wd) 6 (He.ga K "read_on") (fd_read_on T) ["scale", "place"] (spD K (caK [] K) 2 m_read_on) :=
  fn_denD (F_read_on T) sc_read_on fun cdv A outer s H E g =>
  (vss_cons (vs_if (vt_cmp (op_eqD g.hr.units) ob_eq (ve_ixN 0 ve_int) ve_str (nomark _))
   (vss_one (vs_ret (ve_call (ok_back_turns T) (g.hr.mono (by decide)) g.tk rfl (by rfl) (g_back_turns T) (F_back_turns T).kp (bi_back_turns T) (va_im (ve_var 0) (va_im (ve_var 1) va_nil)))))
   vss_nil)
  (vss_cons (vs_if (vt_cmp (op_eqD g.hr.units) ob_eq (ve_ixN 0 ve_int) ve_str (nomark _))
   (vss_one (vs_ret (ve_call (ok_back_pieces T) (g.hr.mono (by decide)) g.tk rfl (by rfl) (g_back_pieces T) (F_back_pieces T).kp (bi_back_pieces T) (va_im (ve_ixN 0 ve_int) (va_im (ve_var 1) va_nil)))))
   vss_nil)
  (vss_cons (vs_if (vt_cmp (op_eqD g.hr.units) ob_eq (ve_ixN 0 ve_int) ve_str (nomark _))
   (vss_one (vs_ret ve_non))
   vss_nil)
  (vss_cons (vs_if (vt_cmp (op_eqD g.hr.units) ob_eq (ve_ixN 0 ve_int) ve_str (nomark _))
   (vss_one (vs_ret (ve_call (ok_back_straight T) (g.hr.mono (by decide)) g.tk rfl (by rfl) (g_back_straight T) (F_back_straight T).kp (bi_back_straight T) (va_im (ve_tup (va_im (ve_ixN 0 ve_int) (va_im ve_int va_nil))) (va_im (ve_tup (va_im (ve_ixN 0 ve_int) (va_im ve_int va_nil))) (va_im (ve_var 1) (va_im (ve_ixN 0 ve_int) va_nil)))))))
   vss_nil)
  (vss_one (vs_ret (ve_call (ok_back_straight T) (g.hr.mono (by decide)) g.tk rfl (by rfl) (g_back_straight T) (F_back_straight T).kp (bi_back_straight T) (va_im (ve_ixN 0 ve_int) (va_im (ve_ixN 0 ve_int) (va_im (ve_var 1) (va_im (ve_ixN 0 ve_int) va_nil)))))))))))
end
/-! ends_at -/
abbrev s_ends_at : Stmt := topS 27
theorem sc_ends_at : FnScope ["scale", "along", "lo", "hi", "begin", "end"] ["scale", "along"] (defScope s_ends_at) := ⟨rfl, rfl, rfl, by decide +kernel, rfl, by decide +kernel, by decide +kernel⟩
noncomputable def b_ends_at_l1 : En → R Fl :=
  (dIf (dChain gLe gLe (dVar 4) (dVar 1) (dVar 5))
   (dRet (dTup (aIm (dVar 4) (aIm (dVar 5) aNil))))
   dNx)
noncomputable def b_ends_at : En → R Fl :=
  (dSeq (dIf (dCmp gEq (dIxN 0 (dC (.int 0))) (dC (.str "broken")))
   (dSeq (dFor (iD (dIxN 0 (dC (.int 1)))) (gTupD 4 (gsCons (putIm 2) (gsCons (putIm 3) (gsCons (putIm 4) (gsCons (putIm 5) gsNil))))) b_ends_at_l1)
   (dRet (dC .none)))
   dNx)
  (dSeq (dIf (dNot (dChain gLe gLe (dC (.int 0)) (dVar 1) (dIxN 0 (d1 gNeg (dC (.int 1))))))
   (dRet (dC .none))
   dNx)
  (dRet (dTup (aIm (dC (.int 0)) (aIm (dIxN 0 (d1 gNeg (dC (.int 1)))) aNil))))))
noncomputable def m_ends_at : En → R L := dDef 6 b_ends_at
section
variable {P : Program} {wd : World} {K : PySem.W.Frag} {mg : Str → Option Value} {base : Heap}
theorem ok_ends_at (T : Tx K mg) : FnOk P wd K mg base (L2.CX P wd) 1 (He.ga K "ends_at") (fd_ends_at T) ["scale", "along"] (spD K (caK [] K) 2 m_ends_at) :=
  fn_denD (F_ends_at T) sc_ends_at fun cdv A outer s H E g =>
  (vss_cons (vs_if (vt_cmp (op_eqD g.hr.units) ob_eq (ve_ixN 0 ve_int) ve_str (nomark _))
   (vss_cons (vs_for g.po g.calm (vi_val (ve_ixN 0 ve_int)) (vg_tup g.calm (vgs_cons (vg_name 2 sc_ends_at.nd) (vgs_cons (vg_name 3 sc_ends_at.nd) (vgs_cons (vg_name 4 sc_ends_at.nd) (vgs_cons (vg_name 5 sc_ends_at.nd) vgs_nil))))) (nox_tup (nox_cons nox_put (nox_cons nox_put (nox_cons nox_put (nox_cons nox_put nox_nil)))))
    (vss_one (vs_if (vt_chain op_leA ob_le op_leA ob_le (ve_var 4) (ve_var 1) (ve_var 5))
   (vss_one (vs_ret (ve_tup (va_im (ve_var 4) (va_im (ve_var 5) va_nil)))))
   vss_nil)))
   (vss_one (vs_ret ve_non)))
   vss_nil)
  (vss_cons (vs_if (vt_not (vt_chain op_leA ob_le op_leA ob_le ve_int (ve_var 1) (ve_ixN 0 (ve_neg ve_int))))
   (vss_one (vs_ret ve_non))
   vss_nil)
  (vss_one (vs_ret (ve_tup (va_im ve_int (va_im (ve_ixN 0 (ve_neg ve_int)) va_nil)))))))
end
/-! ceiling_of -/
abbrev s_ceiling_of : Stmt := topS 28
theorem sc_ceiling_of : FnScope ["one"] ["one"] (defScope s_ceiling_of) := ⟨rfl, rfl, rfl, by decide +kernel, rfl, by decide +kernel, by decide +kernel⟩
noncomputable def b_ceiling_of : En → R Fl :=
  (dRet (dOp gSub (dC (.int 0)) (dFn 1 m_floor_of (aIm (dTup (aIm (dOp gSub (dC (.int 0)) (dIxN 0 (dC (.int 0)))) (aIm (dIxN 0 (dC (.int 1))) aNil))) aNil))))
noncomputable def m_ceiling_of : En → R L := dDef 1 b_ceiling_of
section
variable {P : Program} {wd : World} {K : PySem.W.Frag} {mg : Str → Option Value} {base : Heap}
theorem ok_ceiling_of (T : Tx K mg) : FnOk P wd K mg base (L2.CX P wd) 2 (He.ga K "ceiling_of") (fd_ceiling_of T) ["one"] (spD K (caK [] K) 1 m_ceiling_of) :=
  fn_denD (F_ceiling_of T) sc_ceiling_of fun cdv A outer s H E g =>
  (vss_one (vs_ret (ve_sub ve_int (ve_call (ok_floor_of T) (g.hr.mono (by decide)) g.tk rfl (by rfl) (g_floor_of T) (F_floor_of T).kp (bi_floor_of T) (va_im (ve_tup (va_im (ve_sub ve_int (ve_ixN 0 ve_int)) (va_im (ve_ixN 0 ve_int) va_nil))) va_nil)))))
end
/-! day_belt -/
abbrev s_day_belt : Stmt := topS 29
theorem sc_day_belt : FnScope ["low", "high", "shut", "first", "last"] ["low", "high", "shut"] (defScope s_day_belt) := ⟨rfl, rfl, rfl, by decide +kernel, rfl, by decide +kernel, by decide +kernel⟩
noncomputable def b_day_belt : En → R Fl :=
  (dSeq (dAsg (putIm 3) (dFn 1 m_ceiling_of (aIm (dVar 0) aNil)))
  (dSeq (dAsg (putIm 4) (dIfE (dTru (dVar 2)) (dFn 1 m_floor_of (aIm (dVar 1) aNil)) (dOp gSub (dFn 1 m_ceiling_of (aIm (dVar 1) aNil)) (dC (.int 1)))))
  (dRet (dIfE (dCmp gGt (dVar 3) (dVar 4)) (dC .none) (dTup (aIm (dTup (aIm (dVar 3) (aIm (dC (.int 1)) aNil))) (aIm (dTup (aIm (dVar 4) (aIm (dC (.int 1)) aNil))) (aIm (dC (.bool true)) aNil))))))))
noncomputable def m_day_belt : En → R L := dDef 5 b_day_belt
section
variable {P : Program} {wd : World} {K : PySem.W.Frag} {mg : Str → Option Value} {base : Heap}
theorem ok_day_belt (T : Tx K mg) : FnOk P wd K mg base (L2.CX P wd) 3 (He.ga K "day_belt") (fd_day_belt T) ["low", "high", "shut"] (spD K (caK [] K) 3 m_day_belt) :=
  fn_denD (F_day_belt T) sc_day_belt fun cdv A outer s H E g =>
  (vss_cons (vs_set 3 sc_day_belt.nd (ve_call (ok_ceiling_of T) (g.hr.mono (by decide)) g.tk rfl (by rfl) (g_ceiling_of T) (F_ceiling_of T).kp (bi_ceiling_of T) (va_im (ve_var 0) va_nil)))
  (vss_cons (vs_set 4 sc_day_belt.nd (ve_ifE (vt_tru (ve_var 2)) (ve_call (ok_floor_of T) (g.hr.mono (by decide)) g.tk rfl (by rfl) (g_floor_of T) (F_floor_of T).kp (bi_floor_of T) (va_im (ve_var 1) va_nil)) (ve_sub (ve_call (ok_ceiling_of T) (g.hr.mono (by decide)) g.tk rfl (by rfl) (g_ceiling_of T) (F_ceiling_of T).kp (bi_ceiling_of T) (va_im (ve_var 1) va_nil)) ve_int)))
  (vss_one (vs_ret (ve_ifE (vt_cmp op_gtA ob_gt (ve_var 3) (ve_var 4) (nomark _)) ve_non (ve_tup (va_im (ve_tup (va_im (ve_var 3) (va_im ve_int va_nil))) (va_im (ve_tup (va_im (ve_var 4) (va_im ve_int va_nil))) (va_im ve_bl va_nil)))))))))
end
/-! belt_at -/
abbrev s_belt_at : Stmt := topS 30
theorem sc_belt_at : FnScope ["scale", "along", "ends", "begin", "end", "low", "shut", "high"] ["scale", "along"] (defScope s_belt_at) := ⟨rfl, rfl, rfl, by decide +kernel, rfl, by decide +kernel, by decide +kernel⟩
noncomputable def b_belt_at : En → R Fl :=
  (dSeq (dAsg (putIm 2) (dFn 2 m_ends_at (aIm (dVar 0) (aIm (dVar 1) aNil))))
  (dSeq (dIf (dCmp gIs (dVar 2) (dC .none))
   (dRet (dC .none))
   dNx)
  (dSeq (dAsg (gTupD 2 (gsCons (putIm 3) (gsCons (putIm 4) gsNil))) (dVar 2))
  (dSeq (dAsg (putIm 5) (dFn 2 m_read_on (aIm (dVar 0) (aIm (dIfE (dCmp gEq (dVar 1) (dVar 3)) (dTup (aIm (dVar 3) (aIm (dC (.int 1)) aNil))) (dFn 2 m_lowest (aIm (dOp gSub (dOp gMul (dC (.int 2)) (dVar 1)) (dC (.int 1))) (aIm (dC (.int 2)) aNil)))) aNil))))
  (dSeq (dAsg (putIm 6) (dB (dCmp gEq (dVar 1) (dVar 4))))
  (dSeq (dAsg (putIm 7) (dFn 2 m_read_on (aIm (dVar 0) (aIm (dIfE (dTru (dVar 6)) (dTup (aIm (dVar 4) (aIm (dC (.int 1)) aNil))) (dFn 2 m_lowest (aIm (dOp gAdd (dOp gMul (dC (.int 2)) (dVar 1)) (dC (.int 1))) (aIm (dC (.int 2)) aNil)))) aNil))))
  (dRet (dIfE (dCmp gEq (dIxN 0 (dC (.int 0))) (dC (.str "days"))) (dFn 3 m_day_belt (aIm (dVar 5) (aIm (dVar 7) (aIm (dVar 6) aNil)))) (dTup (aIm (dVar 5) (aIm (dVar 7) (aIm (dVar 6) aNil))))))))))))
noncomputable def m_belt_at : En → R L := dDef 8 b_belt_at
section
variable {P : Program} {wd : World} {K : PySem.W.Frag} {mg : Str → Option Value} {base : Heap}
theorem ok_belt_at (T : Tx K mg) : FnOk P wd K mg base (L2.CX P wd) 7 (He.ga K "belt_at") (fd_belt_at T) ["scale", "along"] (spD K (caK [] K) 2 m_belt_at) :=
  fn_denD (F_belt_at T) sc_belt_at fun cdv A outer s H E g =>
  (vss_cons (vs_set 2 sc_belt_at.nd (ve_call (ok_ends_at T) (g.hr.mono (by decide)) g.tk rfl (by rfl) (g_ends_at T) (F_ends_at T).kp (bi_ends_at T) (va_im (ve_var 0) (va_im (ve_var 1) va_nil))))
  (vss_cons (vs_if (vt_cmp op_isP ob_is (ve_var 2) ve_non (nomark _))
   (vss_one (vs_ret ve_non))
   vss_nil)
  (vss_cons (vs_asg (ve_var 2) (vg_tup g.calm (vgs_cons (vg_name 3 sc_belt_at.nd) (vgs_cons (vg_name 4 sc_belt_at.nd) vgs_nil))) (nox_tup (nox_cons nox_put (nox_cons nox_put nox_nil))))
  (vss_cons (vs_set 5 sc_belt_at.nd (ve_call (ok_read_on T) (g.hr.mono (by decide)) g.tk rfl (by rfl) (g_read_on T) (F_read_on T).kp (bi_read_on T) (va_im (ve_var 0) (va_im (ve_ifE (vt_cmp (op_eqD g.hr.units) ob_eq (ve_var 1) (ve_var 3) (nomark _)) (ve_tup (va_im (ve_var 3) (va_im ve_int va_nil))) (ve_call (ok_lowest T) (g.hr.mono (by decide)) g.tk rfl (by rfl) (g_lowest T) (F_lowest T).kp (bi_lowest T) (va_im (ve_sub (ve_mul ve_int (ve_var 1)) ve_int) (va_im ve_int va_nil)))) va_nil))))
  (vss_cons (vs_set 6 sc_belt_at.nd (ve_cmp (op_eqD g.hr.units) ob_eq (ve_var 1) (ve_var 4) (nomark _)))
  (vss_cons (vs_set 7 sc_belt_at.nd (ve_call (ok_read_on T) (g.hr.mono (by decide)) g.tk rfl (by rfl) (g_read_on T) (F_read_on T).kp (bi_read_on T) (va_im (ve_var 0) (va_im (ve_ifE (vt_tru (ve_var 6)) (ve_tup (va_im (ve_var 4) (va_im ve_int va_nil))) (ve_call (ok_lowest T) (g.hr.mono (by decide)) g.tk rfl (by rfl) (g_lowest T) (F_lowest T).kp (bi_lowest T) (va_im (ve_add (ve_mul ve_int (ve_var 1)) ve_int) (va_im ve_int va_nil)))) va_nil))))
  (vss_one (vs_ret (ve_ifE (vt_cmp (op_eqD g.hr.units) ob_eq (ve_ixN 0 ve_int) ve_str (nomark _)) (ve_call (ok_day_belt T) (g.hr.mono (by decide)) g.tk rfl (by rfl) (g_day_belt T) (F_day_belt T).kp (bi_day_belt T) (va_im (ve_var 5) (va_im (ve_var 7) (va_im (ve_var 6) va_nil)))) (ve_tup (va_im (ve_var 5) (va_im (ve_var 7) (va_im (ve_var 6) va_nil)))))))))))))
end
/-! _law_is_whole -/
abbrev s_law_is_whole : Stmt := topS 32
theorem sc_law_is_whole : FnScope ["thing"] ["thing"] (defScope s_law_is_whole) := ⟨rfl, rfl, rfl, by decide +kernel, rfl, by decide +kernel, by decide +kernel⟩
noncomputable def b_law_is_whole : En → R Fl :=
  (dRet (dAndV (dIsi "int" (dVar 0)) (dB (dNot (dIsi "bool" (dVar 0))))))
noncomputable def m_law_is_whole : En → R L := dDef 1 b_law_is_whole
section
variable {P : Program} {wd : World} {K : PySem.W.Frag} {mg : Str → Option Value} {base : Heap}
theorem ok_law_is_whole (T : Tx K mg) : FnOk P wd K mg base (L2.CX P wd) 1 (He.ga K "_law_is_whole") (fd_law_is_whole T) ["thing"] (spD K (caK [] K) 1 m_law_is_whole) :=
  fn_denD (F_law_is_whole T) sc_law_is_whole fun cdv A outer s H E g =>
  (vss_one (vs_ret (ve_and (ve_isi (by rfl) T.n_isinstance (ve_var 0) (by rfl) T.n_int boot_ty_int) (ve_and1 (ve_not (ve_isi (by rfl) T.n_isinstance (ve_var 0) (by rfl) T.n_bool boot_ty_bool))))))
end
/-! _law_like -/
abbrev s_law_like : Stmt := topS 33
theorem sc_law_like : FnScope ["told", "owed", "key", "at"] ["told", "owed"] (defScope s_law_like) := ⟨rfl, rfl, rfl, by decide +kernel, rfl, by decide +kernel, by decide +kernel⟩
noncomputable def b_law_like_l1 (sf : En → R L) : D → En → R (Option D) :=
  (lcT (putIm 2) (dOr (dCmp gNotIn (dVar 2) (dVar 0)) (dNot (dTru (dFn 2 sf (aIm (dIxN 0 (dVar 2)) (aIm (dIxN 1 (dVar 2)) aNil))))))
   (dVar 2))
noncomputable def b_law_like_l2 (sf : En → R L) : D → En → R (Option D) :=
  (lcT (putIm 3) (dNot (dTru (dFn 2 sf (aIm (dIxN 0 (dVar 3)) (aIm (dIxN 1 (dVar 3)) aNil)))))
   (dVar 3))
noncomputable def b_law_like (sf : En → R L) : En → R Fl :=
  (dSeq (dIf (dCmp gIs (dVar 1) (dC .none))
   (dRet (dB (dCmp gIs (dVar 0) (dC .none))))
   dNx)
  (dSeq (dIf (dIsi "bool" (dVar 1))
   (dRet (dIfE (dTru (dVar 1)) (dB (dCmp gIs (dVar 0) (dC (.bool true)))) (dB (dCmp gIs (dVar 0) (dC (.bool false))))))
   dNx)
  (dSeq (dIf (dIsi "int" (dVar 1))
   (dRet (dAndV (dUB (dFn 1 m_law_is_whole (aIm (dVar 0) aNil))) (dB (dCmp gEq (dVar 0) (dVar 1)))))
   dNx)
  (dSeq (dIf (dIsi "str" (dVar 1))
   (dRet (dAndV (dIsi "str" (dVar 0)) (dB (dCmp gEq (dVar 0) (dVar 1)))))
   dNx)
  (dSeq (dIf (dIsi "dict" (dVar 1))
   (dSeq (dIf (dOr (dNot (dIsi "dict" (dVar 0))) (dCmp gNe (dLenN 0) (dLenN 1)))
    (dRet (dC (.bool false)))
    dNx)
   (dRet (dB (dCmp gEq (dFz (nLc (iD (dVar 1)) (b_law_like_l1 sf) [2])) (dLst aNil)))))
   dNx)
  (dSeq (dIf (dAnd (dNot (dIsi "tuple" (dVar 1))) (dNot (dIsi "list" (dVar 1))))
   (dRet (dB (dCmp gEq (dVar 0) (dVar 1))))
   dNx)
  (dSeq (dIf (dNot (dIfE (dIsi "tuple" (dVar 1)) (dIsi "tuple" (dVar 0)) (dIsi "list" (dVar 0))))
   (dRet (dC (.bool false)))
   dNx)
  (dRet (dAndV (dCmp gEq (dLenN 0) (dLenN 1)) (dB (dCmp gEq (dFz (nLc (iRg1 (aIm (dLenN 1) aNil)) (b_law_like_l2 sf) [3])) (dLst aNil))))))))))))
noncomputable def m_law_like : Nat → En → R L := recD 4 b_law_like
section
variable {P : Program} {wd : World} {K : PySem.W.Frag} {mg : Str → Option Value} {base : Heap}
theorem ok_law_like (T : Tx K mg) : ∀ n, FnOk P wd K mg base (L2.CX P wd) (2 + n) (He.ga K "_law_like") (fd_law_like T) ["told", "owed"] (spD K (caK [] K) 2 (m_law_like n))
  | 0 => fn_denD (F_law_like T) sc_law_like fun cdv A outer s H E g => vss_no
  | n + 1 => fn_denD (F_law_like T) sc_law_like fun cdv A outer s H E g =>
  have ih := ok_law_like T n
  (vss_cons (vs_if (vt_cmp op_isP ob_is (ve_var 1) ve_non (nomark _))
   (vss_one (vs_ret (ve_cmp op_isP ob_is (ve_var 0) ve_non (nomark _))))
   vss_nil)
  (vss_cons (vs_if (vt_b (ve_isi (by rfl) T.n_isinstance (ve_var 1) (by rfl) T.n_bool boot_ty_bool))
   (vss_one (vs_ret (ve_ifE (vt_tru (ve_var 1)) (ve_cmp op_isP ob_is (ve_var 0) ve_bl (nomark _)) (ve_cmp op_isP ob_is (ve_var 0) ve_bl (nomark _)))))
   vss_nil)
  (vss_cons (vs_if (vt_b (ve_isi (by rfl) T.n_isinstance (ve_var 1) (by rfl) T.n_int boot_ty_int))
   (vss_one (vs_ret (ve_and (ve_ub (ve_call (ok_law_is_whole T) (g.hr.mono (by (try simp only [Nat.add_eq]); omega)) g.tk rfl (by rfl) (g_law_is_whole T) (F_law_is_whole T).kp (bi_law_is_whole T) (va_im (ve_var 0) va_nil))) (ve_and1 (ve_cmp (op_eqD g.hr.units) ob_eq (ve_var 0) (ve_var 1) (nomark _))))))
   vss_nil)
  (vss_cons (vs_if (vt_b (ve_isi (by rfl) T.n_isinstance (ve_var 1) (by rfl) T.n_str boot_ty_str))
   (vss_one (vs_ret (ve_and (ve_isi (by rfl) T.n_isinstance (ve_var 0) (by rfl) T.n_str boot_ty_str) (ve_and1 (ve_cmp (op_eqD g.hr.units) ob_eq (ve_var 0) (ve_var 1) (nomark _))))))
   vss_nil)
  (vss_cons (vs_if (vt_b (ve_isi (by rfl) T.n_isinstance (ve_var 1) (by rfl) T.n_dict boot_ty_dict))
   (vss_cons (vs_if (vt_w (vw_or (vt_not (vt_b (ve_isi (by rfl) T.n_isinstance (ve_var 0) (by rfl) T.n_dict boot_ty_dict))) (vw_or1 (vt_cmp (op_neD g.hr.units) ob_ne (ve_lenN 0 (by rfl) T.n_len) (ve_lenN 1 (by rfl) T.n_len) (nomark _)))))
    (vss_one (vs_ret ve_bl))
    vss_nil)
   (vss_one (vs_ret (ve_cmp (op_eqD g.hr.units) ob_eq (ve_fz (vn_lcG [("key", 2)] g sc_law_like.nd (vi_val (ve_var 1)) (by kernel_rfl)
   (fun s H C cl fp g => (vgc_name 2 (by decide) sc_law_like.nd)) (fun s H C cl fp g => (vts_one (vt_w (vw_or (vt_cmp (op_notInA g.u65) ob_notIn (ve_var 2) (ve_var 0) (by rfl)) (vw_or1 (vt_not (vt_tru (ve_call ih (g.hr.mono (by (try simp only [Nat.add_eq]); omega)) g.tk rfl (by rfl) (g_law_like T) (F_law_like T).kp (bi_law_like T) (va_im (ve_ixN 0 (ve_var 2)) (va_im (ve_ixN 1 (ve_var 2)) va_nil))))))))))
   (fun s H C cl fp g => (ve_var 2)))) (ve_lst va_nil) (nomark _)))))
   vss_nil)
  (vss_cons (vs_if (vt_w (vw_and (vt_not (vt_b (ve_isi (by rfl) T.n_isinstance (ve_var 1) (by rfl) T.n_tuple boot_ty_tuple))) (vw_and1 (vt_not (vt_b (ve_isi (by rfl) T.n_isinstance (ve_var 1) (by rfl) T.n_list boot_ty_list))))))
   (vss_one (vs_ret (ve_cmp (op_eqD g.hr.units) ob_eq (ve_var 0) (ve_var 1) (nomark _))))
   vss_nil)
  (vss_cons (vs_if (vt_not (vt_ifT (vt_b (ve_isi (by rfl) T.n_isinstance (ve_var 1) (by rfl) T.n_tuple boot_ty_tuple)) (vt_b (ve_isi (by rfl) T.n_isinstance (ve_var 0) (by rfl) T.n_tuple boot_ty_tuple)) (vt_b (ve_isi (by rfl) T.n_isinstance (ve_var 0) (by rfl) T.n_list boot_ty_list))))
   (vss_one (vs_ret ve_bl))
   vss_nil)
  (vss_one (vs_ret (ve_and (ve_cmp (op_eqD g.hr.units) ob_eq (ve_lenN 0 (by rfl) T.n_len) (ve_lenN 1 (by rfl) T.n_len) (nomark _)) (ve_and1 (ve_cmp (op_eqD g.hr.units) ob_eq (ve_fz (vn_lcG [("at", 3)] g sc_law_like.nd (vi_range1 (by rfl) T.n_range (va_im (ve_lenN 1 (by rfl) T.n_len) va_nil)) (by kernel_rfl)
   (fun s H C cl fp g => (vgc_name 3 (by decide) sc_law_like.nd)) (fun s H C cl fp g => (vts_one (vt_not (vt_tru (ve_call ih (g.hr.mono (by (try simp only [Nat.add_eq]); omega)) g.tk rfl (by rfl) (g_law_like T) (F_law_like T).kp (bi_law_like T) (va_im (ve_ixN 0 (ve_var 3)) (va_im (ve_ixN 1 (ve_var 3)) va_nil)))))))
   (fun s H C cl fp g => (ve_var 3)))) (ve_lst va_nil) (nomark _)))))))))))))
end
/-! _law_pool -/
abbrev s_law_pool : Stmt := topS 34
theorem sc_law_pool : FnScope ["script", "digits", "stirred", "cell", "great"] ["script"] (defScope s_law_pool) := ⟨rfl, rfl, rfl, by decide +kernel, rfl, by decide +kernel, by decide +kernel⟩
noncomputable def b_law_pool_l1 : En → R Fl :=
  (dSeq (dAsg (putIm 4) (dCall gMax2 (aIm (dCall gInt (aIm (dVar 3) aNil)) (aIm (dOp gSub (d1 gNeg (dC (.int 1))) (dCall gInt (aIm (dVar 3) aNil))) aNil))))
  (dSeq (dAsg (putIm 2) (dOp gMod (dOp gAdd (dOp gAdd (dOp gMul (dVar 2) (dC (.int 48271))) (dOp gMod (dVar 4) (dC (.int 2147483629)))) (dC (.int 11))) (dC (.int 2147483647))))
  (dAsg (putIm 1) (dIfE (dAnd (dCmp gGe (dVar 4) (dOp gPow (dC (.int 10)) (dC (.int 12)))) (dCmp gLt (dVar 1) (dOp gPow (dC (.int 10)) (dC (.int 60))))) (dOp gAdd (dOp gMul (dVar 1) (dOp gPow (dC (.int 10)) (dC (.int 60)))) (dOp gMod (dVar 4) (dOp gPow (dC (.int 10)) (dC (.int 60))))) (dVar 1)))))
noncomputable def b_law_pool : En → R Fl :=
  (dSeq (dAsg (gTupD 2 (gsCons (putIm 1) (gsCons (putIm 2) gsNil))) (dTup (aIm (dC (.int 0)) (aIm (dC (.int 7)) aNil))))
  (dSeq (dFor (iD (dVar 0)) (putIm 3) b_law_pool_l1)
  (dRetL (nLst (aIm (dVar 1) (aIm (dVar 2) aNil))))))
noncomputable def m_law_pool : En → R L := dDef 5 b_law_pool
section
variable {P : Program} {wd : World} {K : PySem.W.Frag} {mg : Str → Option Value} {base : Heap}
theorem ok_law_pool (T : Tx K mg) : FnOk P wd K mg base (L2.CX P wd) 1 (He.ga K "_law_pool") (fd_law_pool T) ["script"] (spD K (caK [] K) 1 m_law_pool) :=
  fn_denD (F_law_pool T) sc_law_pool fun cdv A outer s H E g =>
  (vss_cons (vs_asg (ve_tup (va_im ve_int (va_im ve_int va_nil))) (vg_tup g.calm (vgs_cons (vg_name 1 sc_law_pool.nd) (vgs_cons (vg_name 2 sc_law_pool.nd) vgs_nil))) (nox_tup (nox_cons nox_put (nox_cons nox_put nox_nil))))
  (vss_cons (vs_for g.po g.calm (vi_val (ve_var 0)) (vg_name 3 sc_law_pool.nd) nox_put
   (vss_cons (vs_set 4 sc_law_pool.nd (ve_cB (call_max2 g.calm) cs_max2 (by rfl) T.n_max boot_B_max (va_im (ve_cT call_intA cs_int (by rfl) T.n_int boot_ty_int (va_im (ve_var 3) va_nil)) (va_im (ve_sub (ve_neg ve_int) (ve_cT call_intA cs_int (by rfl) T.n_int boot_ty_int (va_im (ve_var 3) va_nil))) va_nil))))
  (vss_cons (vs_set 2 sc_law_pool.nd (ve_mod (ve_add (ve_add (ve_mul (ve_var 2) ve_int) (ve_mod (ve_var 4) ve_int)) ve_int) ve_int))
  (vss_one (vs_set 1 sc_law_pool.nd (ve_ifE (vt_w (vw_and (vt_cmp op_geA ob_ge (ve_var 4) (ve_pow ve_int ve_int) (nomark _)) (vw_and1 (vt_cmp op_ltA ob_lt (ve_var 1) (ve_pow ve_int ve_int) (nomark _))))) (ve_add (ve_mul (ve_var 1) (ve_pow ve_int ve_int)) (ve_mod (ve_var 4) (ve_pow ve_int ve_int))) (ve_var 1)))))))
  (vss_one (vs_retL (vn_lst (va_im (ve_var 1) (va_im (ve_var 2) va_nil)))))))
end
/-! _law_take -/
abbrev s_law_take : Stmt := topS 35
theorem sc_law_take : FnScope ["jar", "many", "found"] ["jar", "many"] (defScope s_law_take) := ⟨rfl, rfl, rfl, by decide +kernel, rfl, by decide +kernel, by decide +kernel⟩
noncomputable def b_law_take : En → R Fl :=
  (dSeq (dIf (dCmp gGt (dIxN 0 (dC (.int 0))) (dC (.int 0)))
   (dSeq (dAsg (putIm 2) (dOp gMod (dIxN 0 (dC (.int 0))) (dVar 1)))
   (dSeq (dSetI 0 (dOp gFdiv (dIxN 0 (dC (.int 0))) (dVar 1)) (dC (.int 0)))
   (dRet (dVar 2))))
   dNx)
  (dSeq (dSetI 0 (dOp gMod (dOp gAdd (dOp gMul (dIxN 0 (dC (.int 1))) (dC (.int 39373))) (dC (.int 7))) (dC (.int 2147483647))) (dC (.int 1)))
  (dRet (dOp gMod (dOp gFdiv (dOp gMod (dOp gMul (dIxN 0 (dC (.int 1))) (dIxN 0 (dC (.int 1)))) (dC (.int 2147483629))) (dC (.int 32))) (dVar 1)))))
noncomputable def m_law_take : En → R L := dDef 3 b_law_take
section
variable {P : Program} {wd : World} {K : PySem.W.Frag} {mg : Str → Option Value} {base : Heap}
theorem ok_law_take (T : Tx K mg) : FnOk P wd K mg base (L2.CX P wd) 1 (He.ga K "_law_take") (fd_law_take T) ["jar", "many"] (spD K (caK [] K) 2 m_law_take) :=
  fn_denD (F_law_take T) sc_law_take fun cdv A outer s H E g =>
  (vss_cons (vs_if (vt_cmp op_gtA ob_gt (ve_ixN 0 ve_int) ve_int (nomark _))
   (vss_cons (vs_set 2 sc_law_take.nd (ve_mod (ve_ixN 0 ve_int) (ve_var 1)))
   (vss_cons (vs_setI 0 (ve_fdiv (ve_ixN 0 ve_int) (ve_var 1)) ve_int)
   (vss_one (vs_ret (ve_var 2)))))
   vss_nil)
  (vss_cons (vs_setI 0 (ve_mod (ve_add (ve_mul (ve_ixN 0 ve_int) ve_int) ve_int) ve_int) ve_int)
  (vss_one (vs_ret (ve_mod (ve_fdiv (ve_mod (ve_mul (ve_ixN 0 ve_int) (ve_ixN 0 ve_int)) ve_int) ve_int) (ve_var 1))))))
end
/-! _law_one -/
abbrev s_law_one : Stmt := topS 36
theorem sc_law_one : FnScope ["jar", "things"] ["jar", "things"] (defScope s_law_one) := ⟨rfl, rfl, rfl, by decide +kernel, rfl, by decide +kernel, by decide +kernel⟩
noncomputable def b_law_one : En → R Fl :=
  (dRet (dIxN 1 (dFn 2 m_law_take (aSl 0 (aIm (dLenN 1) aNil)))))
noncomputable def m_law_one : En → R L := dDef 2 b_law_one
section
variable {P : Program} {wd : World} {K : PySem.W.Frag} {mg : Str → Option Value} {base : Heap}
theorem ok_law_one (T : Tx K mg) : FnOk P wd K mg base (L2.CX P wd) 2 (He.ga K "_law_one") (fd_law_one T) ["jar", "things"] (spD K (caK [] K) 2 m_law_one) :=
  fn_denD (F_law_one T) sc_law_one fun cdv A outer s H E g =>
  (vss_one (vs_ret (ve_ixN 1 (ve_call (ok_law_take T) (g.hr.mono (by decide)) g.tk rfl (by rfl) (g_law_take T) (F_law_take T).kp (bi_law_take T) (va_sl 0 (va_im (ve_lenN 1 (by rfl) T.n_len) va_nil))))))
end
/-! _law_tb_whole -/
abbrev s_law_tb_whole : Stmt := topS 37
theorem sc_law_tb_whole : FnScope ["thing"] ["thing"] (defScope s_law_tb_whole) := ⟨rfl, rfl, rfl, by decide +kernel, rfl, by decide +kernel, by decide +kernel⟩
noncomputable def b_law_tb_whole : En → R Fl :=
  (dRet (dAndV (dIsi "int" (dVar 0)) (dB (dNot (dIsi "bool" (dVar 0))))))
noncomputable def m_law_tb_whole : En → R L := dDef 1 b_law_tb_whole
section
variable {P : Program} {wd : World} {K : PySem.W.Frag} {mg : Str → Option Value} {base : Heap}
theorem ok_law_tb_whole (T : Tx K mg) : FnOk P wd K mg base (L2.CX P wd) 1 (He.ga K "_law_tb_whole") (fd_law_tb_whole T) ["thing"] (spD K (caK [] K) 1 m_law_tb_whole) :=
  fn_denD (F_law_tb_whole T) sc_law_tb_whole fun cdv A outer s H E g =>
  (vss_one (vs_ret (ve_and (ve_isi (by rfl) T.n_isinstance (ve_var 0) (by rfl) T.n_int boot_ty_int) (ve_and1 (ve_not (ve_isi (by rfl) T.n_isinstance (ve_var 0) (by rfl) T.n_bool boot_ty_bool))))))
end
/-! _law_tb_common -/
abbrev s_law_tb_common : Stmt := topS 38
theorem sc_law_tb_common : FnScope ["one", "other"] ["one", "other"] (defScope s_law_tb_common) := ⟨rfl, rfl, rfl, by decide +kernel, rfl, by decide +kernel, by decide +kernel⟩
noncomputable def b_law_tb_common_l1 : En → R Fl :=
  (dPar 0 1 (aIm (dVar 1) (aIm (dOp gMod (dVar 0) (dVar 1)) aNil)))
noncomputable def b_law_tb_common : En → R Fl :=
  (dSeq (dWhile (dCmp gNe (dVar 1) (dC (.int 0))) b_law_tb_common_l1)
  (dRet (dVar 0)))
noncomputable def m_law_tb_common : En → R L := dDef 2 b_law_tb_common
section
variable {P : Program} {wd : World} {K : PySem.W.Frag} {mg : Str → Option Value} {base : Heap}
theorem ok_law_tb_common (T : Tx K mg) : FnOk P wd K mg base (L2.CX P wd) 1 (He.ga K "_law_tb_common") (fd_law_tb_common T) ["one", "other"] (spD K (caK [] K) 2 m_law_tb_common) :=
  fn_denD (F_law_tb_common T) sc_law_tb_common fun cdv A outer s H E g =>
  (vss_cons (vs_while g.po (vt_cmp (op_neD g.hr.units) ob_ne (ve_var 1) ve_int (nomark _))
   (vss_one (vs_par 0 1 g.calm sc_law_tb_common.nd (va_im (ve_var 1) (va_im (ve_mod (ve_var 0) (ve_var 1)) va_nil)))))
  (vss_one (vs_ret (ve_var 0))))
end
/-! _law_tb_made -/
abbrev s_law_tb_made : Stmt := topS 39
theorem sc_law_tb_made : FnScope ["top", "bottom", "common"] ["top", "bottom"] (defScope s_law_tb_made) := ⟨rfl, rfl, rfl, by decide +kernel, rfl, by decide +kernel, by decide +kernel⟩
noncomputable def b_law_tb_made : En → R Fl :=
  (dSeq (dAsg (putIm 2) (dOp gMul (dFn 2 m_law_tb_common (aIm (dCall gAbs (aIm (dVar 0) aNil)) (aIm (dCall gAbs (aIm (dVar 1) aNil)) aNil))) (dIfE (dCmp gGt (dVar 1) (dC (.int 0))) (dC (.int 1)) (d1 gNeg (dC (.int 1))))))
  (dRet (dTup (aIm (dOp gFdiv (dVar 0) (dVar 2)) (aIm (dOp gFdiv (dVar 1) (dVar 2)) aNil)))))
noncomputable def m_law_tb_made : En → R L := dDef 3 b_law_tb_made
section
variable {P : Program} {wd : World} {K : PySem.W.Frag} {mg : Str → Option Value} {base : Heap}
theorem ok_law_tb_made (T : Tx K mg) : FnOk P wd K mg base (L2.CX P wd) 2 (He.ga K "_law_tb_made") (fd_law_tb_made T) ["top", "bottom"] (spD K (caK [] K) 2 m_law_tb_made) :=
  fn_denD (F_law_tb_made T) sc_law_tb_made fun cdv A outer s H E g =>
  (vss_cons (vs_set 2 sc_law_tb_made.nd (ve_mul (ve_call (ok_law_tb_common T) (g.hr.mono (by decide)) g.tk rfl (by rfl) (g_law_tb_common T) (F_law_tb_common T).kp (bi_law_tb_common T) (va_im (ve_cB call_abs cs_abs (by rfl) T.n_abs boot_B_abs (va_im (ve_var 0) va_nil)) (va_im (ve_cB call_abs cs_abs (by rfl) T.n_abs boot_B_abs (va_im (ve_var 1) va_nil)) va_nil))) (ve_ifE (vt_cmp op_gtA ob_gt (ve_var 1) ve_int (nomark _)) ve_int (ve_neg ve_int))))
  (vss_one (vs_ret (ve_tup (va_im (ve_fdiv (ve_var 0) (ve_var 2)) (va_im (ve_fdiv (ve_var 1) (ve_var 2)) va_nil))))))
end
/-! _law_tb_plus -/
abbrev s_law_tb_plus : Stmt := topS 40
theorem sc_law_tb_plus : FnScope ["one", "other"] ["one", "other"] (defScope s_law_tb_plus) := ⟨rfl, rfl, rfl, by decide +kernel, rfl, by decide +kernel, by decide +kernel⟩
noncomputable def b_law_tb_plus : En → R Fl :=
  (dRet (dFn 2 m_law_tb_made (aIm (dOp gAdd (dOp gMul (dIxN 0 (dC (.int 0))) (dIxN 1 (dC (.int 1)))) (dOp gMul (dIxN 1 (dC (.int 0))) (dIxN 0 (dC (.int 1))))) (aIm (dOp gMul (dIxN 0 (dC (.int 1))) (dIxN 1 (dC (.int 1)))) aNil))))
noncomputable def m_law_tb_plus : En → R L := dDef 2 b_law_tb_plus
section
variable {P : Program} {wd : World} {K : PySem.W.Frag} {mg : Str → Option Value} {base : Heap}
theorem ok_law_tb_plus (T : Tx K mg) : FnOk P wd K mg base (L2.CX P wd) 3 (He.ga K "_law_tb_plus") (fd_law_tb_plus T) ["one", "other"] (spD K (caK [] K) 2 m_law_tb_plus) :=
  fn_denD (F_law_tb_plus T) sc_law_tb_plus fun cdv A outer s H E g =>
  (vss_one (vs_ret (ve_call (ok_law_tb_made T) (g.hr.mono (by decide)) g.tk rfl (by rfl) (g_law_tb_made T) (F_law_tb_made T).kp (bi_law_tb_made T) (va_im (ve_add (ve_mul (ve_ixN 0 ve_int) (ve_ixN 1 ve_int)) (ve_mul (ve_ixN 1 ve_int) (ve_ixN 0 ve_int))) (va_im (ve_mul (ve_ixN 0 ve_int) (ve_ixN 1 ve_int)) va_nil)))))
end
/-! _law_tb_minus -/
abbrev s_law_tb_minus : Stmt := topS 41
theorem sc_law_tb_minus : FnScope ["one", "other"] ["one", "other"] (defScope s_law_tb_minus) := ⟨rfl, rfl, rfl, by decide +kernel, rfl, by decide +kernel, by decide +kernel⟩
noncomputable def b_law_tb_minus : En → R Fl :=
  (dRet (dFn 2 m_law_tb_made (aIm (dOp gSub (dOp gMul (dIxN 0 (dC (.int 0))) (dIxN 1 (dC (.int 1)))) (dOp gMul (dIxN 1 (dC (.int 0))) (dIxN 0 (dC (.int 1))))) (aIm (dOp gMul (dIxN 0 (dC (.int 1))) (dIxN 1 (dC (.int 1)))) aNil))))
noncomputable def m_law_tb_minus : En → R L := dDef 2 b_law_tb_minus
section
variable {P : Program} {wd : World} {K : PySem.W.Frag} {mg : Str → Option Value} {base : Heap}
theorem ok_law_tb_minus (T : Tx K mg) : FnOk P wd K mg base (L2.CX P wd) 3 (He.ga K "_law_tb_minus") (fd_law_tb_minus T) ["one", "other"] (spD K (caK [] K) 2 m_law_tb_minus) :=
  fn_denD (F_law_tb_minus T) sc_law_tb_minus fun cdv A outer s H E g =>
  (vss_one (vs_ret (ve_call (ok_law_tb_made T) (g.hr.mono (by decide)) g.tk rfl (by rfl) (g_law_tb_made T) (F_law_tb_made T).kp (bi_law_tb_made T) (va_im (ve_sub (ve_mul (ve_ixN 0 ve_int) (ve_ixN 1 ve_int)) (ve_mul (ve_ixN 1 ve_int) (ve_ixN 0 ve_int))) (va_im (ve_mul (ve_ixN 0 ve_int) (ve_ixN 1 ve_int)) va_nil)))))
end
/-! _law_tb_times -/
abbrev s_law_tb_times : Stmt := topS 42
theorem sc_law_tb_times : FnScope ["one", "other"] ["one", "other"] (defScope s_law_tb_times) := ⟨rfl, rfl, rfl, by decide +kernel, rfl, by decide +kernel, by decide +kernel⟩
noncomputable def b_law_tb_times : En → R Fl :=
  (dRet (dFn 2 m_law_tb_made (aIm (dOp gMul (dIxN 0 (dC (.int 0))) (dIxN 1 (dC (.int 0)))) (aIm (dOp gMul (dIxN 0 (dC (.int 1))) (dIxN 1 (dC (.int 1)))) aNil))))
noncomputable def m_law_tb_times : En → R L := dDef 2 b_law_tb_times
section
variable {P : Program} {wd : World} {K : PySem.W.Frag} {mg : Str → Option Value} {base : Heap}
theorem ok_law_tb_times (T : Tx K mg) : FnOk P wd K mg base (L2.CX P wd) 3 (He.ga K "_law_tb_times") (fd_law_tb_times T) ["one", "other"] (spD K (caK [] K) 2 m_law_tb_times) :=
  fn_denD (F_law_tb_times T) sc_law_tb_times fun cdv A outer s H E g =>
  (vss_one (vs_ret (ve_call (ok_law_tb_made T) (g.hr.mono (by decide)) g.tk rfl (by rfl) (g_law_tb_made T) (F_law_tb_made T).kp (bi_law_tb_made T) (va_im (ve_mul (ve_ixN 0 ve_int) (ve_ixN 1 ve_int)) (va_im (ve_mul (ve_ixN 0 ve_int) (ve_ixN 1 ve_int)) va_nil)))))
end
/-! _law_tb_over -/
abbrev s_law_tb_over : Stmt := topS 43
theorem sc_law_tb_over : FnScope ["one", "other"] ["one", "other"] (defScope s_law_tb_over) := ⟨rfl, rfl, rfl, by decide +kernel, rfl, by decide +kernel, by decide +kernel⟩
noncomputable def b_law_tb_over : En → R Fl :=
  (dRet (dFn 2 m_law_tb_made (aIm (dOp gMul (dIxN 0 (dC (.int 0))) (dIxN 1 (dC (.int 1)))) (aIm (dOp gMul (dIxN 0 (dC (.int 1))) (dIxN 1 (dC (.int 0)))) aNil))))
noncomputable def m_law_tb_over : En → R L := dDef 2 b_law_tb_over
section
variable {P : Program} {wd : World} {K : PySem.W.Frag} {mg : Str → Option Value} {base : Heap}
theorem ok_law_tb_over (T : Tx K mg) : FnOk P wd K mg base (L2.CX P wd) 3 (He.ga K "_law_tb_over") (fd_law_tb_over T) ["one", "other"] (spD K (caK [] K) 2 m_law_tb_over) :=
  fn_denD (F_law_tb_over T) sc_law_tb_over fun cdv A outer s H E g =>
  (vss_one (vs_ret (ve_call (ok_law_tb_made T) (g.hr.mono (by decide)) g.tk rfl (by rfl) (g_law_tb_made T) (F_law_tb_made T).kp (bi_law_tb_made T) (va_im (ve_mul (ve_ixN 0 ve_int) (ve_ixN 1 ve_int)) (va_im (ve_mul (ve_ixN 0 ve_int) (ve_ixN 1 ve_int)) va_nil)))))
end
/-! _law_tb_less -/
abbrev s_law_tb_less : Stmt := topS 44
theorem sc_law_tb_less : FnScope ["one", "other"] ["one", "other"] (defScope s_law_tb_less) := ⟨rfl, rfl, rfl, by decide +kernel, rfl, by decide +kernel, by decide +kernel⟩
noncomputable def b_law_tb_less : En → R Fl :=
  (dRet (dB (dCmp gLt (dOp gMul (dIxN 0 (dC (.int 0))) (dIxN 1 (dC (.int 1)))) (dOp gMul (dIxN 1 (dC (.int 0))) (dIxN 0 (dC (.int 1)))))))
noncomputable def m_law_tb_less : En → R L := dDef 2 b_law_tb_less
section
variable {P : Program} {wd : World} {K : PySem.W.Frag} {mg : Str → Option Value} {base : Heap}
theorem ok_law_tb_less (T : Tx K mg) : FnOk P wd K mg base (L2.CX P wd) 1 (He.ga K "_law_tb_less") (fd_law_tb_less T) ["one", "other"] (spD K (caK [] K) 2 m_law_tb_less) :=
  fn_denD (F_law_tb_less T) sc_law_tb_less fun cdv A outer s H E g =>
  (vss_one (vs_ret (ve_cmp op_ltA ob_lt (ve_mul (ve_ixN 0 ve_int) (ve_ixN 1 ve_int)) (ve_mul (ve_ixN 1 ve_int) (ve_ixN 0 ve_int)) (nomark _))))
end
/-! _law_tb_floor -/
abbrev s_law_tb_floor : Stmt := topS 45
theorem sc_law_tb_floor : FnScope ["one"] ["one"] (defScope s_law_tb_floor) := ⟨rfl, rfl, rfl, by decide +kernel, rfl, by decide +kernel, by decide +kernel⟩
noncomputable def b_law_tb_floor : En → R Fl :=
  (dRet (dOp gFdiv (dIxN 0 (dC (.int 0))) (dIxN 0 (dC (.int 1)))))
noncomputable def m_law_tb_floor : En → R L := dDef 1 b_law_tb_floor
section
variable {P : Program} {wd : World} {K : PySem.W.Frag} {mg : Str → Option Value} {base : Heap}
theorem ok_law_tb_floor (T : Tx K mg) : FnOk P wd K mg base (L2.CX P wd) 1 (He.ga K "_law_tb_floor") (fd_law_tb_floor T) ["one"] (spD K (caK [] K) 1 m_law_tb_floor) :=
  fn_denD (F_law_tb_floor T) sc_law_tb_floor fun cdv A outer s H E g =>
  (vss_one (vs_ret (ve_fdiv (ve_ixN 0 ve_int) (ve_ixN 0 ve_int))))
end
/-! _law_tb_rounded -/
abbrev s_law_tb_rounded : Stmt := topS 46
theorem sc_law_tb_rounded : FnScope ["one"] ["one"] (defScope s_law_tb_rounded) := ⟨rfl, rfl, rfl, by decide +kernel, rfl, by decide +kernel, by decide +kernel⟩
noncomputable def b_law_tb_rounded : En → R Fl :=
  (dRet (dOp gFdiv (dOp gAdd (dOp gMul (dC (.int 2)) (dIxN 0 (dC (.int 0)))) (dIxN 0 (dC (.int 1)))) (dOp gMul (dC (.int 2)) (dIxN 0 (dC (.int 1))))))
noncomputable def m_law_tb_rounded : En → R L := dDef 1 b_law_tb_rounded
section
variable {P : Program} {wd : World} {K : PySem.W.Frag} {mg : Str → Option Value} {base : Heap}
theorem ok_law_tb_rounded (T : Tx K mg) : FnOk P wd K mg base (L2.CX P wd) 1 (He.ga K "_law_tb_rounded") (fd_law_tb_rounded T) ["one"] (spD K (caK [] K) 1 m_law_tb_rounded) :=
  fn_denD (F_law_tb_rounded T) sc_law_tb_rounded fun cdv A outer s H E g =>
  (vss_one (vs_ret (ve_fdiv (ve_add (ve_mul ve_int (ve_ixN 0 ve_int)) (ve_ixN 0 ve_int)) (ve_mul ve_int (ve_ixN 0 ve_int)))))
end
/-! _law_tb_power -/
abbrev s_law_tb_power : Stmt := topS 47
theorem sc_law_tb_power : FnScope ["base", "many", "found", "go"] ["base", "many"] (defScope s_law_tb_power) := ⟨rfl, rfl, rfl, by decide +kernel, rfl, by decide +kernel, by decide +kernel⟩
noncomputable def b_law_tb_power_l1 : En → R Fl :=
  (dAsg (putIm 2) (dOp gMul (dVar 2) (dVar 0)))
noncomputable def b_law_tb_power : En → R Fl :=
  (dSeq (dAsg (putIm 2) (dC (.int 1)))
  (dSeq (dFor (iRg1 (aIm (dCall gAbs (aIm (dVar 1) aNil)) aNil)) (putIm 3) b_law_tb_power_l1)
  (dRet (dIfE (dCmp gGe (dVar 1) (dC (.int 0))) (dTup (aIm (dVar 2) (aIm (dC (.int 1)) aNil))) (dTup (aIm (dC (.int 1)) (aIm (dVar 2) aNil)))))))
noncomputable def m_law_tb_power : En → R L := dDef 4 b_law_tb_power
section
variable {P : Program} {wd : World} {K : PySem.W.Frag} {mg : Str → Option Value} {base : Heap}
theorem ok_law_tb_power (T : Tx K mg) : FnOk P wd K mg base (L2.CX P wd) 1 (He.ga K "_law_tb_power") (fd_law_tb_power T) ["base", "many"] (spD K (caK [] K) 2 m_law_tb_power) :=
  fn_denD (F_law_tb_power T) sc_law_tb_power fun cdv A outer s H E g =>
  (vss_cons (vs_set 2 sc_law_tb_power.nd ve_int)
  (vss_cons (vs_for g.po g.calm (vi_range1 (by rfl) T.n_range (va_im (ve_cB call_abs cs_abs (by rfl) T.n_abs boot_B_abs (va_im (ve_var 1) va_nil)) va_nil)) (vg_name 3 sc_law_tb_power.nd) nox_put
   (vss_one (vs_set 2 sc_law_tb_power.nd (ve_mul (ve_var 2) (ve_var 0)))))
  (vss_one (vs_ret (ve_ifE (vt_cmp op_geA ob_ge (ve_var 1) ve_int (nomark _)) (ve_tup (va_im (ve_var 2) (va_im ve_int va_nil))) (ve_tup (va_im ve_int (va_im (ve_var 2) va_nil))))))))
end
/-! _law_tb_between -/
abbrev s_law_tb_between : Stmt := topS 48
theorem sc_law_tb_between : FnScope ["lo", "one", "hi"] ["lo", "one", "hi"] (defScope s_law_tb_between) := ⟨rfl, rfl, rfl, by decide +kernel, rfl, by decide +kernel, by decide +kernel⟩
noncomputable def b_law_tb_between : En → R Fl :=
  (dRet (dAndV (dNot (dUB (dFn 2 m_law_tb_less (aIm (dVar 1) (aIm (dVar 0) aNil))))) (dB (dNot (dUB (dFn 2 m_law_tb_less (aIm (dVar 2) (aIm (dVar 1) aNil))))))))
noncomputable def m_law_tb_between : En → R L := dDef 3 b_law_tb_between
section
variable {P : Program} {wd : World} {K : PySem.W.Frag} {mg : Str → Option Value} {base : Heap}
theorem ok_law_tb_between (T : Tx K mg) : FnOk P wd K mg base (L2.CX P wd) 2 (He.ga K "_law_tb_between") (fd_law_tb_between T) ["lo", "one", "hi"] (spD K (caK [] K) 3 m_law_tb_between) :=
  fn_denD (F_law_tb_between T) sc_law_tb_between fun cdv A outer s H E g =>
  (vss_one (vs_ret (ve_and (ve_not (ve_ub (ve_call (ok_law_tb_less T) (g.hr.mono (by decide)) g.tk rfl (by rfl) (g_law_tb_less T) (F_law_tb_less T).kp (bi_law_tb_less T) (va_im (ve_var 1) (va_im (ve_var 0) va_nil))))) (ve_and1 (ve_not (ve_ub (ve_call (ok_law_tb_less T) (g.hr.mono (by decide)) g.tk rfl (by rfl) (g_law_tb_less T) (F_law_tb_less T).kp (bi_law_tb_less T) (va_im (ve_var 2) (va_im (ve_var 1) va_nil)))))))))
end
/-! _law_tb_along -/
abbrev s_law_tb_along : Stmt := topS 49
theorem sc_law_tb_along : FnScope ["lo", "hi", "begin", "end", "cell", "part"] ["lo", "hi", "begin", "end", "cell"] (defScope s_law_tb_along) := ⟨rfl, rfl, rfl, by decide +kernel, rfl, by decide +kernel, by decide +kernel⟩
noncomputable def b_law_tb_along : En → R Fl :=
  (dSeq (dAsg (putIm 5) (dFn 2 m_law_tb_over (aIm (dFn 2 m_law_tb_minus (aIm (dVar 4) (aIm (dVar 0) aNil))) (aIm (dFn 2 m_law_tb_minus (aIm (dVar 1) (aIm (dVar 0) aNil))) aNil))))
  (dRet (dFn 2 m_law_tb_plus (aIm (dVar 2) (aIm (dFn 2 m_law_tb_times (aIm (dVar 5) (aIm (dFn 2 m_law_tb_minus (aIm (dVar 3) (aIm (dVar 2) aNil))) aNil))) aNil)))))
noncomputable def m_law_tb_along : En → R L := dDef 6 b_law_tb_along
section
variable {P : Program} {wd : World} {K : PySem.W.Frag} {mg : Str → Option Value} {base : Heap}
theorem ok_law_tb_along (T : Tx K mg) : FnOk P wd K mg base (L2.CX P wd) 4 (He.ga K "_law_tb_along") (fd_law_tb_along T) ["lo", "hi", "begin", "end", "cell"] (spD K (caK [] K) 5 m_law_tb_along) :=
  fn_denD (F_law_tb_along T) sc_law_tb_along fun cdv A outer s H E g =>
  (vss_cons (vs_set 5 sc_law_tb_along.nd (ve_call (ok_law_tb_over T) (g.hr.mono (by decide)) g.tk rfl (by rfl) (g_law_tb_over T) (F_law_tb_over T).kp (bi_law_tb_over T) (va_im (ve_call (ok_law_tb_minus T) (g.hr.mono (by decide)) g.tk rfl (by rfl) (g_law_tb_minus T) (F_law_tb_minus T).kp (bi_law_tb_minus T) (va_im (ve_var 4) (va_im (ve_var 0) va_nil))) (va_im (ve_call (ok_law_tb_minus T) (g.hr.mono (by decide)) g.tk rfl (by rfl) (g_law_tb_minus T) (F_law_tb_minus T).kp (bi_law_tb_minus T) (va_im (ve_var 1) (va_im (ve_var 0) va_nil))) va_nil))))
  (vss_one (vs_ret (ve_call (ok_law_tb_plus T) (g.hr.mono (by decide)) g.tk rfl (by rfl) (g_law_tb_plus T) (F_law_tb_plus T).kp (bi_law_tb_plus T) (va_im (ve_var 2) (va_im (ve_call (ok_law_tb_times T) (g.hr.mono (by decide)) g.tk rfl (by rfl) (g_law_tb_times T) (F_law_tb_times T).kp (bi_law_tb_times T) (va_im (ve_var 5) (va_im (ve_call (ok_law_tb_minus T) (g.hr.mono (by decide)) g.tk rfl (by rfl) (g_law_tb_minus T) (F_law_tb_minus T).kp (bi_law_tb_minus T) (va_im (ve_var 3) (va_im (ve_var 2) va_nil))) va_nil))) va_nil))))))
end
/-! _law_tb_pieces -/
abbrev s_law_tb_pieces : Stmt := topS 50
theorem sc_law_tb_pieces : FnScope ["scale", "word", "base", "low", "many", "length", "found", "k", "begin", "end", "lo", "hi"] ["scale"] (defScope s_law_tb_pieces) := ⟨rfl, rfl, rfl, by decide +kernel, rfl, by decide +kernel, by decide +kernel⟩
noncomputable def b_law_tb_pieces_l1 : D → En → R (Option D) :=
  (lcT (gTupD 4 (gsCons (putIm 10) (gsCons (putIm 11) (gsCons (putIm 8) (gsCons (putIm 9) gsNil))))) tT
   (dTup (aIm (dVar 10) (aIm (dVar 11) (aIm (dTup (aIm (dVar 8) (aIm (dC (.int 1)) aNil))) (aIm (dTup (aIm (dVar 9) (aIm (dC (.int 1)) aNil))) aNil))))))
noncomputable def b_law_tb_pieces_l2 : En → R Fl :=
  (dSeq (dPar 8 9 (aIm (dFn 2 m_law_tb_made (aIm (dOp gMul (dVar 7) (dVar 5)) (aIm (dVar 4) aNil))) (aIm (dFn 2 m_law_tb_made (aIm (dOp gMul (dOp gAdd (dVar 7) (dC (.int 1))) (dVar 5)) (aIm (dVar 4) aNil))) aNil)))
  (dApp 6 (dTup (aIm (dFn 2 m_law_tb_power (aIm (dVar 2) (aIm (dOp gAdd (dVar 3) (dVar 7)) aNil))) (aIm (dFn 2 m_law_tb_power (aIm (dVar 2) (aIm (dOp gAdd (dOp gAdd (dVar 3) (dVar 7)) (dC (.int 1))) aNil))) (aIm (dVar 8) (aIm (dVar 9) aNil)))))))
noncomputable def b_law_tb_pieces : En → R Fl :=
  (dSeq (dIf (dCmp gEq (dIxN 0 (dC (.int 0))) (dC (.str "broken")))
   (dRetL (nLc (iD (dIxN 0 (dC (.int 1)))) b_law_tb_pieces_l1 [10, 11, 8, 9]))
   dNx)
  (dSeq (dIf (dCmp gEq (dIxN 0 (dC (.int 0))) (dC (.str "days")))
   (dRetL (nLst (aIm (dTup (aIm (dTup (aIm (dIxN 0 (dC (.int 1))) (aIm (dC (.int 1)) aNil))) (aIm (dTup (aIm (dIxN 0 (dC (.int 2))) (aIm (dC (.int 1)) aNil))) (aIm (dTup (aIm (dC (.int 0)) (aIm (dC (.int 1)) aNil))) (aIm (dTup (aIm (dIxN 0 (dC (.int 3))) (aIm (dC (.int 1)) aNil))) aNil))))) aNil)))
   dNx)
  (dSeq (dIf (dCmp gEq (dIxN 0 (dC (.int 0))) (dC (.str "straight")))
   (dRetL (nLst (aIm (dTup (aIm (dIxN 0 (dC (.int 1))) (aIm (dIxN 0 (dC (.int 2))) (aIm (dTup (aIm (dC (.int 0)) (aIm (dC (.int 1)) aNil))) (aIm (dTup (aIm (dIxN 0 (dC (.int 3))) (aIm (dC (.int 1)) aNil))) aNil))))) aNil)))
   dNx)
  (dSeq (dAsg (gTupD 5 (gsCons (putIm 1) (gsCons (putIm 2) (gsCons (putIm 3) (gsCons (putIm 4) (gsCons (putIm 5) gsNil)))))) (dVar 0))
  (dSeq (dAsgL 6 (nLst aNil))
  (dSeq (dFor (iRg1 (aIm (dVar 4) aNil)) (putIm 7) b_law_tb_pieces_l2)
  (dRetV 6)))))))
noncomputable def m_law_tb_pieces : En → R L := dDef 12 b_law_tb_pieces
section
variable {P : Program} {wd : World} {K : PySem.W.Frag} {mg : Str → Option Value} {base : Heap}
theorem ok_law_tb_pieces (T : Tx K mg) : FnOk P wd K mg base (L2.CX P wd) 3 (He.ga K "_law_tb_pieces") (fd_law_tb_pieces T) ["scale"] (spD K (caK [] K) 1 m_law_tb_pieces) :=
  fn_denD (F_law_tb_pieces T) sc_law_tb_pieces fun cdv A outer s H E g =>
  (vss_cons (vs_if (vt_cmp (op_eqD g.hr.units) ob_eq (ve_ixN 0 ve_int) ve_str (nomark _))
   (vss_one (vs_retL (vn_lcG [("lo", 10), ("hi", 11), ("begin", 8), ("end", 9)] g sc_law_tb_pieces.nd (vi_val (ve_ixN 0 ve_int)) (by kernel_rfl)
   (fun s H C cl fp g => (vgc_tup g.calm (vgcs_cons (vgc_name 10 (by decide) sc_law_tb_pieces.nd) (vgcs_cons (vgc_name 11 (by decide) sc_law_tb_pieces.nd) (vgcs_cons (vgc_name 8 (by decide) sc_law_tb_pieces.nd) (vgcs_cons (vgc_name 9 (by decide) sc_law_tb_pieces.nd) vgcs_nil)))))) (fun s H C cl fp g => vts_nil)
   (fun s H C cl fp g => (ve_tup (va_im (ve_var 10) (va_im (ve_var 11) (va_im (ve_tup (va_im (ve_var 8) (va_im ve_int va_nil))) (va_im (ve_tup (va_im (ve_var 9) (va_im ve_int va_nil))) va_nil)))))))))
   vss_nil)
  (vss_cons (vs_if (vt_cmp (op_eqD g.hr.units) ob_eq (ve_ixN 0 ve_int) ve_str (nomark _))
   (vss_one (vs_retL (vn_lst (va_im (ve_tup (va_im (ve_tup (va_im (ve_ixN 0 ve_int) (va_im ve_int va_nil))) (va_im (ve_tup (va_im (ve_ixN 0 ve_int) (va_im ve_int va_nil))) (va_im (ve_tup (va_im ve_int (va_im ve_int va_nil))) (va_im (ve_tup (va_im (ve_ixN 0 ve_int) (va_im ve_int va_nil))) va_nil))))) va_nil))))
   vss_nil)
  (vss_cons (vs_if (vt_cmp (op_eqD g.hr.units) ob_eq (ve_ixN 0 ve_int) ve_str (nomark _))
   (vss_one (vs_retL (vn_lst (va_im (ve_tup (va_im (ve_ixN 0 ve_int) (va_im (ve_ixN 0 ve_int) (va_im (ve_tup (va_im ve_int (va_im ve_int va_nil))) (va_im (ve_tup (va_im (ve_ixN 0 ve_int) (va_im ve_int va_nil))) va_nil))))) va_nil))))
   vss_nil)
  (vss_cons (vs_asg (ve_var 0) (vg_tup g.calm (vgs_cons (vg_name 1 sc_law_tb_pieces.nd) (vgs_cons (vg_name 2 sc_law_tb_pieces.nd) (vgs_cons (vg_name 3 sc_law_tb_pieces.nd) (vgs_cons (vg_name 4 sc_law_tb_pieces.nd) (vgs_cons (vg_name 5 sc_law_tb_pieces.nd) vgs_nil)))))) (nox_tup (nox_cons nox_put (nox_cons nox_put (nox_cons nox_put (nox_cons nox_put (nox_cons nox_put nox_nil)))))))
  (vss_cons (vs_setL 6 sc_law_tb_pieces.nd (vn_lst va_nil))
  (vss_cons (vs_for g.po g.calm (vi_range1 (by rfl) T.n_range (va_im (ve_var 4) va_nil)) (vg_name 7 sc_law_tb_pieces.nd) nox_put
   (vss_cons (vs_par 8 9 g.calm sc_law_tb_pieces.nd (va_im (ve_call (ok_law_tb_made T) (g.hr.mono (by decide)) g.tk rfl (by rfl) (g_law_tb_made T) (F_law_tb_made T).kp (bi_law_tb_made T) (va_im (ve_mul (ve_var 7) (ve_var 5)) (va_im (ve_var 4) va_nil))) (va_im (ve_call (ok_law_tb_made T) (g.hr.mono (by decide)) g.tk rfl (by rfl) (g_law_tb_made T) (F_law_tb_made T).kp (bi_law_tb_made T) (va_im (ve_mul (ve_add (ve_var 7) ve_int) (ve_var 5)) (va_im (ve_var 4) va_nil))) va_nil)))
  (vss_one (vs_append 6 (ve_tup (va_im (ve_call (ok_law_tb_power T) (g.hr.mono (by decide)) g.tk rfl (by rfl) (g_law_tb_power T) (F_law_tb_power T).kp (bi_law_tb_power T) (va_im (ve_var 2) (va_im (ve_add (ve_var 3) (ve_var 7)) va_nil))) (va_im (ve_call (ok_law_tb_power T) (g.hr.mono (by decide)) g.tk rfl (by rfl) (g_law_tb_power T) (F_law_tb_power T).kp (bi_law_tb_power T) (va_im (ve_var 2) (va_im (ve_add (ve_add (ve_var 3) (ve_var 7)) ve_int) va_nil))) (va_im (ve_var 8) (va_im (ve_var 9) va_nil)))))))))
  (vss_one (vs_retV 6))))))))
end
/-! _law_tb_place -/
abbrev s_law_tb_place : Stmt := topS 51
theorem sc_law_tb_place : FnScope ["scale", "cell", "lo", "hi", "begin", "end"] ["scale", "cell"] (defScope s_law_tb_place) := ⟨rfl, rfl, rfl, by decide +kernel, rfl, by decide +kernel, by decide +kernel⟩
noncomputable def b_law_tb_place_l1 : En → R Fl :=
  (dIf (dTru (dFn 3 m_law_tb_between (aIm (dVar 2) (aIm (dVar 1) (aIm (dVar 3) aNil)))))
   (dRet (dFn 5 m_law_tb_along (aIm (dVar 2) (aIm (dVar 3) (aIm (dVar 4) (aIm (dVar 5) (aIm (dVar 1) aNil)))))))
   dNx)
noncomputable def b_law_tb_place : En → R Fl :=
  (dSeq (dFor (iD (dFn 1 m_law_tb_pieces (aIm (dVar 0) aNil))) (gTupD 4 (gsCons (putIm 2) (gsCons (putIm 3) (gsCons (putIm 4) (gsCons (putIm 5) gsNil))))) b_law_tb_place_l1)
  (dRet (dC .none)))
noncomputable def m_law_tb_place : En → R L := dDef 6 b_law_tb_place
section
variable {P : Program} {wd : World} {K : PySem.W.Frag} {mg : Str → Option Value} {base : Heap}
theorem ok_law_tb_place (T : Tx K mg) : FnOk P wd K mg base (L2.CX P wd) 5 (He.ga K "_law_tb_place") (fd_law_tb_place T) ["scale", "cell"] (spD K (caK [] K) 2 m_law_tb_place) :=
  fn_denD (F_law_tb_place T) sc_law_tb_place fun cdv A outer s H E g =>
  (vss_cons (vs_for g.po g.calm (vi_val (ve_call (ok_law_tb_pieces T) (g.hr.mono (by decide)) g.tk rfl (by rfl) (g_law_tb_pieces T) (F_law_tb_pieces T).kp (bi_law_tb_pieces T) (va_im (ve_var 0) va_nil))) (vg_tup g.calm (vgs_cons (vg_name 2 sc_law_tb_place.nd) (vgs_cons (vg_name 3 sc_law_tb_place.nd) (vgs_cons (vg_name 4 sc_law_tb_place.nd) (vgs_cons (vg_name 5 sc_law_tb_place.nd) vgs_nil))))) (nox_tup (nox_cons nox_put (nox_cons nox_put (nox_cons nox_put (nox_cons nox_put nox_nil)))))
   (vss_one (vs_if (vt_tru (ve_call (ok_law_tb_between T) (g.hr.mono (by decide)) g.tk rfl (by rfl) (g_law_tb_between T) (F_law_tb_between T).kp (bi_law_tb_between T) (va_im (ve_var 2) (va_im (ve_var 1) (va_im (ve_var 3) va_nil)))))
   (vss_one (vs_ret (ve_call (ok_law_tb_along T) (g.hr.mono (by decide)) g.tk rfl (by rfl) (g_law_tb_along T) (F_law_tb_along T).kp (bi_law_tb_along T) (va_im (ve_var 2) (va_im (ve_var 3) (va_im (ve_var 4) (va_im (ve_var 5) (va_im (ve_var 1) va_nil))))))))
   vss_nil)))
  (vss_one (vs_ret ve_non)))
end
/-! _law_tb_star_at -/
abbrev s_law_tb_star_at : Stmt := topS 52
theorem sc_law_tb_star_at : FnScope ["scale", "cell", "place"] ["scale", "cell"] (defScope s_law_tb_star_at) := ⟨rfl, rfl, rfl, by decide +kernel, rfl, by decide +kernel, by decide +kernel⟩
noncomputable def b_law_tb_star_at : En → R Fl :=
  (dSeq (dAsg (putIm 2) (dFn 2 m_law_tb_place (aIm (dVar 0) (aIm (dVar 1) aNil))))
  (dRet (dIfE (dCmp gIs (dVar 2) (dC .none)) (dC .none) (dFn 1 m_law_tb_rounded (aIm (dVar 2) aNil)))))
noncomputable def m_law_tb_star_at : En → R L := dDef 3 b_law_tb_star_at
section
variable {P : Program} {wd : World} {K : PySem.W.Frag} {mg : Str → Option Value} {base : Heap}
theorem ok_law_tb_star_at (T : Tx K mg) : FnOk P wd K mg base (L2.CX P wd) 6 (He.ga K "_law_tb_star_at") (fd_law_tb_star_at T) ["scale", "cell"] (spD K (caK [] K) 2 m_law_tb_star_at) :=
  fn_denD (F_law_tb_star_at T) sc_law_tb_star_at fun cdv A outer s H E g =>
  (vss_cons (vs_set 2 sc_law_tb_star_at.nd (ve_call (ok_law_tb_place T) (g.hr.mono (by decide)) g.tk rfl (by rfl) (g_law_tb_place T) (F_law_tb_place T).kp (bi_law_tb_place T) (va_im (ve_var 0) (va_im (ve_var 1) va_nil))))
  (vss_one (vs_ret (ve_ifE (vt_cmp op_isP ob_is (ve_var 2) ve_non (nomark _)) ve_non (ve_call (ok_law_tb_rounded T) (g.hr.mono (by decide)) g.tk rfl (by rfl) (g_law_tb_rounded T) (F_law_tb_rounded T).kp (bi_law_tb_rounded T) (va_im (ve_var 2) va_nil))))))
end
/-! _law_tb_read -/
abbrev s_law_tb_read : Stmt := topS 53
theorem sc_law_tb_read : FnScope ["scale", "place", "lo", "hi", "begin", "end"] ["scale", "place"] (defScope s_law_tb_read) := ⟨rfl, rfl, rfl, by decide +kernel, rfl, by decide +kernel, by decide +kernel⟩
noncomputable def b_law_tb_read_l1 : En → R Fl :=
  (dIf (dTru (dFn 3 m_law_tb_between (aIm (dVar 4) (aIm (dVar 1) (aIm (dVar 5) aNil)))))
   (dRet (dFn 5 m_law_tb_along (aIm (dVar 4) (aIm (dVar 5) (aIm (dVar 2) (aIm (dVar 3) (aIm (dVar 1) aNil)))))))
   dNx)
noncomputable def b_law_tb_read : En → R Fl :=
  (dSeq (dFor (iD (dFn 1 m_law_tb_pieces (aIm (dVar 0) aNil))) (gTupD 4 (gsCons (putIm 2) (gsCons (putIm 3) (gsCons (putIm 4) (gsCons (putIm 5) gsNil))))) b_law_tb_read_l1)
  (dRet (dC .none)))
noncomputable def m_law_tb_read : En → R L := dDef 6 b_law_tb_read
section
variable {P : Program} {wd : World} {K : PySem.W.Frag} {mg : Str → Option Value} {base : Heap}
theorem ok_law_tb_read (T : Tx K mg) : FnOk P wd K mg base (L2.CX P wd) 5 (He.ga K "_law_tb_read") (fd_law_tb_read T) ["scale", "place"] (spD K (caK [] K) 2 m_law_tb_read) :=
  fn_denD (F_law_tb_read T) sc_law_tb_read fun cdv A outer s H E g =>
  (vss_cons (vs_for g.po g.calm (vi_val (ve_call (ok_law_tb_pieces T) (g.hr.mono (by decide)) g.tk rfl (by rfl) (g_law_tb_pieces T) (F_law_tb_pieces T).kp (bi_law_tb_pieces T) (va_im (ve_var 0) va_nil))) (vg_tup g.calm (vgs_cons (vg_name 2 sc_law_tb_read.nd) (vgs_cons (vg_name 3 sc_law_tb_read.nd) (vgs_cons (vg_name 4 sc_law_tb_read.nd) (vgs_cons (vg_name 5 sc_law_tb_read.nd) vgs_nil))))) (nox_tup (nox_cons nox_put (nox_cons nox_put (nox_cons nox_put (nox_cons nox_put nox_nil)))))
   (vss_one (vs_if (vt_tru (ve_call (ok_law_tb_between T) (g.hr.mono (by decide)) g.tk rfl (by rfl) (g_law_tb_between T) (F_law_tb_between T).kp (bi_law_tb_between T) (va_im (ve_var 4) (va_im (ve_var 1) (va_im (ve_var 5) va_nil)))))
   (vss_one (vs_ret (ve_call (ok_law_tb_along T) (g.hr.mono (by decide)) g.tk rfl (by rfl) (g_law_tb_along T) (F_law_tb_along T).kp (bi_law_tb_along T) (va_im (ve_var 4) (va_im (ve_var 5) (va_im (ve_var 2) (va_im (ve_var 3) (va_im (ve_var 1) va_nil))))))))
   vss_nil)))
  (vss_one (vs_ret ve_non)))
end
/-! _law_tb_reach -/
abbrev s_law_tb_reach : Stmt := topS 54
theorem sc_law_tb_reach : FnScope ["scale", "along", "ends", "some", "begin", "end", "row"] ["scale", "along"] (defScope s_law_tb_reach) := ⟨rfl, rfl, rfl, by decide +kernel, rfl, by decide +kernel, by decide +kernel⟩
noncomputable def b_law_tb_reach_l1 : D → En → R (Option D) :=
  (lcT (putIm 6) tT
   (dTup (aIm (dIxN 6 (dC (.int 2))) (aIm (dIxN 6 (dC (.int 3))) aNil))))
noncomputable def b_law_tb_reach_l2 : D → En → R (Option D) :=
  (lcT (gTupD 2 (gsCons (putIm 4) (gsCons (putIm 5) gsNil))) (dTru (dFn 3 m_law_tb_between (aIm (dVar 4) (aIm (dTup (aIm (dVar 1) (aIm (dC (.int 1)) aNil))) (aIm (dVar 5) aNil)))))
   (dTup (aIm (dVar 4) (aIm (dVar 5) aNil))))
noncomputable def b_law_tb_reach : En → R Fl :=
  (dSeq (dAsg (putIm 2) (dIfE (dCmp gEq (dIxN 0 (dC (.int 0))) (dC (.str "broken"))) (dFz (nLc (iD (dFn 1 m_law_tb_pieces (aIm (dVar 0) aNil))) b_law_tb_reach_l1 [6])) (dLst (aIm (dTup (aIm (dTup (aIm (dC (.int 0)) (aIm (dC (.int 1)) aNil))) (aIm (dTup (aIm (dIxN 0 (d1 gNeg (dC (.int 1)))) (aIm (dC (.int 1)) aNil))) aNil))) aNil))))
  (dSeq (dAsg (putIm 3) (dFz (nLc (iD (dVar 2)) b_law_tb_reach_l2 [4, 5])))
  (dRet (dIfE (dCmp gNe (dVar 3) (dLst aNil)) (dIxN 3 (dC (.int 0))) (dC .none)))))
noncomputable def m_law_tb_reach : En → R L := dDef 7 b_law_tb_reach
section
variable {P : Program} {wd : World} {K : PySem.W.Frag} {mg : Str → Option Value} {base : Heap}
theorem ok_law_tb_reach (T : Tx K mg) : FnOk P wd K mg base (L2.CX P wd) 4 (He.ga K "_law_tb_reach") (fd_law_tb_reach T) ["scale", "along"] (spD K (caK [] K) 2 m_law_tb_reach) :=
  fn_denD (F_law_tb_reach T) sc_law_tb_reach fun cdv A outer s H E g =>
  (vss_cons (vs_set 2 sc_law_tb_reach.nd (ve_ifE (vt_cmp (op_eqD g.hr.units) ob_eq (ve_ixN 0 ve_int) ve_str (nomark _)) (ve_fz (vn_lcG [("row", 6)] g sc_law_tb_reach.nd (vi_val (ve_call (ok_law_tb_pieces T) (g.hr.mono (by decide)) g.tk rfl (by rfl) (g_law_tb_pieces T) (F_law_tb_pieces T).kp (bi_law_tb_pieces T) (va_im (ve_var 0) va_nil))) (by kernel_rfl)
   (fun s H C cl fp g => (vgc_name 6 (by decide) sc_law_tb_reach.nd)) (fun s H C cl fp g => vts_nil)
   (fun s H C cl fp g => (ve_tup (va_im (ve_ixN 6 ve_int) (va_im (ve_ixN 6 ve_int) va_nil)))))) (ve_lst (va_im (ve_tup (va_im (ve_tup (va_im ve_int (va_im ve_int va_nil))) (va_im (ve_tup (va_im (ve_ixN 0 (ve_neg ve_int)) (va_im ve_int va_nil))) va_nil))) va_nil))))
  (vss_cons (vs_setLiG 3 [("begin", 4), ("end", 5)] g sc_law_tb_reach.nd (vi_val (ve_var 2)) (by kernel_rfl)
   (fun s H C cl fp g => (vgc_tup g.calm (vgcs_cons (vgc_name 4 (by decide) sc_law_tb_reach.nd) (vgcs_cons (vgc_name 5 (by decide) sc_law_tb_reach.nd) vgcs_nil)))) (fun s H C cl fp g => (vts_one (vt_tru (ve_call (ok_law_tb_between T) (g.hr.mono (by decide)) g.tk rfl (by rfl) (g_law_tb_between T) (F_law_tb_between T).kp (bi_law_tb_between T) (va_im (ve_var 4) (va_im (ve_tup (va_im (ve_var 1) (va_im ve_int va_nil))) (va_im (ve_var 5) va_nil)))))))
   (fun s H C cl fp g => (ve_tup (va_im (ve_var 4) (va_im (ve_var 5) va_nil)))))
  (vss_one (vs_ret (ve_ifE (vt_cmp (op_neD g.hr.units) ob_ne (ve_var 3) (ve_lst va_nil) (nomark _)) (ve_ixN 3 ve_int) ve_non)))))
end
/-! _law_tb_belt -/
abbrev s_law_tb_belt : Stmt := topS 55
theorem sc_law_tb_belt : FnScope ["scale", "along", "reach", "low", "high", "shut", "first", "last"] ["scale", "along"] (defScope s_law_tb_belt) := ⟨rfl, rfl, rfl, by decide +kernel, rfl, by decide +kernel, by decide +kernel⟩
noncomputable def b_law_tb_belt : En → R Fl :=
  (dSeq (dAsg (putIm 2) (dFn 2 m_law_tb_reach (aIm (dVar 0) (aIm (dVar 1) aNil))))
  (dSeq (dIf (dCmp gIs (dVar 2) (dC .none))
   (dRet (dC .none))
   dNx)
  (dSeq (dPar 3 4 (aIm (dFn 2 m_law_tb_made (aIm (dOp gSub (dOp gMul (dC (.int 2)) (dVar 1)) (dC (.int 1))) (aIm (dC (.int 2)) aNil))) (aIm (dFn 2 m_law_tb_made (aIm (dOp gAdd (dOp gMul (dC (.int 2)) (dVar 1)) (dC (.int 1))) (aIm (dC (.int 2)) aNil))) aNil)))
  (dSeq (dPar 3 5 (aIm (dIfE (dTru (dFn 2 m_law_tb_less (aIm (dVar 3) (aIm (dIxN 2 (dC (.int 0))) aNil)))) (dIxN 2 (dC (.int 0))) (dVar 3)) (aIm (dFn 2 m_law_tb_less (aIm (dIxN 2 (dC (.int 1))) (aIm (dVar 4) aNil))) aNil)))
  (dSeq (dPar 3 4 (aIm (dFn 2 m_law_tb_read (aIm (dVar 0) (aIm (dVar 3) aNil))) (aIm (dFn 2 m_law_tb_read (aIm (dVar 0) (aIm (dIfE (dTru (dVar 5)) (dIxN 2 (dC (.int 1))) (dVar 4)) aNil))) aNil)))
  (dSeq (dIf (dCmp gNe (dIxN 0 (dC (.int 0))) (dC (.str "days")))
   (dRet (dTup (aIm (dVar 3) (aIm (dVar 4) (aIm (dVar 5) aNil)))))
   dNx)
  (dSeq (dPar 6 7 (aIm (d1 gNeg (dFn 1 m_law_tb_floor (aIm (dTup (aIm (d1 gNeg (dIxN 3 (dC (.int 0)))) (aIm (dIxN 3 (dC (.int 1))) aNil))) aNil))) (aIm (dFn 1 m_law_tb_floor (aIm (dVar 4) aNil)) aNil)))
  (dSeq (dIf (dNot (dTru (dVar 5)))
   (dAsg (putIm 7) (dOp gSub (d1 gNeg (dFn 1 m_law_tb_floor (aIm (dTup (aIm (d1 gNeg (dIxN 4 (dC (.int 0)))) (aIm (dIxN 4 (dC (.int 1))) aNil))) aNil))) (dC (.int 1))))
   dNx)
  (dRet (dIfE (dCmp gLe (dVar 6) (dVar 7)) (dTup (aIm (dTup (aIm (dVar 6) (aIm (dC (.int 1)) aNil))) (aIm (dTup (aIm (dVar 7) (aIm (dC (.int 1)) aNil))) (aIm (dC (.bool true)) aNil)))) (dC .none)))))))))))
noncomputable def m_law_tb_belt : En → R L := dDef 8 b_law_tb_belt
section
variable {P : Program} {wd : World} {K : PySem.W.Frag} {mg : Str → Option Value} {base : Heap}
theorem ok_law_tb_belt (T : Tx K mg) : FnOk P wd K mg base (L2.CX P wd) 6 (He.ga K "_law_tb_belt") (fd_law_tb_belt T) ["scale", "along"] (spD K (caK [] K) 2 m_law_tb_belt) :=
  fn_denD (F_law_tb_belt T) sc_law_tb_belt fun cdv A outer s H E g =>
  (vss_cons (vs_set 2 sc_law_tb_belt.nd (ve_call (ok_law_tb_reach T) (g.hr.mono (by decide)) g.tk rfl (by rfl) (g_law_tb_reach T) (F_law_tb_reach T).kp (bi_law_tb_reach T) (va_im (ve_var 0) (va_im (ve_var 1) va_nil))))
  (vss_cons (vs_if (vt_cmp op_isP ob_is (ve_var 2) ve_non (nomark _))
   (vss_one (vs_ret ve_non))
   vss_nil)
  (vss_cons (vs_par 3 4 g.calm sc_law_tb_belt.nd (va_im (ve_call (ok_law_tb_made T) (g.hr.mono (by decide)) g.tk rfl (by rfl) (g_law_tb_made T) (F_law_tb_made T).kp (bi_law_tb_made T) (va_im (ve_sub (ve_mul ve_int (ve_var 1)) ve_int) (va_im ve_int va_nil))) (va_im (ve_call (ok_law_tb_made T) (g.hr.mono (by decide)) g.tk rfl (by rfl) (g_law_tb_made T) (F_law_tb_made T).kp (bi_law_tb_made T) (va_im (ve_add (ve_mul ve_int (ve_var 1)) ve_int) (va_im ve_int va_nil))) va_nil)))
  (vss_cons (vs_par 3 5 g.calm sc_law_tb_belt.nd (va_im (ve_ifE (vt_tru (ve_call (ok_law_tb_less T) (g.hr.mono (by decide)) g.tk rfl (by rfl) (g_law_tb_less T) (F_law_tb_less T).kp (bi_law_tb_less T) (va_im (ve_var 3) (va_im (ve_ixN 2 ve_int) va_nil)))) (ve_ixN 2 ve_int) (ve_var 3)) (va_im (ve_call (ok_law_tb_less T) (g.hr.mono (by decide)) g.tk rfl (by rfl) (g_law_tb_less T) (F_law_tb_less T).kp (bi_law_tb_less T) (va_im (ve_ixN 2 ve_int) (va_im (ve_var 4) va_nil))) va_nil)))
  (vss_cons (vs_par 3 4 g.calm sc_law_tb_belt.nd (va_im (ve_call (ok_law_tb_read T) (g.hr.mono (by decide)) g.tk rfl (by rfl) (g_law_tb_read T) (F_law_tb_read T).kp (bi_law_tb_read T) (va_im (ve_var 0) (va_im (ve_var 3) va_nil))) (va_im (ve_call (ok_law_tb_read T) (g.hr.mono (by decide)) g.tk rfl (by rfl) (g_law_tb_read T) (F_law_tb_read T).kp (bi_law_tb_read T) (va_im (ve_var 0) (va_im (ve_ifE (vt_tru (ve_var 5)) (ve_ixN 2 ve_int) (ve_var 4)) va_nil))) va_nil)))
  (vss_cons (vs_if (vt_cmp (op_neD g.hr.units) ob_ne (ve_ixN 0 ve_int) ve_str (nomark _))
   (vss_one (vs_ret (ve_tup (va_im (ve_var 3) (va_im (ve_var 4) (va_im (ve_var 5) va_nil))))))
   vss_nil)
  (vss_cons (vs_par 6 7 g.calm sc_law_tb_belt.nd (va_im (ve_neg (ve_call (ok_law_tb_floor T) (g.hr.mono (by decide)) g.tk rfl (by rfl) (g_law_tb_floor T) (F_law_tb_floor T).kp (bi_law_tb_floor T) (va_im (ve_tup (va_im (ve_neg (ve_ixN 3 ve_int)) (va_im (ve_ixN 3 ve_int) va_nil))) va_nil))) (va_im (ve_call (ok_law_tb_floor T) (g.hr.mono (by decide)) g.tk rfl (by rfl) (g_law_tb_floor T) (F_law_tb_floor T).kp (bi_law_tb_floor T) (va_im (ve_var 4) va_nil)) va_nil)))
  (vss_cons (vs_if (vt_not (vt_tru (ve_var 5)))
   (vss_one (vs_set 7 sc_law_tb_belt.nd (ve_sub (ve_neg (ve_call (ok_law_tb_floor T) (g.hr.mono (by decide)) g.tk rfl (by rfl) (g_law_tb_floor T) (F_law_tb_floor T).kp (bi_law_tb_floor T) (va_im (ve_tup (va_im (ve_neg (ve_ixN 4 ve_int)) (va_im (ve_ixN 4 ve_int) va_nil))) va_nil))) ve_int)))
   vss_nil)
  (vss_one (vs_ret (ve_ifE (vt_cmp op_leA ob_le (ve_var 6) (ve_var 7) (nomark _)) (ve_tup (va_im (ve_tup (va_im (ve_var 6) (va_im ve_int va_nil))) (va_im (ve_tup (va_im (ve_var 7) (va_im ve_int va_nil))) (va_im ve_bl va_nil)))) ve_non)))))))))))
end
/-! _law_tb_is_number -/
abbrev s_law_tb_is_number : Stmt := topS 56
theorem sc_law_tb_is_number : FnScope ["thing", "above", "below"] ["thing", "above", "below"] (defScope s_law_tb_is_number) := ⟨rfl, rfl, rfl, by decide +kernel, rfl, by decide +kernel, by decide +kernel⟩
noncomputable def b_law_tb_is_number : En → R Fl :=
  (dSeq (dIf (dOr (dNot (dIsi "tuple" (dVar 0))) (dCmp gNe (dLenN 0) (dC (.int 2))))
   (dRet (dC (.bool false)))
   dNx)
  (dSeq (dIf (dOr (dNot (dTru (dFn 1 m_law_tb_whole (aIm (dIxN 0 (dC (.int 0))) aNil)))) (dOr (dNot (dTru (dFn 1 m_law_tb_whole (aIm (dIxN 0 (dC (.int 1))) aNil)))) (dCmp gLt (dIxN 0 (dC (.int 1))) (dC (.int 1)))))
   (dRet (dC (.bool false)))
   dNx)
  (dSeq (dIf (dCmp gNe (dFn 2 m_law_tb_common (aIm (dCall gAbs (aIm (dIxN 0 (dC (.int 0))) aNil)) (aIm (dIxN 0 (dC (.int 1))) aNil))) (dC (.int 1)))
   (dRet (dC (.bool false)))
   dNx)
  (dRet (dAndV (dCmp gLt (dCall gAbs (aIm (dIxN 0 (dC (.int 0))) aNil)) (dOp gIx (dFn 2 m_law_tb_power (aIm (dC (.int 10)) (aIm (dVar 1) aNil))) (dC (.int 0)))) (dB (dCmp gLt (dIxN 0 (dC (.int 1))) (dOp gIx (dFn 2 m_law_tb_power (aIm (dC (.int 10)) (aIm (dVar 2) aNil))) (dC (.int 0))))))))))
noncomputable def m_law_tb_is_number : En → R L := dDef 3 b_law_tb_is_number
section
variable {P : Program} {wd : World} {K : PySem.W.Frag} {mg : Str → Option Value} {base : Heap}
theorem ok_law_tb_is_number (T : Tx K mg) : FnOk P wd K mg base (L2.CX P wd) 2 (He.ga K "_law_tb_is_number") (fd_law_tb_is_number T) ["thing", "above", "below"] (spD K (caK [] K) 3 m_law_tb_is_number) :=
  fn_denD (F_law_tb_is_number T) sc_law_tb_is_number fun cdv A outer s H E g =>
  (vss_cons (vs_if (vt_w (vw_or (vt_not (vt_b (ve_isi (by rfl) T.n_isinstance (ve_var 0) (by rfl) T.n_tuple boot_ty_tuple))) (vw_or1 (vt_cmp (op_neD g.hr.units) ob_ne (ve_lenN 0 (by rfl) T.n_len) ve_int (nomark _)))))
   (vss_one (vs_ret ve_bl))
   vss_nil)
  (vss_cons (vs_if (vt_w (vw_or (vt_not (vt_tru (ve_call (ok_law_tb_whole T) (g.hr.mono (by decide)) g.tk rfl (by rfl) (g_law_tb_whole T) (F_law_tb_whole T).kp (bi_law_tb_whole T) (va_im (ve_ixN 0 ve_int) va_nil)))) (vw_or (vt_not (vt_tru (ve_call (ok_law_tb_whole T) (g.hr.mono (by decide)) g.tk rfl (by rfl) (g_law_tb_whole T) (F_law_tb_whole T).kp (bi_law_tb_whole T) (va_im (ve_ixN 0 ve_int) va_nil)))) (vw_or1 (vt_cmp op_ltA ob_lt (ve_ixN 0 ve_int) ve_int (nomark _))))))
   (vss_one (vs_ret ve_bl))
   vss_nil)
  (vss_cons (vs_if (vt_cmp (op_neD g.hr.units) ob_ne (ve_call (ok_law_tb_common T) (g.hr.mono (by decide)) g.tk rfl (by rfl) (g_law_tb_common T) (F_law_tb_common T).kp (bi_law_tb_common T) (va_im (ve_cB call_abs cs_abs (by rfl) T.n_abs boot_B_abs (va_im (ve_ixN 0 ve_int) va_nil)) (va_im (ve_ixN 0 ve_int) va_nil))) ve_int (nomark _))
   (vss_one (vs_ret ve_bl))
   vss_nil)
  (vss_one (vs_ret (ve_and (ve_cmp op_ltA ob_lt (ve_cB call_abs cs_abs (by rfl) T.n_abs boot_B_abs (va_im (ve_ixN 0 ve_int) va_nil)) (ve_ix (ve_call (ok_law_tb_power T) (g.hr.mono (by decide)) g.tk rfl (by rfl) (g_law_tb_power T) (F_law_tb_power T).kp (bi_law_tb_power T) (va_im ve_int (va_im (ve_var 1) va_nil))) ve_int) (nomark _)) (ve_and1 (ve_cmp op_ltA ob_lt (ve_ixN 0 ve_int) (ve_ix (ve_call (ok_law_tb_power T) (g.hr.mono (by decide)) g.tk rfl (by rfl) (g_law_tb_power T) (F_law_tb_power T).kp (bi_law_tb_power T) (va_im ve_int (va_im (ve_var 2) va_nil))) ve_int) (nomark _)))))))))
end
/-! _law_tb_is_day -/
abbrev s_law_tb_is_day : Stmt := topS 57
theorem sc_law_tb_is_day : FnScope ["thing"] ["thing"] (defScope s_law_tb_is_day) := ⟨rfl, rfl, rfl, by decide +kernel, rfl, by decide +kernel, by decide +kernel⟩
noncomputable def b_law_tb_is_day : En → R Fl :=
  (dRet (dAndV (dUB (dFn 1 m_law_tb_whole (aIm (dVar 0) aNil))) (dB (dChain gLe gLe (dC (.int 0)) (dVar 0) (dC (.int 3652058))))))
noncomputable def m_law_tb_is_day : En → R L := dDef 1 b_law_tb_is_day
section
variable {P : Program} {wd : World} {K : PySem.W.Frag} {mg : Str → Option Value} {base : Heap}
theorem ok_law_tb_is_day (T : Tx K mg) : FnOk P wd K mg base (L2.CX P wd) 2 (He.ga K "_law_tb_is_day") (fd_law_tb_is_day T) ["thing"] (spD K (caK [] K) 1 m_law_tb_is_day) :=
  fn_denD (F_law_tb_is_day T) sc_law_tb_is_day fun cdv A outer s H E g =>
  (vss_one (vs_ret (ve_and (ve_ub (ve_call (ok_law_tb_whole T) (g.hr.mono (by decide)) g.tk rfl (by rfl) (g_law_tb_whole T) (F_law_tb_whole T).kp (bi_law_tb_whole T) (va_im (ve_var 0) va_nil))) (ve_and1 (ve_chain op_leA ob_le op_leA ob_le ve_int (ve_var 0) ve_int)))))
end
/-! _law_tb_are_pieces -/
abbrev s_law_tb_are_pieces : Stmt := topS 58
theorem sc_law_tb_are_pieces : FnScope ["pieces", "length", "ahead", "behind", "piece", "lo", "hi", "begin", "end"] ["pieces", "length"] (defScope s_law_tb_are_pieces) := ⟨rfl, rfl, rfl, by decide +kernel, rfl, by decide +kernel, by decide +kernel⟩
noncomputable def b_law_tb_are_pieces_l1 : En → R Fl :=
  (dSeq (dIf (dOr (dNot (dIsi "tuple" (dVar 4))) (dCmp gNe (dLenN 4) (dC (.int 4))))
   (dRet (dC (.bool false)))
   dNx)
  (dSeq (dIf (dOr (dNot (dTru (dFn 3 m_law_tb_is_number (aIm (dIxN 4 (dC (.int 0))) (aIm (dC (.int 20)) (aIm (dC (.int 10)) aNil)))))) (dNot (dTru (dFn 3 m_law_tb_is_number (aIm (dIxN 4 (dC (.int 1))) (aIm (dC (.int 20)) (aIm (dC (.int 10)) aNil)))))))
   (dRet (dC (.bool false)))
   dNx)
  (dSeq (dAsg (gTupD 4 (gsCons (putIm 5) (gsCons (putIm 6) (gsCons (putIm 7) (gsCons (putIm 8) gsNil))))) (dVar 4))
  (dSeq (dIf (dOr (dNot (dTru (dFn 1 m_law_tb_whole (aIm (dVar 7) aNil)))) (dOr (dNot (dTru (dFn 1 m_law_tb_whole (aIm (dVar 8) aNil)))) (dOr (dNot (dCmp gLt (dVar 7) (dVar 8))) (dNot (dTru (dFn 2 m_law_tb_less (aIm (dVar 5) (aIm (dVar 6) aNil))))))))
   (dRet (dC (.bool false)))
   dNx)
  (dSeq (dIf (dOr (dCmp gLe (dVar 7) (dVar 3)) (dAnd (dCmp gIsNot (dVar 2) (dC .none)) (dNot (dTru (dFn 2 m_law_tb_less (aIm (dVar 2) (aIm (dVar 5) aNil)))))))
   (dRet (dC (.bool false)))
   dNx)
  (dPar 2 3 (aIm (dVar 6) (aIm (dVar 8) aNil))))))))
noncomputable def b_law_tb_are_pieces : En → R Fl :=
  (dSeq (dIf (dOr (dNot (dIsi "list" (dVar 0))) (dNot (dChain gLe gLe (dC (.int 2)) (dLenN 0) (dC (.int 4)))))
   (dRet (dC (.bool false)))
   dNx)
  (dSeq (dAsg (gTupD 2 (gsCons (putIm 2) (gsCons (putIm 3) gsNil))) (dTup (aIm (dC .none) (aIm (d1 gNeg (dC (.int 1))) aNil))))
  (dSeq (dFor (iD (dVar 0)) (putIm 4) b_law_tb_are_pieces_l1)
  (dRet (dAndV (dCmp gEq (dOp gIx (dIxN 0 (dC (.int 0))) (dC (.int 2))) (dC (.int 0))) (dB (dCmp gEq (dVar 3) (dVar 1))))))))
noncomputable def m_law_tb_are_pieces : En → R L := dDef 9 b_law_tb_are_pieces
section
variable {P : Program} {wd : World} {K : PySem.W.Frag} {mg : Str → Option Value} {base : Heap}
theorem ok_law_tb_are_pieces (T : Tx K mg) : FnOk P wd K mg base (L2.CX P wd) 3 (He.ga K "_law_tb_are_pieces") (fd_law_tb_are_pieces T) ["pieces", "length"] (spD K (caK [] K) 2 m_law_tb_are_pieces) :=
  fn_denD (F_law_tb_are_pieces T) sc_law_tb_are_pieces fun cdv A outer s H E g =>
  (vss_cons (vs_if (vt_w (vw_or (vt_not (vt_b (ve_isi (by rfl) T.n_isinstance (ve_var 0) (by rfl) T.n_list boot_ty_list))) (vw_or1 (vt_not (vt_chain op_leA ob_le op_leA ob_le ve_int (ve_lenN 0 (by rfl) T.n_len) ve_int)))))
   (vss_one (vs_ret ve_bl))
   vss_nil)
  (vss_cons (vs_asg (ve_tup (va_im ve_non (va_im (ve_neg ve_int) va_nil))) (vg_tup g.calm (vgs_cons (vg_name 2 sc_law_tb_are_pieces.nd) (vgs_cons (vg_name 3 sc_law_tb_are_pieces.nd) vgs_nil))) (nox_tup (nox_cons nox_put (nox_cons nox_put nox_nil))))
  (vss_cons (vs_for g.po g.calm (vi_val (ve_var 0)) (vg_name 4 sc_law_tb_are_pieces.nd) nox_put
   (vss_cons (vs_if (vt_w (vw_or (vt_not (vt_b (ve_isi (by rfl) T.n_isinstance (ve_var 4) (by rfl) T.n_tuple boot_ty_tuple))) (vw_or1 (vt_cmp (op_neD g.hr.units) ob_ne (ve_lenN 4 (by rfl) T.n_len) ve_int (nomark _)))))
   (vss_one (vs_ret ve_bl))
   vss_nil)
  (vss_cons (vs_if (vt_w (vw_or (vt_not (vt_tru (ve_call (ok_law_tb_is_number T) (g.hr.mono (by decide)) g.tk rfl (by rfl) (g_law_tb_is_number T) (F_law_tb_is_number T).kp (bi_law_tb_is_number T) (va_im (ve_ixN 4 ve_int) (va_im ve_int (va_im ve_int va_nil)))))) (vw_or1 (vt_not (vt_tru (ve_call (ok_law_tb_is_number T) (g.hr.mono (by decide)) g.tk rfl (by rfl) (g_law_tb_is_number T) (F_law_tb_is_number T).kp (bi_law_tb_is_number T) (va_im (ve_ixN 4 ve_int) (va_im ve_int (va_im ve_int va_nil)))))))))
   (vss_one (vs_ret ve_bl))
   vss_nil)
  (vss_cons (vs_asg (ve_var 4) (vg_tup g.calm (vgs_cons (vg_name 5 sc_law_tb_are_pieces.nd) (vgs_cons (vg_name 6 sc_law_tb_are_pieces.nd) (vgs_cons (vg_name 7 sc_law_tb_are_pieces.nd) (vgs_cons (vg_name 8 sc_law_tb_are_pieces.nd) vgs_nil))))) (nox_tup (nox_cons nox_put (nox_cons nox_put (nox_cons nox_put (nox_cons nox_put nox_nil))))))
  (vss_cons (vs_if (vt_w (vw_or (vt_not (vt_tru (ve_call (ok_law_tb_whole T) (g.hr.mono (by decide)) g.tk rfl (by rfl) (g_law_tb_whole T) (F_law_tb_whole T).kp (bi_law_tb_whole T) (va_im (ve_var 7) va_nil)))) (vw_or (vt_not (vt_tru (ve_call (ok_law_tb_whole T) (g.hr.mono (by decide)) g.tk rfl (by rfl) (g_law_tb_whole T) (F_law_tb_whole T).kp (bi_law_tb_whole T) (va_im (ve_var 8) va_nil)))) (vw_or (vt_not (vt_cmp op_ltA ob_lt (ve_var 7) (ve_var 8) (nomark _))) (vw_or1 (vt_not (vt_tru (ve_call (ok_law_tb_less T) (g.hr.mono (by decide)) g.tk rfl (by rfl) (g_law_tb_less T) (F_law_tb_less T).kp (bi_law_tb_less T) (va_im (ve_var 5) (va_im (ve_var 6) va_nil))))))))))
   (vss_one (vs_ret ve_bl))
   vss_nil)
  (vss_cons (vs_if (vt_w (vw_or (vt_cmp op_leA ob_le (ve_var 7) (ve_var 3) (nomark _)) (vw_or1 (vt_w (vw_and (vt_cmp op_isNotP ob_isNot (ve_var 2) ve_non (nomark _)) (vw_and1 (vt_not (vt_tru (ve_call (ok_law_tb_less T) (g.hr.mono (by decide)) g.tk rfl (by rfl) (g_law_tb_less T) (F_law_tb_less T).kp (bi_law_tb_less T) (va_im (ve_var 2) (va_im (ve_var 5) va_nil)))))))))))
   (vss_one (vs_ret ve_bl))
   vss_nil)
  (vss_one (vs_par 2 3 g.calm sc_law_tb_are_pieces.nd (va_im (ve_var 6) (va_im (ve_var 8) va_nil))))))))))
  (vss_one (vs_ret (ve_and (ve_cmp (op_eqD g.hr.units) ob_eq (ve_ix (ve_ixN 0 ve_int) ve_int) ve_int (nomark _)) (ve_and1 (ve_cmp (op_eqD g.hr.units) ob_eq (ve_var 3) (ve_var 1) (nomark _)))))))))
end
/-! _law_tb_is_scale -/
abbrev s_law_tb_is_scale : Stmt := topS 59
theorem sc_law_tb_is_scale : FnScope ["kind", "scale", "parts", "one"] ["kind", "scale"] (defScope s_law_tb_is_scale) := ⟨rfl, rfl, rfl, by decide +kernel, rfl, by decide +kernel, by decide +kernel⟩
noncomputable def b_law_tb_is_scale_l1 : D → En → R (Option D) :=
  (lcT (putIm 3) (dNot (dTru (dFn 1 m_law_tb_whole (aIm (dVar 3) aNil))))
   (dVar 3))
noncomputable def b_law_tb_is_scale : En → R Fl :=
  (dSeq (dAsg (putIm 2) (dIfE (dCmp gEq (dVar 0) (dC (.str "number"))) (dDisp (((dC (.str "straight")), (dC (.int 4))) :: (((dC (.str "turns")), (dC (.int 5))) :: (((dC (.str "broken")), (dC (.int 3))) :: [])))) (dIfE (dCmp gEq (dVar 0) (dC (.str "day"))) (dDisp (((dC (.str "days")), (dC (.int 4))) :: [])) (dC (.dict [])))))
  (dSeq (dIf (dOr (dNot (dIsi "tuple" (dVar 1))) (dOr (dCmp gEq (dLenN 1) (dC (.int 0))) (dNot (dIsi "str" (dIxN 1 (dC (.int 0)))))))
   (dRet (dC (.bool false)))
   dNx)
  (dSeq (dIf (dCmp gNe (dGet (dVar 2) (dIxN 1 (dC (.int 0))) (dC (.int 0))) (dLenN 1))
   (dRet (dC (.bool false)))
   dNx)
  (dSeq (dIf (dOr (dNot (dTru (dFn 1 m_law_tb_whole (aIm (dIxN 1 (d1 gNeg (dC (.int 1)))) aNil)))) (dNot (dChain gLe gLe (dC (.int 1)) (dIxN 1 (d1 gNeg (dC (.int 1)))) (dC (.int 4000)))))
   (dRet (dC (.bool false)))
   dNx)
  (dSeq (dIf (dCmp gEq (dIxN 1 (dC (.int 0))) (dC (.str "straight")))
   (dSeq (dIf (dOr (dNot (dTru (dFn 3 m_law_tb_is_number (aIm (dIxN 1 (dC (.int 1))) (aIm (dC (.int 20)) (aIm (dC (.int 10)) aNil)))))) (dNot (dTru (dFn 3 m_law_tb_is_number (aIm (dIxN 1 (dC (.int 2))) (aIm (dC (.int 20)) (aIm (dC (.int 10)) aNil)))))))
    (dRet (dC (.bool false)))
    dNx)
   (dRet (dFn 2 m_law_tb_less (aIm (dIxN 1 (dC (.int 1))) (aIm (dIxN 1 (dC (.int 2))) aNil)))))
   dNx)
  (dSeq (dIf (dCmp gEq (dIxN 1 (dC (.int 0))) (dC (.str "days")))
   (dRet (dAndV (dUB (dFn 1 m_law_tb_is_day (aIm (dIxN 1 (dC (.int 1))) aNil))) (dAndV (dUB (dFn 1 m_law_tb_is_day (aIm (dIxN 1 (dC (.int 2))) aNil))) (dB (dCmp gLt (dIxN 1 (dC (.int 1))) (dIxN 1 (dC (.int 2))))))))
   dNx)
  (dSeq (dIf (dCmp gEq (dIxN 1 (dC (.int 0))) (dC (.str "broken")))
   (dRet (dFn 2 m_law_tb_are_pieces (aIm (dIxN 1 (dC (.int 1))) (aIm (dIxN 1 (dC (.int 2))) aNil))))
   dNx)
  (dSeq (dIf (dOr (dCmp gNe (dFz (nLc (iD (dSlN 1 (oI (dC (.int 1))) (oI (dC (.int 4))))) b_law_tb_is_scale_l1 [3])) (dLst aNil)) (dCmp gNotIn (dIxN 1 (dC (.int 1))) (dLst (aIm (dC (.int 2)) (aIm (dC (.int 10)) aNil)))))
   (dRet (dC (.bool false)))
   dNx)
  (dRet (dAndV (dCmp gGe (dIxN 1 (dC (.int 2))) (d1 gNeg (dC (.int 30)))) (dAndV (dCmp gGe (dIxN 1 (dC (.int 3))) (dC (.int 1))) (dB (dCmp gLe (dOp gAdd (dIxN 1 (dC (.int 2))) (dIxN 1 (dC (.int 3)))) (dC (.int 30)))))))))))))))
noncomputable def m_law_tb_is_scale : En → R L := dDef 4 b_law_tb_is_scale
section
variable {P : Program} {wd : World} {K : PySem.W.Frag} {mg : Str → Option Value} {base : Heap}
theorem ok_law_tb_is_scale (T : Tx K mg) : FnOk P wd K mg base (L2.CX P wd) 4 (He.ga K "_law_tb_is_scale") (fd_law_tb_is_scale T) ["kind", "scale"] (spD K (caK [] K) 2 m_law_tb_is_scale) :=
  fn_denD (F_law_tb_is_scale T) sc_law_tb_is_scale fun cdv A outer s H E g =>
  (vss_cons (vs_set 2 sc_law_tb_is_scale.nd (ve_ifE (vt_cmp (op_eqD g.hr.units) ob_eq (ve_var 0) ve_str (nomark _)) (ve_disp (vps_cons ve_str ve_int (vps_cons ve_str ve_int (vps_cons ve_str ve_int vps_nil)))) (ve_ifE (vt_cmp (op_eqD g.hr.units) ob_eq (ve_var 0) ve_str (nomark _)) (ve_disp (vps_cons ve_str ve_int vps_nil)) ve_dict0)))
  (vss_cons (vs_if (vt_w (vw_or (vt_not (vt_b (ve_isi (by rfl) T.n_isinstance (ve_var 1) (by rfl) T.n_tuple boot_ty_tuple))) (vw_or (vt_cmp (op_eqD g.hr.units) ob_eq (ve_lenN 1 (by rfl) T.n_len) ve_int (nomark _)) (vw_or1 (vt_not (vt_b (ve_isi (by rfl) T.n_isinstance (ve_ixN 1 ve_int) (by rfl) T.n_str boot_ty_str)))))))
   (vss_one (vs_ret ve_bl))
   vss_nil)
  (vss_cons (vs_if (vt_cmp (op_neD g.hr.units) ob_ne (ve_get (by have := g.u65; omega) (ve_var 2) (ve_ixN 1 ve_int) ve_int ⟨rfl, by rfl, by rfl, by rfl⟩) (ve_lenN 1 (by rfl) T.n_len) (nomark _))
   (vss_one (vs_ret ve_bl))
   vss_nil)
  (vss_cons (vs_if (vt_w (vw_or (vt_not (vt_tru (ve_call (ok_law_tb_whole T) (g.hr.mono (by decide)) g.tk rfl (by rfl) (g_law_tb_whole T) (F_law_tb_whole T).kp (bi_law_tb_whole T) (va_im (ve_ixN 1 (ve_neg ve_int)) va_nil)))) (vw_or1 (vt_not (vt_chain op_leA ob_le op_leA ob_le ve_int (ve_ixN 1 (ve_neg ve_int)) ve_int)))))
   (vss_one (vs_ret ve_bl))
   vss_nil)
  (vss_cons (vs_if (vt_cmp (op_eqD g.hr.units) ob_eq (ve_ixN 1 ve_int) ve_str (nomark _))
   (vss_cons (vs_if (vt_w (vw_or (vt_not (vt_tru (ve_call (ok_law_tb_is_number T) (g.hr.mono (by decide)) g.tk rfl (by rfl) (g_law_tb_is_number T) (F_law_tb_is_number T).kp (bi_law_tb_is_number T) (va_im (ve_ixN 1 ve_int) (va_im ve_int (va_im ve_int va_nil)))))) (vw_or1 (vt_not (vt_tru (ve_call (ok_law_tb_is_number T) (g.hr.mono (by decide)) g.tk rfl (by rfl) (g_law_tb_is_number T) (F_law_tb_is_number T).kp (bi_law_tb_is_number T) (va_im (ve_ixN 1 ve_int) (va_im ve_int (va_im ve_int va_nil)))))))))
    (vss_one (vs_ret ve_bl))
    vss_nil)
   (vss_one (vs_ret (ve_call (ok_law_tb_less T) (g.hr.mono (by decide)) g.tk rfl (by rfl) (g_law_tb_less T) (F_law_tb_less T).kp (bi_law_tb_less T) (va_im (ve_ixN 1 ve_int) (va_im (ve_ixN 1 ve_int) va_nil))))))
   vss_nil)
  (vss_cons (vs_if (vt_cmp (op_eqD g.hr.units) ob_eq (ve_ixN 1 ve_int) ve_str (nomark _))
   (vss_one (vs_ret (ve_and (ve_ub (ve_call (ok_law_tb_is_day T) (g.hr.mono (by decide)) g.tk rfl (by rfl) (g_law_tb_is_day T) (F_law_tb_is_day T).kp (bi_law_tb_is_day T) (va_im (ve_ixN 1 ve_int) va_nil))) (ve_and (ve_ub (ve_call (ok_law_tb_is_day T) (g.hr.mono (by decide)) g.tk rfl (by rfl) (g_law_tb_is_day T) (F_law_tb_is_day T).kp (bi_law_tb_is_day T) (va_im (ve_ixN 1 ve_int) va_nil))) (ve_and1 (ve_cmp op_ltA ob_lt (ve_ixN 1 ve_int) (ve_ixN 1 ve_int) (nomark _)))))))
   vss_nil)
  (vss_cons (vs_if (vt_cmp (op_eqD g.hr.units) ob_eq (ve_ixN 1 ve_int) ve_str (nomark _))
   (vss_one (vs_ret (ve_call (ok_law_tb_are_pieces T) (g.hr.mono (by decide)) g.tk rfl (by rfl) (g_law_tb_are_pieces T) (F_law_tb_are_pieces T).kp (bi_law_tb_are_pieces T) (va_im (ve_ixN 1 ve_int) (va_im (ve_ixN 1 ve_int) va_nil)))))
   vss_nil)
  (vss_cons (vs_if (vt_w (vw_or (vt_cmp (op_neD g.hr.units) ob_ne (ve_fz (vn_lcG [("one", 3)] g sc_law_tb_is_scale.nd (vi_val (ve_slN 1 (vo_some ve_int) (vo_some ve_int))) (by kernel_rfl)
   (fun s H C cl fp g => (vgc_name 3 (by decide) sc_law_tb_is_scale.nd)) (fun s H C cl fp g => (vts_one (vt_not (vt_tru (ve_call (ok_law_tb_whole T) (g.hr.mono (by decide)) g.tk rfl (by rfl) (g_law_tb_whole T) (F_law_tb_whole T).kp (bi_law_tb_whole T) (va_im (ve_var 3) va_nil))))))
   (fun s H C cl fp g => (ve_var 3)))) (ve_lst va_nil) (nomark _)) (vw_or1 (vt_cmp (op_notInA g.u65) ob_notIn (ve_ixN 1 ve_int) (ve_lst (va_im ve_int (va_im ve_int va_nil))) (by rfl)))))
   (vss_one (vs_ret ve_bl))
   vss_nil)
  (vss_one (vs_ret (ve_and (ve_cmp op_geA ob_ge (ve_ixN 1 ve_int) (ve_neg ve_int) (nomark _)) (ve_and (ve_cmp op_geA ob_ge (ve_ixN 1 ve_int) ve_int (nomark _)) (ve_and1 (ve_cmp op_leA ob_le (ve_add (ve_ixN 1 ve_int) (ve_ixN 1 ve_int)) ve_int (nomark _)))))))))))))))
end
/-! _law_number_drawn -/
abbrev s_law_number_drawn : Stmt := topS 60
theorem sc_law_number_drawn : FnScope ["jar", "some"] ["jar"] (defScope s_law_number_drawn) := ⟨rfl, rfl, rfl, by decide +kernel, rfl, by decide +kernel, by decide +kernel⟩
noncomputable def b_law_number_drawn : En → R Fl :=
  (dSeq (dAsg (putIm 1) (dLst (aIm (dTup (aIm (dOp gSub (dFn 2 m_law_take (aSl 0 (aIm (dC (.int 41)) aNil))) (dC (.int 20))) (aIm (dC (.int 1)) aNil))) (aIm (dFn 2 m_law_tb_made (aIm (dOp gSub (dFn 2 m_law_take (aSl 0 (aIm (dC (.int 41)) aNil))) (dC (.int 20))) (aIm (dOp gAdd (dC (.int 1)) (dFn 2 m_law_take (aSl 0 (aIm (dC (.int 7)) aNil)))) aNil))) aNil))))
  (dRet (dFn 2 m_law_one (aSl 0 (aIm (dOp gAdd (dOp gAdd (dVar 1) (dVar 1)) (dLst (aIm (dFn 2 m_law_tb_made (aIm (dOp gSub (dOp gPow (dC (.int 10)) (dC (.int 19))) (dFn 2 m_law_take (aSl 0 (aIm (dOp gPow (dC (.int 10)) (dC (.int 9))) aNil)))) (aIm (dC (.int 3)) aNil))) (aIm (dTup (aIm (dOp gSub (d1 gNeg (dOp gPow (dC (.int 10)) (dC (.int 18)))) (dC (.int 7))) (aIm (dC (.int 1)) aNil))) aNil)))) aNil)))))
noncomputable def m_law_number_drawn : En → R L := dDef 2 b_law_number_drawn
section
variable {P : Program} {wd : World} {K : PySem.W.Frag} {mg : Str → Option Value} {base : Heap}
theorem ok_law_number_drawn (T : Tx K mg) : FnOk P wd K mg base (L2.CX P wd) 3 (He.ga K "_law_number_drawn") (fd_law_number_drawn T) ["jar"] (spD K (caK [] K) 1 m_law_number_drawn) :=
  fn_denD (F_law_number_drawn T) sc_law_number_drawn fun cdv A outer s H E g =>
  (vss_cons (vs_set 1 sc_law_number_drawn.nd (ve_lst (va_im (ve_tup (va_im (ve_sub (ve_call (ok_law_take T) (g.hr.mono (by decide)) g.tk rfl (by rfl) (g_law_take T) (F_law_take T).kp (bi_law_take T) (va_sl 0 (va_im ve_int va_nil))) ve_int) (va_im ve_int va_nil))) (va_im (ve_call (ok_law_tb_made T) (g.hr.mono (by decide)) g.tk rfl (by rfl) (g_law_tb_made T) (F_law_tb_made T).kp (bi_law_tb_made T) (va_im (ve_sub (ve_call (ok_law_take T) (g.hr.mono (by decide)) g.tk rfl (by rfl) (g_law_take T) (F_law_take T).kp (bi_law_take T) (va_sl 0 (va_im ve_int va_nil))) ve_int) (va_im (ve_add ve_int (ve_call (ok_law_take T) (g.hr.mono (by decide)) g.tk rfl (by rfl) (g_law_take T) (F_law_take T).kp (bi_law_take T) (va_sl 0 (va_im ve_int va_nil)))) va_nil))) va_nil))))
  (vss_one (vs_ret (ve_call (ok_law_one T) (g.hr.mono (by decide)) g.tk rfl (by rfl) (g_law_one T) (F_law_one T).kp (bi_law_one T) (va_sl 0 (va_im (ve_add (ve_add (ve_var 1) (ve_var 1)) (ve_lst (va_im (ve_call (ok_law_tb_made T) (g.hr.mono (by decide)) g.tk rfl (by rfl) (g_law_tb_made T) (F_law_tb_made T).kp (bi_law_tb_made T) (va_im (ve_sub (ve_pow ve_int ve_int) (ve_call (ok_law_take T) (g.hr.mono (by decide)) g.tk rfl (by rfl) (g_law_take T) (F_law_take T).kp (bi_law_take T) (va_sl 0 (va_im (ve_pow ve_int ve_int) va_nil)))) (va_im ve_int va_nil))) (va_im (ve_tup (va_im (ve_sub (ve_neg (ve_pow ve_int ve_int)) ve_int) (va_im ve_int va_nil))) va_nil)))) va_nil))))))
end
/-! _law_step_drawn -/
abbrev s_law_step_drawn : Stmt := topS 61
theorem sc_law_step_drawn : FnScope ["jar"] ["jar"] (defScope s_law_step_drawn) := ⟨rfl, rfl, rfl, by decide +kernel, rfl, by decide +kernel, by decide +kernel⟩
noncomputable def b_law_step_drawn : En → R Fl :=
  (dRet (dFn 2 m_law_one (aSl 0 (aIm (dLst (aIm (dTup (aIm (dC (.int 1)) (aIm (dC (.int 1)) aNil))) (aIm (dTup (aIm (dC (.int 2)) (aIm (dC (.int 1)) aNil))) (aIm (dTup (aIm (dC (.int 4)) (aIm (dC (.int 1)) aNil))) (aIm (dTup (aIm (dC (.int 1)) (aIm (dC (.int 3)) aNil))) (aIm (dTup (aIm (dC (.int 7)) (aIm (dC (.int 2)) aNil))) (aIm (dTup (aIm (dOp gPow (dC (.int 10)) (dC (.int 9))) (aIm (dC (.int 1)) aNil))) (aIm (dTup (aIm (dC (.int 1)) (aIm (dOp gPow (dC (.int 10)) (dC (.int 9))) aNil))) aNil)))))))) aNil))))
noncomputable def m_law_step_drawn : En → R L := dDef 1 b_law_step_drawn
section
variable {P : Program} {wd : World} {K : PySem.W.Frag} {mg : Str → Option Value} {base : Heap}
theorem ok_law_step_drawn (T : Tx K mg) : FnOk P wd K mg base (L2.CX P wd) 3 (He.ga K "_law_step_drawn") (fd_law_step_drawn T) ["jar"] (spD K (caK [] K) 1 m_law_step_drawn) :=
  fn_denD (F_law_step_drawn T) sc_law_step_drawn fun cdv A outer s H E g =>
  (vss_one (vs_ret (ve_call (ok_law_one T) (g.hr.mono (by decide)) g.tk rfl (by rfl) (g_law_one T) (F_law_one T).kp (bi_law_one T) (va_sl 0 (va_im (ve_lst (va_im (ve_tup (va_im ve_int (va_im ve_int va_nil))) (va_im (ve_tup (va_im ve_int (va_im ve_int va_nil))) (va_im (ve_tup (va_im ve_int (va_im ve_int va_nil))) (va_im (ve_tup (va_im ve_int (va_im ve_int va_nil))) (va_im (ve_tup (va_im ve_int (va_im ve_int va_nil))) (va_im (ve_tup (va_im (ve_pow ve_int ve_int) (va_im ve_int va_nil))) (va_im (ve_tup (va_im ve_int (va_im (ve_pow ve_int ve_int) va_nil))) va_nil)))))))) va_nil)))))
end
/-! _law_pieces_drawn -/
abbrev s_law_pieces_drawn : Stmt := topS 62
theorem sc_law_pieces_drawn : FnScope ["jar", "low", "begin", "found", "go", "high", "end"] ["jar"] (defScope s_law_pieces_drawn) := ⟨rfl, rfl, rfl, by decide +kernel, rfl, by decide +kernel, by decide +kernel⟩
noncomputable def b_law_pieces_drawn_l1 : En → R Fl :=
  (dSeq (dPar 5 6 (aIm (dFn 2 m_law_tb_plus (aIm (dVar 1) (aIm (dFn 1 m_law_step_drawn (aSl 0 aNil)) aNil))) (aIm (dOp gAdd (dOp gAdd (dVar 2) (dC (.int 1))) (dFn 2 m_law_one (aSl 0 (aIm (dLst (aIm (dC (.int 0)) (aIm (dC (.int 1)) (aIm (dC (.int 2)) (aIm (dC (.int 5)) (aIm (dC (.int 40)) aNil)))))) aNil)))) aNil)))
  (dSeq (dApp 3 (dTup (aIm (dVar 1) (aIm (dVar 5) (aIm (dVar 2) (aIm (dVar 6) aNil))))))
  (dPar 1 2 (aIm (dFn 2 m_law_tb_plus (aIm (dVar 5) (aIm (dFn 1 m_law_step_drawn (aSl 0 aNil)) aNil))) (aIm (dOp gAdd (dOp gAdd (dVar 6) (dC (.int 1))) (dFn 2 m_law_take (aSl 0 (aIm (dC (.int 3)) aNil)))) aNil)))))
noncomputable def b_law_pieces_drawn : En → R Fl :=
  (dSeq (dPar3L 1 2 3 (dFn 1 m_law_number_drawn (aSl 0 aNil)) (dC (.int 0)) (nLst aNil))
  (dSeq (dFor (iRg1 (aIm (dOp gAdd (dC (.int 2)) (dFn 2 m_law_take (aSl 0 (aIm (dC (.int 3)) aNil)))) aNil)) (putIm 4) b_law_pieces_drawn_l1)
  (dRetV 3)))
noncomputable def m_law_pieces_drawn : En → R L := dDef 7 b_law_pieces_drawn
section
variable {P : Program} {wd : World} {K : PySem.W.Frag} {mg : Str → Option Value} {base : Heap}
theorem ok_law_pieces_drawn (T : Tx K mg) : FnOk P wd K mg base (L2.CX P wd) 4 (He.ga K "_law_pieces_drawn") (fd_law_pieces_drawn T) ["jar"] (spD K (caK [] K) 1 m_law_pieces_drawn) :=
  fn_denD (F_law_pieces_drawn T) sc_law_pieces_drawn fun cdv A outer s H E g =>
  (vss_cons (vs_par3L 1 2 3 g.calm sc_law_pieces_drawn.nd (ve_call (ok_law_number_drawn T) (g.hr.mono (by decide)) g.tk rfl (by rfl) (g_law_number_drawn T) (F_law_number_drawn T).kp (bi_law_number_drawn T) (va_sl 0 va_nil)) ve_int (vn_lst va_nil))
  (vss_cons (vs_for g.po g.calm (vi_range1 (by rfl) T.n_range (va_im (ve_add ve_int (ve_call (ok_law_take T) (g.hr.mono (by decide)) g.tk rfl (by rfl) (g_law_take T) (F_law_take T).kp (bi_law_take T) (va_sl 0 (va_im ve_int va_nil)))) va_nil)) (vg_name 4 sc_law_pieces_drawn.nd) nox_put
   (vss_cons (vs_par 5 6 g.calm sc_law_pieces_drawn.nd (va_im (ve_call (ok_law_tb_plus T) (g.hr.mono (by decide)) g.tk rfl (by rfl) (g_law_tb_plus T) (F_law_tb_plus T).kp (bi_law_tb_plus T) (va_im (ve_var 1) (va_im (ve_call (ok_law_step_drawn T) (g.hr.mono (by decide)) g.tk rfl (by rfl) (g_law_step_drawn T) (F_law_step_drawn T).kp (bi_law_step_drawn T) (va_sl 0 va_nil)) va_nil))) (va_im (ve_add (ve_add (ve_var 2) ve_int) (ve_call (ok_law_one T) (g.hr.mono (by decide)) g.tk rfl (by rfl) (g_law_one T) (F_law_one T).kp (bi_law_one T) (va_sl 0 (va_im (ve_lst (va_im ve_int (va_im ve_int (va_im ve_int (va_im ve_int (va_im ve_int va_nil)))))) va_nil)))) va_nil)))
  (vss_cons (vs_append 3 (ve_tup (va_im (ve_var 1) (va_im (ve_var 5) (va_im (ve_var 2) (va_im (ve_var 6) va_nil))))))
  (vss_one (vs_par 1 2 g.calm sc_law_pieces_drawn.nd (va_im (ve_call (ok_law_tb_plus T) (g.hr.mono (by decide)) g.tk rfl (by rfl) (g_law_tb_plus T) (F_law_tb_plus T).kp (bi_law_tb_plus T) (va_im (ve_var 5) (va_im (ve_call (ok_law_step_drawn T) (g.hr.mono (by decide)) g.tk rfl (by rfl) (g_law_step_drawn T) (F_law_step_drawn T).kp (bi_law_step_drawn T) (va_sl 0 va_nil)) va_nil))) (va_im (ve_add (ve_add (ve_var 6) ve_int) (ve_call (ok_law_take T) (g.hr.mono (by decide)) g.tk rfl (by rfl) (g_law_take T) (F_law_take T).kp (bi_law_take T) (va_sl 0 (va_im ve_int va_nil)))) va_nil)))))))
  (vss_one (vs_retV 3))))
end
/-! _law_scale_drawn -/
abbrev s_law_scale_drawn : Stmt := topS 63
theorem sc_law_scale_drawn : FnScope ["jar", "length", "form", "low", "many", "scale", "pieces"] ["jar"] (defScope s_law_scale_drawn) := ⟨rfl, rfl, rfl, by decide +kernel, rfl, by decide +kernel, by decide +kernel⟩
noncomputable def b_law_scale_drawn : En → R Fl :=
  (dSeq (dPar 1 2 (aIm (dFn 2 m_law_one (aSl 0 (aIm (dLst (aIm (dC (.int 1)) (aIm (dC (.int 2)) (aIm (dC (.int 3)) (aIm (dC (.int 4)) (aIm (dC (.int 7)) (aIm (dC (.int 9)) (aIm (dC (.int 60)) (aIm (dC (.int 255)) (aIm (dC (.int 4000)) aNil)))))))))) aNil))) (aIm (dFn 2 m_law_take (aSl 0 (aIm (dC (.int 5)) aNil))) aNil)))
  (dSeq (dIf (dCmp gEq (dVar 2) (dC (.int 0)))
   (dSeq (dAsg (putIm 3) (dFn 2 m_law_one (aSl 0 (aIm (dLst (aIm (dC (.int 0)) (aIm (dC (.int 1)) (aIm (dC (.int 100)) (aIm (dC (.int 3652000)) (aIm (dFn 2 m_law_take (aSl 0 (aIm (dC (.int 3600000)) aNil))) aNil)))))) aNil))))
   (dRet (dTup (aIm (dC (.str "day")) (aIm (dTup (aIm (dC (.str "days")) (aIm (dVar 3) (aIm (dOp gAdd (dOp gAdd (dVar 3) (dC (.int 1))) (dFn 2 m_law_take (aSl 0 (aIm (dC (.int 40)) aNil)))) (aIm (dVar 1) aNil))))) aNil)))))
   dNx)
  (dSeq (dIf (dCmp gEq (dVar 2) (dC (.int 1)))
   (dSeq (dAsg (putIm 4) (dOp gAdd (dC (.int 1)) (dFn 2 m_law_take (aSl 0 (aIm (dC (.int 6)) aNil)))))
   (dSeq (dAsg (putIm 3) (dFn 2 m_law_one (aSl 0 (aIm (dLst (aIm (d1 gNeg (dC (.int 30))) (aIm (d1 gNeg (dC (.int 3))) (aIm (d1 gNeg (dC (.int 1))) (aIm (dC (.int 0)) (aIm (dC (.int 2)) (aIm (dOp gSub (dC (.int 30)) (dVar 4)) aNil))))))) aNil))))
   (dRet (dTup (aIm (dC (.str "number")) (aIm (dTup (aIm (dC (.str "turns")) (aIm (dFn 2 m_law_one (aSl 0 (aIm (dLst (aIm (dC (.int 2)) (aIm (dC (.int 10)) aNil))) aNil))) (aIm (dVar 3) (aIm (dVar 4) (aIm (dVar 1) aNil)))))) aNil))))))
   dNx)
  (dSeq (dAsg (putIm 3) (dFn 1 m_law_number_drawn (aSl 0 aNil)))
  (dSeq (dAsg (putIm 5) (dTup (aIm (dC (.str "straight")) (aIm (dVar 3) (aIm (dFn 2 m_law_tb_plus (aIm (dVar 3) (aIm (dFn 1 m_law_step_drawn (aSl 0 aNil)) aNil))) (aIm (dVar 1) aNil))))))
  (dSeq (dIf (dCmp gLt (dVar 2) (dC (.int 4)))
   (dSeq (dAsg (putIm 6) (dFn 1 m_law_pieces_drawn (aSl 0 aNil)))
   (dAsg (putIm 5) (dTup (aIm (dC (.str "broken")) (aIm (dVar 6) (aIm (dOp gIx (dIxN 6 (d1 gNeg (dC (.int 1)))) (dC (.int 3))) aNil))))))
   dNx)
  (dRet (dTup (aIm (dC (.str "number")) (aIm (dIfE (dTru (dFn 2 m_law_tb_is_scale (aIm (dC (.str "number")) (aIm (dVar 5) aNil)))) (dVar 5) (dTup (aIm (dC (.str "straight")) (aIm (dTup (aIm (dC (.int 0)) (aIm (dC (.int 1)) aNil))) (aIm (dTup (aIm (dC (.int 4)) (aIm (dC (.int 1)) aNil))) (aIm (dVar 1) aNil)))))) aNil))))))))))
noncomputable def m_law_scale_drawn : En → R L := dDef 7 b_law_scale_drawn
section
variable {P : Program} {wd : World} {K : PySem.W.Frag} {mg : Str → Option Value} {base : Heap}
theorem ok_law_scale_drawn (T : Tx K mg) : FnOk P wd K mg base (L2.CX P wd) 5 (He.ga K "_law_scale_drawn") (fd_law_scale_drawn T) ["jar"] (spD K (caK [] K) 1 m_law_scale_drawn) :=
  fn_denD (F_law_scale_drawn T) sc_law_scale_drawn fun cdv A outer s H E g =>
  (vss_cons (vs_par 1 2 g.calm sc_law_scale_drawn.nd (va_im (ve_call (ok_law_one T) (g.hr.mono (by decide)) g.tk rfl (by rfl) (g_law_one T) (F_law_one T).kp (bi_law_one T) (va_sl 0 (va_im (ve_lst (va_im ve_int (va_im ve_int (va_im ve_int (va_im ve_int (va_im ve_int (va_im ve_int (va_im ve_int (va_im ve_int (va_im ve_int va_nil)))))))))) va_nil))) (va_im (ve_call (ok_law_take T) (g.hr.mono (by decide)) g.tk rfl (by rfl) (g_law_take T) (F_law_take T).kp (bi_law_take T) (va_sl 0 (va_im ve_int va_nil))) va_nil)))
  (vss_cons (vs_if (vt_cmp (op_eqD g.hr.units) ob_eq (ve_var 2) ve_int (nomark _))
   (vss_cons (vs_set 3 sc_law_scale_drawn.nd (ve_call (ok_law_one T) (g.hr.mono (by decide)) g.tk rfl (by rfl) (g_law_one T) (F_law_one T).kp (bi_law_one T) (va_sl 0 (va_im (ve_lst (va_im ve_int (va_im ve_int (va_im ve_int (va_im ve_int (va_im (ve_call (ok_law_take T) (g.hr.mono (by decide)) g.tk rfl (by rfl) (g_law_take T) (F_law_take T).kp (bi_law_take T) (va_sl 0 (va_im ve_int va_nil))) va_nil)))))) va_nil))))
   (vss_one (vs_ret (ve_tup (va_im ve_str (va_im (ve_tup (va_im ve_str (va_im (ve_var 3) (va_im (ve_add (ve_add (ve_var 3) ve_int) (ve_call (ok_law_take T) (g.hr.mono (by decide)) g.tk rfl (by rfl) (g_law_take T) (F_law_take T).kp (bi_law_take T) (va_sl 0 (va_im ve_int va_nil)))) (va_im (ve_var 1) va_nil))))) va_nil))))))
   vss_nil)
  (vss_cons (vs_if (vt_cmp (op_eqD g.hr.units) ob_eq (ve_var 2) ve_int (nomark _))
   (vss_cons (vs_set 4 sc_law_scale_drawn.nd (ve_add ve_int (ve_call (ok_law_take T) (g.hr.mono (by decide)) g.tk rfl (by rfl) (g_law_take T) (F_law_take T).kp (bi_law_take T) (va_sl 0 (va_im ve_int va_nil)))))
   (vss_cons (vs_set 3 sc_law_scale_drawn.nd (ve_call (ok_law_one T) (g.hr.mono (by decide)) g.tk rfl (by rfl) (g_law_one T) (F_law_one T).kp (bi_law_one T) (va_sl 0 (va_im (ve_lst (va_im (ve_neg ve_int) (va_im (ve_neg ve_int) (va_im (ve_neg ve_int) (va_im ve_int (va_im ve_int (va_im (ve_sub ve_int (ve_var 4)) va_nil))))))) va_nil))))
   (vss_one (vs_ret (ve_tup (va_im ve_str (va_im (ve_tup (va_im ve_str (va_im (ve_call (ok_law_one T) (g.hr.mono (by decide)) g.tk rfl (by rfl) (g_law_one T) (F_law_one T).kp (bi_law_one T) (va_sl 0 (va_im (ve_lst (va_im ve_int (va_im ve_int va_nil))) va_nil))) (va_im (ve_var 3) (va_im (ve_var 4) (va_im (ve_var 1) va_nil)))))) va_nil)))))))
   vss_nil)
  (vss_cons (vs_set 3 sc_law_scale_drawn.nd (ve_call (ok_law_number_drawn T) (g.hr.mono (by decide)) g.tk rfl (by rfl) (g_law_number_drawn T) (F_law_number_drawn T).kp (bi_law_number_drawn T) (va_sl 0 va_nil)))
  (vss_cons (vs_set 5 sc_law_scale_drawn.nd (ve_tup (va_im ve_str (va_im (ve_var 3) (va_im (ve_call (ok_law_tb_plus T) (g.hr.mono (by decide)) g.tk rfl (by rfl) (g_law_tb_plus T) (F_law_tb_plus T).kp (bi_law_tb_plus T) (va_im (ve_var 3) (va_im (ve_call (ok_law_step_drawn T) (g.hr.mono (by decide)) g.tk rfl (by rfl) (g_law_step_drawn T) (F_law_step_drawn T).kp (bi_law_step_drawn T) (va_sl 0 va_nil)) va_nil))) (va_im (ve_var 1) va_nil))))))
  (vss_cons (vs_if (vt_cmp op_ltA ob_lt (ve_var 2) ve_int (nomark _))
   (vss_cons (vs_set 6 sc_law_scale_drawn.nd (ve_call (ok_law_pieces_drawn T) (g.hr.mono (by decide)) g.tk rfl (by rfl) (g_law_pieces_drawn T) (F_law_pieces_drawn T).kp (bi_law_pieces_drawn T) (va_sl 0 va_nil)))
   (vss_one (vs_set 5 sc_law_scale_drawn.nd (ve_tup (va_im ve_str (va_im (ve_var 6) (va_im (ve_ix (ve_ixN 6 (ve_neg ve_int)) ve_int) va_nil)))))))
   vss_nil)
  (vss_one (vs_ret (ve_tup (va_im ve_str (va_im (ve_ifE (vt_tru (ve_call (ok_law_tb_is_scale T) (g.hr.mono (by decide)) g.tk rfl (by rfl) (g_law_tb_is_scale T) (F_law_tb_is_scale T).kp (bi_law_tb_is_scale T) (va_im ve_str (va_im (ve_var 5) va_nil)))) (ve_var 5) (ve_tup (va_im ve_str (va_im (ve_tup (va_im ve_int (va_im ve_int va_nil))) (va_im (ve_tup (va_im ve_int (va_im ve_int va_nil))) (va_im (ve_var 1) va_nil)))))) va_nil)))))))))))
end
/-! _law_alongs -/
abbrev s_law_alongs : Stmt := topS 64
theorem sc_law_alongs : FnScope ["jar", "scale", "length", "found", "lo", "hi", "begin", "end", "go"] ["jar", "scale"] (defScope s_law_alongs) := ⟨rfl, rfl, rfl, by decide +kernel, rfl, by decide +kernel, by decide +kernel⟩
noncomputable def b_law_alongs_l1 : En → R Fl :=
  (dExt 3 (dLst (aIm (dFn 1 m_law_tb_floor (aIm (dVar 6) aNil)) (aIm (dOp gSub (dFn 1 m_law_tb_floor (aIm (dVar 6) aNil)) (dC (.int 1))) (aIm (dFn 1 m_law_tb_floor (aIm (dVar 7) aNil)) (aIm (dOp gAdd (dFn 1 m_law_tb_floor (aIm (dVar 7) aNil)) (dC (.int 1))) aNil))))))
noncomputable def b_law_alongs_l2 : D → En → R (Option D) :=
  (lcT (putIm 8) tT
   (dFn 2 m_law_take (aSl 0 (aIm (dOp gAdd (dVar 2) (dC (.int 1))) aNil))))
noncomputable def b_law_alongs : En → R Fl :=
  (dSeq (dAsg (putIm 2) (dIxN 1 (d1 gNeg (dC (.int 1)))))
  (dSeq (dIf (dCmp gLt (dVar 2) (dC (.int 12)))
   (dRet (dFz (nRg2 (d1 gNeg (dC (.int 2))) (dOp gAdd (dVar 2) (dC (.int 3))))))
   dNx)
  (dSeq (dAsgL 3 (nLst (aIm (d1 gNeg (dC (.int 1))) (aIm (dC (.int 0)) (aIm (dC (.int 1)) (aIm (dOp gSub (dVar 2) (dC (.int 1))) (aIm (dVar 2) (aIm (dOp gAdd (dVar 2) (dC (.int 1))) (aIm (dC (.int 4001)) (aIm (d1 gNeg (dOp gPow (dC (.int 10)) (dC (.int 30)))) aNil))))))))))
  (dSeq (dFor (iD (dFn 1 m_law_tb_pieces (aIm (dVar 1) aNil))) (gTupD 4 (gsCons (putIm 4) (gsCons (putIm 5) (gsCons (putIm 6) (gsCons (putIm 7) gsNil))))) b_law_alongs_l1)
  (dRet (dOp gAdd (dSlN 3 oN (oI (dC (.int 24)))) (dFz (nLc (iRg1 (aIm (dC (.int 6)) aNil)) b_law_alongs_l2 [8]))))))))
noncomputable def m_law_alongs : En → R L := dDef 9 b_law_alongs
section
variable {P : Program} {wd : World} {K : PySem.W.Frag} {mg : Str → Option Value} {base : Heap}
theorem ok_law_alongs (T : Tx K mg) : FnOk P wd K mg base (L2.CX P wd) 4 (He.ga K "_law_alongs") (fd_law_alongs T) ["jar", "scale"] (spD K (caK [] K) 2 m_law_alongs) :=
  fn_denD (F_law_alongs T) sc_law_alongs fun cdv A outer s H E g =>
  (vss_cons (vs_set 2 sc_law_alongs.nd (ve_ixN 1 (ve_neg ve_int)))
  (vss_cons (vs_if (vt_cmp op_ltA ob_lt (ve_var 2) ve_int (nomark _))
   (vss_one (vs_ret (ve_fz (vn_rg2 g.calm (by rfl) T.n_list (by rfl) T.n_range (ve_neg ve_int) (ve_add (ve_var 2) ve_int)))))
   vss_nil)
  (vss_cons (vs_setL 3 sc_law_alongs.nd (vn_lst (va_im (ve_neg ve_int) (va_im ve_int (va_im ve_int (va_im (ve_sub (ve_var 2) ve_int) (va_im (ve_var 2) (va_im (ve_add (ve_var 2) ve_int) (va_im ve_int (va_im (ve_neg (ve_pow ve_int ve_int)) va_nil))))))))))
  (vss_cons (vs_for g.po g.calm (vi_val (ve_call (ok_law_tb_pieces T) (g.hr.mono (by decide)) g.tk rfl (by rfl) (g_law_tb_pieces T) (F_law_tb_pieces T).kp (bi_law_tb_pieces T) (va_im (ve_var 1) va_nil))) (vg_tup g.calm (vgs_cons (vg_name 4 sc_law_alongs.nd) (vgs_cons (vg_name 5 sc_law_alongs.nd) (vgs_cons (vg_name 6 sc_law_alongs.nd) (vgs_cons (vg_name 7 sc_law_alongs.nd) vgs_nil))))) (nox_tup (nox_cons nox_put (nox_cons nox_put (nox_cons nox_put (nox_cons nox_put nox_nil)))))
   (vss_one (vs_extend 3 (ve_lst (va_im (ve_call (ok_law_tb_floor T) (g.hr.mono (by decide)) g.tk rfl (by rfl) (g_law_tb_floor T) (F_law_tb_floor T).kp (bi_law_tb_floor T) (va_im (ve_var 6) va_nil)) (va_im (ve_sub (ve_call (ok_law_tb_floor T) (g.hr.mono (by decide)) g.tk rfl (by rfl) (g_law_tb_floor T) (F_law_tb_floor T).kp (bi_law_tb_floor T) (va_im (ve_var 6) va_nil)) ve_int) (va_im (ve_call (ok_law_tb_floor T) (g.hr.mono (by decide)) g.tk rfl (by rfl) (g_law_tb_floor T) (F_law_tb_floor T).kp (bi_law_tb_floor T) (va_im (ve_var 7) va_nil)) (va_im (ve_add (ve_call (ok_law_tb_floor T) (g.hr.mono (by decide)) g.tk rfl (by rfl) (g_law_tb_floor T) (F_law_tb_floor T).kp (bi_law_tb_floor T) (va_im (ve_var 7) va_nil)) ve_int) va_nil))))))))
  (vss_one (vs_ret (ve_add (ve_slN 3 vo_none (vo_some ve_int)) (ve_fz (vn_lcG [("go", 8)] g sc_law_alongs.nd (vi_range1 (by rfl) T.n_range (va_im ve_int va_nil)) (by kernel_rfl)
   (fun s H C cl fp g => (vgc_name 8 (by decide) sc_law_alongs.nd)) (fun s H C cl fp g => vts_nil)
   (fun s H C cl fp g => (ve_call (ok_law_take T) (g.hr.mono (by decide)) g.tk rfl (by rfl) (g_law_take T) (F_law_take T).kp (bi_law_take T) (va_sl 0 (va_im (ve_add (ve_var 2) ve_int) va_nil)))))))))))))
end
/-! _law_shows_at -/
abbrev s_law_shows_at : Stmt := topS 65
theorem sc_law_shows_at : FnScope ["kind", "scale", "cell", "along", "place", "mine", "theirs"] ["kind", "scale", "cell", "along"] (defScope s_law_shows_at) := ⟨rfl, rfl, rfl, by decide +kernel, rfl, by decide +kernel, by decide +kernel⟩
noncomputable def b_law_shows_at : En → R Fl :=
  (dSeq (dIf (dAnd (dCmp gEq (dVar 0) (dC (.str "day"))) (dCmp gNe (dIxN 2 (dC (.int 1))) (dC (.int 1))))
   (dRet (dC .none))
   dNx)
  (dSeq (dAsg (putIm 4) (dFn 2 m_place_on (aIm (dVar 1) (aIm (dIfE (dCmp gEq (dVar 0) (dC (.str "day"))) (dIxN 2 (dC (.int 0))) (dVar 2)) aNil))))
  (dSeq (dAsg (putIm 5) (dFn 2 m_law_tb_star_at (aIm (dVar 1) (aIm (dVar 2) aNil))))
  (dSeq (dAsg (putIm 6) (dIfE (dIsi "tuple" (dVar 4)) (dFn 1 m_rounded (aIm (dVar 4) aNil)) (dC .none)))
  (dSeq (dIf (dNot (dTru (dFn 2 (m_law_like 60) (aIm (dVar 6) (aIm (dVar 5) aNil)))))
   (dRet (dC .none))
   dNx)
  (dRet (dB (dCmp gEq (dVar 5) (dVar 3)))))))))
noncomputable def m_law_shows_at : En → R L := dDef 7 b_law_shows_at
section
variable {P : Program} {wd : World} {K : PySem.W.Frag} {mg : Str → Option Value} {base : Heap}
theorem ok_law_shows_at (T : Tx K mg) : FnOk P wd K mg base (L2.CX P wd) 63 (He.ga K "_law_shows_at") (fd_law_shows_at T) ["kind", "scale", "cell", "along"] (spD K (caK [] K) 4 m_law_shows_at) :=
  fn_denD (F_law_shows_at T) sc_law_shows_at fun cdv A outer s H E g =>
  (vss_cons (vs_if (vt_w (vw_and (vt_cmp (op_eqD g.hr.units) ob_eq (ve_var 0) ve_str (nomark _)) (vw_and1 (vt_cmp (op_neD g.hr.units) ob_ne (ve_ixN 2 ve_int) ve_int (nomark _)))))
   (vss_one (vs_ret ve_non))
   vss_nil)
  (vss_cons (vs_set 4 sc_law_shows_at.nd (ve_call (ok_place_on T) (g.hr.mono (by decide)) g.tk rfl (by rfl) (g_place_on T) (F_place_on T).kp (bi_place_on T) (va_im (ve_var 1) (va_im (ve_ifE (vt_cmp (op_eqD g.hr.units) ob_eq (ve_var 0) ve_str (nomark _)) (ve_ixN 2 ve_int) (ve_var 2)) va_nil))))
  (vss_cons (vs_set 5 sc_law_shows_at.nd (ve_call (ok_law_tb_star_at T) (g.hr.mono (by decide)) g.tk rfl (by rfl) (g_law_tb_star_at T) (F_law_tb_star_at T).kp (bi_law_tb_star_at T) (va_im (ve_var 1) (va_im (ve_var 2) va_nil))))
  (vss_cons (vs_set 6 sc_law_shows_at.nd (ve_ifE (vt_b (ve_isi (by rfl) T.n_isinstance (ve_var 4) (by rfl) T.n_tuple boot_ty_tuple)) (ve_call (ok_rounded T) (g.hr.mono (by decide)) g.tk rfl (by rfl) (g_rounded T) (F_rounded T).kp (bi_rounded T) (va_im (ve_var 4) va_nil)) ve_non))
  (vss_cons (vs_if (vt_not (vt_tru (ve_call (ok_law_like T 60) (g.hr.mono (by decide)) g.tk rfl (by rfl) (g_law_like T) (F_law_like T).kp (bi_law_like T) (va_im (ve_var 6) (va_im (ve_var 5) va_nil)))))
   (vss_one (vs_ret ve_non))
   vss_nil)
  (vss_one (vs_ret (ve_cmp (op_eqD g.hr.units) ob_eq (ve_var 5) (ve_var 3) (nomark _)))))))))
end
/-! _law_belt_right -/
abbrev s_law_belt_right : Stmt := topS 66
theorem sc_law_belt_right : FnScope ["kind", "scale", "along", "belt", "low", "high", "shut", "near", "below", "above", "some", "cell", "is_there", "is_one"] ["kind", "scale", "along", "belt"] (defScope s_law_belt_right) := ⟨rfl, rfl, rfl, by decide +kernel, rfl, by decide +kernel, by decide +kernel⟩
noncomputable def b_law_belt_right_l1 : En → R Fl :=
  (dSeq (dAsg (putIm 13) (dOrV (dCmp gNe (dVar 0) (dC (.str "day"))) (dB (dChain gLe gLe (dC (.int 0)) (dIxN 11 (dC (.int 0))) (dC (.int 3652058))))))
  (dIf (dAnd (dTru (dVar 13)) (dNot (dTru (dFn 2 (m_law_like 60) (aIm (dFn 4 m_law_shows_at (aIm (dVar 0) (aIm (dVar 1) (aIm (dVar 11) (aIm (dVar 2) aNil))))) (aIm (dVar 12) aNil))))))
   (dRet (dC (.bool false)))
   dNx))
noncomputable def b_law_belt_right : En → R Fl :=
  (dSeq (dAsg (gTupD 3 (gsCons (putIm 4) (gsCons (putIm 5) (gsCons (putIm 6) gsNil)))) (dVar 3))
  (dSeq (dAsg (putIm 7) (dIfE (dCmp gEq (dVar 0) (dC (.str "day"))) (dTup (aIm (dC (.int 1)) (aIm (dC (.int 1)) aNil))) (dTup (aIm (dC (.int 1)) (aIm (dOp gPow (dC (.int 10)) (dC (.int 20))) aNil)))))
  (dSeq (dPar 8 9 (aIm (dFn 2 m_law_tb_minus (aIm (dVar 4) (aIm (dVar 7) aNil))) (aIm (dFn 2 m_law_tb_plus (aIm (dVar 5) (aIm (dVar 7) aNil))) aNil)))
  (dSeq (dAsg (putIm 10) (dLst (aIm (dTup (aIm (dVar 4) (aIm (dC (.bool true)) aNil))) (aIm (dTup (aIm (dVar 8) (aIm (dC (.bool false)) aNil))) (aIm (dTup (aIm (dVar 9) (aIm (dC (.bool false)) aNil))) (aIm (dTup (aIm (dVar 5) (aIm (dVar 6) aNil))) aNil))))))
  (dSeq (dFor (iD (dVar 10)) (gTupD 2 (gsCons (putIm 11) (gsCons (putIm 12) gsNil))) b_law_belt_right_l1)
  (dRet (dB (dNot (dUB (dFn 2 m_law_tb_less (aIm (dVar 5) (aIm (dVar 4) aNil))))))))))))
noncomputable def m_law_belt_right : En → R L := dDef 14 b_law_belt_right
section
variable {P : Program} {wd : World} {K : PySem.W.Frag} {mg : Str → Option Value} {base : Heap}
theorem ok_law_belt_right (T : Tx K mg) : FnOk P wd K mg base (L2.CX P wd) 64 (He.ga K "_law_belt_right") (fd_law_belt_right T) ["kind", "scale", "along", "belt"] (spD K (caK [] K) 4 m_law_belt_right) :=
  fn_denD (F_law_belt_right T) sc_law_belt_right fun cdv A outer s H E g =>
  (vss_cons (vs_asg (ve_var 3) (vg_tup g.calm (vgs_cons (vg_name 4 sc_law_belt_right.nd) (vgs_cons (vg_name 5 sc_law_belt_right.nd) (vgs_cons (vg_name 6 sc_law_belt_right.nd) vgs_nil)))) (nox_tup (nox_cons nox_put (nox_cons nox_put (nox_cons nox_put nox_nil)))))
  (vss_cons (vs_set 7 sc_law_belt_right.nd (ve_ifE (vt_cmp (op_eqD g.hr.units) ob_eq (ve_var 0) ve_str (nomark _)) (ve_tup (va_im ve_int (va_im ve_int va_nil))) (ve_tup (va_im ve_int (va_im (ve_pow ve_int ve_int) va_nil)))))
  (vss_cons (vs_par 8 9 g.calm sc_law_belt_right.nd (va_im (ve_call (ok_law_tb_minus T) (g.hr.mono (by decide)) g.tk rfl (by rfl) (g_law_tb_minus T) (F_law_tb_minus T).kp (bi_law_tb_minus T) (va_im (ve_var 4) (va_im (ve_var 7) va_nil))) (va_im (ve_call (ok_law_tb_plus T) (g.hr.mono (by decide)) g.tk rfl (by rfl) (g_law_tb_plus T) (F_law_tb_plus T).kp (bi_law_tb_plus T) (va_im (ve_var 5) (va_im (ve_var 7) va_nil))) va_nil)))
  (vss_cons (vs_set 10 sc_law_belt_right.nd (ve_lst (va_im (ve_tup (va_im (ve_var 4) (va_im ve_bl va_nil))) (va_im (ve_tup (va_im (ve_var 8) (va_im ve_bl va_nil))) (va_im (ve_tup (va_im (ve_var 9) (va_im ve_bl va_nil))) (va_im (ve_tup (va_im (ve_var 5) (va_im (ve_var 6) va_nil))) va_nil))))))
  (vss_cons (vs_for g.po g.calm (vi_val (ve_var 10)) (vg_tup g.calm (vgs_cons (vg_name 11 sc_law_belt_right.nd) (vgs_cons (vg_name 12 sc_law_belt_right.nd) vgs_nil))) (nox_tup (nox_cons nox_put (nox_cons nox_put nox_nil)))
   (vss_cons (vs_set 13 sc_law_belt_right.nd (ve_or (ve_cmp (op_neD g.hr.units) ob_ne (ve_var 0) ve_str (nomark _)) (ve_or1 (ve_chain op_leA ob_le op_leA ob_le ve_int (ve_ixN 11 ve_int) ve_int))))
  (vss_one (vs_if (vt_w (vw_and (vt_tru (ve_var 13)) (vw_and1 (vt_not (vt_tru (ve_call (ok_law_like T 60) (g.hr.mono (by decide)) g.tk rfl (by rfl) (g_law_like T) (F_law_like T).kp (bi_law_like T) (va_im (ve_call (ok_law_shows_at T) (g.hr.mono (by decide)) g.tk rfl (by rfl) (g_law_shows_at T) (F_law_shows_at T).kp (bi_law_shows_at T) (va_im (ve_var 0) (va_im (ve_var 1) (va_im (ve_var 11) (va_im (ve_var 2) va_nil))))) (va_im (ve_var 12) va_nil))))))))
   (vss_one (vs_ret ve_bl))
   vss_nil))))
  (vss_one (vs_ret (ve_not (ve_ub (ve_call (ok_law_tb_less T) (g.hr.mono (by decide)) g.tk rfl (by rfl) (g_law_tb_less T) (F_law_tb_less T).kp (bi_law_tb_less T) (va_im (ve_var 5) (va_im (ve_var 4) va_nil))))))))))))
end
/-! _law_none_right -/
abbrev s_law_none_right : Stmt := topS 67
theorem sc_law_none_right : FnScope ["kind", "scale", "along", "some", "place", "cell", "day"] ["kind", "scale", "along"] (defScope s_law_none_right) := ⟨rfl, rfl, rfl, by decide +kernel, rfl, by decide +kernel, by decide +kernel⟩
noncomputable def b_law_none_right_l1 : D → En → R (Option D) :=
  (lcT (putIm 6) tT
   (dTup (aIm (dVar 6) (aIm (dC (.int 1)) aNil))))
noncomputable def b_law_none_right_l2 : D → En → R (Option D) :=
  (lcT (putIm 6) (dCmp gEq (dFn 2 m_law_tb_star_at (aIm (dVar 1) (aIm (dVar 6) aNil))) (dVar 2))
   (dVar 6))
noncomputable def b_law_none_right_l3 : En → R Fl :=
  (dIf (dTru (dFn 3 m_law_tb_between (aIm (dTup (aIm (dC (.int 0)) (aIm (dC (.int 1)) aNil))) (aIm (dVar 4) (aIm (dTup (aIm (dIxN 1 (d1 gNeg (dC (.int 1)))) (aIm (dC (.int 1)) aNil))) aNil)))))
   (dSeq (dAsg (putIm 5) (dFn 2 m_read_on (aIm (dVar 1) (aIm (dVar 4) aNil))))
   (dSeq (dIf (dNot (dTru (dFn 2 (m_law_like 60) (aIm (dVar 5) (aIm (dFn 2 m_law_tb_read (aIm (dVar 1) (aIm (dVar 4) aNil))) aNil)))))
    (dRet (dC (.bool false)))
    dNx)
   (dIf (dAnd (dCmp gIsNot (dVar 5) (dC .none)) (dCmp gEq (dFn 2 m_law_tb_star_at (aIm (dVar 1) (aIm (dVar 5) aNil))) (dVar 2)))
    (dRet (dC (.bool false)))
    dNx)))
   dNx)
noncomputable def b_law_none_right : En → R Fl :=
  (dSeq (dIf (dCmp gEq (dVar 0) (dC (.str "day")))
   (dSeq (dAsg (putIm 3) (dFz (nLc (iRg2 (aIm (dIxN 1 (dC (.int 1))) (aIm (dOp gAdd (dIxN 1 (dC (.int 2))) (dC (.int 1))) aNil))) b_law_none_right_l1 [6])))
   (dRet (dB (dCmp gEq (dFz (nLc (iD (dVar 3)) b_law_none_right_l2 [6])) (dLst aNil)))))
   dNx)
  (dSeq (dFor (iD (dLst (aIm (dFn 2 m_law_tb_made (aIm (dOp gSub (dOp gMul (dC (.int 2)) (dVar 2)) (dC (.int 1))) (aIm (dC (.int 2)) aNil))) (aIm (dTup (aIm (dVar 2) (aIm (dC (.int 1)) aNil))) (aIm (dFn 2 m_law_tb_made (aIm (dOp gAdd (dOp gMul (dC (.int 4)) (dVar 2)) (dC (.int 1))) (aIm (dC (.int 4)) aNil))) aNil))))) (putIm 4) b_law_none_right_l3)
  (dRet (dC (.bool true)))))
noncomputable def m_law_none_right : En → R L := dDef 7 b_law_none_right
section
variable {P : Program} {wd : World} {K : PySem.W.Frag} {mg : Str → Option Value} {base : Heap}
theorem ok_law_none_right (T : Tx K mg) : FnOk P wd K mg base (L2.CX P wd) 63 (He.ga K "_law_none_right") (fd_law_none_right T) ["kind", "scale", "along"] (spD K (caK [] K) 3 m_law_none_right) :=
  fn_denD (F_law_none_right T) sc_law_none_right fun cdv A outer s H E g =>
  (vss_cons (vs_if (vt_cmp (op_eqD g.hr.units) ob_eq (ve_var 0) ve_str (nomark _))
   (vss_cons (vs_setLiG 3 [("day", 6)] g sc_law_none_right.nd (vi_range2 (by rfl) T.n_range (va_im (ve_ixN 1 ve_int) (va_im (ve_add (ve_ixN 1 ve_int) ve_int) va_nil))) (by kernel_rfl)
   (fun s H C cl fp g => (vgc_name 6 (by decide) sc_law_none_right.nd)) (fun s H C cl fp g => vts_nil)
   (fun s H C cl fp g => (ve_tup (va_im (ve_var 6) (va_im ve_int va_nil)))))
   (vss_one (vs_ret (ve_cmp (op_eqD g.hr.units) ob_eq (ve_fz (vn_lcG [("day", 6)] g sc_law_none_right.nd (vi_val (ve_var 3)) (by kernel_rfl)
   (fun s H C cl fp g => (vgc_name 6 (by decide) sc_law_none_right.nd)) (fun s H C cl fp g => (vts_one (vt_cmp (op_eqD g.hr.units) ob_eq (ve_call (ok_law_tb_star_at T) (g.hr.mono (by decide)) g.tk rfl (by rfl) (g_law_tb_star_at T) (F_law_tb_star_at T).kp (bi_law_tb_star_at T) (va_im (ve_var 1) (va_im (ve_var 6) va_nil))) (ve_var 2) (nomark _))))
   (fun s H C cl fp g => (ve_var 6)))) (ve_lst va_nil) (nomark _)))))
   vss_nil)
  (vss_cons (vs_for g.po g.calm (vi_val (ve_lst (va_im (ve_call (ok_law_tb_made T) (g.hr.mono (by decide)) g.tk rfl (by rfl) (g_law_tb_made T) (F_law_tb_made T).kp (bi_law_tb_made T) (va_im (ve_sub (ve_mul ve_int (ve_var 2)) ve_int) (va_im ve_int va_nil))) (va_im (ve_tup (va_im (ve_var 2) (va_im ve_int va_nil))) (va_im (ve_call (ok_law_tb_made T) (g.hr.mono (by decide)) g.tk rfl (by rfl) (g_law_tb_made T) (F_law_tb_made T).kp (bi_law_tb_made T) (va_im (ve_add (ve_mul ve_int (ve_var 2)) ve_int) (va_im ve_int va_nil))) va_nil))))) (vg_name 4 sc_law_none_right.nd) nox_put
   (vss_one (vs_if (vt_tru (ve_call (ok_law_tb_between T) (g.hr.mono (by decide)) g.tk rfl (by rfl) (g_law_tb_between T) (F_law_tb_between T).kp (bi_law_tb_between T) (va_im (ve_tup (va_im ve_int (va_im ve_int va_nil))) (va_im (ve_var 4) (va_im (ve_tup (va_im (ve_ixN 1 (ve_neg ve_int)) (va_im ve_int va_nil))) va_nil)))))
   (vss_cons (vs_set 5 sc_law_none_right.nd (ve_call (ok_read_on T) (g.hr.mono (by decide)) g.tk rfl (by rfl) (g_read_on T) (F_read_on T).kp (bi_read_on T) (va_im (ve_var 1) (va_im (ve_var 4) va_nil))))
   (vss_cons (vs_if (vt_not (vt_tru (ve_call (ok_law_like T 60) (g.hr.mono (by decide)) g.tk rfl (by rfl) (g_law_like T) (F_law_like T).kp (bi_law_like T) (va_im (ve_var 5) (va_im (ve_call (ok_law_tb_read T) (g.hr.mono (by decide)) g.tk rfl (by rfl) (g_law_tb_read T) (F_law_tb_read T).kp (bi_law_tb_read T) (va_im (ve_var 1) (va_im (ve_var 4) va_nil))) va_nil)))))
    (vss_one (vs_ret ve_bl))
    vss_nil)
   (vss_one (vs_if (vt_w (vw_and (vt_cmp op_isNotP ob_isNot (ve_var 5) ve_non (nomark _)) (vw_and1 (vt_cmp (op_eqD g.hr.units) ob_eq (ve_call (ok_law_tb_star_at T) (g.hr.mono (by decide)) g.tk rfl (by rfl) (g_law_tb_star_at T) (F_law_tb_star_at T).kp (bi_law_tb_star_at T) (va_im (ve_var 1) (va_im (ve_var 5) va_nil))) (ve_var 2) (nomark _)))))
    (vss_one (vs_ret ve_bl))
    vss_nil))))
   vss_nil)))
  (vss_one (vs_ret ve_bl))))
end
/-! _law_scale_right -/
abbrev s_law_scale_right : Stmt := topS 68
theorem sc_law_scale_right : FnScope ["jar", "kind", "scale", "along", "owed", "told"] ["jar"] (defScope s_law_scale_right) := ⟨rfl, rfl, rfl, by decide +kernel, rfl, by decide +kernel, by decide +kernel⟩
noncomputable def b_law_scale_right_l1 : En → R Fl :=
  (dSeq (dPar 4 5 (aIm (dFn 2 m_law_tb_belt (aIm (dVar 2) (aIm (dVar 3) aNil))) (aIm (dFn 2 m_belt_at (aIm (dVar 2) (aIm (dVar 3) aNil))) aNil)))
  (dSeq (dIf (dNot (dTru (dFn 2 (m_law_like 60) (aIm (dVar 5) (aIm (dVar 4) aNil)))))
   (dRet (dC (.bool false)))
   dNx)
  (dSeq (dIf (dAnd (dCmp gIs (dVar 4) (dC .none)) (dNot (dTru (dFn 3 m_law_none_right (aIm (dVar 1) (aIm (dVar 2) (aIm (dVar 3) aNil)))))))
   (dRet (dC (.bool false)))
   dNx)
  (dIf (dAnd (dCmp gIsNot (dVar 4) (dC .none)) (dNot (dTru (dFn 4 m_law_belt_right (aIm (dVar 1) (aIm (dVar 2) (aIm (dVar 3) (aIm (dVar 4) aNil))))))))
   (dRet (dC (.bool false)))
   dNx))))
noncomputable def b_law_scale_right : En → R Fl :=
  (dSeq (dAsg (gTupD 2 (gsCons (putIm 1) (gsCons (putIm 2) gsNil))) (dFn 1 m_law_scale_drawn (aSl 0 aNil)))
  (dSeq (dFor (iD (dFn 2 m_law_alongs (aSl 0 (aIm (dVar 2) aNil)))) (putIm 3) b_law_scale_right_l1)
  (dRet (dC (.bool true)))))
noncomputable def m_law_scale_right : En → R L := dDef 6 b_law_scale_right
section
variable {P : Program} {wd : World} {K : PySem.W.Frag} {mg : Str → Option Value} {base : Heap}
theorem ok_law_scale_right (T : Tx K mg) : FnOk P wd K mg base (L2.CX P wd) 65 (He.ga K "_law_scale_right") (fd_law_scale_right T) ["jar"] (spD K (caK [] K) 1 m_law_scale_right) :=
  fn_denD (F_law_scale_right T) sc_law_scale_right fun cdv A outer s H E g =>
  (vss_cons (vs_asg (ve_call (ok_law_scale_drawn T) (g.hr.mono (by decide)) g.tk rfl (by rfl) (g_law_scale_drawn T) (F_law_scale_drawn T).kp (bi_law_scale_drawn T) (va_sl 0 va_nil)) (vg_tup g.calm (vgs_cons (vg_name 1 sc_law_scale_right.nd) (vgs_cons (vg_name 2 sc_law_scale_right.nd) vgs_nil))) (nox_tup (nox_cons nox_put (nox_cons nox_put nox_nil))))
  (vss_cons (vs_for g.po g.calm (vi_val (ve_call (ok_law_alongs T) (g.hr.mono (by decide)) g.tk rfl (by rfl) (g_law_alongs T) (F_law_alongs T).kp (bi_law_alongs T) (va_sl 0 (va_im (ve_var 2) va_nil)))) (vg_name 3 sc_law_scale_right.nd) nox_put
   (vss_cons (vs_par 4 5 g.calm sc_law_scale_right.nd (va_im (ve_call (ok_law_tb_belt T) (g.hr.mono (by decide)) g.tk rfl (by rfl) (g_law_tb_belt T) (F_law_tb_belt T).kp (bi_law_tb_belt T) (va_im (ve_var 2) (va_im (ve_var 3) va_nil))) (va_im (ve_call (ok_belt_at T) (g.hr.mono (by decide)) g.tk rfl (by rfl) (g_belt_at T) (F_belt_at T).kp (bi_belt_at T) (va_im (ve_var 2) (va_im (ve_var 3) va_nil))) va_nil)))
  (vss_cons (vs_if (vt_not (vt_tru (ve_call (ok_law_like T 60) (g.hr.mono (by decide)) g.tk rfl (by rfl) (g_law_like T) (F_law_like T).kp (bi_law_like T) (va_im (ve_var 5) (va_im (ve_var 4) va_nil)))))
   (vss_one (vs_ret ve_bl))
   vss_nil)
  (vss_cons (vs_if (vt_w (vw_and (vt_cmp op_isP ob_is (ve_var 4) ve_non (nomark _)) (vw_and1 (vt_not (vt_tru (ve_call (ok_law_none_right T) (g.hr.mono (by decide)) g.tk rfl (by rfl) (g_law_none_right T) (F_law_none_right T).kp (bi_law_none_right T) (va_im (ve_var 1) (va_im (ve_var 2) (va_im (ve_var 3) va_nil)))))))))
   (vss_one (vs_ret ve_bl))
   vss_nil)
  (vss_one (vs_if (vt_w (vw_and (vt_cmp op_isNotP ob_isNot (ve_var 4) ve_non (nomark _)) (vw_and1 (vt_not (vt_tru (ve_call (ok_law_belt_right T) (g.hr.mono (by decide)) g.tk rfl (by rfl) (g_law_belt_right T) (F_law_belt_right T).kp (bi_law_belt_right T) (va_im (ve_var 1) (va_im (ve_var 2) (va_im (ve_var 3) (va_im (ve_var 4) va_nil))))))))))
   (vss_one (vs_ret ve_bl))
   vss_nil))))))
  (vss_one (vs_ret ve_bl))))
end
/-! law -/
abbrev s_law : Stmt := topS 69
theorem sc_law : FnScope ["script", "jar", "go", "straight", "told", "owed", "along"] ["script"] (defScope s_law) := ⟨rfl, rfl, rfl, by decide +kernel, rfl, by decide +kernel, by decide +kernel⟩
noncomputable def b_law_l1 : En → R Fl :=
  (dIf (dNot (dTru (dFn 1 m_law_scale_right (aSl 1 aNil))))
   (dRet (dC (.bool false)))
   dNx)
noncomputable def b_law_l2 : D → En → R (Option D) :=
  (lcT (putIm 6) tT
   (dFn 2 m_belt_at (aIm (dVar 3) (aIm (dVar 6) aNil))))
noncomputable def b_law : En → R Fl :=
  (dSeq (dAsgL 1 (nFn 1 m_law_pool (aIm (dVar 0) aNil)))
  (dSeq (dFor (iRg1 (aIm (dC (.int 7)) aNil)) (putIm 2) b_law_l1)
  (dSeq (dAsg (putIm 3) (dTup (aIm (dC (.str "straight")) (aIm (dTup (aIm (dC (.int 0)) (aIm (dC (.int 1)) aNil))) (aIm (dTup (aIm (dC (.int 4)) (aIm (dC (.int 1)) aNil))) (aIm (dC (.int 4)) aNil))))))
  (dSeq (dAsgL 4 (nLc (iD (dLst (aIm (dC (.int 0)) (aIm (dC (.int 1)) (aIm (dC (.int 4)) (aIm (dC (.int 5)) aNil)))))) b_law_l2 [6]))
  (dSeq (dExt 4 (dLst (aIm (dFn 2 m_belt_at (aIm (dTup (aIm (dC (.str "days")) (aIm (dC (.int 10)) (aIm (dC (.int 12)) (aIm (dC (.int 1)) aNil))))) (aIm (dC (.int 0)) aNil))) (aIm (dFn 2 m_belt_at (aIm (dTup (aIm (dC (.str "days")) (aIm (dC (.int 10)) (aIm (dC (.int 12)) (aIm (dC (.int 1)) aNil))))) (aIm (dC (.int 1)) aNil))) (aIm (dFn 2 m_belt_at (aIm (dTup (aIm (dC (.str "days")) (aIm (dC (.int 10)) (aIm (dC (.int 12)) (aIm (dC (.int 8)) aNil))))) (aIm (dC (.int 1)) aNil))) aNil)))))
  (dSeq (dAsg (putIm 5) (dLst (aIm (dTup (aIm (dTup (aIm (dC (.int 0)) (aIm (dC (.int 1)) aNil))) (aIm (dTup (aIm (dC (.int 1)) (aIm (dC (.int 2)) aNil))) (aIm (dC (.bool false)) aNil)))) (aIm (dTup (aIm (dTup (aIm (dC (.int 1)) (aIm (dC (.int 2)) aNil))) (aIm (dTup (aIm (dC (.int 3)) (aIm (dC (.int 2)) aNil))) (aIm (dC (.bool false)) aNil)))) (aIm (dTup (aIm (dTup (aIm (dC (.int 7)) (aIm (dC (.int 2)) aNil))) (aIm (dTup (aIm (dC (.int 4)) (aIm (dC (.int 1)) aNil))) (aIm (dC (.bool true)) aNil)))) (aIm (dC .none) aNil))))))
  (dRet (dFnT 2 (m_law_like 60) (aSl 4 (aIm (dOp gAdd (dVar 5) (dLst (aIm (dTup (aIm (dTup (aIm (dC (.int 10)) (aIm (dC (.int 1)) aNil))) (aIm (dTup (aIm (dC (.int 10)) (aIm (dC (.int 1)) aNil))) (aIm (dC (.bool true)) aNil)))) (aIm (dTup (aIm (dTup (aIm (dC (.int 11)) (aIm (dC (.int 1)) aNil))) (aIm (dTup (aIm (dC (.int 12)) (aIm (dC (.int 1)) aNil))) (aIm (dC (.bool true)) aNil)))) (aIm (dC .none) aNil))))) aNil))))))))))
noncomputable def m_law : En → R L := dDef 7 b_law
section
variable {P : Program} {wd : World} {K : PySem.W.Frag} {mg : Str → Option Value} {base : Heap}
theorem ok_law (T : Tx K mg) : FnOk P wd K mg base (L2.CX P wd) 66 (He.ga K "law") (fd_law T) ["script"] (spD K (caK [] K) 1 m_law) :=
  fn_denD (F_law T) sc_law fun cdv A outer s H E g =>
  (vss_cons (vs_setL 1 sc_law.nd (vn_call (ok_law_pool T) (g.hr.mono (by decide)) g.tk rfl (by rfl) (g_law_pool T) (F_law_pool T).kp (bi_law_pool T) (va_im (ve_var 0) va_nil)))
  (vss_cons (vs_for g.po g.calm (vi_range1 (by rfl) T.n_range (va_im ve_int va_nil)) (vg_name 2 sc_law.nd) nox_put
   (vss_one (vs_if (vt_not (vt_tru (ve_call (ok_law_scale_right T) (g.hr.mono (by decide)) g.tk rfl (by rfl) (g_law_scale_right T) (F_law_scale_right T).kp (bi_law_scale_right T) (va_sl 1 va_nil))))
   (vss_one (vs_ret ve_bl))
   vss_nil)))
  (vss_cons (vs_set 3 sc_law.nd (ve_tup (va_im ve_str (va_im (ve_tup (va_im ve_int (va_im ve_int va_nil))) (va_im (ve_tup (va_im ve_int (va_im ve_int va_nil))) (va_im ve_int va_nil))))))
  (vss_cons (vs_setLcG 4 [("along", 6)] g sc_law.nd (vi_val (ve_lst (va_im ve_int (va_im ve_int (va_im ve_int (va_im ve_int va_nil)))))) (by kernel_rfl)
   (fun s H C cl fp g => (vgc_name 6 (by decide) sc_law.nd)) (fun s H C cl fp g => vts_nil)
   (fun s H C cl fp g => (ve_call (ok_belt_at T) (g.hr.mono (by decide)) g.tk rfl (by rfl) (g_belt_at T) (F_belt_at T).kp (bi_belt_at T) (va_im (ve_var 3) (va_im (ve_var 6) va_nil)))))
  (vss_cons (vs_extend 4 (ve_lst (va_im (ve_call (ok_belt_at T) (g.hr.mono (by decide)) g.tk rfl (by rfl) (g_belt_at T) (F_belt_at T).kp (bi_belt_at T) (va_im (ve_tup (va_im ve_str (va_im ve_int (va_im ve_int (va_im ve_int va_nil))))) (va_im ve_int va_nil))) (va_im (ve_call (ok_belt_at T) (g.hr.mono (by decide)) g.tk rfl (by rfl) (g_belt_at T) (F_belt_at T).kp (bi_belt_at T) (va_im (ve_tup (va_im ve_str (va_im ve_int (va_im ve_int (va_im ve_int va_nil))))) (va_im ve_int va_nil))) (va_im (ve_call (ok_belt_at T) (g.hr.mono (by decide)) g.tk rfl (by rfl) (g_belt_at T) (F_belt_at T).kp (bi_belt_at T) (va_im (ve_tup (va_im ve_str (va_im ve_int (va_im ve_int (va_im ve_int va_nil))))) (va_im ve_int va_nil))) va_nil)))))
  (vss_cons (vs_set 5 sc_law.nd (ve_lst (va_im (ve_tup (va_im (ve_tup (va_im ve_int (va_im ve_int va_nil))) (va_im (ve_tup (va_im ve_int (va_im ve_int va_nil))) (va_im ve_bl va_nil)))) (va_im (ve_tup (va_im (ve_tup (va_im ve_int (va_im ve_int va_nil))) (va_im (ve_tup (va_im ve_int (va_im ve_int va_nil))) (va_im ve_bl va_nil)))) (va_im (ve_tup (va_im (ve_tup (va_im ve_int (va_im ve_int va_nil))) (va_im (ve_tup (va_im ve_int (va_im ve_int va_nil))) (va_im ve_bl va_nil)))) (va_im ve_non va_nil))))))
  (vss_one (vs_ret (ve_callT (ok_law_like T 60) (g.hr.mono (by decide)) g.tk rfl (by rfl) (g_law_like T) (F_law_like T).kp (bi_law_like T) (va_sl 4 (va_im (ve_add (ve_var 5) (ve_lst (va_im (ve_tup (va_im (ve_tup (va_im ve_int (va_im ve_int va_nil))) (va_im (ve_tup (va_im ve_int (va_im ve_int va_nil))) (va_im ve_bl va_nil)))) (va_im (ve_tup (va_im (ve_tup (va_im ve_int (va_im ve_int va_nil))) (va_im (ve_tup (va_im ve_int (va_im ve_int va_nil))) (va_im ve_bl va_nil)))) (va_im ve_non va_nil))))) va_nil)))))))))))
end
end Lw
namespace Dn
open PySem PySem.Spec PyProof.Rows L2
/-! ### texts by their signs -/
abbrev cS (a : List Nat) : Option L := some (.im (.str (SX.S a)))
theorem sLine {n : Nat} (h : n ≤ 1000000) : n ≤ sizeLine := by have := PySem.sizeLine_eq; omega
/-- signs below 128 -/
def okS (a : List Nat) : Prop := ∀ c ∈ a, c < 128
theorem okS.app {a b : List Nat} (h : okS a) (h2 : okS b) : okS (a ++ b) := fun c hc => (List.mem_append.mp hc).elim (h c) (h2 c)
theorem okS.take {a : List Nat} (h : okS a) (k : Nat) : okS (a.take k) := fun c hc => h c (List.mem_of_mem_take hc)
theorem okS.drop {a : List Nat} (h : okS a) (k : Nat) : okS (a.drop k) := fun c hc => h c (List.mem_of_mem_drop hc)
theorem okS.num (n : Nat) : okS (TL.numL n) := fun c hc => by have := TL.numL_digits n c hc; omega
theorem shpS {a : List Nat} (h : okS a) : shp (.str (SX.S a)) = true := by
  have : PyData.strOk (SX.S a) = true := by
    show (SX.S a).cps.all (· < 0x110000) = true
    rw [← Array.all_toList, List.all_eq_true]
    intro c hc
    have := h c hc
    exact decide_eq_true (by omega)
  unfold shp SeqAt.shaped
  simp only [PyData.canLay0, PyData.depth, this]
  rfl
theorem S_iff {a b : List Nat} : SX.S a = SX.S b ↔ a = b := ⟨SX.S_inj, fun h => by rw [h]⟩
theorem gEq_S {a b : List Nat} (ha : okS a) (hb : okS b) : gEq (.str (SX.S a)) (.str (SX.S b)) = some (decide (a = b)) := by rw [gEq_of (shpS ha) (shpS hb), eqv_ss]; simp only [S_iff]
theorem gNe_S {a b : List Nat} (ha : okS a) (hb : okS b) : gNe (.str (SX.S a)) (.str (SX.S b)) = some (!decide (a = b)) := by rw [gNe_of (shpS ha) (shpS hb), eqv_ss]; simp only [S_iff]
theorem gLen_S {a : List Nat} (h : a.length ≤ 1000000) : gLen1 (.str (SX.S a)) = some (.int a.length) := by
  show (if (SX.S a).length ≤ sizeLine then some (PyData.int (SX.S a).length) else none) = _
  rw [SX.S_len, if_pos (sLine h)]
theorem gAdd_S {a b : List Nat} (h : a.length + b.length ≤ 1000000) : gAdd (.str (SX.S a)) (.str (SX.S b)) = some (.str (SX.S (a ++ b))) := by
  show (if (SX.S a).length + (SX.S b).length ≤ sizeLine then some (PyData.str (SX.S a ++ SX.S b)) else none) = _
  rw [SX.S_len, SX.S_len, if_pos (sLine h), SX.S_cat]
theorem cut_take {α : Type} (ds : List α) (k : Nat) : (ds.drop (HT.sIx ds.length 0 none)).take (HT.sIx ds.length ds.length (some (k : Int)) - HT.sIx ds.length 0 none) = ds.take k := by
  rw [HT.sIx_none, HT.sIx_nat, List.drop_zero, Nat.sub_zero]
  by_cases h : k ≤ ds.length
  · rw [Nat.min_eq_left h]
  · rw [Nat.min_eq_right (by omega), List.take_of_length_le (by omega), List.take_of_length_le (by omega)]
theorem cut_drop {α : Type} (ds : List α) (k : Nat) : (ds.drop (HT.sIx ds.length 0 (some (k : Int)))).take (HT.sIx ds.length ds.length none - HT.sIx ds.length 0 (some (k : Int))) = ds.drop k := by
  rw [HT.sIx_none, HT.sIx_nat]
  by_cases h : k ≤ ds.length
  · rw [Nat.min_eq_left h, List.take_of_length_le (by rw [List.length_drop]; omega)]
  · rw [Nat.min_eq_right (by omega), Nat.sub_self, List.take_zero, List.drop_eq_nil_of_le (by omega)]
theorem gSl_to {a : List Nat} (h : a.length ≤ 1000000) (k : Nat) : gSl (.str (SX.S a)) none (some (k : Int)) = some (.str (SX.S (a.take k))) := by
  show (if (SX.S a).length ≤ sizeLine then some (PyData.str (cutS (SX.S a) none (some (k : Int)))) else none) = _
  rw [SX.S_len, if_pos (sLine h)]
  exact congrArg (fun z => some (PyData.str (SX.S z))) (cut_take a k)
theorem gSl_from {a : List Nat} (h : a.length ≤ 1000000) (k : Nat) : gSl (.str (SX.S a)) (some (k : Int)) none = some (.str (SX.S (a.drop k))) := by
  show (if (SX.S a).length ≤ sizeLine then some (PyData.str (cutS (SX.S a) (some (k : Int)) none)) else none) = _
  rw [SX.S_len, if_pos (sLine h)]
  exact congrArg (fun z => some (PyData.str (SX.S z))) (cut_drop a k)
theorem cut_mid {α : Type} (ds : List α) (i j : Nat) : (ds.drop (HT.sIx ds.length 0 (some (i : Int)))).take (HT.sIx ds.length ds.length (some (j : Int)) - HT.sIx ds.length 0 (some (i : Int))) = (ds.take j).drop i := by
  rw [HT.sIx_nat, HT.sIx_nat, List.drop_take]
  by_cases h : i ≤ ds.length
  · rw [Nat.min_eq_left h]
    by_cases h2 : j ≤ ds.length
    · rw [Nat.min_eq_left h2]
    · rw [Nat.min_eq_right (by omega), List.take_of_length_le (by rw [List.length_drop]; omega), List.take_of_length_le (by rw [List.length_drop]; omega)]
  · have e2 : ds.drop i = [] := List.drop_eq_nil_of_le (by omega)
    rw [Nat.min_eq_right (show ds.length ≤ i by omega), List.drop_length, e2]
    simp
theorem gSl_mid {a : List Nat} (h : a.length ≤ 1000000) (i j : Nat) : gSl (.str (SX.S a)) (some (i : Int)) (some (j : Int)) = some (.str (SX.S ((a.take j).drop i))) := by
  show (if (SX.S a).length ≤ sizeLine then some (PyData.str (cutS (SX.S a) (some (i : Int)) (some (j : Int)))) else none) = _
  rw [SX.S_len, if_pos (sLine h)]
  exact congrArg (fun z => some (PyData.str (SX.S z))) (cut_mid a i j)
theorem gIx_S {a : List Nat} (h : a.length ≤ 1000000) {k : Nat} (hk : k < a.length) : gIx (.str (SX.S a)) (.int (k : Int)) = some (.str (SX.S [a[k]])) := by
  show (if (SX.S a).length ≤ sizeLine then (L2.atI a (k : Int)).map (fun c => PyData.str ⟨#[c]⟩) else none) = _
  rw [SX.S_len, if_pos (sLine h), L2.atI_nat (List.getElem?_eq_getElem hk)]
  rfl
theorem gIn_S (c : Nat) (b : List Nat) : gIn (.str (SX.S [c])) (.str (SX.S b)) = some (decide (c ∈ b)) := rfl
theorem gNotIn_S (c : Nat) (b : List Nat) : gNotIn (.str (SX.S [c])) (.str (SX.S b)) = some (!decide (c ∈ b)) := rfl
theorem iD_S {f : En → R D} {ρ ρ' : En} {a : List Nat} (h : f ρ = .ok (.str (SX.S a)) ρ') : iD f ρ = .ok (a.map fun c => .str (SX.S [c])) ρ' := by
  rw [iD_eq, h]; rfl
theorem strD_S (a : List Nat) : strD (SX.S a) = a.map fun c => PyData.str (SX.S [c]) := rfl
theorem gInt_S {a : List Nat} (h : NumText.AllDigits a) (hne : a ≠ []) (hl : a.length ≤ 640) : gInt [.str (SX.S a)] = some (.int (NumText.digitsVal a)) := by
  show (if (SX.S a).length ≤ 640 then (PySem.intText? (SX.S a)).map PyData.int else none) = _
  rw [SX.S_len, if_pos hl, SX.int_S (by rw [List.all_eq_true]; intro c hc; have := h c hc; simp; omega) hne (by omega)]
  rfl
theorem log2_of {n k : Nat} (h : n < 2 ^ k) (hk : 0 < k) : n.log2 < k := by
  by_cases h0 : n = 0
  · subst h0; simpa using hk
  · exact (Nat.log2_lt h0).mpr h
theorem gStr_nat {n : Nat} {k : Nat} (h : n < 2 ^ k) (hk : 0 < k) (h9 : k ≤ 1920) : gStr [.int (n : Int)] = some (.str (SX.S (TL.numL n))) := by
  show (if (n : Int).natAbs.log2 < 1920 then some (PyData.str (toString (n : Int))) else none) = _
  have : (n : Int).natAbs.log2 < 1920 := Nat.lt_of_lt_of_le (log2_of (by simpa using h) hk) h9
  rw [if_pos this]
  exact congrArg (fun z => some (PyData.str z)) (SX.num_S n)
theorem gPart_S {a b : List Nat} (hb : b ≠ []) (h : a.length ≤ 1000000) : gPart (SX.S a) (.str (SX.S b)) = some (match TL.par b [] a with
    | some (p, q) => .tuple [.str (SX.S p), .str (SX.S b), .str (SX.S q)]
    | none => .tuple [.str (SX.S a), .str (SX.S []), .str (SX.S [])]) := by
  have h1 : ((SX.S b).length == 0) = false := by
    rw [SX.S_len]
    cases b with
    | nil => exact absurd rfl hb
    | cons c r => rfl
  show (if ((SX.S b).length == 0) = false ∧ (SX.S a).length ≤ sizeLine then some (PyData.tuple [.str (Txt.partition (SX.S a) (SX.S b)).1, .str (Txt.partition (SX.S a) (SX.S b)).2.1, .str (Txt.partition (SX.S a) (SX.S b)).2.2]) else none) = _
  rw [if_pos ⟨h1, by rw [SX.S_len]; exact sLine h⟩]
  cases q : TL.par b [] a with
  | none => rw [SX.partition_none hb q]
  | some z => obtain ⟨p, r⟩ := z; rw [SX.partition_some hb q]
def intL (t : Int) : List Nat := if t < 0 then 45 :: TL.numL t.natAbs else TL.numL t.natAbs
theorem toS_neg (n : Nat) : Str.ofString (toString (Int.negSucc n)) = SX.S (45 :: TL.numL (n + 1)) := by
  refine TL.ext_tl ?_
  show (Str.ofString _).cps.toList = _
  rw [PyProof.Rows.signs_ofString]
  show (("-" : String) ++ Nat.repr (n + 1)).toList.map Char.toNat = _
  rw [String.toList_append, List.map_append, Nat.toList_repr]
  rfl
theorem toS_int (t : Int) : Str.ofString (toString t) = SX.S (intL t) := by
  cases t with
  | ofNat n => exact SX.num_S n
  | negSucc n =>
    have e : intL (Int.negSucc n) = 45 :: TL.numL (n + 1) := by unfold intL; rw [if_pos (Int.negSucc_lt_zero n)]; rfl
    rw [toS_neg, e]
theorem gStr_int {t : Int} {k : Nat} (h : t.natAbs < 2 ^ k) (hk : 0 < k) (h9 : k ≤ 1920) : gStr [.int t] = some (.str (SX.S (intL t))) := by
  show (if t.natAbs.log2 < 1920 then some (PyData.str (toString t)) else none) = _
  have : t.natAbs.log2 < 1920 := Nat.lt_of_lt_of_le (log2_of h hk) h9
  rw [if_pos this]
  exact congrArg (fun z => some (PyData.str z)) (toS_int t)
theorem okS.int (t : Int) : okS (intL t) := fun c hc => by
  unfold intL at hc
  split at hc
  · rcases List.mem_cons.mp hc with h | h
    · omega
    · exact okS.num _ c h
  · exact okS.num _ c hc
@[simp] theorem gIs_bool (a b : Bool) : gIs (.bool a) (.bool b) = some (decide (a = b)) := rfl
@[simp] theorem gIsNot_bool (a b : Bool) : gIsNot (.bool a) (.bool b) = some (!decide (a = b)) := rfl
theorem gSl_any {a : List Nat} (h : a.length ≤ 1000000) (ok : okS a) (lo hi : Option Int) : ∃ b, okS b ∧ b.length ≤ a.length ∧ gSl (.str (SX.S a)) lo hi = some (.str (SX.S b)) := by
  refine ⟨(a.drop (HT.sIx a.length 0 lo)).take (HT.sIx a.length a.length hi - HT.sIx a.length 0 lo), (ok.drop _).take _, ?_, ?_⟩
  · rw [List.length_take, List.length_drop]; omega
  · show (if (SX.S a).length ≤ sizeLine then some (PyData.str (cutS (SX.S a) lo hi)) else none) = _
    rw [SX.S_len, if_pos (sLine h)]
    rfl
end Dn
namespace Lw
open PySem PySem.Spec PyProof.Rows L2 Dn
/-! powers -/
theorem pow_lt' (b : Int) (hb : b.natAbs < 2 ^ 4) (n : Nat) : (b ^ n).natAbs < 2 ^ (4 * n + 1) := by
  rw [Int.natAbs_pow]
  have := Nat.pow_le_pow_left (Nat.le_of_lt hb) n
  rw [← Nat.pow_mul] at this
  exact Nat.lt_of_le_of_lt this (Nat.pow_lt_pow_right (by decide) (by omega))
theorem power_turn (b : Int) (hb : b.natAbs < 2 ^ 4) (n : Nat) (hn : n < 1000) : gMul (.int (b ^ n)) (.int b) = some (.int (b ^ (n + 1))) := by
  rw [gMul_big (m := 4 * n + 1) (n := 4) (pow_lt' b hb n) hb (by omega) (by decide) (by omega), Int.pow_succ]
theorem power_eq (b : Int) (hb : b.natAbs < 2 ^ 4) (n : Nat) (hn : n < 1000) : m_power_of [cI b, cI (n : Int)] = .ok (.im (.int (b ^ n))) [cI b, cI (n : Int)] := by
  obtain ⟨ρ', LP, y, fy, rfl⟩ := forL_rng (g := putIm 3) (b := b_power_of_l1) (lo := 0) (n := n)
    (P := fun i ρ => ∃ y : Option Dn.L, free (some y) = true ∧ ρ = [cI b, cI (n : Int), cI (b ^ i), y])
    (fun i hi ρ ⟨y, fy, e⟩ => by
      subst e
      have g := power_turn b hb i (by omega)
      generalize b ^ i = p at *
      generalize b ^ (i + 1) = p2 at *
      exact ⟨[cI b, cI (n : Int), cI p, cI (0 + (i : Int))], [cI b, cI (n : Int), cI p2, cI (0 + (i : Int))], by simp [fy], by simp [b_power_of_l1, g], _, rfl, rfl⟩)
    [cI b, cI (n : Int), cI 1, none] ⟨none, rfl, by rw [Int.pow_zero]⟩
  have I : Dn.inR (n : Int) := inR_of (by omega) (by omega)
  generalize b ^ n = p at *
  simp only [m_power_of, b_power_of, dDef_eq, dSeq_eq]
  simp [I, LP]
theorem tb_power_loop (b : Int) (hb : b.natAbs < 2 ^ 4) (k : Int) (n : Nat) (hn : n < 1000) : ∃ y : Option Dn.L, free (some y) = true ∧ dForL (putIm 3) b_law_tb_power_l1 (rngD 0 n) [cI b, cI k, cI 1, none] = .ok .nx [cI b, cI k, cI (b ^ n), y] := by
  obtain ⟨ρ', LP, y, fy, rfl⟩ := forL_rng (g := putIm 3) (b := b_law_tb_power_l1) (lo := 0) (n := n)
    (P := fun i ρ => ∃ y : Option Dn.L, free (some y) = true ∧ ρ = [cI b, cI k, cI (b ^ i), y])
    (fun i hi ρ ⟨y, fy, e⟩ => by
      subst e
      have g := power_turn b hb i (by omega)
      generalize b ^ i = p at *
      generalize b ^ (i + 1) = p2 at *
      exact ⟨[cI b, cI k, cI p, cI (0 + (i : Int))], [cI b, cI k, cI p2, cI (0 + (i : Int))], by simp [fy], by simp [b_law_tb_power_l1, g], _, rfl, rfl⟩)
    [cI b, cI k, cI 1, none] ⟨none, rfl, by rw [Int.pow_zero]⟩
  exact ⟨y, fy, LP⟩
/-- the power as the law has it: a fraction -/
theorem tb_power_up (b : Int) (hb : b.natAbs < 2 ^ 4) (n : Nat) (hn : n < 1000) : m_law_tb_power [cI b, cI (n : Int)] = .ok (.im (nD (b ^ n) 1)) [cI b, cI (n : Int)] := by
  obtain ⟨y, fy, LP⟩ := tb_power_loop b hb n n hn
  have I : Dn.inR (n : Int) := inR_of (by omega) (by omega)
  have h1 : ¬ (n : Int) < 0 := by omega
  generalize b ^ n = p at *
  simp only [m_law_tb_power, b_law_tb_power, dDef_eq, dSeq_eq]
  simp [I, LP, h1]
theorem tb_power_down (b : Int) (hb : b.natAbs < 2 ^ 4) (n : Nat) (h0 : 0 < n) (hn : n < 1000) : m_law_tb_power [cI b, cI (-(n : Int))] = .ok (.im (nD 1 (b ^ n))) [cI b, cI (-(n : Int))] := by
  obtain ⟨y, fy, LP⟩ := tb_power_loop b hb (-(n : Int)) n hn
  have I : Dn.inR (n : Int) := inR_of (by omega) (by omega)
  have h1 : -(n : Int) < 0 := by omega
  have h2 : ¬ 0 ≤ -(n : Int) := by omega
  have h3 : (if -(n : Int) < 0 then - -(n : Int) else -(n : Int)) = (n : Int) := by rw [if_pos h1]; omega
  generalize b ^ n = p at *
  generalize -(n : Int) = k at *
  simp only [m_law_tb_power, b_law_tb_power, dDef_eq, dSeq_eq]
  simp [I, LP, h2, h3]
end Lw
namespace Lw
open PySem PySem.Spec PyProof.Rows L2 Dn
/-- the program's power, of any whole number -/
theorem power_all (b : Int) (hb : b.natAbs < 2 ^ 4) (k : Int) (hk : k.natAbs < 1000) : m_power_of [cI b, cI k] = .ok (.im (.int (b ^ k.toNat))) [cI b, cI k] := by
  obtain ⟨ρ', LP, y, fy, rfl⟩ := forL_rng (g := putIm 3) (b := b_power_of_l1) (lo := 0) (n := k.toNat)
    (P := fun i ρ => ∃ y : Option Dn.L, free (some y) = true ∧ ρ = [cI b, cI k, cI (b ^ i), y])
    (fun i hi ρ ⟨y, fy, e⟩ => by
      subst e
      have g := power_turn b hb i (by omega)
      generalize b ^ i = p at *
      generalize b ^ (i + 1) = p2 at *
      exact ⟨[cI b, cI k, cI p, cI (0 + (i : Int))], [cI b, cI k, cI p2, cI (0 + (i : Int))], by simp [fy], by simp [b_power_of_l1, g], _, rfl, rfl⟩)
    [cI b, cI k, cI 1, none] ⟨none, rfl, by rw [Int.pow_zero]⟩
  have I : Dn.inR k := inR_of (by omega) (by omega)
  generalize b ^ k.toNat = p at *
  simp only [m_power_of, b_power_of, dDef_eq, dSeq_eq]
  simp [I, LP]
theorem tb_power_all (b : Int) (hb : b.natAbs < 2 ^ 4) (k : Int) (hk : k.natAbs < 1000) : m_law_tb_power [cI b, cI k] = .ok (.im (nD (b ^ k.toNat) (b ^ (-k).toNat))) [cI b, cI k] := by
  by_cases h : 0 ≤ k
  · obtain ⟨n, rfl⟩ : ∃ n : Nat, k = n := ⟨k.toNat, by omega⟩
    have e := tb_power_up b hb n (by omega)
    rw [Int.toNat_natCast, show (-(n : Int)).toNat = 0 by omega, Int.pow_zero]
    exact e
  · obtain ⟨n, rfl⟩ : ∃ n : Nat, k = -(n : Int) := ⟨(-k).toNat, by omega⟩
    have e := tb_power_down b hb n (by omega) (by omega)
    rw [Int.neg_neg, Int.toNat_natCast, show (-(n : Int)).toNat = 0 by omega, Int.pow_zero]
    exact e
/-- the power's value -/
def pq (b k : Int) : Rat := qv (b ^ k.toNat) (b ^ (-k).toNat)
theorem fr_pow (b : Int) (b0 : 0 < b) (hb : b.natAbs < 2 ^ 4) (k : Int) (hk : k.natAbs ≤ 60) : Fr 250 (pq b k) (b ^ k.toNat) (b ^ (-k).toNat) := by
  refine fr_self (Int.pow_pos b0) ?_ (lt_up (pow_lt' b hb _) (by omega)) (lt_up (pow_lt' b hb _) (by omega))
  by_cases h : 0 ≤ k
  · rw [show (-k).toNat = 0 by omega, Int.pow_zero, Int.gcd_one]
  · rw [show k.toNat = 0 by omega, Int.pow_zero, Int.one_gcd]
theorem pq_pos (b : Int) (b0 : 0 < b) (k : Int) : 0 < pq b k := qv_pos (Int.pow_pos b0) (Int.pow_pos b0)
theorem pq_succ (b : Int) (b0 : 0 < b) (k : Int) : pq b (k + 1) = pq b k * (b : Rat) := by
  have e : pq b k * (b : Rat) = qv (b ^ k.toNat * b) (b ^ (-k).toNat * 1) := by
    rw [qv_times (Int.ne_of_gt (Int.pow_pos b0)) (by decide), qv_whole]; rfl
  rw [e]
  unfold pq
  rw [qv_eq (Int.ne_of_gt (Int.pow_pos b0)) (by rw [Int.mul_one]; exact Int.ne_of_gt (Int.pow_pos b0)), Int.mul_one]
  by_cases h : 0 ≤ k
  · rw [show (-(k + 1)).toNat = 0 by omega, show (-k).toNat = 0 by omega, show (k + 1).toNat = k.toNat + 1 by omega, Int.pow_succ]
  · rw [show k.toNat = 0 by omega, show (k + 1).toNat = 0 by omega, show (-k).toNat = (-(k + 1)).toNat + 1 by omega, Int.pow_succ]
    simp [Int.mul_comm]
/-- the lowest of two powers is the power -/
theorem low_pow (b : Int) (b0 : 0 < b) (hb : b.natAbs < 2 ^ 4) (k : Int) (hk : k.natAbs ≤ 60) : m_lowest [cI (b ^ k.toNat), cI (b ^ (-k).toNat)] = .ok (.im (nD (b ^ k.toNat) (b ^ (-k).toNat))) [cI (b ^ k.toNat), cI (b ^ (-k).toNat)] := by
  have F := fr_pow b b0 hb k hk
  obtain ⟨x, y, f, e, -⟩ := low_both (b ^ k.toNat) (b ^ (-k).toNat) F.lw.ne 250 (by decide) (by decide) F.ta F.tb
  obtain ⟨rfl, rfl⟩ := f.uniq F
  exact e
end Lw
namespace Lw
open PySem PySem.Spec PyProof.Rows L2 Dn
/-! back by turns -/
abbrev tnD (b lo many L : Int) : D := .tuple [.str "turns", .int b, .int lo, .int many, .int L]
def turnV (b lo : Int) (t : Int) (q : Rat) : Rat := pq b (lo + t) * (1 + (q - (t : Rat)) * ((b - 1 : Int) : Rat))
theorem floor_in {q : Rat} {m : Int} (h0 : 0 ≤ q) (h1 : q ≤ (m : Rat)) : 0 ≤ q.floor ∧ q.floor ≤ m := by
  refine ⟨Rat.le_floor_iff.mpr (by simpa using h0), ?_⟩
  have h2 : ((q.floor : Int) : Rat) ≤ (m : Rat) := Rat.le_trans (Rat.floor_le q) h1
  exact Rat.intCast_le_intCast.mp h2
theorem back_trn {qc : Rat} {e f : Int} (hc : Fr 120 qc e f) (b lo many L : Int) (b1 : 2 ≤ b) (hb : b.natAbs < 2 ^ 4) (hlo : -30 ≤ lo) (hm : 1 ≤ many) (hlm : lo + many ≤ 30) (hL : 0 < L) (hL2 : L.natAbs < 2 ^ 100) (h0 : 0 ≤ qc) (h1 : qc ≤ (L : Rat)) :
    ∃ x y, Fr 2600 (turnV b lo (qc * qv many L).floor (qc * qv many L)) x y ∧
      m_back_turns [cD (tnD b lo many L), cD (nD e f)] = .ok (.im (nD x y)) [cD (tnD b lo many L), cD (nD e f)] := by
  have pL := ipos hL
  have pm := ipos (show 0 < many by omega)
  obtain ⟨x1, y1, F1, E1, -⟩ := low_both many L (by omega) 100 (by decide) (by decide) (by omega) hL2
  obtain ⟨x2, y2, F2, E2, -⟩ := times_both hc F1 (by decide) (by decide) (by decide)
  have fl : x2 / y2 = (qc * qv many L).floor := by rw [← floor_qv F2.lw.p, F2.v]
  have k0 : 0 ≤ qc * qv many L := Rat.mul_nonneg h0 (Rat.le_of_lt (qv_pos (by omega) hL))
  have k1 : qc * qv many L ≤ (many : Rat) := by
    have e : (many : Rat) = (L : Rat) * qv many L := by unfold qv; grind
    rw [e]
    exact Rat.mul_le_mul_of_nonneg_right h1 (Rat.le_of_lt (qv_pos (by omega) hL))
  obtain ⟨t0, t1⟩ := floor_in k0 k1
  generalize hq : qc * qv many L = q at *
  generalize ht : q.floor = t at *
  have hd : gFdiv (.int x2) (.int y2) = some (.int t) := by rw [gFdiv_pos (n := 220) F2.lw.p F2.tb (by decide) (by decide), fl]
  have Ft := fr_whole t (M := 40) (by omega) (by decide)
  obtain ⟨x3, y3, F3, E3, -⟩ := minus_both F2 Ft (by decide) (by decide) (by decide)
  have P1 := power_all b hb (lo + t) (by omega)
  have P2 : m_power_of [cI b, cI (-lo - t)] = .ok (.im (.int (b ^ (-(lo + t)).toNat))) [cI b, cI (-lo - t)] := by
    have := power_all b hb (-lo - t) (by omega)
    rwa [show (-lo - t).toNat = (-(lo + t)).toNat by omega] at this
  have E4 := low_pow b (by omega) hb (lo + t) (by omega)
  have F4 := fr_pow b (by omega) hb (lo + t) (by omega)
  have Fb := fr_whole (b - 1) (M := 5) (by omega) (by decide)
  obtain ⟨x5, y5, F5, E5, -⟩ := times_both F3 Fb (by decide) (by decide) (by decide)
  obtain ⟨x6, y6, F6, E6, -⟩ := plus_both (fr_whole 1 (M := 5) (by decide) (by decide)) F5 (by decide) (by decide) (by decide)
  obtain ⟨x7, y7, F7, E7, -⟩ := times_both F4 F6 (by decide) (by decide) (by decide)
  refine ⟨x7, y7, ⟨F7.lw, lt_up F7.ta (by decide), lt_up F7.tb (by decide), F7.v⟩, ?_⟩
  clear F1 F2 F3 F4 F5 F6 F7 Ft Fb fl
  generalize b ^ (lo + t).toNat = p1 at *
  generalize b ^ (-(lo + t)).toNat = p2 at *
  simp only [m_back_turns, b_back_turns, dDef_eq, dSeq_eq]
  simp [nD] at E1 E2 E3 E4 E5 E6 E7
  simp [tnD, nD, gTupD, gsCons, gsNil, E1, E2, hd, E3, P1, P2, E4, E5, E6, E7]
end Lw
namespace Lw
open PySem PySem.Spec PyProof.Rows L2 Dn
/-! a turn from either side -/
theorem floor_at {q : Rat} {k : Int} (h0 : (k : Rat) ≤ q) (h1 : q < ((k + 1 : Int) : Rat)) : q.floor = k := by
  have a : k ≤ q.floor := Rat.le_floor_iff.mpr h0
  have b : ((q.floor : Int) : Rat) < ((k + 1 : Int) : Rat) := by have := Rat.floor_le q; grind
  have c := Rat.intCast_lt_intCast.mp b
  omega
theorem turn_same (b lo k : Int) (b0 : 0 < b) (q : Rat) (h0 : (k : Rat) ≤ q) (h1 : q ≤ ((k + 1 : Int) : Rat)) : turnV b lo q.floor q = turnV b lo k q := by
  by_cases h : q < ((k + 1 : Int) : Rat)
  · rw [floor_at h0 h]
  · have e : q = ((k + 1 : Int) : Rat) := by grind
    have f : q.floor = k + 1 := by rw [e, Rat.floor_intCast]
    rw [f]
    unfold turnV
    rw [show lo + (k + 1) = (lo + k) + 1 by omega, pq_succ b b0, e, Rat.intCast_sub, Rat.intCast_add]
    grind
theorem turn_along (b lo k many L : Int) (b0 : 0 < b) (hm : 0 < many) (hL : 0 < L) (p : Rat) :
    pq b (lo + k) + (p - qv (k * L) many) / (qv ((k + 1) * L) many - qv (k * L) many) * (pq b (lo + k + 1) - pq b (lo + k)) = turnV b lo k (p * qv many L) := by
  have pL := ipos hL
  have pm := ipos hm
  unfold turnV
  rw [pq_succ b b0, Rat.intCast_sub]
  unfold qv
  rw [Rat.intCast_mul, Rat.intCast_mul, Rat.intCast_add]
  generalize pq b (lo + k) = z
  have e : ((k : Rat) + ((1 : Int) : Rat)) * (L : Rat) / (many : Rat) - (k : Rat) * (L : Rat) / (many : Rat) = (L : Rat) / (many : Rat) := by grind
  rw [e]
  have e2 : (p - (k : Rat) * (L : Rat) / (many : Rat)) / ((L : Rat) / (many : Rat)) = p * ((many : Rat) / (L : Rat)) - (k : Rat) := by grind
  rw [e2]
  grind
theorem turn_in (k many L : Int) (hm : 0 < many) (hL : 0 < L) (p : Rat) : (qv (k * L) many ≤ p ↔ (k : Rat) ≤ p * qv many L) ∧ (p ≤ qv (k * L) many ↔ p * qv many L ≤ (k : Rat)) := by
  have pL := ipos hL
  have pm := ipos hm
  have ps : 0 < qv many L := qv_pos hm hL
  have e : qv (k * L) many * qv many L = (k : Rat) := by
    unfold qv
    rw [Rat.intCast_mul]
    grind
  rw [← e]
  exact ⟨⟨fun h => Rat.mul_le_mul_of_nonneg_right h (Rat.le_of_lt ps), fun h => Rat.le_of_mul_le_mul_right h ps⟩, ⟨fun h => Rat.mul_le_mul_of_nonneg_right h (Rat.le_of_lt ps), fun h => Rat.le_of_mul_le_mul_right h ps⟩⟩
end Lw
namespace Lw
open PySem PySem.Spec PyProof.Rows L2 Dn
/-! along by turns -/
theorem turn_loop (S C nm : D) (b lo many L top : Int) (b1 : 2 ≤ b) (hb : b.natAbs < 2 ^ 4) (ht : top.natAbs < 2 ^ 3500) : ∀ (n : Nat) (bot t : Int), 0 < bot → bot ≤ top → 0 ≤ t → t ≤ many → (many - t).toNat ≤ n →
    ∃ j : Nat, t + (j : Int) ≤ many ∧ bot * b ^ j ≤ top ∧ (t + (j : Int) < many → top < bot * b ^ j * b) ∧
      dWhile (dAnd (dCmp gLt (dVar 9) (dVar 5)) (dCmp gLe (dOp gMul (dVar 8) (dVar 3)) (dVar 7))) b_along_turns_l1 [cD S, cD C, cD nm, cI b, cI lo, cI many, cI L, cI top, cI bot, cI t, none] = .ok .nx [cD S, cD C, cD nm, cI b, cI lo, cI many, cI L, cI top, cI (bot * b ^ j), cI (t + (j : Int)), none]
  | n, bot, t, h0, h1, t0, t1, hn => by
    rw [dWhile_turn]
    by_cases hm : t < many
    · have g := gMul_big (i := bot) (j := b) (m := 3500) (n := 4) (by omega) hb (by decide) (by decide) (by decide)
      by_cases hl : bot * b ≤ top
      · cases n with
        | zero => omega
        | succ n =>
          have p0 : 0 < bot * b := Int.mul_pos h0 (by omega)
          obtain ⟨j, j1, j2, j3, e⟩ := turn_loop S C nm b lo many L top b1 hb ht n (bot * b) (t + 1) p0 hl (by omega) (by omega) (by omega)
          have k : bot * b * b ^ j = bot * b ^ (j + 1) := by rw [Int.pow_succ, Int.mul_assoc, Int.mul_comm b]
          have k2 : t + 1 + (j : Int) = t + ((j + 1 : Nat) : Int) := by omega
          rw [k, k2] at e
          rw [k] at j2 j3
          rw [k2] at j1 j3
          refine ⟨j + 1, j1, j2, j3, ?_⟩
          have eb : b_along_turns_l1 [cD S, cD C, cD nm, cI b, cI lo, cI many, cI L, cI top, cI bot, cI t, none] = .ok .nx [cD S, cD C, cD nm, cI b, cI lo, cI many, cI L, cI top, cI (bot * b), cI (t + 1), none] := by
            simp [b_along_turns_l1, g]
          generalize bot * b ^ (j + 1) = w at *
          generalize bot * b = v at *
          simp [hm, g, hl, eb, e]
      · refine ⟨0, by omega, by rw [Int.pow_zero, Int.mul_one]; exact h1, fun _ => by rw [Int.pow_zero, Int.mul_one]; omega, ?_⟩
        rw [Int.pow_zero, Int.mul_one]
        simp [hm, g, hl]
    · refine ⟨0, by omega, by rw [Int.pow_zero, Int.mul_one]; exact h1, fun _ => by omega, ?_⟩
      rw [Int.pow_zero, Int.mul_one]
      simp [hm]
end Lw
namespace Lw
open PySem PySem.Spec PyProof.Rows L2 Dn
/-! where a number stands among the powers -/
theorem pq_add (b lo : Int) (b0 : 0 < b) : ∀ j : Nat, pq b (lo + (j : Int)) = qv (b ^ lo.toNat * b ^ j) (b ^ (-lo).toNat)
  | 0 => by rw [Int.pow_zero, Int.mul_one, show lo + ((0 : Nat) : Int) = lo by omega]; rfl
  | j + 1 => by
    have e := pq_add b lo b0 j
    rw [show lo + ((j + 1 : Nat) : Int) = (lo + (j : Int)) + 1 by omega, pq_succ b b0, e, Int.pow_succ, ← Int.mul_assoc]
    have := qv_times (a := b ^ lo.toNat * b ^ j) (b := b ^ (-lo).toNat) (c := b) (d := 1) (Int.ne_of_gt (Int.pow_pos b0)) (by decide)
    rw [qv_whole, Int.mul_one] at this
    exact this.symm
theorem top_lt (b lo : Int) (b0 : 0 < b) {e f : Int} (hf : 0 < f) (j : Nat) : e * b ^ (-lo).toNat < f * b ^ lo.toNat * b ^ j ↔ qv e f < pq b (lo + (j : Int)) := by
  rw [pq_add b lo b0, qv_lt hf (Int.pow_pos b0)]
  have : f * b ^ lo.toNat * b ^ j = b ^ lo.toNat * b ^ j * f := by rw [Int.mul_assoc, Int.mul_comm]
  rw [this]
theorem lt_top (b lo : Int) (b0 : 0 < b) {e f : Int} (hf : 0 < f) (j : Nat) : f * b ^ lo.toNat * b ^ j < e * b ^ (-lo).toNat ↔ pq b (lo + (j : Int)) < qv e f := by
  rw [pq_add b lo b0, qv_lt (Int.pow_pos b0) hf]
  have : f * b ^ lo.toNat * b ^ j = b ^ lo.toNat * b ^ j * f := by rw [Int.mul_assoc, Int.mul_comm]
  rw [this]
theorem rest_v (b lo : Int) (b1 : 2 ≤ b) {e f : Int} (hf : 0 < f) (j : Nat) : qv (e * b ^ (-lo).toNat - f * b ^ lo.toNat * b ^ j) (f * b ^ lo.toNat * b ^ j * (b - 1)) = (qv e f / pq b (lo + (j : Int)) - 1) / ((b - 1 : Int) : Rat) := by
  have b0 : 0 < b := by omega
  have hp := pq_pos b b0 (lo + (j : Int))
  rw [pq_add b lo b0] at hp ⊢
  have P1 := ipos (show 0 < b ^ lo.toNat from Int.pow_pos b0)
  have P2 := ipos (show 0 < b ^ (-lo).toNat from Int.pow_pos b0)
  have P3 := ipos (show 0 < b ^ j from Int.pow_pos b0)
  have Pf := ipos hf
  have Pb := ipos (show 0 < b - 1 by omega)
  generalize b ^ lo.toNat = u at *
  generalize b ^ (-lo).toNat = v at *
  generalize b ^ j = w at *
  generalize b - 1 = c at *
  unfold qv
  simp only [Rat.intCast_mul, Rat.intCast_sub]
  generalize (u : Rat) = U at *
  generalize (v : Rat) = V at *
  generalize (w : Rat) = W at *
  generalize (c : Rat) = C at *
  generalize (f : Rat) = F at *
  generalize (e : Rat) = E at *
  have n1 : U ≠ 0 := Rat.ne_of_gt P1
  have n2 : V ≠ 0 := Rat.ne_of_gt P2
  have n3 : W ≠ 0 := Rat.ne_of_gt P3
  have n4 : C ≠ 0 := Rat.ne_of_gt Pb
  have n5 : F ≠ 0 := Rat.ne_of_gt Pf
  have n6 : U * W ≠ 0 := Rat.ne_of_gt (Rat.mul_pos P1 P3)
  have n7 : F * U * W ≠ 0 := Rat.ne_of_gt (Rat.mul_pos (Rat.mul_pos Pf P1) P3)
  clear hp P1 P2 P3 Pb Pf b1 hf b0
  grind
end Lw
namespace Lw
open PySem PySem.Spec PyProof.Rows L2 Dn
def trnP (b lo many L : Int) (t : Nat) (q : Rat) : Rat := (((t : Int) : Rat) + (q / pq b (lo + (t : Int)) - 1) / ((b - 1 : Int) : Rat)) * qv L many
theorem qv_pos_iff {e f : Int} (hf : 0 < f) : 0 < qv e f ↔ 0 < e := by
  have := qv_lt (a := 0) (b := 1) (c := e) (d := f) (by decide) hf
  rw [qv_whole] at this
  have z : ((0 : Int) : Rat) = 0 := rfl
  rw [z] at this
  rw [this]
  omega
theorem along_trn {e f : Int} (hc : Fr 3100 (qv e f) e f) (b lo many L : Int) (b1 : 2 ≤ b) (hb : b.natAbs < 2 ^ 4) (hlo : -30 ≤ lo) (hm : 1 ≤ many) (hlm : lo + many ≤ 30) (hL : 0 < L) (hL2 : L.natAbs < 2 ^ 100) :
    (qv e f ≤ 0 ∧ m_along_turns [cD (tnD b lo many L), cD (nD e f)] = .ok (.im (.str "nought")) [cD (tnD b lo many L), cD (nD e f)]) ∨
    (0 < qv e f ∧ (qv e f < pq b lo ∨ pq b (lo + many) < qv e f) ∧ m_along_turns [cD (tnD b lo many L), cD (nD e f)] = .ok (.im (.str "outside")) [cD (tnD b lo many L), cD (nD e f)]) ∨
    (∃ t : Nat, (t : Int) ≤ many ∧ pq b (lo + (t : Int)) ≤ qv e f ∧ ((t : Int) < many → qv e f < pq b (lo + (t : Int) + 1)) ∧ ((t : Int) = many → qv e f = pq b (lo + many)) ∧ ∃ x y, Fr 5600 (trnP b lo many L t (qv e f)) x y ∧
      m_along_turns [cD (tnD b lo many L), cD (nD e f)] = .ok (.im (nD x y)) [cD (tnD b lo many L), cD (nD e f)]) := by
  have b0 : 0 < b := by omega
  have hf := hc.lw.p
  simp only [m_along_turns, b_along_turns, dDef_eq, dSeq_eq]
  by_cases he : e ≤ 0
  · left
    refine ⟨Rat.not_lt.mp (fun z => by have := (qv_pos_iff hf).mp z; omega), ?_⟩
    simp [tnD, nD, gTupD, gsCons, gsNil, he]
  right
  have hq := (qv_pos_iff (e := e) hf).mpr (by omega)
  have P1 := power_all b hb (-lo) (by omega)
  have P2 := power_all b hb lo (by omega)
  have Fp := fr_pow b b0 hb lo (by omega)
  obtain ⟨g1, s1⟩ := mul_big hc.ta Fp.tb (by decide) (by decide) (by decide)
  obtain ⟨g2, s2⟩ := mul_big hc.tb Fp.ta (by decide) (by decide) (by decide)
  have bp : 0 < f * b ^ lo.toNat := Int.mul_pos hf (Int.pow_pos b0)
  have T0 := top_lt b lo b0 (e := e) hf 0
  rw [Int.pow_zero, Int.mul_one, show lo + ((0 : Nat) : Int) = lo by omega] at T0
  by_cases h1 : e * b ^ (-lo).toNat < f * b ^ lo.toNat
  · left
    refine ⟨hq, .inl (T0.mp h1), ?_⟩
    generalize e * b ^ (-lo).toNat = top at *
    generalize f * b ^ lo.toNat = bot at *
    simp [tnD, nD, gTupD, gsCons, gsNil, he, P1, P2, g1, g2, h1]
  obtain ⟨j, j1, j2, j3, LP⟩ := turn_loop (tnD b lo many L) (nD e f) (.str "turns") b lo many L (e * b ^ (-lo).toNat) b1 hb (lt_up s1 (by decide)) many.toNat (f * b ^ lo.toNat) 0 bp (by omega) (by decide) (by omega) (by omega)
  have Tj := top_lt b lo b0 (e := e) hf j
  have Lj := lt_top b lo b0 (e := e) hf j
  have Ts := top_lt b lo b0 (e := e) hf (j + 1)
  have Rj := rest_v b lo b1 (e := e) hf j
  rw [Int.pow_succ, ← Int.mul_assoc] at Ts
  rw [Int.zero_add] at LP j1 j3
  have bj : 0 < f * b ^ lo.toNat * b ^ j := Int.mul_pos bp (Int.pow_pos b0)
  have hle : pq b (lo + (j : Int)) ≤ qv e f := Rat.not_lt.mp fun z => by have := Tj.mpr z; omega
  by_cases hj : (j : Int) = many
  · by_cases h2 : f * b ^ lo.toNat * b ^ j < e * b ^ (-lo).toNat
    · left
      refine ⟨hq, .inr (by rw [← hj]; exact Lj.mp h2), ?_⟩
      generalize f * b ^ lo.toNat * b ^ j = bt at *
      generalize e * b ^ (-lo).toNat = top at *
      generalize f * b ^ lo.toNat = bot at *
      simp [tnD, nD] at LP
      simp [tnD, nD, gTupD, gsCons, gsNil, he, P1, P2, g1, g2, h1, LP, hj, h2]
    · right
      have hge : qv e f ≤ pq b (lo + (j : Int)) := Rat.not_lt.mp fun z => h2 (Lj.mpr z)
      have heq : qv e f = pq b (lo + (j : Int)) := Rat.le_antisymm hge hle
      refine ⟨j, j1, hle, fun z => by omega, fun z => by rw [← hj]; exact heq, L, 1, ?_, ?_⟩
      · have hv : trnP b lo many L j (qv e f) = (L : Rat) := by
          unfold trnP
          rw [heq, hj]
          have p0 := Rat.ne_of_gt (pq_pos b b0 (lo + many))
          have m0 := ine (show many ≠ 0 by omega)
          unfold qv
          grind
        rw [hv]
        exact (fr_whole L hL2 (by decide)).up (by decide)
      · generalize f * b ^ lo.toNat * b ^ j = bt at *
        generalize e * b ^ (-lo).toNat = top at *
        generalize f * b ^ lo.toNat = bot at *
        simp [tnD, nD] at LP
        simp [tnD, nD, gTupD, gsCons, gsNil, he, P1, P2, g1, g2, h1, LP, hj, h2]
  · right
    have hl : (j : Int) < many := by omega
    have hlt := j3 hl
    obtain ⟨g3, s3⟩ := mul_big (a := f * b ^ lo.toNat * b ^ j) (b := b - 1) (M := 3350) (N := 4) (by omega) (by omega) (by decide) (by decide) (by decide)
    obtain ⟨x1, y1, F1, E1, -⟩ := low_both (e * b ^ (-lo).toNat - f * b ^ lo.toNat * b ^ j) (f * b ^ lo.toNat * b ^ j * (b - 1)) (Int.ne_of_gt (Int.mul_pos bj (by omega))) 3360 (by decide) (by decide) (by omega) (lt_up s3 (by decide))
    rw [Rj] at F1
    obtain ⟨x2, y2, F2, E2, -⟩ := low_both L many (by omega) 100 (by decide) (by decide) hL2 (by omega)
    obtain ⟨x3, y3, F3, E3, -⟩ := plus_both (fr_whole (j : Int) (M := 40) (by omega) (by decide)) F1 (by decide) (by decide) (by decide)
    obtain ⟨x4, y4, F4, E4, -⟩ := times_both F3 F2 (by decide) (by decide) (by decide)
    refine ⟨j, j1, hle, fun _ => ?_, fun z => absurd z hj, x4, y4, F4.up (by decide), ?_⟩
    · rw [show lo + (j : Int) + 1 = lo + ((j + 1 : Nat) : Int) by omega]
      exact Ts.mp hlt
    · clear Rj Ts Tj Lj F1 F2 F3 F4 T0
      generalize f * b ^ lo.toNat * b ^ j * (b - 1) = bu at *
      generalize f * b ^ lo.toNat * b ^ j = bt at *
      generalize e * b ^ (-lo).toNat = top at *
      generalize f * b ^ lo.toNat = bot at *
      simp [tnD, nD] at LP E1 E2 E3 E4
      simp [tnD, nD, gTupD, gsCons, gsNil, he, P1, P2, g1, g2, h1, LP, hj, g3, E1, E2, E3, E4]
end Lw
namespace Lw
open PySem PySem.Spec PyProof.Rows L2 Dn
/-! the law's straight pieces -/
theorem atI_3 (a b c d : D) : L2.atI [a, b, c, d] 3 = some d := rfl
theorem lits {a b : Str} {la lb : List Nat} (ea : a = SX.S la) (eb : b = SX.S lb) (ha : okS la) (hb : okS lb) : gEq (.str a) (.str b) = some (decide (la = lb)) := by rw [ea, eb, gEq_S ha hb]
theorem qstbr : gEq (.str "straight") (.str "broken") = some false := (lits (la := [115, 116, 114, 97, 105, 103, 104, 116]) (lb := [98, 114, 111, 107, 101, 110]) (by rfl) (by rfl) (by unfold okS; decide) (by unfold okS; decide)).trans (by rfl)
theorem qstda : gEq (.str "straight") (.str "days") = some false := (lits (la := [115, 116, 114, 97, 105, 103, 104, 116]) (lb := [100, 97, 121, 115]) (by rfl) (by rfl) (by unfold okS; decide) (by unfold okS; decide)).trans (by rfl)
theorem qstst : gEq (.str "straight") (.str "straight") = some true := (lits (la := [115, 116, 114, 97, 105, 103, 104, 116]) (lb := [115, 116, 114, 97, 105, 103, 104, 116]) (by rfl) (by rfl) (by unfold okS; decide) (by unfold okS; decide)).trans (by rfl)
theorem qsttu : gEq (.str "straight") (.str "turns") = some false := (lits (la := [115, 116, 114, 97, 105, 103, 104, 116]) (lb := [116, 117, 114, 110, 115]) (by rfl) (by rfl) (by unfold okS; decide) (by unfold okS; decide)).trans (by rfl)
theorem qdabr : gEq (.str "days") (.str "broken") = some false := (lits (la := [100, 97, 121, 115]) (lb := [98, 114, 111, 107, 101, 110]) (by rfl) (by rfl) (by unfold okS; decide) (by unfold okS; decide)).trans (by rfl)
theorem qdada : gEq (.str "days") (.str "days") = some true := (lits (la := [100, 97, 121, 115]) (lb := [100, 97, 121, 115]) (by rfl) (by rfl) (by unfold okS; decide) (by unfold okS; decide)).trans (by rfl)
theorem qdast : gEq (.str "days") (.str "straight") = some false := (lits (la := [100, 97, 121, 115]) (lb := [115, 116, 114, 97, 105, 103, 104, 116]) (by rfl) (by rfl) (by unfold okS; decide) (by unfold okS; decide)).trans (by rfl)
theorem qdatu : gEq (.str "days") (.str "turns") = some false := (lits (la := [100, 97, 121, 115]) (lb := [116, 117, 114, 110, 115]) (by rfl) (by rfl) (by unfold okS; decide) (by unfold okS; decide)).trans (by rfl)
theorem qtubr : gEq (.str "turns") (.str "broken") = some false := (lits (la := [116, 117, 114, 110, 115]) (lb := [98, 114, 111, 107, 101, 110]) (by rfl) (by rfl) (by unfold okS; decide) (by unfold okS; decide)).trans (by rfl)
theorem qtuda : gEq (.str "turns") (.str "days") = some false := (lits (la := [116, 117, 114, 110, 115]) (lb := [100, 97, 121, 115]) (by rfl) (by rfl) (by unfold okS; decide) (by unfold okS; decide)).trans (by rfl)
theorem qtust : gEq (.str "turns") (.str "straight") = some false := (lits (la := [116, 117, 114, 110, 115]) (lb := [115, 116, 114, 97, 105, 103, 104, 116]) (by rfl) (by rfl) (by unfold okS; decide) (by unfold okS; decide)).trans (by rfl)
theorem qtutu : gEq (.str "turns") (.str "turns") = some true := (lits (la := [116, 117, 114, 110, 115]) (lb := [116, 117, 114, 110, 115]) (by rfl) (by rfl) (by unfold okS; decide) (by unfold okS; decide)).trans (by rfl)
theorem qbrbr : gEq (.str "broken") (.str "broken") = some true := (lits (la := [98, 114, 111, 107, 101, 110]) (lb := [98, 114, 111, 107, 101, 110]) (by rfl) (by rfl) (by unfold okS; decide) (by unfold okS; decide)).trans (by rfl)
theorem qbrda : gEq (.str "broken") (.str "days") = some false := (lits (la := [98, 114, 111, 107, 101, 110]) (lb := [100, 97, 121, 115]) (by rfl) (by rfl) (by unfold okS; decide) (by unfold okS; decide)).trans (by rfl)
theorem qbrst : gEq (.str "broken") (.str "straight") = some false := (lits (la := [98, 114, 111, 107, 101, 110]) (lb := [115, 116, 114, 97, 105, 103, 104, 116]) (by rfl) (by rfl) (by unfold okS; decide) (by unfold okS; decide)).trans (by rfl)
theorem qbrtu : gEq (.str "broken") (.str "turns") = some false := (lits (la := [98, 114, 111, 107, 101, 110]) (lb := [116, 117, 114, 110, 115]) (by rfl) (by rfl) (by unfold okS; decide) (by unfold okS; decide)).trans (by rfl)
theorem tbp_straight (l h : D) (L : Int) : m_law_tb_pieces [cD (.tuple [.str "straight", l, h, .int L])] = .ok (.ow [.tuple [l, h, nD 0 1, nD L 1]]) [cD (.tuple [.str "straight", l, h, .int L])] := by
  simp only [m_law_tb_pieces, b_law_tb_pieces, dDef_eq, dSeq_eq]
  simp [nD, atI_3, qstbr, qstda, qstst, qsttu, qdabr, qdada, qdast, qdatu, qtubr, qtuda, qtust, qtutu, qbrbr, qbrda, qbrst, qbrtu]
theorem tbp_days (l h : Int) (L : Int) : m_law_tb_pieces [cD (.tuple [.str "days", .int l, .int h, .int L])] = .ok (.ow [.tuple [nD l 1, nD h 1, nD 0 1, nD L 1]]) [cD (.tuple [.str "days", .int l, .int h, .int L])] := by
  simp only [m_law_tb_pieces, b_law_tb_pieces, dDef_eq, dSeq_eq]
  simp [nD, atI_3, qstbr, qstda, qstst, qsttu, qdabr, qdada, qdast, qdatu, qtubr, qtuda, qtust, qtutu, qbrbr, qbrda, qbrst, qbrtu]
/-- the pairs of the bounds of the turns -/
theorem bounds_ex (many L : Int) (hm : 1 ≤ many) (hm2 : many ≤ 60) (hL : 0 < L) (hL2 : L < 2 ^ 80) : ∃ u v : Nat → Int, ∀ k : Nat, (k : Int) ≤ many → Fr 100 (qv ((k : Int) * L) many) (u k) (v k) ∧ gMul (.int (k : Int)) (.int L) = some (.int ((k : Int) * L)) ∧ m_law_tb_made [cI ((k : Int) * L), cI many] = .ok (.im (nD (u k) (v k))) [cI ((k : Int) * L), cI many] := by
  have h : ∀ k : Nat, ∃ p : Int × Int, (k : Int) ≤ many → Fr 100 (qv ((k : Int) * L) many) p.1 p.2 ∧ gMul (.int (k : Int)) (.int L) = some (.int ((k : Int) * L)) ∧ m_law_tb_made [cI ((k : Int) * L), cI many] = .ok (.im (nD p.1 p.2)) [cI ((k : Int) * L), cI many] := fun k => by
    by_cases hk : (k : Int) ≤ many
    · obtain ⟨g, s⟩ := mul_big (a := (k : Int)) (b := L) (M := 8) (N := 80) (by omega) (by omega) (by decide) (by decide) (by decide)
      obtain ⟨x, y, F, -, E⟩ := low_both ((k : Int) * L) many (by omega) 100 (by decide) (by decide) (lt_up s (by decide)) (by omega)
      exact ⟨(x, y), fun _ => ⟨F, g, E⟩⟩
    · exact ⟨(0, 1), fun z => absurd z hk⟩
  exact ⟨fun k => (h k).choose.1, fun k => (h k).choose.2, fun k hk => (h k).choose_spec hk⟩
abbrev pwD (b k : Int) : D := nD (b ^ k.toNat) (b ^ (-k).toNat)
abbrev tpD (b lo : Int) (u v : Nat → Int) (k : Nat) : D := .tuple [pwD b (lo + (k : Int)), pwD b (lo + (k : Int) + 1), nD (u k) (v k), nD (u (k + 1)) (v (k + 1))]
theorem tbp_turns (b lo many L : Int) (hb : b.natAbs < 2 ^ 4) (hlo : -30 ≤ lo) (hm : 1 ≤ many) (hlm : lo + many ≤ 30) (u v : Nat → Int)
    (hu : ∀ k : Nat, (k : Int) ≤ many → Fr 100 (qv ((k : Int) * L) many) (u k) (v k) ∧ gMul (.int (k : Int)) (.int L) = some (.int ((k : Int) * L)) ∧ m_law_tb_made [cI ((k : Int) * L), cI many] = .ok (.im (nD (u k) (v k))) [cI ((k : Int) * L), cI many]) :
    m_law_tb_pieces [cD (tnD b lo many L)] = .ok (.ow ((List.range many.toNat).map (tpD b lo u v))) [cD (tnD b lo many L)] := by
  obtain ⟨ρ', LP, y7, y8, y9, f7, f8, f9, rfl⟩ := forL_rng (g := putIm 7) (b := b_law_tb_pieces_l2) (lo := 0) (n := many.toNat)
    (P := fun i ρ => ∃ y7 y8 y9 : Option Dn.L, free (some y7) = true ∧ free (some y8) = true ∧ free (some y9) = true ∧ ρ = [cD (tnD b lo many L), cD (.str "turns"), cI b, cI lo, cI many, cI L, some (.ow ((List.range i).map (tpD b lo u v))), y7, y8, y9, none, none])
    (fun i hi ρ ⟨y7, y8, y9, f7, f8, f9, e⟩ => by
      subst e
      obtain ⟨-, g1, e1⟩ := hu i (by omega)
      obtain ⟨-, g2, e2⟩ := hu (i + 1) (by omega)
      rw [show ((i + 1 : Nat) : Int) = (i : Int) + 1 by omega] at g2 e2
      have q1 := tb_power_all b hb (lo + (i : Int)) (by omega)
      have q2 := tb_power_all b hb (lo + (i : Int) + 1) (by omega)
      have er : (List.range (i + 1)).map (tpD b lo u v) = (List.range i).map (tpD b lo u v) ++ [tpD b lo u v i] := by rw [List.range_succ, List.map_append]; rfl
      refine ⟨[cD (tnD b lo many L), cD (.str "turns"), cI b, cI lo, cI many, cI L, some (.ow ((List.range i).map (tpD b lo u v))), cI (0 + (i : Int)), y8, y9, none, none], [cD (tnD b lo many L), cD (.str "turns"), cI b, cI lo, cI many, cI L, some (.ow ((List.range (i + 1)).map (tpD b lo u v))), cI (0 + (i : Int)), cD (nD (u i) (v i)), cD (nD (u (i + 1)) (v (i + 1))), none, none], by simp [f7], ?_, _, _, _, rfl, rfl, rfl, rfl⟩
      rw [er, Int.zero_add]
      have hM : ((List.range i).map (tpD b lo u v)).length < sizeLine := by have := PySem.sizeLine_eq; simp; omega
      generalize (List.range i).map (tpD b lo u v) = M at *
      generalize (i : Int) * L = k1 at *
      generalize ((i : Int) + 1) * L = k2 at *
      unfold tpD pwD
      generalize nD (u i) (v i) = A at *
      generalize nD (u (i + 1)) (v (i + 1)) = B at *
      generalize nD (b ^ (lo + (i : Int)).toNat) (b ^ (-(lo + (i : Int))).toNat) = C at *
      generalize nD (b ^ (lo + (i : Int) + 1).toNat) (b ^ (-(lo + (i : Int) + 1)).toNat) = E at *
      simp [b_law_tb_pieces_l2, g1, g2, e1, e2, q1, q2, f8, f9, hM])
    [cD (tnD b lo many L), cD (.str "turns"), cI b, cI lo, cI many, cI L, some (.ow []), none, none, none, none, none] ⟨none, none, none, rfl, rfl, rfl, rfl⟩
  have I : Dn.inR many := inR_of (by omega) (by omega)
  generalize (List.range many.toNat).map (tpD b lo u v) = M at *
  simp only [m_law_tb_pieces, b_law_tb_pieces, dDef_eq, dSeq_eq]
  simp [tnD] at LP
  simp [tnD, gTupD, gsCons, gsNil, I, LP, qtubr, qtuda, qtust]
end Lw
namespace Lw
open PySem PySem.Spec PyProof.Rows L2 Dn
/-! the law's reading of a straight scale -/
theorem tbr_straight {ql qh qc : Rat} {a b c d e f : Int} (hl : Fr 300 ql a b) (hh : Fr 300 qh c d) (hc : Fr 300 qc e f) (L : Int) (h0 : 0 < L) (h1 : L.natAbs < 2 ^ 100) (q0 : 0 ≤ qc) (q1 : qc ≤ (L : Rat)) :
    ∃ x y, Fr 2600 (ql + qc * (qh - ql) / (L : Rat)) x y ∧
      m_law_tb_read [cD (.tuple [.str "straight", nD a b, nD c d, .int L]), cD (nD e f)] = .ok (.im (nD x y)) [cD (.tuple [.str "straight", nD a b, nD c d, .int L]), cD (nD e f)] := by
  have F0 := fr_whole 0 (M := 300) (by decide) (by decide)
  have FL := (fr_whole L (M := 100) h1 (by decide)).up (N := 300) (by decide)
  have z : ((0 : Int) : Rat) = 0 := rfl
  rw [z] at F0
  have B := between_eq F0 hc FL (by decide) (by decide)
  rw [decide_eq_true ⟨q0, q1⟩] at B
  obtain ⟨x, y, F, A⟩ := along_tb F0 FL hl hh hc (ipos h0)
  rw [← back_along (ine (show L ≠ 0 by omega))] at F
  refine ⟨x, y, F, ?_⟩
  have P := tbp_straight (nD a b) (nD c d) L
  generalize nD x y = R0 at *
  generalize PyData.tuple [.str "straight", nD a b, nD c d, .int L] = S at *
  generalize nD a b = A1 at *
  generalize nD c d = C1 at *
  generalize nD e f = E1 at *
  generalize nD 0 1 = Z1 at *
  generalize nD L 1 = L1 at *
  simp only [m_law_tb_read, b_law_tb_read, dDef_eq, dSeq_eq]
  simp [P, dForL, gTupD, gsCons, gsNil, b_law_tb_read_l1, B, A]
end Lw
namespace Lw
open PySem PySem.Spec PyProof.Rows L2 Dn
/-! the law's reading of turns -/
theorem tbr_loop (S : D) {qc : Rat} {e f : Int} (hc : Fr 120 qc e f) (b lo many L : Int) (b0 : 0 < b) (hb : b.natAbs < 2 ^ 4) (hlo : -30 ≤ lo) (hm : 1 ≤ many) (hlm : lo + many ≤ 30) (hL : 0 < L) (u v : Nat → Int)
    (hu : ∀ k : Nat, (k : Int) ≤ many → Fr 100 (qv ((k : Int) * L) many) (u k) (v k)) (q1 : qc * qv many L ≤ (many : Rat)) :
    ∀ (n s : Nat) (y2 y3 y4 y5 : Option Dn.L), free (some y2) = true → free (some y3) = true → free (some y4) = true → free (some y5) = true → ((s + n + 1 : Nat) : Int) = many → ((s : Int) : Rat) ≤ qc * qv many L →
      ∃ x y, Fr 2600 (turnV b lo (qc * qv many L).floor (qc * qv many L)) x y ∧ ∃ z2 z3 z4 z5 : Option Dn.L,
        dForL (gTupD 4 (gsCons (putIm 2) (gsCons (putIm 3) (gsCons (putIm 4) (gsCons (putIm 5) gsNil))))) b_law_tb_read_l1 ((List.range' s (n + 1)).map (tpD b lo u v)) [cD S, cD (nD e f), y2, y3, y4, y5] = .ok (.rt (nD x y)) [cD S, cD (nD e f), z2, z3, z4, z5]
  | n, s, y2, y3, y4, y5, f2, f3, f4, f5, hs, hq => by
    have G1 := hu s (by omega)
    have G2 := hu (s + 1) (by omega)
    rw [show ((s + 1 : Nat) : Int) = (s : Int) + 1 by omega] at G2
    have T1 := turn_in (s : Int) many L (by omega) hL qc
    have T2 := turn_in ((s : Int) + 1) many L (by omega) hL qc
    have B := between_eq (G1.up (N := 300) (by decide)) (hc.up (N := 300) (by decide)) (G2.up (N := 300) (by decide)) (by decide) (by decide)
    have V := turn_along b lo (s : Int) many L b0 (by omega) hL qc
    have lt : qv ((s : Int) * L) many < qv (((s : Int) + 1) * L) many := by
      rw [qv_lt (by omega) (by omega)]
      exact Int.mul_lt_mul_of_pos_right (Int.mul_lt_mul_of_pos_right (by omega) hL) (by omega)
    obtain ⟨x, y, F, A⟩ := along_tb (G1.up (N := 300) (by decide)) (G2.up (N := 300) (by decide)) ((fr_pow b b0 hb (lo + (s : Int)) (by omega)).up (N := 300) (by decide)) ((fr_pow b b0 hb (lo + (s : Int) + 1) (by omega)).up (N := 300) (by decide)) (hc.up (N := 300) (by decide)) lt
    rw [V] at F
    rw [List.range'_succ, List.map_cons]
    by_cases h : qc * qv many L ≤ (((s : Int) + 1 : Int) : Rat)
    · rw [decide_eq_true ⟨T1.1.mpr hq, T2.2.mpr h⟩] at B
      rw [← turn_same b lo s b0 _ hq h] at F
      refine ⟨x, y, F, cD (pwD b (lo + (s : Int))), cD (pwD b (lo + (s : Int) + 1)), cD (nD (u s) (v s)), cD (nD (u (s + 1)) (v (s + 1))), ?_⟩
      unfold tpD pwD
      generalize nD x y = R0 at *
      generalize nD (u s) (v s) = A0 at *
      generalize nD (u (s + 1)) (v (s + 1)) = B1 at *
      generalize nD (b ^ (lo + (s : Int)).toNat) (b ^ (-(lo + (s : Int))).toNat) = C1 at *
      generalize nD (b ^ (lo + (s : Int) + 1).toNat) (b ^ (-(lo + (s : Int) + 1)).toNat) = E1 at *
      generalize nD e f = P1 at *
      simp [dForL, gTupD, gsCons, gsNil, b_law_tb_read_l1, f2, f3, f4, f5, B, A]
    · cases n with
      | zero => exact absurd (by rw [show (s : Int) + 1 = many by omega]; exact q1) h
      | succ n =>
        rw [decide_eq_false (fun z => h (T2.2.mp z.2))] at B
        have hq' : (((s + 1 : Nat) : Int) : Rat) ≤ qc * qv many L := by
          rw [show ((s + 1 : Nat) : Int) = (s : Int) + 1 by omega]
          exact Rat.le_of_lt (Rat.not_le.mp h)
        obtain ⟨x', y', F', z2, z3, z4, z5, E⟩ := tbr_loop S hc b lo many L b0 hb hlo hm hlm hL u v hu q1 n (s + 1) (cD (pwD b (lo + (s : Int)))) (cD (pwD b (lo + (s : Int) + 1))) (cD (nD (u s) (v s))) (cD (nD (u (s + 1)) (v (s + 1)))) rfl rfl rfl rfl (by omega) hq'
        refine ⟨x', y', F', z2, z3, z4, z5, ?_⟩
        rw [← E]
        unfold tpD pwD
        generalize nD (u s) (v s) = A0 at *
        generalize nD (u (s + 1)) (v (s + 1)) = B1 at *
        generalize nD (b ^ (lo + (s : Int)).toNat) (b ^ (-(lo + (s : Int))).toNat) = C1 at *
        generalize nD (b ^ (lo + (s : Int) + 1).toNat) (b ^ (-(lo + (s : Int) + 1)).toNat) = E1 at *
        generalize nD e f = P1 at *
        generalize List.map _ _ = M
        simp [dForL, gTupD, gsCons, gsNil, b_law_tb_read_l1, f2, f3, f4, f5, B]
end Lw
namespace Lw
open PySem PySem.Spec PyProof.Rows L2 Dn
theorem tbr_turns {qc : Rat} {e f : Int} (hc : Fr 120 qc e f) (b lo many L : Int) (b1 : 2 ≤ b) (hb : b.natAbs < 2 ^ 4) (hlo : -30 ≤ lo) (hm : 1 ≤ many) (hlm : lo + many ≤ 30) (hL : 0 < L) (hL2 : L < 2 ^ 80) (h0 : 0 ≤ qc) (h1 : qc ≤ (L : Rat)) :
    ∃ x y, Fr 2600 (turnV b lo (qc * qv many L).floor (qc * qv many L)) x y ∧
      m_law_tb_read [cD (tnD b lo many L), cD (nD e f)] = .ok (.im (nD x y)) [cD (tnD b lo many L), cD (nD e f)] := by
  obtain ⟨u, v, hu⟩ := bounds_ex many L hm (by omega) hL hL2
  have pL := ipos hL
  have k0 : 0 ≤ qc * qv many L := Rat.mul_nonneg h0 (Rat.le_of_lt (qv_pos (by omega) hL))
  have k1 : qc * qv many L ≤ (many : Rat) := by
    have e : (many : Rat) = (L : Rat) * qv many L := by unfold qv; grind
    rw [e]
    exact Rat.mul_le_mul_of_nonneg_right h1 (Rat.le_of_lt (qv_pos (by omega) hL))
  have P := tbp_turns b lo many L hb hlo hm hlm u v hu
  obtain ⟨n, hn⟩ : ∃ n : Nat, many.toNat = n + 1 := ⟨many.toNat - 1, by omega⟩
  obtain ⟨x, y, F, z2, z3, z4, z5, E⟩ := tbr_loop (tnD b lo many L) hc b lo many L (by omega) hb hlo hm hlm hL u v (fun k hk => (hu k hk).1) k1 n 0 none none none none rfl rfl rfl rfl (by omega) (by simpa using k0)
  rw [List.range_eq_range', hn] at P
  refine ⟨x, y, F, ?_⟩
  generalize List.map (tpD b lo u v) (List.range' 0 (n + 1)) = M at *
  generalize tnD b lo many L = S at *
  generalize nD e f = P1 at *
  generalize nD x y = R0 at *
  simp only [m_law_tb_read, b_law_tb_read, dDef_eq, dSeq_eq]
  simp [P, E]
end Lw
namespace Lw
open PySem PySem.Spec PyProof.Rows L2 Dn
/-! both readings tell the same -/
theorem qstor : gEq (.str "straight") (.str "order") = some false := (lits (la := [115, 116, 114, 97, 105, 103, 104, 116]) (lb := [111, 114, 100, 101, 114]) (by rfl) (by rfl) (by unfold okS; decide) (by unfold okS; decide)).trans (by rfl)
theorem qdaor : gEq (.str "days") (.str "order") = some false := (lits (la := [100, 97, 121, 115]) (lb := [111, 114, 100, 101, 114]) (by rfl) (by rfl) (by unfold okS; decide) (by unfold okS; decide)).trans (by rfl)
theorem read_turns {qc : Rat} {e f : Int} (hc : Fr 120 qc e f) (b lo many L : Int) (b1 : 2 ≤ b) (hb : b.natAbs < 2 ^ 4) (hlo : -30 ≤ lo) (hm : 1 ≤ many) (hlm : lo + many ≤ 30) (hL : 0 < L) (hL2 : L < 2 ^ 80) (h0 : 0 ≤ qc) (h1 : qc ≤ (L : Rat)) :
    ∃ x y, Fr 2600 (turnV b lo (qc * qv many L).floor (qc * qv many L)) x y ∧
      m_read_on [cD (tnD b lo many L), cD (nD e f)] = .ok (.im (nD x y)) [cD (tnD b lo many L), cD (nD e f)] ∧
      m_law_tb_read [cD (tnD b lo many L), cD (nD e f)] = .ok (.im (nD x y)) [cD (tnD b lo many L), cD (nD e f)] := by
  obtain ⟨x, y, F, E⟩ := tbr_turns hc b lo many L b1 hb hlo hm hlm hL hL2 h0 h1
  obtain ⟨x', y', F', E'⟩ := back_trn hc b lo many L b1 hb hlo hm hlm hL (by omega) h0 h1
  obtain ⟨rfl, rfl⟩ := F'.uniq F
  refine ⟨x', y', F, ?_, E⟩
  have g0 : gIx (tnD b lo many L) (.int 0) = some (.str "turns") := by simp [tnD]
  generalize tnD b lo many L = S at *
  generalize nD e f = P1 at *
  generalize nD x' y' = R0 at *
  simp only [m_read_on, b_read_on, dDef_eq, dSeq_eq]
  simp [g0, qtutu, E']
theorem read_straight {ql qh qc : Rat} {a b c d e f : Int} (hl : Fr 300 ql a b) (hh : Fr 300 qh c d) (hc : Fr 300 qc e f) (L : Int) (h0 : 0 < L) (h1 : L.natAbs < 2 ^ 100) (q0 : 0 ≤ qc) (q1 : qc ≤ (L : Rat)) :
    ∃ x y, Fr 2600 (ql + qc * (qh - ql) / (L : Rat)) x y ∧
      m_read_on [cD (.tuple [.str "straight", nD a b, nD c d, .int L]), cD (nD e f)] = .ok (.im (nD x y)) [cD (.tuple [.str "straight", nD a b, nD c d, .int L]), cD (nD e f)] ∧
      m_law_tb_read [cD (.tuple [.str "straight", nD a b, nD c d, .int L]), cD (nD e f)] = .ok (.im (nD x y)) [cD (.tuple [.str "straight", nD a b, nD c d, .int L]), cD (nD e f)] := by
  obtain ⟨x, y, F, E⟩ := tbr_straight hl hh hc L h0 h1 q0 q1
  obtain ⟨x', y', F', E'⟩ := back_str hl hh hc L h0 h1
  obtain ⟨rfl, rfl⟩ := F'.uniq F
  refine ⟨x', y', F, ?_, E⟩
  generalize nD a b = A1 at *
  generalize nD c d = C1 at *
  generalize nD e f = P1 at *
  generalize nD x' y' = R0 at *
  simp only [m_read_on, b_read_on, dDef_eq, dSeq_eq]
  simp [atI_3, qsttu, qstbr, qstor, qstda, E']
end Lw
namespace Lw
open PySem PySem.Spec PyProof.Rows L2 Dn
/-- days are read as a straight scale of whole ends -/
theorem read_days {qc : Rat} {e f : Int} (l h : Int) (hl : l.natAbs < 2 ^ 100) (hh : h.natAbs < 2 ^ 100) (hc : Fr 300 qc e f) (L : Int) (h0 : 0 < L) (h1 : L.natAbs < 2 ^ 100) (q0 : 0 ≤ qc) (q1 : qc ≤ (L : Rat)) :
    ∃ x y, Fr 2600 ((l : Rat) + qc * ((h : Rat) - (l : Rat)) / (L : Rat)) x y ∧
      m_read_on [cD (.tuple [.str "days", .int l, .int h, .int L]), cD (nD e f)] = .ok (.im (nD x y)) [cD (.tuple [.str "days", .int l, .int h, .int L]), cD (nD e f)] ∧
      m_law_tb_read [cD (.tuple [.str "days", .int l, .int h, .int L]), cD (nD e f)] = .ok (.im (nD x y)) [cD (.tuple [.str "days", .int l, .int h, .int L]), cD (nD e f)] := by
  have Fl := (fr_whole l (M := 100) hl (by decide)).up (N := 300) (by decide)
  have Fh := (fr_whole h (M := 100) hh (by decide)).up (N := 300) (by decide)
  have F0 := fr_whole 0 (M := 300) (by decide) (by decide)
  have FL := (fr_whole L (M := 100) h1 (by decide)).up (N := 300) (by decide)
  have z : ((0 : Int) : Rat) = 0 := rfl
  rw [z] at F0
  have B := between_eq F0 hc FL (by decide) (by decide)
  rw [decide_eq_true ⟨q0, q1⟩] at B
  obtain ⟨x, y, F, A⟩ := along_tb F0 FL Fl Fh hc (ipos h0)
  rw [← back_along (ine (show L ≠ 0 by omega))] at F
  obtain ⟨x', y', F', E'⟩ := back_str Fl Fh hc L h0 h1
  obtain ⟨rfl, rfl⟩ := F'.uniq F
  have P := tbp_days l h L
  refine ⟨x', y', F, ?_, ?_⟩
  · clear A B P
    simp only [nD] at E' ⊢
    simp only [m_read_on, b_read_on, dDef_eq, dSeq_eq]
    simp [atI_3, qdatu, qdabr, qdaor, qdada, E']
  · generalize nD x' y' = R0 at *
    generalize PyData.tuple [.str "days", .int l, .int h, .int L] = S at *
    generalize nD l 1 = A1 at *
    generalize nD h 1 = C1 at *
    generalize nD e f = E1 at *
    generalize nD 0 1 = Z1 at *
    generalize nD L 1 = L1 at *
    simp only [m_law_tb_read, b_law_tb_read, dDef_eq, dSeq_eq]
    simp [P, dForL, gTupD, gsCons, gsNil, b_law_tb_read_l1, B, A]
end Lw
namespace Lw
open PySem PySem.Spec PyProof.Rows L2 Dn
/-! straight pieces of a scale: places along them, and back -/
structure Pc where
  l1 : Int
  l2 : Int
  h1 : Int
  h2 : Int
  b1 : Int
  b2 : Int
  e1 : Int
  e2 : Int
  ql : Rat
  qh : Rat
  qb : Rat
  qe : Rat
structure POk (p : Pc) : Prop where
  l : Fr 400 p.ql p.l1 p.l2
  h : Fr 400 p.qh p.h1 p.h2
  b : Fr 400 p.qb p.b1 p.b2
  e : Fr 400 p.qe p.e1 p.e2
  lh : p.ql < p.qh
  be : p.qb < p.qe
abbrev pcD (p : Pc) : D := .tuple [nD p.l1 p.l2, nD p.h1 p.h2, nD p.b1 p.b2, nD p.e1 p.e2]
def al (p : Pc) (c : Rat) : Rat := p.qb + (c - p.ql) / (p.qh - p.ql) * (p.qe - p.qb)
def bk (p : Pc) (x : Rat) : Rat := p.ql + (x - p.qb) / (p.qe - p.qb) * (p.qh - p.ql)
def plc : List Pc → Rat → Option Rat
  | [], _ => none
  | p :: ps, c => if p.ql ≤ c ∧ c ≤ p.qh then some (al p c) else plc ps c
def rdc : List Pc → Rat → Option Rat
  | [], _ => none
  | p :: ps, x => if p.qb ≤ x ∧ x ≤ p.qe then some (bk p x) else rdc ps x
theorem lin_lt {b l h e c c' : Rat} (h1 : l < h) (h2 : b < e) (hc : c < c') : b + (c - l) / (h - l) * (e - b) < b + (c' - l) / (h - l) * (e - b) := by
  have d1 : 0 < h - l := by grind
  have d2 : 0 < e - b := by grind
  have d3 : 0 < c' - c := by grind
  have s : 0 < (c' - c) * ((e - b) / (h - l)) := Rat.mul_pos d3 (by rw [Rat.div_def]; exact Rat.mul_pos d2 (Rat.inv_pos.mpr d1))
  have n1 : h - l ≠ 0 := by grind
  have k : b + (c' - l) / (h - l) * (e - b) = b + (c - l) / (h - l) * (e - b) + (c' - c) * ((e - b) / (h - l)) := by grind
  grind
theorem lin_lo {b l h e : Rat} : b + (l - l) / (h - l) * (e - b) = b := by
  have : l - l = 0 := by grind
  rw [this]
  grind
theorem lin_hi {b l h e : Rat} (h1 : l < h) : b + (h - l) / (h - l) * (e - b) = e := by
  have n1 : h - l ≠ 0 := by grind
  grind
theorem lin_in {b l h e c : Rat} (h1 : l < h) (h2 : b < e) (a0 : l ≤ c) (a1 : c ≤ h) : b ≤ b + (c - l) / (h - l) * (e - b) ∧ b + (c - l) / (h - l) * (e - b) ≤ e := by
  constructor
  · by_cases k : l < c
    · have := lin_lt h1 h2 k
      rw [lin_lo] at this
      exact Rat.le_of_lt this
    · have : c = l := by grind
      rw [this, lin_lo]
      exact Rat.le_refl
  · by_cases k : c < h
    · have := lin_lt h1 h2 k
      rw [lin_hi h1] at this
      exact Rat.le_of_lt this
    · have : c = h := by grind
      rw [this, lin_hi h1]
      exact Rat.le_refl
theorem al_lt {p : Pc} (o : POk p) {c c' : Rat} (h : c < c') : al p c < al p c' := lin_lt o.lh o.be h
theorem al_lo {p : Pc} : al p p.ql = p.qb := lin_lo
theorem al_hi {p : Pc} (o : POk p) : al p p.qh = p.qe := lin_hi o.lh
theorem al_in {p : Pc} (o : POk p) {c : Rat} (a0 : p.ql ≤ c) (a1 : c ≤ p.qh) : p.qb ≤ al p c ∧ al p c ≤ p.qe := lin_in o.lh o.be a0 a1
theorem bk_in {p : Pc} (o : POk p) {x : Rat} (a0 : p.qb ≤ x) (a1 : x ≤ p.qe) : p.ql ≤ bk p x ∧ bk p x ≤ p.qh := lin_in o.be o.lh a0 a1
theorem al_bk {p : Pc} (o : POk p) (x : Rat) : al p (bk p x) = x := by
  have n1 : p.qh - p.ql ≠ 0 := by have := o.lh; grind
  have n2 : p.qe - p.qb ≠ 0 := by have := o.be; grind
  unfold al bk
  generalize p.qh = h at *
  generalize p.ql = l at *
  generalize p.qe = e at *
  generalize p.qb = b at *
  have : l + (x - b) / (e - b) * (h - l) - l = (x - b) / (e - b) * (h - l) := by grind
  rw [this]
  grind
structure PR (p q : Pc) : Prop where
  c : p.qh ≤ q.ql
  x : p.qe ≤ q.qb
  cx : p.qh = q.ql ↔ p.qe = q.qb
theorem pw {R : Pc → Pc → Prop} {ps : List Pc} (h : ps.Pairwise R) {p q : Pc} (hp : p ∈ ps) (hq : q ∈ ps) : p = q ∨ R p q ∨ R q p := by
  induction h with
  | nil => exact absurd hp List.not_mem_nil
  | cons h1 _ ih =>
    rcases List.mem_cons.mp hp with e | hp
    · rcases List.mem_cons.mp hq with e' | hq
      · exact .inl (e.trans e'.symm)
      · rw [e]; exact .inr (.inl (h1 _ hq))
    · rcases List.mem_cons.mp hq with e' | hq
      · rw [e']; exact .inr (.inr (h1 _ hp))
      · exact ih hp hq
theorem plc_some : ∀ {ps : List Pc} {c x : Rat}, plc ps c = some x → ∃ p ∈ ps, p.ql ≤ c ∧ c ≤ p.qh ∧ x = al p c
  | [], c, x, h => by simp [plc] at h
  | a :: ps, c, x, h => by
    unfold plc at h
    by_cases k : a.ql ≤ c ∧ c ≤ a.qh
    · rw [if_pos k] at h
      exact ⟨a, List.mem_cons_self, k.1, k.2, (Option.some.inj h).symm⟩
    · rw [if_neg k] at h
      obtain ⟨p, hp, h1⟩ := plc_some h
      exact ⟨p, List.mem_cons_of_mem _ hp, h1⟩
theorem rdc_some : ∀ {ps : List Pc} {c x : Rat}, rdc ps x = some c → ∃ p ∈ ps, p.qb ≤ x ∧ x ≤ p.qe ∧ c = bk p x
  | [], c, x, h => by simp [rdc] at h
  | a :: ps, c, x, h => by
    unfold rdc at h
    by_cases k : a.qb ≤ x ∧ x ≤ a.qe
    · rw [if_pos k] at h
      exact ⟨a, List.mem_cons_self, k.1, k.2, (Option.some.inj h).symm⟩
    · rw [if_neg k] at h
      obtain ⟨p, hp, h1⟩ := rdc_some h
      exact ⟨p, List.mem_cons_of_mem _ hp, h1⟩
theorem rdc_ex : ∀ {ps : List Pc} {x : Rat} {p : Pc}, p ∈ ps → p.qb ≤ x → x ≤ p.qe → ∃ c, rdc ps x = some c
  | [], x, p, hp, h0, h1 => absurd hp List.not_mem_nil
  | a :: ps, x, p, hp, h0, h1 => by
    unfold rdc
    by_cases k : a.qb ≤ x ∧ x ≤ a.qe
    · exact ⟨_, if_pos k⟩
    · rw [if_neg k]
      rcases List.mem_cons.mp hp with rfl | hp
      · exact absurd ⟨h0, h1⟩ k
      · exact rdc_ex hp h0 h1
theorem plc_of : ∀ {ps : List Pc}, ps.Pairwise PR → (∀ p ∈ ps, POk p) → ∀ {c : Rat} {p : Pc}, p ∈ ps → p.ql ≤ c → c ≤ p.qh → plc ps c = some (al p c)
  | [], h, ho, c, p, hp, h0, h1 => absurd hp List.not_mem_nil
  | a :: ps, h, ho, c, p, hp, h0, h1 => by
    rw [List.pairwise_cons] at h
    unfold plc
    by_cases k : a.ql ≤ c ∧ c ≤ a.qh
    · rw [if_pos k]
      rcases List.mem_cons.mp hp with rfl | hp
      · rfl
      · have r := h.1 p hp
        have e1 : c = a.qh := Rat.le_antisymm k.2 (Rat.le_trans r.c h0)
        have e2 : a.qh = p.ql := Rat.le_antisymm r.c (e1 ▸ h0)
        have e3 := r.cx.mp e2
        rw [e1, al_hi (ho a List.mem_cons_self), e2, al_lo, e3]
    · rw [if_neg k]
      rcases List.mem_cons.mp hp with rfl | hp
      · exact absurd ⟨h0, h1⟩ k
      · exact plc_of h.2 (fun z hz => ho z (List.mem_cons_of_mem _ hz)) hp h0 h1
theorem plc_lt {ps : List Pc} (h : ps.Pairwise PR) (ho : ∀ p ∈ ps, POk p) {c c' x x' : Rat} (hc : c < c') (e : plc ps c = some x) (e' : plc ps c' = some x') : x < x' := by
  obtain ⟨p, hp, h0, h1, rfl⟩ := plc_some e
  obtain ⟨q, hq, g0, g1, rfl⟩ := plc_some e'
  rcases pw h hp hq with rfl | r | r
  · exact al_lt (ho p hp) hc
  · have a1 := (al_in (ho p hp) h0 h1).2
    have a2 := (al_in (ho q hq) g0 g1).1
    have a3 := r.x
    rcases Classical.em (al p c < al q c') with k | k
    · exact k
    exfalso
    have k1 : al p c = p.qe := by grind
    have k2 : p.qe = q.qb := by grind
    have k4 := r.cx.mpr k2
    have k5 : ¬ c < p.qh := fun z => by
      have := al_lt (ho p hp) z
      rw [al_hi (ho p hp)] at this
      grind
    have k6 : ¬ q.ql < c' := fun z => by
      have := al_lt (ho q hq) z
      rw [al_lo] at this
      grind
    grind
  · have := r.c
    exfalso
    grind
theorem plc_rdc {ps : List Pc} (h : ps.Pairwise PR) (ho : ∀ p ∈ ps, POk p) {c x : Rat} (e : rdc ps x = some c) : plc ps c = some x := by
  obtain ⟨p, hp, h0, h1, rfl⟩ := rdc_some e
  obtain ⟨b0, b1⟩ := bk_in (ho p hp) h0 h1
  rw [plc_of h ho hp b0 b1, al_bk (ho p hp)]
/-- a told number or None -/
def OD (M : Nat) (o : Option Rat) (d : D) : Prop := match o with
  | none => d = .none
  | some q => ∃ x y, d = nD x y ∧ Fr M q x y
theorem OD.uniq {M N : Nat} {o : Option Rat} {d d' : D} (h : OD M o d) (h' : OD N o d') : d = d' := by
  cases o with
  | none => exact h.trans h'.symm
  | some q =>
    obtain ⟨x, y, rfl, F⟩ := h
    obtain ⟨x', y', rfl, F'⟩ := h'
    obtain ⟨rfl, rfl⟩ := F.uniq F'
    rfl
end Lw
namespace Lw
open PySem PySem.Spec PyProof.Rows L2 Dn
/-! the law's places and readings on any straight pieces -/
theorem along_g {ql qh qb qe qc : Rat} {a b c d e f g h i j : Int} {Mc : Nat} (hl : Fr 400 ql a b) (hh : Fr 400 qh c d) (hb : Fr 400 qb e f) (he : Fr 400 qe g h) (hc : Fr Mc qc i j) (hM : 0 < Mc) (h9 : Mc ≤ 3200) (hlt : ql < qh) : ∃ x y, Fr (Mc + 2500) (qb + (qc - ql) / (qh - ql) * (qe - qb)) x y ∧
    m_law_tb_along [cD (nD a b), cD (nD c d), cD (nD e f), cD (nD g h), cD (nD i j)] = .ok (.im (nD x y)) [cD (nD a b), cD (nD c d), cD (nD e f), cD (nD g h), cD (nD i j)] := by
  obtain ⟨x1, y1, F1, _, E1⟩ := minus_both hc hl (by omega) (by decide) (by omega)
  obtain ⟨x2, y2, F2, _, E2⟩ := minus_both hh hl (by decide) (by decide) (by decide)
  obtain ⟨x3, y3, F3, _, E3⟩ := over_both F1 F2 (by grind) (by omega) (by decide) (by omega)
  obtain ⟨x4, y4, F4, _, E4⟩ := minus_both he hb (by decide) (by decide) (by decide)
  obtain ⟨x5, y5, F5, _, E5⟩ := times_both F3 F4 (by omega) (by decide) (by omega)
  obtain ⟨x6, y6, F6, _, E6⟩ := plus_both hb F5 (by decide) (by omega) (by omega)
  refine ⟨x6, y6, F6.up (by omega), ?_⟩
  generalize nD a b = A at *
  generalize nD c d = B at *
  generalize nD e f = C at *
  generalize nD g h = D1 at *
  generalize nD i j = J at *
  simp only [m_law_tb_along, b_law_tb_along, dDef_eq, dSeq_eq]
  simp [E1, E2, E3, E4, E5, E6]
theorem tbrg_loop (S : D) {qc : Rat} {e f : Int} (hc : Fr 400 qc e f) : ∀ (ps : List Pc), (∀ p ∈ ps, POk p) → ∀ (y2 y3 y4 y5 : Option Dn.L), free (some y2) = true → free (some y3) = true → free (some y4) = true → free (some y5) = true → ∃ z2 z3 z4 z5 : Option Dn.L,
    (∃ c x y, rdc ps qc = some c ∧ Fr 3000 c x y ∧ dForL (gTupD 4 (gsCons (putIm 2) (gsCons (putIm 3) (gsCons (putIm 4) (gsCons (putIm 5) gsNil))))) b_law_tb_read_l1 (ps.map pcD) [cD S, cD (nD e f), y2, y3, y4, y5] = .ok (.rt (nD x y)) [cD S, cD (nD e f), z2, z3, z4, z5]) ∨
    (rdc ps qc = none ∧ dForL (gTupD 4 (gsCons (putIm 2) (gsCons (putIm 3) (gsCons (putIm 4) (gsCons (putIm 5) gsNil))))) b_law_tb_read_l1 (ps.map pcD) [cD S, cD (nD e f), y2, y3, y4, y5] = .ok .nx [cD S, cD (nD e f), z2, z3, z4, z5])
  | [], _, y2, y3, y4, y5, f2, f3, f4, f5 => ⟨y2, y3, y4, y5, .inr ⟨rfl, rfl⟩⟩
  | p :: ps, ho, y2, y3, y4, y5, f2, f3, f4, f5 => by
    have o := ho p List.mem_cons_self
    have B := between_eq (o.b.up (N := 3200) (by decide)) (hc.up (N := 3200) (by decide)) (o.e.up (N := 3200) (by decide)) (by decide) (by decide)
    obtain ⟨x, y, F, A⟩ := along_g (Mc := 400) o.b o.e o.l o.h hc (by decide) (by decide) o.be
    rw [List.map_cons]
    unfold rdc
    by_cases h : p.qb ≤ qc ∧ qc ≤ p.qe
    · rw [decide_eq_true h] at B
      refine ⟨cD (nD p.l1 p.l2), cD (nD p.h1 p.h2), cD (nD p.b1 p.b2), cD (nD p.e1 p.e2), .inl ⟨_, x, y, if_pos h, F.up (by decide), ?_⟩⟩
      unfold pcD
      generalize nD x y = R0 at *
      generalize nD p.l1 p.l2 = A0 at *
      generalize nD p.h1 p.h2 = B1 at *
      generalize nD p.b1 p.b2 = C1 at *
      generalize nD p.e1 p.e2 = E1 at *
      generalize nD e f = P1 at *
      simp [dForL, gTupD, gsCons, gsNil, b_law_tb_read_l1, f2, f3, f4, f5, B, A]
    · rw [decide_eq_false h] at B
      rw [if_neg h]
      obtain ⟨z2, z3, z4, z5, E⟩ := tbrg_loop S hc ps (fun z hz => ho z (List.mem_cons_of_mem _ hz)) (cD (nD p.l1 p.l2)) (cD (nD p.h1 p.h2)) (cD (nD p.b1 p.b2)) (cD (nD p.e1 p.e2)) rfl rfl rfl rfl
      refine ⟨z2, z3, z4, z5, ?_⟩
      have key : dForL (gTupD 4 (gsCons (putIm 2) (gsCons (putIm 3) (gsCons (putIm 4) (gsCons (putIm 5) gsNil))))) b_law_tb_read_l1 (pcD p :: ps.map pcD) [cD S, cD (nD e f), y2, y3, y4, y5] = dForL (gTupD 4 (gsCons (putIm 2) (gsCons (putIm 3) (gsCons (putIm 4) (gsCons (putIm 5) gsNil))))) b_law_tb_read_l1 (ps.map pcD) [cD S, cD (nD e f), cD (nD p.l1 p.l2), cD (nD p.h1 p.h2), cD (nD p.b1 p.b2), cD (nD p.e1 p.e2)] := by
        clear E
        unfold pcD
        generalize nD p.l1 p.l2 = A0 at *
        generalize nD p.h1 p.h2 = B1 at *
        generalize nD p.b1 p.b2 = C1 at *
        generalize nD p.e1 p.e2 = E1 at *
        generalize nD e f = P1 at *
        generalize List.map _ _ = M
        simp [dForL, gTupD, gsCons, gsNil, b_law_tb_read_l1, f2, f3, f4, f5, B]
      rw [key]
      exact E
theorem tbr_gen (S : D) {qc : Rat} {e f : Int} (hc : Fr 400 qc e f) (ps : List Pc) (ho : ∀ p ∈ ps, POk p) (P : m_law_tb_pieces [cD S] = .ok (.ow (ps.map pcD)) [cD S]) :
    ∃ d, OD 3000 (rdc ps qc) d ∧ m_law_tb_read [cD S, cD (nD e f)] = .ok (.im d) [cD S, cD (nD e f)] := by
  obtain ⟨z2, z3, z4, z5, ⟨c, x, y, h1, F, E⟩ | ⟨h1, E⟩⟩ := tbrg_loop S hc ps ho none none none none rfl rfl rfl rfl
  · refine ⟨nD x y, by rw [h1]; exact ⟨x, y, rfl, F⟩, ?_⟩
    generalize List.map pcD ps = M at *
    generalize nD e f = P1 at *
    generalize nD x y = R0 at *
    simp only [m_law_tb_read, b_law_tb_read, dDef_eq, dSeq_eq]
    simp [P, E]
  · refine ⟨.none, by rw [h1]; rfl, ?_⟩
    generalize List.map pcD ps = M at *
    generalize nD e f = P1 at *
    simp only [m_law_tb_read, b_law_tb_read, dDef_eq, dSeq_eq]
    simp [P, E]
theorem tbplg_loop (S : D) {qc : Rat} {e f : Int} (hc : Fr 3100 qc e f) : ∀ (ps : List Pc), (∀ p ∈ ps, POk p) → ∀ (y2 y3 y4 y5 : Option Dn.L), free (some y2) = true → free (some y3) = true → free (some y4) = true → free (some y5) = true → ∃ z2 z3 z4 z5 : Option Dn.L,
    (∃ c x y, plc ps qc = some c ∧ Fr 5600 c x y ∧ dForL (gTupD 4 (gsCons (putIm 2) (gsCons (putIm 3) (gsCons (putIm 4) (gsCons (putIm 5) gsNil))))) b_law_tb_place_l1 (ps.map pcD) [cD S, cD (nD e f), y2, y3, y4, y5] = .ok (.rt (nD x y)) [cD S, cD (nD e f), z2, z3, z4, z5]) ∨
    (plc ps qc = none ∧ dForL (gTupD 4 (gsCons (putIm 2) (gsCons (putIm 3) (gsCons (putIm 4) (gsCons (putIm 5) gsNil))))) b_law_tb_place_l1 (ps.map pcD) [cD S, cD (nD e f), y2, y3, y4, y5] = .ok .nx [cD S, cD (nD e f), z2, z3, z4, z5])
  | [], _, y2, y3, y4, y5, f2, f3, f4, f5 => ⟨y2, y3, y4, y5, .inr ⟨rfl, rfl⟩⟩
  | p :: ps, ho, y2, y3, y4, y5, f2, f3, f4, f5 => by
    have o := ho p List.mem_cons_self
    have B := between_eq (o.l.up (N := 3200) (by decide)) (hc.up (N := 3200) (by decide)) (o.h.up (N := 3200) (by decide)) (by decide) (by decide)
    obtain ⟨x, y, F, A⟩ := along_g (Mc := 3100) o.l o.h o.b o.e hc (by decide) (by decide) o.lh
    rw [List.map_cons]
    unfold plc
    by_cases h : p.ql ≤ qc ∧ qc ≤ p.qh
    · rw [decide_eq_true h] at B
      refine ⟨cD (nD p.l1 p.l2), cD (nD p.h1 p.h2), cD (nD p.b1 p.b2), cD (nD p.e1 p.e2), .inl ⟨_, x, y, if_pos h, F.up (by decide), ?_⟩⟩
      unfold pcD
      generalize nD x y = R0 at *
      generalize nD p.l1 p.l2 = A0 at *
      generalize nD p.h1 p.h2 = B1 at *
      generalize nD p.b1 p.b2 = C1 at *
      generalize nD p.e1 p.e2 = E1 at *
      generalize nD e f = P1 at *
      simp [dForL, gTupD, gsCons, gsNil, b_law_tb_place_l1, f2, f3, f4, f5, B, A]
    · rw [decide_eq_false h] at B
      rw [if_neg h]
      obtain ⟨z2, z3, z4, z5, E⟩ := tbplg_loop S hc ps (fun z hz => ho z (List.mem_cons_of_mem _ hz)) (cD (nD p.l1 p.l2)) (cD (nD p.h1 p.h2)) (cD (nD p.b1 p.b2)) (cD (nD p.e1 p.e2)) rfl rfl rfl rfl
      refine ⟨z2, z3, z4, z5, ?_⟩
      have key : dForL (gTupD 4 (gsCons (putIm 2) (gsCons (putIm 3) (gsCons (putIm 4) (gsCons (putIm 5) gsNil))))) b_law_tb_place_l1 (pcD p :: ps.map pcD) [cD S, cD (nD e f), y2, y3, y4, y5] = dForL (gTupD 4 (gsCons (putIm 2) (gsCons (putIm 3) (gsCons (putIm 4) (gsCons (putIm 5) gsNil))))) b_law_tb_place_l1 (ps.map pcD) [cD S, cD (nD e f), cD (nD p.l1 p.l2), cD (nD p.h1 p.h2), cD (nD p.b1 p.b2), cD (nD p.e1 p.e2)] := by
        clear E
        unfold pcD
        generalize nD p.l1 p.l2 = A0 at *
        generalize nD p.h1 p.h2 = B1 at *
        generalize nD p.b1 p.b2 = C1 at *
        generalize nD p.e1 p.e2 = E1 at *
        generalize nD e f = P1 at *
        generalize List.map _ _ = M
        simp [dForL, gTupD, gsCons, gsNil, b_law_tb_place_l1, f2, f3, f4, f5, B]
      rw [key]
      exact E
theorem tbpl_gen (S : D) {qc : Rat} {e f : Int} (hc : Fr 3100 qc e f) (ps : List Pc) (ho : ∀ p ∈ ps, POk p) (P : m_law_tb_pieces [cD S] = .ok (.ow (ps.map pcD)) [cD S]) :
    ∃ d, OD 5600 (plc ps qc) d ∧ m_law_tb_place [cD S, cD (nD e f)] = .ok (.im d) [cD S, cD (nD e f)] := by
  obtain ⟨z2, z3, z4, z5, ⟨c, x, y, h1, F, E⟩ | ⟨h1, E⟩⟩ := tbplg_loop S hc ps ho none none none none rfl rfl rfl rfl
  · refine ⟨nD x y, by rw [h1]; exact ⟨x, y, rfl, F⟩, ?_⟩
    generalize List.map pcD ps = M at *
    generalize nD e f = P1 at *
    generalize nD x y = R0 at *
    simp only [m_law_tb_place, b_law_tb_place, dDef_eq, dSeq_eq]
    simp [P, E]
  · refine ⟨.none, by rw [h1]; rfl, ?_⟩
    generalize List.map pcD ps = M at *
    generalize nD e f = P1 at *
    simp only [m_law_tb_place, b_law_tb_place, dDef_eq, dSeq_eq]
    simp [P, E]
end Lw
namespace Lw
open PySem PySem.Spec PyProof.Rows L2 Dn
/-! the reach of a whole place; scales -/
def rch : List (Int × Int) → Int → Option (Int × Int)
  | [], _ => none
  | r :: rs, a => if r.1 ≤ a ∧ a ≤ r.2 then some r else rch rs a
def rqD : Option (Int × Int) → D
  | none => .none
  | some r => .tuple [nD r.1 1, nD r.2 1]
def riD : Option (Int × Int) → D
  | none => .none
  | some r => .tuple [.int r.1, .int r.2]
theorem rch_some : ∀ {rs : List (Int × Int)} {a : Int} {r : Int × Int}, rch rs a = some r → r ∈ rs ∧ r.1 ≤ a ∧ a ≤ r.2
  | [], a, r, h => by simp [rch] at h
  | x :: rs, a, r, h => by
    unfold rch at h
    by_cases k : x.1 ≤ a ∧ a ≤ x.2
    · rw [if_pos k] at h
      cases Option.some.inj h
      exact ⟨List.mem_cons_self, k⟩
    · rw [if_neg k] at h
      have := rch_some h
      exact ⟨List.mem_cons_of_mem _ this.1, this.2⟩
theorem rch_none : ∀ {rs : List (Int × Int)} {a : Int}, rch rs a = none → ∀ r ∈ rs, ¬ (r.1 ≤ a ∧ a ≤ r.2)
  | [], a, h, r, hr => absurd hr List.not_mem_nil
  | x :: rs, a, h, r, hr => by
    unfold rch at h
    by_cases k : x.1 ≤ a ∧ a ≤ x.2
    · rw [if_pos k] at h
      exact absurd h (by simp)
    · rw [if_neg k] at h
      rcases List.mem_cons.mp hr with rfl | hr
      · exact k
      · exact rch_none h r hr
structure Sc (S : D) (ps : List Pc) (rs : List (Int × Int)) (L : Int) : Prop where
  pcs : m_law_tb_pieces [cD S] = .ok (.ow (ps.map pcD)) [cD S]
  ok : ∀ p ∈ ps, POk p
  ord : ps.Pairwise PR
  cov : ∀ r ∈ rs, ∀ x : Rat, (r.1 : Rat) ≤ x → x ≤ (r.2 : Rat) → ∃ p ∈ ps, p.qb ≤ x ∧ x ≤ p.qe
  sz : ∀ r ∈ rs, r.1 < r.2 ∧ 0 ≤ r.1 ∧ r.2 ≤ L
  gap : ∀ p ∈ ps, ∀ r ∈ rs, ((r.1 : Rat) ≤ p.qb ∧ p.qe ≤ (r.2 : Rat)) ∨ p.qe ≤ (r.1 : Rat) - 1 ∨ (r.2 : Rat) + 1 ≤ p.qb
  inr : ∀ p ∈ ps, ∃ r ∈ rs, (r.1 : Rat) ≤ p.qb ∧ p.qe ≤ (r.2 : Rat)
  rdp : ∀ {e f : Int} {q : Rat}, Fr 120 q e f → 0 ≤ q → q ≤ (L : Rat) → ∃ d, OD 3000 (rdc ps q) d ∧ m_read_on [cD S, cD (nD e f)] = .ok (.im d) [cD S, cD (nD e f)]
  lst : gIx S (.int (-1)) = some (.int L)
  reach : ∀ a : Int, a.natAbs < 2 ^ 110 → m_law_tb_reach [cD S, cI a] = .ok (.im (rqD (rch rs a))) [cD S, cI a]
  ends : ∀ a : Int, a.natAbs < 2 ^ 110 → m_ends_at [cD S, cI a] = .ok (.im (riD (rch rs a))) [cD S, cI a]
  l1 : 1 ≤ L
  l2 : L < 2 ^ 60
theorem qv_half (n : Int) : qv n 2 = (n : Rat) / 2 := rfl
theorem halves (a : Int) (ha : a.natAbs < 2 ^ 110) : ∃ t u t' u' : Int, Fr 120 ((a : Rat) - 1 / 2) t u ∧ Fr 120 ((a : Rat) + 1 / 2) t' u' ∧
    m_lowest [cI (2 * a - 1), cI 2] = .ok (.im (nD t u)) [cI (2 * a - 1), cI 2] ∧ m_law_tb_made [cI (2 * a - 1), cI 2] = .ok (.im (nD t u)) [cI (2 * a - 1), cI 2] ∧
    m_lowest [cI (2 * a + 1), cI 2] = .ok (.im (nD t' u')) [cI (2 * a + 1), cI 2] ∧ m_law_tb_made [cI (2 * a + 1), cI 2] = .ok (.im (nD t' u')) [cI (2 * a + 1), cI 2] ∧
    gMul (.int 2) (.int a) = some (.int (2 * a)) := by
  obtain ⟨t, u, F, E1, E2⟩ := low_both (2 * a - 1) 2 (by decide) 120 (by decide) (by decide) (by omega) (by decide)
  obtain ⟨t', u', F', E1', E2'⟩ := low_both (2 * a + 1) 2 (by decide) 120 (by decide) (by decide) (by omega) (by decide)
  have v1 : qv (2 * a - 1) 2 = (a : Rat) - 1 / 2 := by
    rw [qv_half, Rat.intCast_sub, Rat.intCast_mul, show ((2 : Int) : Rat) = 2 from rfl, show ((1 : Int) : Rat) = 1 from rfl]
    grind
  have v2 : qv (2 * a + 1) 2 = (a : Rat) + 1 / 2 := by
    rw [qv_half, Rat.intCast_add, Rat.intCast_mul, show ((2 : Int) : Rat) = 2 from rfl, show ((1 : Int) : Rat) = 1 from rfl]
    grind
  rw [v1] at F
  rw [v2] at F'
  exact ⟨t, u, t', u', F, F', E1, E2, E1', E2', (mul_big (a := 2) (b := a) (M := 2) (N := 110) (by decide) ha (by decide) (by decide) (by decide)).1⟩
def loV (B a : Int) : Rat := if a = B then (B : Rat) else (a : Rat) - 1 / 2
def hiV (E a : Int) : Rat := if a = E then (E : Rat) else (a : Rat) + 1 / 2
theorem half_lt {a B : Int} (h : B ≤ a) : (a : Rat) - 1 / 2 < (B : Rat) ↔ a = B := by
  constructor
  · intro z
    rcases Classical.em (a = B) with e | e
    · exact e
    · have : B + 1 ≤ a := by omega
      have := Rat.intCast_le_intCast.mpr this
      rw [Rat.intCast_add, show ((1 : Int) : Rat) = 1 from rfl] at this
      grind
  · rintro rfl; grind
theorem lt_half {a E : Int} (h : a ≤ E) : (E : Rat) < (a : Rat) + 1 / 2 ↔ a = E := by
  constructor
  · intro z
    rcases Classical.em (a = E) with e | e
    · exact e
    · have : a + 1 ≤ E := by omega
      have := Rat.intCast_le_intCast.mpr this
      rw [Rat.intCast_add, show ((1 : Int) : Rat) = 1 from rfl] at this
      grind
  · rintro rfl; grind
theorem lo_in {a B E : Int} (h : B ≤ a) (h2 : a ≤ E) : (B : Rat) ≤ loV B a ∧ loV B a ≤ (E : Rat) ∧ loV B a ≤ (a : Rat) ∧ (a : Rat) - 1 / 2 ≤ loV B a := by
  have e1 := Rat.intCast_le_intCast.mpr h
  have e2 := Rat.intCast_le_intCast.mpr h2
  unfold loV
  by_cases k : a = B
  · subst k
    rw [if_pos rfl]
    refine ⟨Rat.le_refl, e2, Rat.le_refl, by grind⟩
  · rw [if_neg k]
    have := fun z => k ((half_lt h).mp z)
    refine ⟨Rat.not_lt.mp this, by grind, by grind, by grind⟩
theorem hi_in {a B E : Int} (h : B ≤ a) (h2 : a ≤ E) : (B : Rat) ≤ hiV E a ∧ hiV E a ≤ (E : Rat) ∧ (a : Rat) ≤ hiV E a ∧ hiV E a ≤ (a : Rat) + 1 / 2 := by
  have e1 := Rat.intCast_le_intCast.mpr h
  have e2 := Rat.intCast_le_intCast.mpr h2
  unfold hiV
  by_cases k : a = E
  · subst k
    rw [if_pos rfl]
    refine ⟨e1, Rat.le_refl, Rat.le_refl, by grind⟩
  · rw [if_neg k]
    have := fun z => k ((lt_half h2).mp z)
    refine ⟨by grind, Rat.not_lt.mp this, by grind, by grind⟩
theorem fr_neg {M : Nat} {q : Rat} {a b : Int} (h : Fr M q a b) : Fr M (-q) (-a) b := by
  refine ⟨⟨h.lw.p, by rw [Int.gcd_comm, Int.gcd_neg, Int.gcd_comm]; exact h.lw.g⟩, by rw [Int.natAbs_neg]; exact h.ta, h.tb, ?_⟩
  rw [← h.v]
  unfold qv
  rw [Rat.intCast_neg]
  grind
end Lw
namespace Lw
open PySem PySem.Spec PyProof.Rows L2 Dn
/-! belts of whole places, by either -/
abbrev blD (x y u v : Int) (s : Bool) : D := .tuple [nD x y, nD u v, .bool s]
/-- what is read at the two bounds -/
theorem bounds_read {S : D} {ps : List Pc} {rs : List (Int × Int)} {L : Int} (sc : Sc S ps rs L) {a : Int} (ha : a.natAbs < 2 ^ 110) {r : Int × Int} (hr : rch rs a = some r) :
    ∃ cl ch : Rat, ∃ x y u v t w t' w' : Int, rdc ps (loV r.1 a) = some cl ∧ rdc ps (hiV r.2 a) = some ch ∧ Fr 3000 cl x y ∧ Fr 3000 ch u v ∧ Fr 120 ((a : Rat) - 1 / 2) t w ∧ Fr 120 ((a : Rat) + 1 / 2) t' w' ∧
    m_lowest [cI (2 * a - 1), cI 2] = .ok (.im (nD t w)) [cI (2 * a - 1), cI 2] ∧ m_law_tb_made [cI (2 * a - 1), cI 2] = .ok (.im (nD t w)) [cI (2 * a - 1), cI 2] ∧
    m_lowest [cI (2 * a + 1), cI 2] = .ok (.im (nD t' w')) [cI (2 * a + 1), cI 2] ∧ m_law_tb_made [cI (2 * a + 1), cI 2] = .ok (.im (nD t' w')) [cI (2 * a + 1), cI 2] ∧
    gMul (.int 2) (.int a) = some (.int (2 * a)) ∧
    m_read_on [cD S, cD (if a = r.1 then nD r.1 1 else nD t w)] = .ok (.im (nD x y)) [cD S, cD (if a = r.1 then nD r.1 1 else nD t w)] ∧
    m_law_tb_read [cD S, cD (if a = r.1 then nD r.1 1 else nD t w)] = .ok (.im (nD x y)) [cD S, cD (if a = r.1 then nD r.1 1 else nD t w)] ∧
    m_read_on [cD S, cD (if a = r.2 then nD r.2 1 else nD t' w')] = .ok (.im (nD u v)) [cD S, cD (if a = r.2 then nD r.2 1 else nD t' w')] ∧
    m_law_tb_read [cD S, cD (if a = r.2 then nD r.2 1 else nD t' w')] = .ok (.im (nD u v)) [cD S, cD (if a = r.2 then nD r.2 1 else nD t' w')] := by
  obtain ⟨m, h1, h2⟩ := rch_some hr
  obtain ⟨s1, s2, s3⟩ := sc.sz r m
  obtain ⟨t, w, t', w', F, F', E1, E2, E3, E4, g⟩ := halves a ha
  have l2 := sc.l2
  obtain ⟨i1, i2, -, -⟩ := lo_in h1 h2
  obtain ⟨j1, j2, -, -⟩ := hi_in h1 h2
  have z0 : ((0 : Int) : Rat) ≤ (r.1 : Rat) := Rat.intCast_le_intCast.mpr s2
  have zL : (r.2 : Rat) ≤ (L : Rat) := Rat.intCast_le_intCast.mpr s3
  rw [show ((0 : Int) : Rat) = 0 from rfl] at z0
  have rd : ∀ (x : Rat) (e f : Int), Fr 120 x e f → (r.1 : Rat) ≤ x → x ≤ (r.2 : Rat) → ∃ c, ∃ x' y', rdc ps x = some c ∧ Fr 3000 c x' y' ∧ m_read_on [cD S, cD (nD e f)] = .ok (.im (nD x' y')) [cD S, cD (nD e f)] ∧ m_law_tb_read [cD S, cD (nD e f)] = .ok (.im (nD x' y')) [cD S, cD (nD e f)] := fun x e f hf k0 k1 => by
    obtain ⟨p, hp, p0, p1⟩ := sc.cov r m x k0 k1
    obtain ⟨c, hc⟩ := rdc_ex hp p0 p1
    obtain ⟨d, D1, R1⟩ := sc.rdp hf (by grind) (by grind)
    obtain ⟨d', D2, R2⟩ := tbr_gen S (hf.up (N := 400) (by decide)) ps sc.ok sc.pcs
    cases D1.uniq D2
    rw [hc] at D1
    obtain ⟨x', y', rfl, G⟩ := D1
    exact ⟨c, x', y', hc, G, R1, R2⟩
  have fw : ∀ z : Int, 0 ≤ z → z ≤ L → Fr 120 (z : Rat) z 1 := fun z z0 z1 => fr_whole z (by omega) (by decide)
  have A : ∃ c, ∃ x' y', rdc ps (loV r.1 a) = some c ∧ Fr 3000 c x' y' ∧ m_read_on [cD S, cD (if a = r.1 then nD r.1 1 else nD t w)] = .ok (.im (nD x' y')) [cD S, cD (if a = r.1 then nD r.1 1 else nD t w)] ∧ m_law_tb_read [cD S, cD (if a = r.1 then nD r.1 1 else nD t w)] = .ok (.im (nD x' y')) [cD S, cD (if a = r.1 then nD r.1 1 else nD t w)] := by
    by_cases k : a = r.1
    · rw [if_pos k]
      unfold loV at *
      rw [if_pos k] at i1 i2 ⊢
      exact rd _ _ _ (fw r.1 s2 (by omega)) i1 i2
    · rw [if_neg k]
      unfold loV at *
      rw [if_neg k] at i1 i2 ⊢
      exact rd _ _ _ F i1 i2
  have B : ∃ c, ∃ x' y', rdc ps (hiV r.2 a) = some c ∧ Fr 3000 c x' y' ∧ m_read_on [cD S, cD (if a = r.2 then nD r.2 1 else nD t' w')] = .ok (.im (nD x' y')) [cD S, cD (if a = r.2 then nD r.2 1 else nD t' w')] ∧ m_law_tb_read [cD S, cD (if a = r.2 then nD r.2 1 else nD t' w')] = .ok (.im (nD x' y')) [cD S, cD (if a = r.2 then nD r.2 1 else nD t' w')] := by
    by_cases k : a = r.2
    · rw [if_pos k]
      unfold hiV at *
      rw [if_pos k] at j1 j2 ⊢
      exact rd _ _ _ (fw r.2 (by omega) s3) j1 j2
    · rw [if_neg k]
      unfold hiV at *
      rw [if_neg k] at j1 j2 ⊢
      exact rd _ _ _ F' j1 j2
  obtain ⟨cl, x, y, a1, a2, a3, a4⟩ := A
  obtain ⟨ch, u, v, b1, b2, b3, b4⟩ := B
  exact ⟨cl, ch, x, y, u, v, t, w, t', w', a1, b1, a2, b2, F, F', E1, E2, E3, E4, g, a3, a4, b3, b4⟩
/-- the days of a belt -/
def dyF (cl : Rat) : Int := -((-cl).floor)
def dyG (ch : Rat) (s : Bool) : Int := if s then ch.floor else -((-ch).floor) - 1
def dyD (cl ch : Rat) (s : Bool) : D := if dyF cl ≤ dyG ch s then .tuple [nD (dyF cl) 1, nD (dyG ch s) 1, .bool true] else .none
theorem day_belt_eq {cl ch : Rat} {x y u v : Int} (hl : Fr 3000 cl x y) (hh : Fr 3000 ch u v) (s : Bool) : m_day_belt [cD (nD x y), cD (nD u v), cD (.bool s)] = .ok (.im (dyD cl ch s)) [cD (nD x y), cD (nD u v), cD (.bool s)] := by
  have f1 := (floor_both (fr_neg hl) (by decide) (by decide)).1
  have f2 := (floor_both (fr_neg hh) (by decide) (by decide)).1
  have f3 := (floor_both hh (by decide) (by decide)).1
  have c1 : m_ceiling_of [cD (nD x y)] = .ok (.im (.int (dyF cl))) [cD (nD x y)] := by
    unfold dyF
    generalize (-cl).floor = k at *
    simp only [nD] at f1 ⊢
    simp only [m_ceiling_of, b_ceiling_of, dDef_eq]
    simp [f1]
  have c2 : m_ceiling_of [cD (nD u v)] = .ok (.im (.int (-((-ch).floor)))) [cD (nD u v)] := by
    generalize (-ch).floor = k at *
    simp only [nD] at f2 ⊢
    simp only [m_ceiling_of, b_ceiling_of, dDef_eq]
    simp [f2]
  unfold dyD dyG
  generalize dyF cl = F at *
  generalize (-ch).floor = k at *
  generalize ch.floor = k2 at *
  generalize nD x y = A at *
  generalize nD u v = B at *
  simp only [m_day_belt, b_day_belt, dDef_eq, dSeq_eq]
  cases s
  · by_cases h : F ≤ -k - 1
    · have h' : ¬ -k - 1 < F := by omega
      simp [c1, c2, nD, h, h']
    · have h' : -k - 1 < F := by omega
      simp [c1, c2, nD, h, h']
  · by_cases h : F ≤ k2
    · have h' : ¬ k2 < F := by omega
      simp [c1, f3, nD, h, h']
    · have h' : k2 < F := by omega
      simp [c1, f3, nD, h, h']
theorem belt_none {S : D} {ps : List Pc} {rs : List (Int × Int)} {L : Int} (sc : Sc S ps rs L) {a : Int} (ha : a.natAbs < 2 ^ 110) (hr : rch rs a = none) :
    m_belt_at [cD S, cI a] = .ok (.im .none) [cD S, cI a] ∧ m_law_tb_belt [cD S, cI a] = .ok (.im .none) [cD S, cI a] := by
  have r1 := sc.reach a ha
  have r2 := sc.ends a ha
  rw [hr] at r1 r2
  simp only [rqD, riD] at r1 r2
  constructor
  · simp only [m_belt_at, b_belt_at, dDef_eq, dSeq_eq]
    simp [r2]
  · simp only [m_law_tb_belt, b_law_tb_belt, dDef_eq, dSeq_eq]
    simp [r1]
/-- the belt by the program and by the law; dy tells whether the scale is of days -/
theorem belt_some {S : D} {ps : List Pc} {rs : List (Int × Int)} {L : Int} (sc : Sc S ps rs L) {nm : D} {dy : Bool} (h0 : gIx S (.int 0) = some nm) (hd : gEq nm (.str "days") = some dy) {a : Int} (ha : a.natAbs < 2 ^ 110) {r : Int × Int} (hr : rch rs a = some r) :
    ∃ cl ch : Rat, ∃ x y u v : Int, rdc ps (loV r.1 a) = some cl ∧ rdc ps (hiV r.2 a) = some ch ∧ Fr 3000 cl x y ∧ Fr 3000 ch u v ∧
      m_belt_at [cD S, cI a] = .ok (.im (if dy then dyD cl ch (decide (a = r.2)) else blD x y u v (decide (a = r.2)))) [cD S, cI a] ∧
      m_law_tb_belt [cD S, cI a] = .ok (.im (if dy then dyD cl ch (decide (a = r.2)) else blD x y u v (decide (a = r.2)))) [cD S, cI a] := by
  obtain ⟨cl, ch, x, y, u, v, t, w, t', w', q1, q2, hl, hh, F, F', E1, E2, E3, E4, g, r1, r2, r3, r4⟩ := bounds_read sc ha hr
  refine ⟨cl, ch, x, y, u, v, q1, q2, hl, hh, ?_, ?_⟩
  · have rr := sc.ends a ha
    rw [hr] at rr
    simp only [riD] at rr
    have db := day_belt_eq hl hh (decide (a = r.2))
    generalize dyD cl ch (decide (a = r.2)) = DD at *
    unfold blD
    generalize nD x y = X at *
    generalize nD u v = Y at *
    generalize nD t w = T1 at *
    generalize nD t' w' = T2 at *
    obtain ⟨B, E⟩ := r
    simp only [nD] at r1 r3
    clear hr q1 q2 r2 r4
    simp only [m_belt_at, b_belt_at, dDef_eq, dSeq_eq]
    by_cases k1 : a = B
    · rw [if_pos k1] at r1
      have K1 := eq_true k1
      by_cases k2 : a = E
      · rw [if_pos k2] at r3
        have K2 := eq_true k2
        rw [decide_eq_true k2] at db ⊢
        cases dy <;> simp [rr, gTupD, gsCons, gsNil, K1, K2, r1, r3, h0, hd, db, g, E1, E3]
      · rw [if_neg k2] at r3
        have K2 := eq_false k2
        rw [decide_eq_false k2] at db ⊢
        cases dy <;> simp [rr, gTupD, gsCons, gsNil, K1, K2, r1, r3, h0, hd, db, g, E1, E3]
    · rw [if_neg k1] at r1
      have K1 := eq_false k1
      by_cases k2 : a = E
      · rw [if_pos k2] at r3
        have K2 := eq_true k2
        rw [decide_eq_true k2] at db ⊢
        cases dy <;> simp [rr, gTupD, gsCons, gsNil, K1, K2, r1, r3, h0, hd, db, g, E1, E3]
      · rw [if_neg k2] at r3
        have K2 := eq_false k2
        rw [decide_eq_false k2] at db ⊢
        cases dy <;> simp [rr, gTupD, gsCons, gsNil, K1, K2, r1, r3, h0, hd, db, g, E1, E3]
  · have rr := sc.reach a ha
    rw [hr] at rr
    simp only [rqD] at rr
    obtain ⟨m, h1, h2⟩ := rch_some hr
    obtain ⟨s1, s2, s3⟩ := sc.sz r m
    have l2 := sc.l2
    have L1 := (less_both F (fr_whole r.1 (M := 120) (by omega) (by decide)) (by decide) (by decide) (by decide)).2
    have L2 := (less_both (fr_whole r.2 (M := 120) (by omega) (by decide)) F' (by decide) (by decide) (by decide)).2
    have D1 : decide ((a : Rat) - 1 / 2 < (r.1 : Rat)) = decide (a = r.1) := decide_eq_decide.mpr (half_lt h1)
    have D2 : decide ((r.2 : Rat) < (a : Rat) + 1 / 2) = decide (a = r.2) := decide_eq_decide.mpr (lt_half h2)
    rw [D1] at L1
    rw [D2] at L2
    have hn : gNe nm (.str "days") = some (!dy) := by unfold gNe; rw [hd]; rfl
    have f1 := (floor_both (fr_neg hl) (by decide) (by decide)).2
    have f2 := (floor_both (fr_neg hh) (by decide) (by decide)).2
    have f3 := (floor_both hh (by decide) (by decide)).2
    obtain ⟨i0, i1⟩ := fr_ix (a := x) (b := y)
    obtain ⟨j0, j1⟩ := fr_ix (a := u) (b := v)
    unfold dyD dyF dyG
    unfold blD
    generalize (-cl).floor = k at *
    generalize (-ch).floor = k2 at *
    generalize ch.floor = k3 at *
    generalize hR1 : nD r.1 1 = R1 at *
    generalize hR2 : nD r.2 1 = R2 at *
    generalize nD t w = T1 at *
    generalize nD t' w' = T2 at *
    simp only [nD] at f1 f2
    generalize nD x y = X at *
    generalize nD u v = Y at *
    clear hr q1 q2 r1 r3 D1 D2 hR1 hR2 E1 E3
    simp only [m_law_tb_belt, b_law_tb_belt, dDef_eq, dSeq_eq]
    by_cases k1 : a = r.1
    · rw [if_pos k1] at r2
      rw [decide_eq_true k1] at L1
      by_cases k2' : a = r.2
      · exfalso; omega
      · rw [if_neg k2'] at r4
        rw [decide_eq_false k2'] at L2 ⊢
        cases dy
        · simp [rr, E2, E4, g, L1, L2, r2, r4, h0, hn]
        · by_cases z : -k ≤ -k2 - 1
          · simp [rr, E2, E4, g, L1, L2, r2, r4, h0, hn, i0, i1, j0, j1, f1, f2, f3, nD, z]
          · simp [rr, E2, E4, g, L1, L2, r2, r4, h0, hn, i0, i1, j0, j1, f1, f2, f3, nD, z]
    · rw [if_neg k1] at r2
      rw [decide_eq_false k1] at L1
      by_cases k2' : a = r.2
      · rw [if_pos k2'] at r4
        rw [decide_eq_true k2'] at L2 ⊢
        cases dy
        · simp [rr, E2, E4, g, L1, L2, r2, r4, h0, hn]
        · by_cases z : -k ≤ k3
          · simp [rr, E2, E4, g, L1, L2, r2, r4, h0, hn, i0, i1, j0, j1, f1, f2, f3, nD, z]
          · simp [rr, E2, E4, g, L1, L2, r2, r4, h0, hn, i0, i1, j0, j1, f1, f2, f3, nD, z]
      · rw [if_neg k2'] at r4
        rw [decide_eq_false k2'] at L2 ⊢
        cases dy
        · simp [rr, E2, E4, g, L1, L2, r2, r4, h0, hn]
        · by_cases z : -k ≤ -k2 - 1
          · simp [rr, E2, E4, g, L1, L2, r2, r4, h0, hn, i0, i1, j0, j1, f1, f2, f3, nD, z]
          · simp [rr, E2, E4, g, L1, L2, r2, r4, h0, hn, i0, i1, j0, j1, f1, f2, f3, nD, z]
end Lw
namespace Lw
open PySem PySem.Spec PyProof.Rows L2 Dn
/-! what may be compared -/
def Lay (n : Nat) (d : D) : Prop := PyData.canLay0 d = true ∧ PyData.depth d ≤ n
theorem lay_all {n : Nat} : ∀ {ds : List D}, (∀ d ∈ ds, Lay n d) → PyData.canLayAll0 ds = true ∧ PyData.depthAll ds ≤ n
  | [], _ => ⟨rfl, Nat.zero_le _⟩
  | d :: ds, h => by
    obtain ⟨i1, i2⟩ := lay_all (ds := ds) fun q hq => h q (List.mem_cons_of_mem _ hq)
    obtain ⟨c1, c2⟩ := h d List.mem_cons_self
    refine ⟨?_, ?_⟩
    · show (PyData.canLay0 d && PyData.canLayAll0 ds) = true
      rw [c1, i1]; rfl
    · show max (PyData.depth d) (PyData.depthAll ds) ≤ n
      omega
theorem lay_list {n : Nat} {ds : List D} (h : ∀ d ∈ ds, Lay n d) : Lay (n + 1) (.list ds) := by
  obtain ⟨a, b⟩ := lay_all h
  exact ⟨by simp only [PyData.canLay0]; exact a, by simp only [PyData.depth]; omega⟩
theorem lay_tuple {n : Nat} {ds : List D} (h : ∀ d ∈ ds, Lay n d) : Lay (n + 1) (.tuple ds) := by
  obtain ⟨a, b⟩ := lay_all h
  exact ⟨by simp only [PyData.canLay0]; exact a, by simp only [PyData.depth]; omega⟩
theorem lay_str {n : Nat} {a : List Nat} (h : okS a) : Lay n (.str (SX.S a)) := ⟨SeqAt.canLay_of_shaped (shpS h), by simp [PyData.depth]⟩
theorem lay_int {n : Nat} {i : Int} : Lay n (.int i) := ⟨rfl, by simp [PyData.depth]⟩
theorem lay_none {n : Nat} : Lay n .none := ⟨rfl, by simp [PyData.depth]⟩
theorem Lay.sh {n : Nat} {d : D} (h : Lay n d) (hn : n ≤ 60) : shp d = true := by
  unfold shp SeqAt.shaped
  rw [h.1]
  simp
  have := h.2
  omega
theorem lay_of2 {n : Nat} {a b : D} (ha : Lay n a) (hb : Lay n b) : ∀ d ∈ [a, b], Lay n d := fun d hd => by
  simp at hd
  rcases hd with rfl | rfl
  · exact ha
  · exact hb
/-! the reach, by either -/
theorem lcL_fmP {α : Type} {t : D → En → R (Option D)} {vs : List Nat} {g : α → D} {f : α → Option D} {ρ : En} : ∀ {ps : List α} {acc : List D}, (∀ p ∈ ps, ∃ ρ3, t (g p) (wipeE ρ vs) = .ok (f p) ρ3 ∧ restE ρ ρ3 vs = ρ) → acc.length + ps.length ≤ sizeLine → lcL t vs (ps.map g) acc ρ = .ok (acc ++ ps.filterMap f) ρ
  | [], acc, _, _ => by rw [List.map_nil, lcL, List.filterMap_nil, List.append_nil]
  | d :: ds, acc, h, hl => by
    obtain ⟨ρ3, e1, e2⟩ := h d List.mem_cons_self
    rw [List.map_cons, lcL, e1]
    have hl' : acc.length + (ds.length + 1) ≤ sizeLine := hl
    cases q : f d with
    | none =>
      show lcL t vs (ds.map g) acc (restE ρ ρ3 vs) = _
      rw [e2, lcL_fmP (fun d hd => h d (List.mem_cons_of_mem _ hd)) (by omega), List.filterMap_cons, q]
    | some y =>
      show (if acc.length < sizeLine then lcL t vs (ds.map g) (acc ++ [y]) (restE ρ ρ3 vs) else .no) = _
      rw [if_pos (by omega), e2, lcL_fmP (fun d hd => h d (List.mem_cons_of_mem _ hd)) (by rw [List.length_append]; simp; omega), List.filterMap_cons, q]
      simp
theorem lcL_mapP {α : Type} {t : D → En → R (Option D)} {vs : List Nat} {g : α → D} {f : α → D} {ρ : En} {ps : List α} (h : ∀ p ∈ ps, ∃ ρ3, t (g p) (wipeE ρ vs) = .ok (some (f p)) ρ3 ∧ restE ρ ρ3 vs = ρ) (hl : ps.length ≤ sizeLine) : lcL t vs (ps.map g) [] ρ = .ok (ps.map f) ρ := by
  rw [lcL_fmP (f := fun d => some (f d)) h (by simpa using hl), List.nil_append, List.filterMap_eq_map']
theorem gNe_nil {R : List D} (h : shp (.list R) = true) : gNe (.list R) (.list []) = some (!R.isEmpty) := by
  rw [gNe_of h (by rfl)]
  cases R <;> rfl
abbrev egD (r : Int × Int) : D := .tuple [nD r.1 1, nD r.2 1]
theorem lay_pair {a b : Int} : Lay 1 (nD a b) := lay_tuple (n := 0) (lay_of2 lay_int lay_int)
theorem lay_eg (r : Int × Int) : Lay 2 (egD r) := lay_tuple (lay_of2 lay_pair lay_pair)
theorem reach_gen {S nm : D} {br : Bool} (h0 : gIx S (.int 0) = some nm) (hb : gEq nm (.str "broken") = some br) {L : Int} (hL : gIx S (.int (-1)) = some (.int L)) {ps : List Pc} {rs : List (Int × Int)} (P : m_law_tb_pieces [cD S] = .ok (.ow (ps.map pcD)) [cD S])
    (h1 : br = true → rs.map egD = ps.map fun p => .tuple [nD p.b1 p.b2, nD p.e1 p.e2]) (h2 : br = false → rs = [(0, L)]) (hs : ∀ r ∈ rs, r.1.natAbs < 2 ^ 100 ∧ r.2.natAbs < 2 ^ 100) (hl : ps.length ≤ 100) (hl2 : rs.length ≤ 100) {a : Int} (ha : a.natAbs < 2 ^ 110) :
    m_law_tb_reach [cD S, cI a] = .ok (.im (rqD (rch rs a))) [cD S, cI a] := by
  have LC2 := lcL_fmP (t := b_law_tb_reach_l2) (vs := [4, 5]) (g := egD) (f := fun r => if r.1 ≤ a ∧ a ≤ r.2 then some (egD r) else none) (ρ := [cD S, cI a, cD (.list (rs.map egD)), none, none, none, none]) (ps := rs) (acc := [])
    (fun r hr => by
      obtain ⟨s1, s2⟩ := hs r hr
      have B := between_eq (fr_whole r.1 (M := 120) (lt_up s1 (by decide)) (by decide)) (fr_whole a (M := 120) (lt_up ha (by decide)) (by decide)) (fr_whole r.2 (M := 120) (lt_up s2 (by decide)) (by decide)) (by decide) (by decide)
      have e : decide ((r.1 : Rat) ≤ (a : Rat) ∧ (a : Rat) ≤ (r.2 : Rat)) = decide (r.1 ≤ a ∧ a ≤ r.2) := decide_eq_decide.mpr (by rw [Rat.intCast_le_intCast, Rat.intCast_le_intCast])
      rw [e] at B
      generalize List.map egD rs = M at *
      unfold egD
      rw [show nD a 1 = PyData.tuple [.int a, .int 1] from rfl] at B
      refine ⟨[cD S, cI a, cD (.list M), none, cD (nD r.1 1), cD (nD r.2 1), none], ?_, by simp [restE]⟩
      generalize nD r.1 1 = A1 at *
      generalize nD r.2 1 = A2 at *
      by_cases k : r.1 ≤ a ∧ a ≤ r.2
      · rw [decide_eq_true k] at B
        rw [if_pos k]
        simp [b_law_tb_reach_l2, wipeE, gTupD, gsCons, gsNil, B]
      · rw [decide_eq_false k] at B
        rw [if_neg k]
        simp [b_law_tb_reach_l2, wipeE, gTupD, gsCons, gsNil, B])
    (by have := PySem.sizeLine_eq; simp; omega)
  rw [List.nil_append] at LC2
  have hf : ∀ rs : List (Int × Int), rqD (rch rs a) = ((rs.filterMap fun r => if r.1 ≤ a ∧ a ≤ r.2 then some (egD r) else none)[0]?).getD .none ∧ (rs.filterMap fun r => if r.1 ≤ a ∧ a ≤ r.2 then some (egD r) else none).length ≤ rs.length := fun rs => by
    induction rs with
    | nil => exact ⟨rfl, Nat.le_refl _⟩
    | cons r rs ih =>
      by_cases k : r.1 ≤ a ∧ a ≤ r.2
      · rw [List.filterMap_cons, if_pos k]
        refine ⟨by unfold rch; rw [if_pos k]; rfl, ?_⟩
        simp only [List.length_cons]
        have := ih.2
        omega
      · rw [List.filterMap_cons, if_neg k]
        refine ⟨by unfold rch; rw [if_neg k]; exact ih.1, ?_⟩
        simp only [List.length_cons]
        have := ih.2
        omega
  obtain ⟨f1, f2⟩ := hf rs
  have hlay : shp (.list (rs.filterMap fun r => if r.1 ≤ a ∧ a ≤ r.2 then some (egD r) else none)) = true := by
    refine (lay_list (n := 2) fun d hd => ?_).sh (by decide)
    rw [List.mem_filterMap] at hd
    obtain ⟨r, -, hr⟩ := hd
    by_cases k : r.1 ≤ a ∧ a ≤ r.2
    · rw [if_pos k] at hr; cases Option.some.inj hr; exact lay_eg r
    · rw [if_neg k] at hr; exact absurd hr (by simp)
  have gn := gNe_nil hlay
  rw [f1]
  generalize (rs.filterMap fun r => if r.1 ≤ a ∧ a ≤ r.2 then some (egD r) else none) = W at *
  clear f1 hf hs hlay
  simp only [m_law_tb_reach, b_law_tb_reach, dDef_eq, dSeq_eq]
  cases br with
  | true =>
    have LC1 := lcL_mapP (t := b_law_tb_reach_l1) (vs := [6]) (g := pcD) (f := fun p => .tuple [nD p.b1 p.b2, nD p.e1 p.e2]) (ρ := [cD S, cI a, none, none, none, none, none]) (ps := ps) (fun p _ => by
      refine ⟨[cD S, cI a, none, none, none, none, cD (pcD p)], ?_, by simp [restE]⟩
      unfold pcD
      generalize nD p.l1 p.l2 = A0 at *
      generalize nD p.h1 p.h2 = B1 at *
      generalize nD p.b1 p.b2 = C1 at *
      generalize nD p.e1 p.e2 = E1 at *
      simp [b_law_tb_reach_l1, wipeE, atI_3]) (by have := PySem.sizeLine_eq; omega)
    rw [← h1 rfl] at LC1
    generalize List.map egD rs = M at *
    generalize List.map pcD ps = M2 at *
    cases W <;> simp [h0, hb, P, LC1, immE, LC2, gn]
  | false =>
    rw [h2 rfl] at LC2
    simp only [List.map_cons, List.map_nil, nD] at LC2
    cases W <;> simp [h0, hb, hL, nD, immE, LC2, gn]
end Lw
namespace Lw
open PySem PySem.Spec PyProof.Rows L2 Dn
/-! broken scales -/
theorem ends_plain {S nm : D} (h0 : gIx S (.int 0) = some nm) (hb : gEq nm (.str "broken") = some false) {L : Int} (hL : gIx S (.int (-1)) = some (.int L)) (a : Int) : m_ends_at [cD S, cI a] = .ok (.im (riD (rch [(0, L)] a))) [cD S, cI a] := by
  simp only [m_ends_at, b_ends_at, dDef_eq, dSeq_eq]
  unfold rch
  by_cases k : 0 ≤ a ∧ a ≤ L
  · rw [if_pos k]
    simp [h0, hb, hL, k.1, k.2, riD]
  · rw [if_neg k]
    by_cases k1 : 0 ≤ a
    · have k2 : ¬ a ≤ L := fun z => k ⟨k1, z⟩
      simp [h0, hb, hL, k1, k2, riD, rch]
    · simp [h0, hb, hL, k1, riD, rch]
structure BOk (p : Pc) : Prop where
  o : POk p
  b2 : p.b2 = 1
  e2 : p.e2 = 1
  b0 : 0 ≤ p.b1
  e0 : p.e1 < 2 ^ 60
theorem BOk.qb {p : Pc} (h : BOk p) : p.qb = (p.b1 : Rat) := by have := h.o.b.v; rw [h.b2, qv_whole] at this; exact this.symm
theorem BOk.qe {p : Pc} (h : BOk p) : p.qe = (p.e1 : Rat) := by have := h.o.e.v; rw [h.e2, qv_whole] at this; exact this.symm
theorem BOk.be {p : Pc} (h : BOk p) : p.b1 < p.e1 := by have := h.o.be; rw [h.qb, h.qe, Rat.intCast_lt_intCast] at this; exact this
abbrev bpD (p : Pc) : D := .tuple [nD p.l1 p.l2, nD p.h1 p.h2, .int p.b1, .int p.e1]
abbrev brD (ps : List Pc) (L : Int) : D := .tuple [.str "broken", .list (ps.map bpD), .int L]
theorem ends_loop (S : D) (a : Int) : ∀ (ps : List Pc) (y2 y3 y4 y5 : Option Dn.L), free (some y2) = true → free (some y3) = true → free (some y4) = true → free (some y5) = true → ∃ z2 z3 z4 z5 : Option Dn.L,
    dForL (gTupD 4 (gsCons (putIm 2) (gsCons (putIm 3) (gsCons (putIm 4) (gsCons (putIm 5) gsNil))))) b_ends_at_l1 (ps.map bpD) [cD S, cI a, y2, y3, y4, y5] = .ok (match rch (ps.map fun p => (p.b1, p.e1)) a with | none => .nx | some r => .rt (.tuple [.int r.1, .int r.2])) [cD S, cI a, z2, z3, z4, z5]
  | [], y2, y3, y4, y5, f2, f3, f4, f5 => ⟨y2, y3, y4, y5, rfl⟩
  | p :: ps, y2, y3, y4, y5, f2, f3, f4, f5 => by
    rw [List.map_cons, List.map_cons]
    unfold rch
    by_cases k : p.b1 ≤ a ∧ a ≤ p.e1
    · refine ⟨cD (nD p.l1 p.l2), cD (nD p.h1 p.h2), cI p.b1, cI p.e1, ?_⟩
      rw [if_pos k]
      unfold bpD
      generalize nD p.l1 p.l2 = A0 at *
      generalize nD p.h1 p.h2 = B1 at *
      simp [dForL, gTupD, gsCons, gsNil, b_ends_at_l1, f2, f3, f4, f5, k.1, k.2]
    · obtain ⟨z2, z3, z4, z5, E⟩ := ends_loop S a ps (cD (nD p.l1 p.l2)) (cD (nD p.h1 p.h2)) (cI p.b1) (cI p.e1) rfl rfl rfl rfl
      refine ⟨z2, z3, z4, z5, ?_⟩
      rw [if_neg k]
      rw [← E]
      unfold bpD
      generalize nD p.l1 p.l2 = A0 at *
      generalize nD p.h1 p.h2 = B1 at *
      generalize List.map _ ps = M
      by_cases k1 : p.b1 ≤ a
      · have k2 : ¬ a ≤ p.e1 := fun z => k ⟨k1, z⟩
        simp [dForL, gTupD, gsCons, gsNil, b_ends_at_l1, f2, f3, f4, f5, k1, k2]
      · simp [dForL, gTupD, gsCons, gsNil, b_ends_at_l1, f2, f3, f4, f5, k1]
theorem ends_broken (ps : List Pc) (L a : Int) : m_ends_at [cD (brD ps L), cI a] = .ok (.im (riD (rch (ps.map fun p => (p.b1, p.e1)) a))) [cD (brD ps L), cI a] := by
  obtain ⟨z2, z3, z4, z5, E⟩ := ends_loop (brD ps L) a ps none none none none rfl rfl rfl rfl
  simp only [m_ends_at, b_ends_at, dDef_eq, dSeq_eq]
  have g1 : gIx (brD ps L) (.int 0) = some (.str "broken") := rfl
  have g2 : gIx (brD ps L) (.int 1) = some (.list (ps.map bpD)) := rfl
  generalize brD ps L = S at *
  generalize List.map bpD ps = M at *
  cases h : rch (ps.map fun p => (p.b1, p.e1)) a with
  | none =>
    rw [h] at E
    simp only at E
    simp [g1, g2, qbrbr, E, riD]
  | some r =>
    rw [h] at E
    simp only at E
    simp [g1, g2, qbrbr, E, riD]
theorem tbp_broken {ps : List Pc} (hb : ∀ p ∈ ps, BOk p) (hl : ps.length ≤ 100) (L : Int) : m_law_tb_pieces [cD (brD ps L)] = .ok (.ow (ps.map pcD)) [cD (brD ps L)] := by
  have LC := lcL_mapP (t := b_law_tb_pieces_l1) (vs := [10, 11, 8, 9]) (g := bpD) (f := pcD) (ρ := [cD (brD ps L), none, none, none, none, none, none, none, none, none, none, none]) (ps := ps) (fun p hp => by
      have B := hb p hp
      refine ⟨[cD (brD ps L), none, none, none, none, none, none, none, cI p.b1, cI p.e1, cD (nD p.l1 p.l2), cD (nD p.h1 p.h2)], ?_, by simp [restE]⟩
      unfold pcD
      rw [B.b2, B.e2]
      generalize brD ps L = S at *
      unfold bpD
      unfold nD
      generalize PyData.tuple [.int p.l1, .int p.l2] = A0 at *
      generalize PyData.tuple [.int p.h1, .int p.h2] = B1 at *
      simp [b_law_tb_pieces_l1, wipeE, gTupD, gsCons, gsNil]) (by have := PySem.sizeLine_eq; omega)
  have g1 : gIx (brD ps L) (.int 0) = some (.str "broken") := rfl
  have g2 : gIx (brD ps L) (.int 1) = some (.list (ps.map bpD)) := rfl
  generalize brD ps L = S at *
  generalize List.map bpD ps = M at *
  generalize List.map pcD ps = M2 at *
  simp only [m_law_tb_pieces, b_law_tb_pieces, dDef_eq, dSeq_eq]
  simp [g1, g2, qbrbr, LC, immE]
end Lw
namespace Lw
open PySem PySem.Spec PyProof.Rows L2 Dn
/-! broken scales by the program -/
section
variable {ql qh qb qe qc : Rat} {a b c d e f g h i j : Int}
theorem back_g (hl : Fr 400 ql a b) (hh : Fr 400 qh c d) (hc : Fr 400 qc e f) (L : Int) (h0 : 0 < L) (h1 : L.natAbs < 2 ^ 100) : ∃ x y, Fr 2600 (ql + qc * (qh - ql) / (L : Rat)) x y ∧
    m_back_straight [cD (nD a b), cD (nD c d), cD (nD e f), cI L] = .ok (.im (nD x y)) [cD (nD a b), cD (nD c d), cD (nD e f), cI L] := by
  have FL := fr_whole L (M := 100) h1 (by decide)
  obtain ⟨x1, y1, F1, E1, _⟩ := minus_both hh hl (by decide) (by decide) (by decide)
  obtain ⟨x2, y2, F2, E2, _⟩ := times_both hc F1 (by decide) (by decide) (by decide)
  obtain ⟨x3, y3, F3, E3, _⟩ := over_both F2 FL (ine (by omega)) (by decide) (by decide) (by decide)
  obtain ⟨x4, y4, F4, E4, _⟩ := plus_both hl F3 (by decide) (by decide) (by decide)
  refine ⟨x4, y4, F4.up (by decide), ?_⟩
  generalize nD a b = A at *
  generalize nD c d = B at *
  generalize nD e f = C at *
  simp only [m_back_straight, b_back_straight, dDef_eq]
  simp [E1, E2, E3, E4]
theorem along_s (hl : Fr 400 ql a b) (hh : Fr 400 qh c d) (hc : Fr 3100 qc e f) (L : Int) (h0 : 0 < L) (h1 : L.natAbs < 2 ^ 100) (hlt : ql < qh) :
    (ql ≤ qc ∧ qc ≤ qh ∧ ∃ x y, Fr 4500 ((qc - ql) * (L : Rat) / (qh - ql)) x y ∧ m_along_straight [cD (nD a b), cD (nD c d), cD (nD e f), cI L] = .ok (.im (nD x y)) [cD (nD a b), cD (nD c d), cD (nD e f), cI L]) ∨
    (¬ (ql ≤ qc ∧ qc ≤ qh) ∧ m_along_straight [cD (nD a b), cD (nD c d), cD (nD e f), cI L] = .ok (.im .none) [cD (nD a b), cD (nD c d), cD (nD e f), cI L]) := by
  have FL := fr_whole L (M := 100) h1 (by decide)
  have U1 := (less_both hc hl (by decide) (by decide) (by decide)).1
  have U2 := (less_both hh hc (by decide) (by decide) (by decide)).1
  obtain ⟨x1, y1, F1, E1, _⟩ := minus_both hc hl (by decide) (by decide) (by decide)
  obtain ⟨x2, y2, F2, E2, _⟩ := times_both F1 FL (by decide) (by decide) (by decide)
  obtain ⟨x3, y3, F3, E3, _⟩ := minus_both hh hl (by decide) (by decide) (by decide)
  obtain ⟨x4, y4, F4, E4, _⟩ := over_both F2 F3 (by grind) (by decide) (by decide) (by decide)
  generalize nD a b = A at *
  generalize nD c d = B at *
  generalize nD e f = C at *
  simp only [m_along_straight, b_along_straight, dDef_eq, dSeq_eq]
  by_cases u1 : qc < ql
  · rw [decide_eq_true u1] at U1
    exact .inr ⟨fun z => by grind, by simp [U1]⟩
  · rw [decide_eq_false u1] at U1
    by_cases u2 : qh < qc
    · rw [decide_eq_true u2] at U2
      exact .inr ⟨fun z => by grind, by simp [U1, U2]⟩
    · rw [decide_eq_false u2] at U2
      exact .inl ⟨by grind, by grind, x4, y4, F4.up (by decide), by simp [U1, U2, E1, E2, E3, E4]⟩
end
theorem bk_v {p : Pc} (h : BOk p) (x : Rat) : bk p x = p.ql + (x - (p.b1 : Rat)) * (p.qh - p.ql) / ((p.e1 - p.b1 : Int) : Rat) := by
  have n1 : p.qe - p.qb ≠ 0 := by have := h.o.be; grind
  unfold bk
  rw [Rat.intCast_sub, ← h.qb, ← h.qe]
  generalize p.qh = c at *
  generalize p.ql = l at *
  generalize p.qe = e at *
  generalize p.qb = b at *
  grind
theorem al_v {p : Pc} (h : BOk p) (c : Rat) : al p c = (p.b1 : Rat) + (c - p.ql) * ((p.e1 - p.b1 : Int) : Rat) / (p.qh - p.ql) := by
  have n1 : p.qh - p.ql ≠ 0 := by have := h.o.lh; grind
  unfold al
  rw [Rat.intCast_sub, ← h.qb, ← h.qe]
  generalize p.qh = c at *
  generalize p.ql = l at *
  generalize p.qe = e at *
  generalize p.qb = b at *
  grind
theorem back_loop (S : D) {q : Rat} {e f : Int} (hc : Fr 120 q e f) : ∀ (ps : List Pc), (∀ p ∈ ps, BOk p) → ∀ (y2 y3 y4 y5 : Option Dn.L), free (some y2) = true → free (some y3) = true → free (some y4) = true → free (some y5) = true → ∃ z2 z3 z4 z5 : Option Dn.L,
    (∃ c x y, rdc ps q = some c ∧ Fr 3000 c x y ∧ dForL (gTupD 4 (gsCons (putIm 2) (gsCons (putIm 3) (gsCons (putIm 4) (gsCons (putIm 5) gsNil))))) b_back_pieces_l1 (ps.map bpD) [cD S, cD (nD e f), y2, y3, y4, y5] = .ok (.rt (nD x y)) [cD S, cD (nD e f), z2, z3, z4, z5]) ∨
    (rdc ps q = none ∧ dForL (gTupD 4 (gsCons (putIm 2) (gsCons (putIm 3) (gsCons (putIm 4) (gsCons (putIm 5) gsNil))))) b_back_pieces_l1 (ps.map bpD) [cD S, cD (nD e f), y2, y3, y4, y5] = .ok .nx [cD S, cD (nD e f), z2, z3, z4, z5])
  | [], _, y2, y3, y4, y5, f2, f3, f4, f5 => ⟨y2, y3, y4, y5, .inr ⟨rfl, rfl⟩⟩
  | p :: ps, ho, y2, y3, y4, y5, f2, f3, f4, f5 => by
    have B := ho p List.mem_cons_self
    have be := B.be
    have b0 := B.b0
    have e0 := B.e0
    have Fb := fr_whole p.b1 (M := 120) (by omega) (by decide)
    have Fe := fr_whole p.e1 (M := 120) (by omega) (by decide)
    have U1 := (less_both hc Fb (by decide) (by decide) (by decide)).1
    have U2 := (less_both Fe hc (by decide) (by decide) (by decide)).1
    obtain ⟨x1, y1, F1, M1, -⟩ := minus_both hc Fb (by decide) (by decide) (by decide)
    obtain ⟨x, y, F, A⟩ := back_g B.o.l B.o.h (F1.up (N := 400) (by decide)) (p.e1 - p.b1) (by omega) (by omega)
    rw [← bk_v B] at F
    rw [← B.qb] at U1
    rw [← B.qe] at U2
    rw [List.map_cons]
    unfold rdc
    rw [show nD p.b1 1 = PyData.tuple [.int p.b1, .int 1] from rfl] at U1 M1
    rw [show nD p.e1 1 = PyData.tuple [.int p.e1, .int 1] from rfl] at U2
    by_cases k : p.qb ≤ q ∧ q ≤ p.qe
    · rw [decide_eq_false (Rat.not_lt.mpr k.1)] at U1
      rw [decide_eq_false (Rat.not_lt.mpr k.2)] at U2
      refine ⟨cD (nD p.l1 p.l2), cD (nD p.h1 p.h2), cI p.b1, cI p.e1, .inl ⟨_, x, y, if_pos k, F.up (by decide), ?_⟩⟩
      unfold bpD
      generalize nD x y = R0 at *
      generalize nD x1 y1 = R1 at *
      generalize nD p.l1 p.l2 = A0 at *
      generalize nD p.h1 p.h2 = B1 at *
      generalize nD e f = P1 at *
      simp [dForL, gTupD, gsCons, gsNil, b_back_pieces_l1, f2, f3, f4, f5, U1, U2, M1, A]
    · rw [if_neg k]
      obtain ⟨z2, z3, z4, z5, E⟩ := back_loop S hc ps (fun z hz => ho z (List.mem_cons_of_mem _ hz)) (cD (nD p.l1 p.l2)) (cD (nD p.h1 p.h2)) (cI p.b1) (cI p.e1) rfl rfl rfl rfl
      refine ⟨z2, z3, z4, z5, ?_⟩
      have key : dForL (gTupD 4 (gsCons (putIm 2) (gsCons (putIm 3) (gsCons (putIm 4) (gsCons (putIm 5) gsNil))))) b_back_pieces_l1 (bpD p :: ps.map bpD) [cD S, cD (nD e f), y2, y3, y4, y5] = dForL (gTupD 4 (gsCons (putIm 2) (gsCons (putIm 3) (gsCons (putIm 4) (gsCons (putIm 5) gsNil))))) b_back_pieces_l1 (ps.map bpD) [cD S, cD (nD e f), cD (nD p.l1 p.l2), cD (nD p.h1 p.h2), cI p.b1, cI p.e1] := by
        clear E M1 A
        unfold bpD
        generalize nD p.l1 p.l2 = A0 at *
        generalize nD p.h1 p.h2 = B1 at *
        generalize nD e f = P1 at *
        generalize List.map _ _ = M
        by_cases k1 : q < p.qb
        · rw [decide_eq_true k1] at U1
          simp [dForL, gTupD, gsCons, gsNil, b_back_pieces_l1, f2, f3, f4, f5, U1]
        · rw [decide_eq_false k1] at U1
          rw [decide_eq_true (Rat.not_le.mp fun z => k ⟨Rat.not_lt.mp k1, z⟩)] at U2
          simp [dForL, gTupD, gsCons, gsNil, b_back_pieces_l1, f2, f3, f4, f5, U1, U2]
      rw [key]
      exact E
theorem read_broken {q : Rat} {e f : Int} (hc : Fr 120 q e f) {ps : List Pc} (hb : ∀ p ∈ ps, BOk p) (L : Int) : ∃ d, OD 3000 (rdc ps q) d ∧ m_read_on [cD (brD ps L), cD (nD e f)] = .ok (.im d) [cD (brD ps L), cD (nD e f)] := by
  have g1 : gIx (brD ps L) (.int 0) = some (.str "broken") := rfl
  have g2 : gIx (brD ps L) (.int 1) = some (.list (ps.map bpD)) := rfl
  obtain ⟨z2, z3, z4, z5, ⟨c, x, y, h1, F, E⟩ | ⟨h1, E⟩⟩ := back_loop (.list (ps.map bpD)) hc ps hb none none none none rfl rfl rfl rfl
  · refine ⟨nD x y, by rw [h1]; exact ⟨x, y, rfl, F⟩, ?_⟩
    have key : m_back_pieces [cD (.list (ps.map bpD)), cD (nD e f)] = .ok (.im (nD x y)) [cD (.list (ps.map bpD)), cD (nD e f)] := by
      generalize List.map bpD ps = M at *
      generalize nD e f = P1 at *
      generalize nD x y = R0 at *
      simp only [m_back_pieces, b_back_pieces, dDef_eq, dSeq_eq]
      simp [E]
    generalize brD ps L = S at *
    generalize List.map bpD ps = M at *
    generalize nD e f = P1 at *
    generalize nD x y = R0 at *
    simp only [m_read_on, b_read_on, dDef_eq, dSeq_eq]
    simp [g1, g2, qbrtu, qbrbr, key]
  · refine ⟨.none, by rw [h1]; rfl, ?_⟩
    have key : m_back_pieces [cD (.list (ps.map bpD)), cD (nD e f)] = .ok (.im .none) [cD (.list (ps.map bpD)), cD (nD e f)] := by
      generalize List.map bpD ps = M at *
      generalize nD e f = P1 at *
      simp only [m_back_pieces, b_back_pieces, dDef_eq, dSeq_eq]
      simp [E]
    generalize brD ps L = S at *
    generalize List.map bpD ps = M at *
    generalize nD e f = P1 at *
    simp only [m_read_on, b_read_on, dDef_eq, dSeq_eq]
    simp [g1, g2, qbrtu, qbrbr, key]
end Lw
namespace Lw
open PySem PySem.Spec PyProof.Rows L2 Dn
/-! places on broken scales by the program -/
theorem alp_loop (S : D) {q : Rat} {e f : Int} (hc : Fr 3100 q e f) : ∀ (ps : List Pc), (∀ p ∈ ps, BOk p) → ∀ (y2 y3 y4 y5 y6 : Option Dn.L), free (some y2) = true → free (some y3) = true → free (some y4) = true → free (some y5) = true → free (some y6) = true → ∃ z2 z3 z4 z5 z6 : Option Dn.L,
    (∃ c x y, plc ps q = some c ∧ Fr 5600 c x y ∧ dForL (gTupD 4 (gsCons (putIm 2) (gsCons (putIm 3) (gsCons (putIm 4) (gsCons (putIm 5) gsNil))))) b_along_pieces_l1 (ps.map bpD) [cD S, cD (nD e f), y2, y3, y4, y5, y6] = .ok (.rt (nD x y)) [cD S, cD (nD e f), z2, z3, z4, z5, z6]) ∨
    (plc ps q = none ∧ dForL (gTupD 4 (gsCons (putIm 2) (gsCons (putIm 3) (gsCons (putIm 4) (gsCons (putIm 5) gsNil))))) b_along_pieces_l1 (ps.map bpD) [cD S, cD (nD e f), y2, y3, y4, y5, y6] = .ok .nx [cD S, cD (nD e f), z2, z3, z4, z5, z6])
  | [], _, y2, y3, y4, y5, y6, f2, f3, f4, f5, f6 => ⟨y2, y3, y4, y5, y6, .inr ⟨rfl, rfl⟩⟩
  | p :: ps, ho, y2, y3, y4, y5, y6, f2, f3, f4, f5, f6 => by
    have B := ho p List.mem_cons_self
    have be := B.be
    have b0 := B.b0
    have e0 := B.e0
    have Fb := fr_whole p.b1 (M := 120) (by omega) (by decide)
    rw [List.map_cons]
    unfold plc
    rcases along_s B.o.l B.o.h hc (p.e1 - p.b1) (by omega) (by omega) B.o.lh with ⟨k1, k2, x1, y1, F1, E1⟩ | ⟨k, E1⟩
    · obtain ⟨x, y, F, A, -⟩ := plus_both Fb F1 (by decide) (by decide) (by decide)
      rw [← al_v B] at F
      obtain ⟨RL, hR⟩ : ∃ RL, nD x1 y1 = PyData.tuple RL := ⟨_, rfl⟩
      rw [hR] at E1 A
      rw [show nD p.b1 1 = PyData.tuple [.int p.b1, .int 1] from rfl] at A
      refine ⟨cD (nD p.l1 p.l2), cD (nD p.h1 p.h2), cI p.b1, cI p.e1, cD (.tuple RL), .inl ⟨_, x, y, if_pos ⟨k1, k2⟩, F.up (by decide), ?_⟩⟩
      unfold bpD
      generalize nD x y = R0 at *
      generalize nD p.l1 p.l2 = A0 at *
      generalize nD p.h1 p.h2 = B1 at *
      generalize nD e f = P1 at *
      simp [dForL, gTupD, gsCons, gsNil, b_along_pieces_l1, f2, f3, f4, f5, f6, E1, A]
    · rw [if_neg k]
      obtain ⟨z2, z3, z4, z5, z6, E⟩ := alp_loop S hc ps (fun z hz => ho z (List.mem_cons_of_mem _ hz)) (cD (nD p.l1 p.l2)) (cD (nD p.h1 p.h2)) (cI p.b1) (cI p.e1) (cD .none) rfl rfl rfl rfl rfl
      refine ⟨z2, z3, z4, z5, z6, ?_⟩
      have gi : gIsNot .none .none = some false := rfl
      have key : dForL (gTupD 4 (gsCons (putIm 2) (gsCons (putIm 3) (gsCons (putIm 4) (gsCons (putIm 5) gsNil))))) b_along_pieces_l1 (bpD p :: ps.map bpD) [cD S, cD (nD e f), y2, y3, y4, y5, y6] = dForL (gTupD 4 (gsCons (putIm 2) (gsCons (putIm 3) (gsCons (putIm 4) (gsCons (putIm 5) gsNil))))) b_along_pieces_l1 (ps.map bpD) [cD S, cD (nD e f), cD (nD p.l1 p.l2), cD (nD p.h1 p.h2), cI p.b1, cI p.e1, cD .none] := by
        clear E
        unfold bpD
        generalize nD p.l1 p.l2 = A0 at *
        generalize nD p.h1 p.h2 = B1 at *
        generalize nD e f = P1 at *
        generalize List.map _ _ = M
        simp [dForL, gTupD, gsCons, gsNil, b_along_pieces_l1, f2, f3, f4, f5, f6, E1, gi]
      rw [key]
      exact E
def PlO (S X : D) (o : Option Rat) : Prop := match o with
  | some p => ∃ x y, Fr 5600 p x y ∧ m_place_on [cD S, cD X] = .ok (.im (nD x y)) [cD S, cD X]
  | none => ∃ s, m_place_on [cD S, cD X] = .ok (.im (.str s)) [cD S, cD X]
theorem place_broken {q : Rat} {e f : Int} (hc : Fr 3100 q e f) {ps : List Pc} (hb : ∀ p ∈ ps, BOk p) (L : Int) {p0 pl : Pc} (h0 : gIx (.list (ps.map bpD)) (.int 0) = some (bpD p0)) (h1 : gIx (.list (ps.map bpD)) (.int (-1)) = some (bpD pl)) (m0 : p0 ∈ ps) (m1 : pl ∈ ps)
    (hall : ∀ p ∈ ps, p0.ql ≤ p.ql ∧ p.qh ≤ pl.qh) : PlO (brD ps L) (nD e f) (plc ps q) := by
  have g1 : gIx (brD ps L) (.int 0) = some (.str "broken") := rfl
  have g2 : gIx (brD ps L) (.int 1) = some (.list (ps.map bpD)) := rfl
  have U1 := (less_both hc (hb p0 m0).o.l (by decide) (by decide) (by decide)).1
  have U2 := (less_both (hb pl m1).o.h hc (by decide) (by decide) (by decide)).1
  have i0 : gIx (bpD p0) (.int 0) = some (nD p0.l1 p0.l2) := rfl
  have i1 : gIx (bpD pl) (.int 1) = some (nD pl.h1 pl.h2) := rfl
  have gis : gIs (nD e f) .none = some false := rfl
  have fin : ∀ d, m_along_pieces [cD (.list (ps.map bpD)), cD (nD e f)] = .ok (.im d) [cD (.list (ps.map bpD)), cD (nD e f)] → m_place_on [cD (brD ps L), cD (nD e f)] = .ok (.im d) [cD (brD ps L), cD (nD e f)] := fun d key => by
    clear U1 U2 h0 h1
    generalize brD ps L = S at *
    generalize List.map bpD ps = M at *
    obtain ⟨RL, hR⟩ : ∃ RL, nD e f = PyData.tuple RL := ⟨_, rfl⟩
    rw [hR] at key ⊢
    simp only [m_place_on, b_place_on, dDef_eq, dSeq_eq]
    simp [g1, g2, qbrtu, qbrbr, key]
  by_cases k1 : q < p0.ql
  · have hn : plc ps q = none := by
      cases hp : plc ps q with
      | none => rfl
      | some x =>
        obtain ⟨p, hp, a0, -, -⟩ := plc_some hp
        have := (hall p hp).1
        exact absurd k1 (Rat.not_lt.mpr (Rat.le_trans this a0))
    rw [hn]
    rw [decide_eq_true k1] at U1
    refine ⟨_, fin (.str "outside") ?_⟩
    clear fin g2
    generalize bpD p0 = Q0 at *
    generalize bpD pl = Q1 at *
    generalize List.map bpD ps = M at *
    generalize nD p0.l1 p0.l2 = A0 at *
    generalize nD e f = P1 at *
    simp only [gIx_lst] at h0 h1
    simp only [m_along_pieces, b_along_pieces, dDef_eq, dSeq_eq]
    simp [h0, i0, U1]
  · rw [decide_eq_false k1] at U1
    by_cases k2 : pl.qh < q
    · have hn : plc ps q = none := by
        cases hp : plc ps q with
        | none => rfl
        | some x =>
          obtain ⟨p, hp, -, a1, -⟩ := plc_some hp
          have := (hall p hp).2
          exact absurd k2 (Rat.not_lt.mpr (Rat.le_trans a1 this))
      rw [hn]
      rw [decide_eq_true k2] at U2
      refine ⟨_, fin (.str "outside") ?_⟩
      clear fin g2
      generalize bpD p0 = Q0 at *
      generalize bpD pl = Q1 at *
      generalize List.map bpD ps = M at *
      generalize nD p0.l1 p0.l2 = A0 at *
      generalize nD pl.h1 pl.h2 = A1 at *
      generalize nD e f = P1 at *
      simp only [gIx_lst] at h0 h1
      simp only [m_along_pieces, b_along_pieces, dDef_eq, dSeq_eq]
      simp [h0, h1, i0, i1, U1, U2]
    · rw [decide_eq_false k2] at U2
      obtain ⟨z2, z3, z4, z5, z6, ⟨c, x, y, q1, F, E⟩ | ⟨q1, E⟩⟩ := alp_loop (.list (ps.map bpD)) hc ps hb none none none none none rfl rfl rfl rfl rfl
      · rw [q1]
        refine ⟨x, y, F, fin _ ?_⟩
        clear fin g2
        generalize bpD p0 = Q0 at *
        generalize bpD pl = Q1 at *
        generalize List.map bpD ps = M at *
        generalize nD p0.l1 p0.l2 = A0 at *
        generalize nD pl.h1 pl.h2 = A1 at *
        generalize nD e f = P1 at *
        generalize nD x y = R0 at *
        simp only [gIx_lst] at h0 h1
        simp only [m_along_pieces, b_along_pieces, dDef_eq, dSeq_eq]
        simp [h0, h1, i0, i1, U1, U2, E]
      · rw [q1]
        refine ⟨_, fin (.str "gap") ?_⟩
        clear fin g2
        generalize bpD p0 = Q0 at *
        generalize bpD pl = Q1 at *
        generalize List.map bpD ps = M at *
        generalize nD p0.l1 p0.l2 = A0 at *
        generalize nD pl.h1 pl.h2 = A1 at *
        generalize nD e f = P1 at *
        simp only [gIx_lst] at h0 h1
        simp only [m_along_pieces, b_along_pieces, dDef_eq, dSeq_eq]
        simp [h0, h1, i0, i1, U1, U2, E]
end Lw
namespace Lw
open PySem PySem.Spec PyProof.Rows L2 Dn
/-! the scales: straight ones, days -/
theorem sc_one {S nm : D} {p : Pc} {L : Int} (o : POk p) (hL : 1 ≤ L) (hL2 : L < 2 ^ 60) (b1 : p.qb = 0) (e1 : p.qe = (L : Rat)) (P : m_law_tb_pieces [cD S] = .ok (.ow [pcD p]) [cD S]) (h0 : gIx S (.int 0) = some nm) (hb : gEq nm (.str "broken") = some false) (lst : gIx S (.int (-1)) = some (.int L))
    (rd : ∀ {e f : Int} {q : Rat}, Fr 120 q e f → 0 ≤ q → q ≤ (L : Rat) → ∃ x y, Fr 3000 (bk p q) x y ∧ m_read_on [cD S, cD (nD e f)] = .ok (.im (nD x y)) [cD S, cD (nD e f)]) : Sc S [p] [(0, L)] L := by
  have z : ((0 : Int) : Rat) = 0 := rfl
  refine { pcs := P, ok := ?_, ord := ?_, cov := ?_, sz := ?_, gap := ?_, inr := ?_, rdp := ?_, lst := lst, reach := ?_, ends := ?_, l1 := hL, l2 := hL2 }
  · intro q hq
    rw [List.mem_singleton.mp hq]
    exact o
  · exact List.pairwise_singleton _ _
  · intro r hr x x0 x1
    cases List.mem_singleton.mp hr
    refine ⟨p, List.mem_singleton.mpr rfl, ?_, ?_⟩
    · rw [b1]; exact x0
    · rw [e1]; exact x1
  · intro r hr
    cases List.mem_singleton.mp hr
    exact ⟨by omega, Int.le_refl _, Int.le_refl _⟩
  · intro q hq r hr
    cases List.mem_singleton.mp hr
    rw [List.mem_singleton.mp hq]
    left
    exact ⟨by rw [b1]; exact Rat.le_refl, by rw [e1]; exact Rat.le_refl⟩
  · intro q hq
    rw [List.mem_singleton.mp hq]
    exact ⟨(0, L), List.mem_singleton.mpr rfl, by rw [b1]; exact Rat.le_refl, by rw [e1]; exact Rat.le_refl⟩
  · intro e f q hf q0 q1
    obtain ⟨x, y, F, R⟩ := rd hf q0 q1
    refine ⟨nD x y, ?_, R⟩
    have : rdc [p] q = some (bk p q) := by
      unfold rdc
      rw [if_pos ⟨by rw [b1]; exact q0, by rw [e1]; exact q1⟩]
    rw [this]
    exact ⟨x, y, rfl, F⟩
  · intro a ha
    refine reach_gen (br := false) (ps := [p]) h0 hb lst P (fun z => absurd z (by simp)) (fun _ => rfl) ?_ (by simp) (by simp) ha
    intro r hr
    cases List.mem_singleton.mp hr
    exact ⟨by show (0 : Int).natAbs < _; decide, by show L.natAbs < _; omega⟩
  · intro a ha
    exact ends_plain h0 hb lst a
def pcS (a b c d : Int) (ql qh : Rat) (L : Int) : Pc := ⟨a, b, c, d, 0, 1, L, 1, ql, qh, 0, (L : Rat)⟩
theorem pok_s {ql qh : Rat} {a b c d : Int} (hl : Fr 300 ql a b) (hh : Fr 300 qh c d) (hlt : ql < qh) (L : Int) (hL : 1 ≤ L) (hL2 : L < 2 ^ 60) : POk (pcS a b c d ql qh L) :=
  ⟨hl.up (by decide), hh.up (by decide), fr_whole 0 (by decide) (by decide), fr_whole L (lt_up (K := 60) (by omega) (by decide)) (by decide), hlt, ipos (by omega)⟩
theorem bk_s {ql qh q : Rat} {a b c d : Int} (L : Int) (hL : 1 ≤ L) : bk (pcS a b c d ql qh L) q = ql + q * (qh - ql) / (L : Rat) := by
  have := ine (show L ≠ 0 by omega)
  unfold bk pcS
  show ql + (q - 0) / ((L : Rat) - 0) * (qh - ql) = _
  exact (back_along this).symm
abbrev stD (a b c d L : Int) : D := .tuple [.str "straight", nD a b, nD c d, .int L]
abbrev dayD (l h L : Int) : D := .tuple [.str "days", .int l, .int h, .int L]
theorem sc_straight {ql qh : Rat} {a b c d : Int} (hl : Fr 300 ql a b) (hh : Fr 300 qh c d) (hlt : ql < qh) (L : Int) (hL : 1 ≤ L) (hL2 : L < 2 ^ 60) : Sc (stD a b c d L) [pcS a b c d ql qh L] [(0, L)] L := by
  refine sc_one (nm := .str "straight") (pok_s hl hh hlt L hL hL2) hL hL2 rfl rfl (tbp_straight _ _ L) rfl qstbr rfl ?_
  intro e f q hf q0 q1
  obtain ⟨x, y, F, R, -⟩ := read_straight hl hh (hf.up (N := 300) (by decide)) L (by omega) (by omega) q0 q1
  exact ⟨x, y, by rw [bk_s L hL]; exact F.up (by decide), R⟩
theorem sc_days (l h : Int) (hl : l.natAbs < 2 ^ 100) (hh : h.natAbs < 2 ^ 100) (hlt : l < h) (L : Int) (hL : 1 ≤ L) (hL2 : L < 2 ^ 60) : Sc (dayD l h L) [pcS l 1 h 1 (l : Rat) (h : Rat) L] [(0, L)] L := by
  have Fl := (fr_whole l hl (by decide)).up (N := 300) (by decide)
  have Fh := (fr_whole h hh (by decide)).up (N := 300) (by decide)
  refine sc_one (nm := .str "days") (pok_s Fl Fh (Rat.intCast_lt_intCast.mpr hlt) L hL hL2) hL hL2 rfl rfl (tbp_days l h L) rfl qdabr rfl ?_
  intro e f q hf q0 q1
  obtain ⟨x, y, F, R, -⟩ := read_days l h hl hh (hf.up (N := 300) (by decide)) L (by omega) (by omega) q0 q1
  exact ⟨x, y, by rw [bk_s L hL]; exact F.up (by decide), R⟩
theorem al_s {ql qh q : Rat} {a b c d : Int} (L : Int) (hlt : ql < qh) : al (pcS a b c d ql qh L) q = (q - ql) * (L : Rat) / (qh - ql) := by
  have n1 : qh - ql ≠ 0 := by grind
  unfold al pcS
  show 0 + (q - ql) / (qh - ql) * ((L : Rat) - 0) = _
  generalize (L : Rat) = M
  grind
theorem pl_straight {ql qh : Rat} {a b c d : Int} (hl : Fr 300 ql a b) (hh : Fr 300 qh c d) (hlt : ql < qh) (L : Int) (hL : 1 ≤ L) (hL2 : L < 2 ^ 60) {q : Rat} {e f : Int} (hc : Fr 3100 q e f) : PlO (stD a b c d L) (nD e f) (plc [pcS a b c d ql qh L] q) := by
  rcases along_s (hl.up (N := 400) (by decide)) (hh.up (N := 400) (by decide)) hc L (by omega) (by omega) hlt with ⟨k1, k2, x, y, F, E⟩ | ⟨k, E⟩
  · rw [show plc [pcS a b c d ql qh L] q = some (al (pcS a b c d ql qh L) q) from if_pos ⟨k1, k2⟩]
    refine ⟨x, y, by rw [al_s L hlt]; exact F.up (by decide), ?_⟩
    obtain ⟨RL, hR⟩ : ∃ RL, nD e f = PyData.tuple RL := ⟨_, rfl⟩
    obtain ⟨R2, hR2⟩ : ∃ RL, nD x y = PyData.tuple RL := ⟨_, rfl⟩
    rw [hR, hR2] at E ⊢
    unfold stD
    generalize nD a b = A1 at *
    generalize nD c d = C1 at *
    simp only [m_place_on, b_place_on, dDef_eq, dSeq_eq]
    simp [atI_3, qsttu, qstbr, qstor, qstda, E]
  · rw [show plc [pcS a b c d ql qh L] q = none from if_neg k]
    refine ⟨"outside", ?_⟩
    obtain ⟨RL, hR⟩ : ∃ RL, nD e f = PyData.tuple RL := ⟨_, rfl⟩
    rw [hR] at E ⊢
    unfold stD
    generalize nD a b = A1 at *
    generalize nD c d = C1 at *
    simp only [m_place_on, b_place_on, dDef_eq, dSeq_eq]
    simp [atI_3, qsttu, qstbr, qstor, qstda, E]
theorem pl_days (l h : Int) (hl : l.natAbs < 2 ^ 100) (hh : h.natAbs < 2 ^ 100) (hlt : l < h) (L : Int) (hL : 1 ≤ L) (hL2 : L < 2 ^ 60) {c : Int} (hc : c.natAbs < 2 ^ 2000) : PlO (dayD l h L) (.int c) (plc [pcS l 1 h 1 (l : Rat) (h : Rat) L] (c : Rat)) := by
  have Fl := (fr_whole l hl (by decide)).up (N := 400) (by decide)
  have Fh := (fr_whole h hh (by decide)).up (N := 400) (by decide)
  have lt := Rat.intCast_lt_intCast.mpr hlt
  rcases along_s Fl Fh ((fr_whole c hc (by decide)).up (N := 3100) (by decide)) L (by omega) (by omega) lt with ⟨k1, k2, x, y, F, E⟩ | ⟨k, E⟩
  · rw [show plc [pcS l 1 h 1 (l : Rat) (h : Rat) L] (c : Rat) = some (al (pcS l 1 h 1 (l : Rat) (h : Rat) L) (c : Rat)) from if_pos ⟨k1, k2⟩]
    refine ⟨x, y, by rw [al_s L lt]; exact F.up (by decide), ?_⟩
    obtain ⟨R2, hR2⟩ : ∃ RL, nD x y = PyData.tuple RL := ⟨_, rfl⟩
    rw [hR2] at E ⊢
    simp only [nD] at E
    unfold dayD
    simp only [m_place_on, b_place_on, dDef_eq, dSeq_eq]
    simp [atI_3, qdatu, qdabr, qdaor, qdada, E]
  · rw [show plc [pcS l 1 h 1 (l : Rat) (h : Rat) L] (c : Rat) = none from if_neg k]
    refine ⟨"outside", ?_⟩
    simp only [nD] at E
    unfold dayD
    simp only [m_place_on, b_place_on, dDef_eq, dSeq_eq]
    simp [atI_3, qdatu, qdabr, qdaor, qdada, E]
end Lw
namespace Lw
open PySem PySem.Spec PyProof.Rows L2 Dn
/-! the scales by turns -/
def pcT (b lo many L : Int) (u v : Nat → Int) (k : Nat) : Pc := ⟨b ^ (lo + (k : Int)).toNat, b ^ (-(lo + (k : Int))).toNat, b ^ (lo + (k : Int) + 1).toNat, b ^ (-(lo + (k : Int) + 1)).toNat, u k, v k, u (k + 1), v (k + 1), pq b (lo + (k : Int)), pq b (lo + (k : Int) + 1), qv ((k : Int) * L) many, qv (((k : Int) + 1) * L) many⟩
theorem pq_step (b k : Int) (b1 : 2 ≤ b) : pq b k < pq b (k + 1) := by
  have p := pq_pos b (by omega) k
  rw [pq_succ b (by omega)]
  have h : (1 : Rat) < (b : Rat) := by
    have := Rat.intCast_lt_intCast.mpr (show (1 : Int) < b by omega)
    exact this
  have h2 : 0 < (b : Rat) - 1 := by grind
  have := Rat.mul_pos p h2
  grind
theorem pq_mono (b k : Int) (b1 : 2 ≤ b) : ∀ n : Nat, pq b k ≤ pq b (k + (n : Int))
  | 0 => by rw [show k + ((0 : Nat) : Int) = k by omega]; exact Rat.le_refl
  | n + 1 => by
    have a := pq_mono b k b1 n
    have c := pq_step b (k + (n : Int)) b1
    rw [show k + ((n + 1 : Nat) : Int) = k + (n : Int) + 1 by omega]
    exact Rat.le_trans a (Rat.le_of_lt c)
theorem pq_le {b k j : Int} (b1 : 2 ≤ b) (h : k ≤ j) : pq b k ≤ pq b j := by
  have := pq_mono b k b1 (j - k).toNat
  rwa [show k + ((j - k).toNat : Int) = j by omega] at this
theorem pq_lt {b k j : Int} (b1 : 2 ≤ b) (h : k < j) : pq b k < pq b j := by
  have := pq_le b1 (show k + 1 ≤ j by omega)
  have h2 := pq_step b k b1
  grind
theorem qm_lt {k j L many : Int} (hL : 0 < L) (hm : 0 < many) (h : k < j) : qv (k * L) many < qv (j * L) many := by
  rw [qv_lt hm hm]
  exact Int.mul_lt_mul_of_pos_right (Int.mul_lt_mul_of_pos_right h hL) hm
theorem qm_le {k j L many : Int} (hL : 0 < L) (hm : 0 < many) (h : k ≤ j) : qv (k * L) many ≤ qv (j * L) many := by
  rcases Int.lt_or_eq_of_le h with h | rfl
  · exact Rat.le_of_lt (qm_lt hL hm h)
  · exact Rat.le_refl
theorem qm_0 (L many : Int) (hm : 0 < many) : qv (0 * L) many = 0 := by
  have := ine (show many ≠ 0 by omega)
  unfold qv
  rw [Int.zero_mul, show ((0 : Int) : Rat) = 0 from rfl]
  grind
theorem qm_m (L many : Int) (hm : 0 < many) : qv (many * L) many = (L : Rat) := by
  have := ine (show many ≠ 0 by omega)
  unfold qv
  rw [Rat.intCast_mul]
  grind
section
variable {b lo many L : Int} {u v : Nat → Int} (b1 : 2 ≤ b) (hb : b.natAbs < 2 ^ 4) (hlo : -30 ≤ lo) (hm : 1 ≤ many) (hlm : lo + many ≤ 30) (hL : 1 ≤ L) (hL2 : L < 2 ^ 60)
  (hu : ∀ k : Nat, (k : Int) ≤ many → Fr 100 (qv ((k : Int) * L) many) (u k) (v k) ∧ gMul (.int (k : Int)) (.int L) = some (.int ((k : Int) * L)) ∧ m_law_tb_made [cI ((k : Int) * L), cI many] = .ok (.im (nD (u k) (v k))) [cI ((k : Int) * L), cI many])
include b1 hb hlo hm hlm hL hL2 hu
theorem pok_t (k : Nat) (hk : (k : Int) < many) : POk (pcT b lo many L u v k) := by
  have h1 := (hu k (by omega)).1
  have h2 := (hu (k + 1) (by omega)).1
  rw [show ((k + 1 : Nat) : Int) = (k : Int) + 1 by omega] at h2
  exact ⟨(fr_pow b (by omega) hb _ (by omega)).up (by decide), (fr_pow b (by omega) hb _ (by omega)).up (by decide), h1.up (by decide), h2.up (by decide), pq_step b _ b1, qm_lt (by omega) (by omega) (by omega)⟩
theorem mem_t {p : Pc} (hp : p ∈ (List.range many.toNat).map (pcT b lo many L u v)) : ∃ k : Nat, (k : Int) < many ∧ p = pcT b lo many L u v k := by
  obtain ⟨k, hk, rfl⟩ := List.mem_map.mp hp
  exact ⟨k, by have := List.mem_range.mp hk; omega, rfl⟩
theorem t_mem (k : Nat) (hk : (k : Int) < many) : pcT b lo many L u v k ∈ (List.range many.toNat).map (pcT b lo many L u v) := List.mem_map.mpr ⟨k, List.mem_range.mpr (by omega), rfl⟩
theorem ord_t : ((List.range many.toNat).map (pcT b lo many L u v)).Pairwise PR := by
  rw [List.pairwise_map]
  refine List.Pairwise.imp ?_ List.pairwise_lt_range
  intro i j hij
  have L0 : 0 < L := by omega
  have M0 : 0 < many := by omega
  refine ⟨pq_le b1 (by omega), qm_le L0 M0 (by omega), ?_⟩
  show pq b (lo + (i : Int) + 1) = pq b (lo + (j : Int)) ↔ qv (((i : Int) + 1) * L) many = qv ((j : Int) * L) many
  by_cases k : i + 1 = j
  · subst k
    rw [show ((i + 1 : Nat) : Int) = (i : Int) + 1 by omega, ← Int.add_assoc]
    exact ⟨fun _ => rfl, fun _ => rfl⟩
  · have h1 := pq_lt b1 (show lo + (i : Int) + 1 < lo + (j : Int) by omega)
    have h2 := qm_lt L0 M0 (show (i : Int) + 1 < (j : Int) by omega)
    exact ⟨fun z => absurd z (Rat.ne_of_lt h1), fun z => absurd z (Rat.ne_of_lt h2)⟩
theorem cov_t (x : Rat) (h0 : 0 ≤ x) (h1 : x ≤ (L : Rat)) : ∃ p ∈ (List.range many.toNat).map (pcT b lo many L u v), p.qb ≤ x ∧ x ≤ p.qe := by
  have L0 : 0 < L := by omega
  have M0 : 0 < many := by omega
  have pL := ipos L0
  have k0 : 0 ≤ x * qv many L := Rat.mul_nonneg h0 (Rat.le_of_lt (qv_pos (by omega) L0))
  have k1 : x * qv many L ≤ (many : Rat) := by
    have e : (many : Rat) = (L : Rat) * qv many L := by unfold qv; grind
    rw [e]
    exact Rat.mul_le_mul_of_nonneg_right h1 (Rat.le_of_lt (qv_pos (by omega) L0))
  obtain ⟨t0, t1⟩ := floor_in k0 k1
  have fl := Rat.floor_le (x * qv many L)
  have lf := Rat.lt_floor_add_one (x * qv many L)
  generalize (x * qv many L).floor = t at *
  by_cases h : t < many
  · refine ⟨_, t_mem b1 hb hlo hm hlm hL hL2 hu t.toNat (by omega), ?_⟩
    show qv ((t.toNat : Int) * L) many ≤ x ∧ x ≤ qv (((t.toNat : Int) + 1) * L) many
    rw [show ((t.toNat : Nat) : Int) = t by omega]
    refine ⟨(turn_in t many L M0 L0 x).1.mpr fl, (turn_in (t + 1) many L M0 L0 x).2.mpr ?_⟩
    exact Rat.le_of_lt lf
  · refine ⟨_, t_mem b1 hb hlo hm hlm hL hL2 hu (many - 1).toNat (by omega), ?_⟩
    show qv (((many - 1).toNat : Int) * L) many ≤ x ∧ x ≤ qv ((((many - 1).toNat : Int) + 1) * L) many
    rw [show (((many - 1).toNat : Nat) : Int) = many - 1 by omega, show many - 1 + 1 = many by omega]
    refine ⟨(turn_in (many - 1) many L M0 L0 x).1.mpr ?_, (turn_in many many L M0 L0 x).2.mpr k1⟩
    have := Rat.intCast_le_intCast.mpr (show many - 1 ≤ t by omega)
    exact Rat.le_trans this fl
theorem rim_t {p : Pc} (hp : p ∈ (List.range many.toNat).map (pcT b lo many L u v)) : 0 ≤ p.qb ∧ p.qe ≤ (L : Rat) ∧ pq b lo ≤ p.ql ∧ p.qh ≤ pq b (lo + many) := by
  have L0 : 0 < L := by omega
  have M0 : 0 < many := by omega
  obtain ⟨k, hk, rfl⟩ := mem_t b1 hb hlo hm hlm hL hL2 hu hp
  refine ⟨?_, ?_, pq_le b1 (by omega), pq_le b1 (by omega)⟩
  · have := qm_le (k := 0) (j := (k : Int)) L0 M0 (by omega)
    rwa [qm_0 L many M0] at this
  · have := qm_le (k := (k : Int) + 1) (j := many) L0 M0 (by omega)
    rwa [qm_m L many M0] at this
theorem sc_turns : Sc (tnD b lo many L) ((List.range many.toNat).map (pcT b lo many L u v)) [(0, L)] L := by
  have z : ((0 : Int) : Rat) = 0 := rfl
  have P : m_law_tb_pieces [cD (tnD b lo many L)] = .ok (.ow (((List.range many.toNat).map (pcT b lo many L u v)).map pcD)) [cD (tnD b lo many L)] := by
    rw [List.map_map]
    exact tbp_turns b lo many L hb hlo hm hlm u v hu
  have ok : ∀ p ∈ (List.range many.toNat).map (pcT b lo many L u v), POk p := fun p hp => by
    obtain ⟨k, hk, rfl⟩ := mem_t b1 hb hlo hm hlm hL hL2 hu hp
    exact pok_t b1 hb hlo hm hlm hL hL2 hu k hk
  refine { pcs := P, ok := ok, ord := ord_t b1 hb hlo hm hlm hL hL2 hu, cov := ?_, sz := ?_, gap := ?_, inr := ?_, rdp := ?_, lst := rfl, reach := ?_, ends := ?_, l1 := hL, l2 := hL2 }
  · intro r hr x x0 x1
    cases List.mem_singleton.mp hr
    exact cov_t b1 hb hlo hm hlm hL hL2 hu x x0 x1
  · intro r hr
    cases List.mem_singleton.mp hr
    exact ⟨by omega, Int.le_refl _, Int.le_refl _⟩
  · intro q hq r hr
    cases List.mem_singleton.mp hr
    obtain ⟨r1, r2, -, -⟩ := rim_t b1 hb hlo hm hlm hL hL2 hu hq
    exact .inl ⟨r1, r2⟩
  · intro q hq
    obtain ⟨r1, r2, -, -⟩ := rim_t b1 hb hlo hm hlm hL hL2 hu hq
    exact ⟨(0, L), List.mem_singleton.mpr rfl, r1, r2⟩
  · intro e f q hf q0 q1
    obtain ⟨x, y, F, R, R2⟩ := read_turns hf b lo many L b1 hb hlo hm hlm (by omega) (by omega) q0 q1
    obtain ⟨d, D1, R3⟩ := tbr_gen (tnD b lo many L) (hf.up (N := 400) (by decide)) _ ok P
    rw [R2] at R3
    injection R3 with e1 e2
    injection e1 with e1
    exact ⟨d, D1, by rw [← e1]; exact R⟩
  · intro a ha
    refine reach_gen (br := false) (nm := .str "turns") rfl qtubr rfl P (fun z => absurd z (by simp)) (fun _ => rfl) ?_ (by simp; omega) (by simp) ha
    intro r hr
    cases List.mem_singleton.mp hr
    exact ⟨by show (0 : Int).natAbs < _; decide, by show L.natAbs < _; omega⟩
  · intro a ha
    exact ends_plain (nm := .str "turns") rfl qtubr rfl a
theorem pl_turns {q : Rat} {e f : Int} (hc : Fr 3100 q e f) : PlO (tnD b lo many L) (nD e f) (plc ((List.range many.toNat).map (pcT b lo many L u v)) q) := by
  have L0 : 0 < L := by omega
  have M0 : 0 < many := by omega
  have ok : ∀ p ∈ (List.range many.toNat).map (pcT b lo many L u v), POk p := fun p hp => by
    obtain ⟨k, hk, rfl⟩ := mem_t b1 hb hlo hm hlm hL hL2 hu hp
    exact pok_t b1 hb hlo hm hlm hL hL2 hu k hk
  have v0 := hc.v
  subst v0
  have none_ : ∀ s, (qv e f < pq b lo ∨ pq b (lo + many) < qv e f) → m_along_turns [cD (tnD b lo many L), cD (nD e f)] = .ok (.im (.str s)) [cD (tnD b lo many L), cD (nD e f)] → PlO (tnD b lo many L) (nD e f) (plc ((List.range many.toNat).map (pcT b lo many L u v)) (qv e f)) := fun s h E => by
    have hn : plc ((List.range many.toNat).map (pcT b lo many L u v)) (qv e f) = none := by
      cases hp : plc ((List.range many.toNat).map (pcT b lo many L u v)) (qv e f) with
      | none => rfl
      | some x =>
        obtain ⟨p, hp, a0, a1, -⟩ := plc_some hp
        obtain ⟨-, -, r3, r4⟩ := rim_t b1 hb hlo hm hlm hL hL2 hu hp
        rcases h with h | h
        · exact absurd h (Rat.not_lt.mpr (Rat.le_trans r3 a0))
        · exact absurd h (Rat.not_lt.mpr (Rat.le_trans a1 r4))
    rw [hn]
    refine ⟨s, ?_⟩
    have g0 : gIx (tnD b lo many L) (.int 0) = some (.str "turns") := by simp [tnD]
    obtain ⟨RL, hR⟩ : ∃ RL, nD e f = PyData.tuple RL := ⟨_, rfl⟩
    rw [hR] at E ⊢
    generalize tnD b lo many L = S at *
    simp only [m_place_on, b_place_on, dDef_eq, dSeq_eq]
    simp [g0, qtutu, E]
  rcases along_trn hc b lo many L b1 hb hlo hm hlm L0 (by omega) with ⟨h, E⟩ | ⟨-, h, E⟩ | ⟨t, t1, h0, h1, h2, x, y, F, E⟩
  · exact none_ _ (.inl (by have := pq_pos b (by omega) lo; grind)) E
  · exact none_ _ h E
  · have key : plc ((List.range many.toNat).map (pcT b lo many L u v)) (qv e f) = some (trnP b lo many L t (qv e f)) := by
      have n1 : ((b - 1 : Int) : Rat) ≠ 0 := ine (by omega)
      have n2 : pq b (lo + (t : Int)) ≠ 0 := Rat.ne_of_gt (pq_pos b (by omega) _)
      have n3 := ine (show many ≠ 0 by omega)
      have n4 := ine (show L ≠ 0 by omega)
      by_cases k : (t : Int) < many
      · rw [plc_of (ord_t b1 hb hlo hm hlm hL hL2 hu) ok (t_mem b1 hb hlo hm hlm hL hL2 hu t k) h0 (Rat.le_of_lt (h1 k))]
        congr 1
        unfold al pcT trnP
        show qv ((t : Int) * L) many + (qv e f - pq b (lo + (t : Int))) / (pq b (lo + (t : Int) + 1) - pq b (lo + (t : Int))) * (qv (((t : Int) + 1) * L) many - qv ((t : Int) * L) many) = _
        rw [pq_succ b (by omega)]
        generalize pq b (lo + (t : Int)) = P at *
        have n5 : P * (b : Rat) - P ≠ 0 := by
          have : P * (b : Rat) - P = P * ((b - 1 : Int) : Rat) := by rw [Rat.intCast_sub, show ((1 : Int) : Rat) = 1 from rfl]; grind
          rw [this]
          intro z
          rcases Rat.mul_eq_zero.mp z with z | z
          · exact n2 z
          · exact n1 z
        generalize qv e f = Q at *
        unfold qv
        rw [Rat.intCast_mul, Rat.intCast_mul, Rat.intCast_add, show ((1 : Int) : Rat) = 1 from rfl]
        rw [Rat.intCast_sub, show ((1 : Int) : Rat) = 1 from rfl] at n1 ⊢
        clear h0 h1 h2 F E none_ ok
        generalize ((t : Int) : Rat) = T at *
        generalize (b : Rat) = B at *
        generalize (L : Rat) = LL at *
        generalize (many : Rat) = MM at *
        grind
      · have e1 : (t : Int) = many := by omega
        have e2 := h2 e1
        have mm := t_mem b1 hb hlo hm hlm hL hL2 hu (many - 1).toNat (by omega)
        have hqh : (pcT b lo many L u v (many - 1).toNat).qh = pq b (lo + many) := by
          show pq b (lo + ((many - 1).toNat : Int) + 1) = _
          rw [show lo + ((many - 1).toNat : Int) + 1 = lo + many by omega]
        have hqe : (pcT b lo many L u v (many - 1).toNat).qe = (L : Rat) := by
          show qv ((((many - 1).toNat : Int) + 1) * L) many = _
          rw [show ((many - 1).toNat : Int) + 1 = many by omega, qm_m L many M0]
        have o := ok _ mm
        have lh := o.lh
        rw [plc_of (ord_t b1 hb hlo hm hlm hL hL2 hu) ok mm (by rw [e2, ← hqh]; exact Rat.le_of_lt lh) (by rw [e2, ← hqh]; exact Rat.le_refl)]
        congr 1
        rw [e2, ← hqh, al_hi o, hqe, hqh]
        unfold trnP
        rw [e1] at n2 ⊢
        generalize pq b (lo + many) = P at *
        unfold qv
        grind
    rw [key]
    refine ⟨x, y, F, ?_⟩
    have g0 : gIx (tnD b lo many L) (.int 0) = some (.str "turns") := by simp [tnD]
    obtain ⟨RL, hR⟩ : ∃ RL, nD e f = PyData.tuple RL := ⟨_, rfl⟩
    obtain ⟨R2, hR2⟩ : ∃ RL, nD x y = PyData.tuple RL := ⟨_, rfl⟩
    rw [hR, hR2] at E ⊢
    generalize tnD b lo many L = S at *
    simp only [m_place_on, b_place_on, dDef_eq, dSeq_eq]
    simp [g0, qtutu, E]
end
end Lw
namespace Lw
open PySem PySem.Spec PyProof.Rows L2 Dn
/-! broken scales; what shows where -/
structure PB (p q : Pc) : Prop where
  c : p.qh < q.ql
  x : p.e1 + 1 ≤ q.b1
theorem sc_broken {ps : List Pc} (hb : ∀ p ∈ ps, BOk p) (hp : ps.Pairwise PB) (hl : ps.length ≤ 100) {L : Int} (hL : 1 ≤ L) (hL2 : L < 2 ^ 60) (hle : ∀ p ∈ ps, p.e1 ≤ L) : Sc (brD ps L) ps (ps.map fun p => (p.b1, p.e1)) L := by
  have P := tbp_broken hb hl L
  have one : ((1 : Int) : Rat) = 1 := rfl
  refine { pcs := P, ok := fun p hp => (hb p hp).o, ord := ?_, cov := ?_, sz := ?_, gap := ?_, inr := ?_, rdp := ?_, lst := rfl, reach := ?_, ends := ?_, l1 := hL, l2 := hL2 }
  · refine hp.imp_of_mem ?_
    intro p q mp mq h
    have hx : p.qe < q.qb := by rw [(hb p mp).qe, (hb q mq).qb, Rat.intCast_lt_intCast]; have := h.x; omega
    exact ⟨Rat.le_of_lt h.c, Rat.le_of_lt hx, fun z => absurd z (Rat.ne_of_lt h.c), fun z => absurd z (Rat.ne_of_lt hx)⟩
  · intro r hr x x0 x1
    obtain ⟨p, mp, rfl⟩ := List.mem_map.mp hr
    exact ⟨p, mp, by rw [(hb p mp).qb]; exact x0, by rw [(hb p mp).qe]; exact x1⟩
  · intro r hr
    obtain ⟨p, mp, rfl⟩ := List.mem_map.mp hr
    exact ⟨(hb p mp).be, (hb p mp).b0, hle p mp⟩
  · intro p mp r hr
    obtain ⟨q, mq, rfl⟩ := List.mem_map.mp hr
    rcases pw hp mp mq with rfl | h | h
    · left
      exact ⟨by rw [(hb p mp).qb]; exact Rat.le_refl, by rw [(hb p mp).qe]; exact Rat.le_refl⟩
    · right; left
      rw [(hb p mp).qe]
      have := Rat.intCast_le_intCast.mpr h.x
      rw [Rat.intCast_add, one] at this
      show (p.e1 : Rat) ≤ (q.b1 : Rat) - 1
      grind
    · right; right
      rw [(hb p mp).qb]
      have := Rat.intCast_le_intCast.mpr h.x
      rw [Rat.intCast_add, one] at this
      exact this
  · intro p mp
    exact ⟨(p.b1, p.e1), List.mem_map.mpr ⟨p, mp, rfl⟩, by rw [(hb p mp).qb]; exact Rat.le_refl, by rw [(hb p mp).qe]; exact Rat.le_refl⟩
  · intro e f q hf q0 q1
    exact read_broken hf hb L
  · intro a ha
    refine reach_gen (br := true) (nm := .str "broken") rfl qbrbr rfl P (fun _ => ?_) (fun z => absurd z (by simp)) ?_ hl (by rw [List.length_map]; exact hl) ha
    · rw [List.map_map]
      refine List.map_congr_left fun p mp => ?_
      show egD (p.b1, p.e1) = _
      rw [(hb p mp).b2, (hb p mp).e2]
    · intro r hr
      obtain ⟨p, mp, rfl⟩ := List.mem_map.mp hr
      have h1 := (hb p mp).be
      have h2 := (hb p mp).b0
      have h3 := (hb p mp).e0
      exact ⟨by show p.b1.natAbs < _; omega, by show p.e1.natAbs < _; omega⟩
  · intro a ha
    exact ends_broken ps L a
def star (ps : List Pc) (c : Rat) : Option Int := (plc ps c).map fun x => (x + 1 / 2).floor
theorem rnd_iff {x : Rat} {a : Int} : (x + 1 / 2).floor = a ↔ (a : Rat) - 1 / 2 ≤ x ∧ x < (a : Rat) + 1 / 2 := by
  constructor
  · rintro rfl
    have h1 := Rat.floor_le (x + 1 / 2)
    have h2 := Rat.lt_floor_add_one (x + 1 / 2)
    rw [Rat.intCast_add, show ((1 : Int) : Rat) = 1 from rfl] at h2
    constructor <;> grind
  · rintro ⟨h1, h2⟩
    refine floor_at (by grind) ?_
    rw [Rat.intCast_add, show ((1 : Int) : Rat) = 1 from rfl]
    grind
theorem star_some {ps : List Pc} {c : Rat} {a : Int} : star ps c = some a ↔ ∃ x, plc ps c = some x ∧ (a : Rat) - 1 / 2 ≤ x ∧ x < (a : Rat) + 1 / 2 := by
  unfold star
  rw [Option.map_eq_some_iff]
  constructor
  · rintro ⟨x, e, h⟩; exact ⟨x, e, rnd_iff.mp h⟩
  · rintro ⟨x, e, h⟩; exact ⟨x, e, rnd_iff.mpr h⟩
section
variable {S : D} {ps : List Pc} {rs : List (Int × Int)} {L : Int} (sc : Sc S ps rs L) {a : Int} {r : Int × Int} (hr : rch rs a = some r) {cl ch : Rat} (hl : rdc ps (loV r.1 a) = some cl) (hh : rdc ps (hiV r.2 a) = some ch)
include sc
theorem plc_in {c x : Rat} (e : plc ps c = some x) {r : Int × Int} (hr : r ∈ rs) : ((r.1 : Rat) ≤ x ∧ x ≤ (r.2 : Rat)) ∨ x ≤ (r.1 : Rat) - 1 ∨ (r.2 : Rat) + 1 ≤ x := by
  obtain ⟨p, mp, c0, c1, rfl⟩ := plc_some e
  obtain ⟨a0, a1⟩ := al_in (sc.ok p mp) c0 c1
  rcases sc.gap p mp r hr with ⟨g1, g2⟩ | g | g
  · exact .inl ⟨Rat.le_trans g1 a0, Rat.le_trans a1 g2⟩
  · exact .inr (.inl (Rat.le_trans a1 g))
  · exact .inr (.inr (Rat.le_trans g a0))
theorem star_none (hn : rch rs a = none) (c : Rat) : star ps c ≠ some a := fun h => by
  obtain ⟨x, e, h1, h2⟩ := star_some.mp h
  obtain ⟨p, mp, c0, c1, rfl⟩ := plc_some e
  obtain ⟨a0, a1⟩ := al_in (sc.ok p mp) c0 c1
  obtain ⟨r, mr, g1, g2⟩ := sc.inr p mp
  refine rch_none hn r mr ⟨?_, ?_⟩
  · rcases Int.lt_or_le a r.1 with k | k
    · have := Rat.intCast_le_intCast.mpr (show a + 1 ≤ r.1 by omega)
      rw [Rat.intCast_add, show ((1 : Int) : Rat) = 1 from rfl] at this
      exfalso
      grind
    · exact k
  · rcases Int.lt_or_le r.2 a with k | k
    · have := Rat.intCast_le_intCast.mpr (show r.2 + 1 ≤ a by omega)
      rw [Rat.intCast_add, show ((1 : Int) : Rat) = 1 from rfl] at this
      exfalso
      grind
    · exact k
include hr
theorem star_in {c x : Rat} (e : plc ps c = some x) (h1 : loV r.1 a ≤ x) (h2 : x ≤ hiV r.2 a) (h3 : a = r.2 ∨ x < hiV r.2 a) : star ps c = some a := by
  obtain ⟨m, b1, b2⟩ := rch_some hr
  refine star_some.mpr ⟨x, e, Rat.le_trans (lo_in b1 b2).2.2.2 h1, ?_⟩
  have k := hi_in b1 b2
  rcases h3 with h3 | h3
  · unfold hiV at h2
    rw [if_pos h3] at h2
    rw [h3]
    grind
  · exact Std.lt_of_lt_of_le h3 k.2.2.2
include hl
theorem star_lo : star ps cl = some a := by
  obtain ⟨m, b1, b2⟩ := rch_some hr
  have e := plc_rdc sc.ord sc.ok hl
  have l := lo_in b1 b2
  refine star_some.mpr ⟨_, e, l.2.2.2, ?_⟩
  grind
theorem star_below {c : Rat} (hc : c < cl) : star ps c ≠ some a := fun h => by
  obtain ⟨x, e, h1, h2⟩ := star_some.mp h
  obtain ⟨m, b1, b2⟩ := rch_some hr
  have k := plc_lt sc.ord sc.ok hc e (plc_rdc sc.ord sc.ok hl)
  unfold loV at k
  by_cases q : a = r.1
  · rw [if_pos q] at k
    have e1 : (a : Rat) = (r.1 : Rat) := by rw [q]
    have := (sc.sz r m).1
    have := Rat.intCast_lt_intCast.mpr this
    rcases plc_in sc e m with ⟨g, -⟩ | g | g <;> grind
  · rw [if_neg q] at k
    grind
omit hl
include hh
theorem star_hi : star ps ch = some (if a = r.2 then a else a + 1) := by
  have e := plc_rdc sc.ord sc.ok hh
  obtain ⟨m, b1, b2⟩ := rch_some hr
  unfold hiV at e
  by_cases q : a = r.2
  · rw [if_pos q] at e ⊢
    refine star_some.mpr ⟨_, e, ?_, ?_⟩
    · rw [q]; grind
    · rw [q]; grind
  · rw [if_neg q] at e ⊢
    refine star_some.mpr ⟨_, e, ?_, ?_⟩
    · rw [Rat.intCast_add, show ((1 : Int) : Rat) = 1 from rfl]; grind
    · rw [Rat.intCast_add, show ((1 : Int) : Rat) = 1 from rfl]; grind
theorem star_above {c : Rat} (hc : ch < c) : star ps c ≠ some a := fun h => by
  obtain ⟨x, e, h1, h2⟩ := star_some.mp h
  obtain ⟨m, b1, b2⟩ := rch_some hr
  have k := plc_lt sc.ord sc.ok hc (plc_rdc sc.ord sc.ok hh) e
  unfold hiV at k
  by_cases q : a = r.2
  · rw [if_pos q] at k
    have e1 : (a : Rat) = (r.2 : Rat) := by rw [q]
    have := (sc.sz r m).1
    have := Rat.intCast_lt_intCast.mpr this
    rcases plc_in sc e m with ⟨-, g⟩ | g | g <;> grind
  · rw [if_neg q] at k
    grind
include hl
theorem lo_le_hi : cl ≤ ch := Rat.not_lt.mp fun z => by
  obtain ⟨m, b1, b2⟩ := rch_some hr
  have k := plc_lt sc.ord sc.ok z (plc_rdc sc.ord sc.ok hh) (plc_rdc sc.ord sc.ok hl)
  have h1 := (lo_in b1 b2).2.2.1
  have h2 := (hi_in b1 b2).2.2.1
  grind
theorem star_mid {c x : Rat} (e : plc ps c = some x) (h1 : cl ≤ c) (h2 : c ≤ ch) (h3 : a = r.2 ∨ c < ch) : star ps c = some a := by
  have el := plc_rdc sc.ord sc.ok hl
  have eh := plc_rdc sc.ord sc.ok hh
  refine star_in sc hr e ?_ ?_ ?_
  · by_cases k : cl < c
    · exact Rat.le_of_lt (plc_lt sc.ord sc.ok k el e)
    · have : c = cl := by grind
      rw [this, el] at e
      rw [Option.some.inj e]
      exact Rat.le_refl
  · by_cases k : c < ch
    · exact Rat.le_of_lt (plc_lt sc.ord sc.ok k e eh)
    · have : c = ch := by grind
      rw [this, eh] at e
      rw [Option.some.inj e]
      exact Rat.le_refl
  · rcases h3 with h3 | h3
    · exact .inl h3
    · exact .inr (plc_lt sc.ord sc.ok h3 e eh)
end
end Lw
namespace Lw
open PySem PySem.Spec PyProof.Rows L2 Dn
/-! like of the same; shows at -/
def Lk (k : Nat) (d : D) : Prop := m_law_like k [cD d, cD d] = .ok (.im (.bool true)) [cD d, cD d]
theorem lk_none (k : Nat) : Lk (k + 1) .none := by
  unfold Lk
  simp only [m_law_like, recD_succ, b_law_like, dDef_eq, dSeq_eq]
  simp [isTy]
theorem lk_bool (k : Nat) (b : Bool) : Lk (k + 1) (.bool b) := by
  unfold Lk
  simp only [m_law_like, recD_succ, b_law_like, dDef_eq, dSeq_eq]
  cases b <;> simp [isTy]
theorem lk_int (k : Nat) (i : Int) : Lk (k + 1) (.int i) := by
  unfold Lk
  have w : m_law_is_whole [cI i] = .ok (.im (.bool true)) [cI i] := by
    simp only [m_law_is_whole, b_law_is_whole, dDef_eq]
    simp [isTy]
  simp only [m_law_like, recD_succ, b_law_like, dDef_eq, dSeq_eq]
  simp [isTy, w]
theorem lk_loop {k : Nat} {X : D} {ds : List D} (hX : X = .tuple ds ∨ X = .list ds) (h : ∀ d ∈ ds, Lk k d) (hl : ds.length ≤ 1000) : lcL (b_law_like_l2 (m_law_like k)) [3] (rngD 0 ds.length) [] [cD X, cD X, none, none] = .ok [] [cD X, cD X, none, none] := by
  have := lcL_fmP (t := b_law_like_l2 (m_law_like k)) (vs := [3]) (g := fun i : Nat => PyData.int (0 + (i : Int))) (f := fun _ => none) (ρ := [cD X, cD X, none, none]) (ps := List.range ds.length) (acc := [])
    (fun i hi => by
      have hi' := List.mem_range.mp hi
      have g : gIx X (.int (i : Int)) = some ds[i] := by
        rcases hX with rfl | rfl
        · rw [gIx_tup]; exact atI_of (by simp [hi'])
        · rw [gIx_lst]; exact atI_of (by simp [hi'])
      have q := h ds[i] (List.getElem_mem hi')
      unfold Lk at q
      refine ⟨[cD X, cD X, none, cI (0 + (i : Int))], ?_, by simp [restE]⟩
      generalize ds[i] = d at *
      rw [Int.zero_add]
      simp [b_law_like_l2, wipeE, g, q]) (by have := PySem.sizeLine_eq; simp; omega)
  rw [rngD, this]
  simp
theorem gEq_ee : gEq (.list []) (.list []) = some true := by rw [gEq_of (by rfl) (by rfl)]; rfl
theorem lk_tuple {k : Nat} {ds : List D} (h : ∀ d ∈ ds, Lk k d) (hl : ds.length ≤ 1000) : Lk (k + 1) (.tuple ds) := by
  have LC := lk_loop (.inl rfl) h hl
  have I : Dn.inR (ds.length : Int) := inR_of (by omega) (by omega)
  have gl : gLen1 (.tuple ds) = some (.int ds.length) := by simp [gLen1]
  unfold Lk
  simp only [m_law_like, recD_succ, b_law_like, dDef_eq, dSeq_eq]
  unfold m_law_like at LC
  simp [isTy, dIfE, gl, I, LC, immE, gEq_ee]
theorem lk_list {k : Nat} {ds : List D} (h : ∀ d ∈ ds, Lk k d) (hl : ds.length ≤ 1000) : Lk (k + 1) (.list ds) := by
  have LC := lk_loop (.inr rfl) h hl
  have I : Dn.inR (ds.length : Int) := inR_of (by omega) (by omega)
  have gl : gLen1 (.list ds) = some (.int ds.length) := by simp [gLen1]
  unfold Lk
  simp only [m_law_like, recD_succ, b_law_like, dDef_eq, dSeq_eq]
  unfold m_law_like at LC
  simp [isTy, dIfE, gl, I, LC, immE, gEq_ee]
theorem lk_pair (k : Nat) (a b : Int) : Lk (k + 2) (nD a b) := lk_tuple (fun d hd => by
  simp only [List.mem_cons, List.not_mem_nil, or_false] at hd
  rcases hd with rfl | rfl
  · exact lk_int k a
  · exact lk_int k b) (by simp)
theorem lk_belt (k : Nat) (x y u v : Int) (s : Bool) : Lk (k + 3) (blD x y u v s) := lk_tuple (fun d hd => by
  simp only [List.mem_cons, List.not_mem_nil, or_false] at hd
  rcases hd with rfl | rfl | rfl
  · exact lk_pair k x y
  · exact lk_pair k u v
  · exact lk_bool (k + 1) s) (by simp)
theorem qnuda : gEq (.str "number") (.str "day") = some false := (lits (la := [110, 117, 109, 98, 101, 114]) (lb := [100, 97, 121]) (by rfl) (by rfl) (by unfold okS; decide) (by unfold okS; decide)).trans (by rfl)
theorem qdyda : gEq (.str "day") (.str "day") = some true := (lits (la := [100, 97, 121]) (lb := [100, 97, 121]) (by rfl) (by rfl) (by unfold okS; decide) (by unfold okS; decide)).trans (by rfl)
theorem nnuda : gNe (.str "number") (.str "day") = some true := by unfold gNe; rw [qnuda]; rfl
theorem ndyda : gNe (.str "day") (.str "day") = some false := by unfold gNe; rw [qdyda]; rfl
def soD : Option Int → D
  | none => .none
  | some z => .int z
theorem star_at_eq (S : D) {q : Rat} {e f : Int} (hc : Fr 3100 q e f) (ps : List Pc) (ho : ∀ p ∈ ps, POk p) (P : m_law_tb_pieces [cD S] = .ok (.ow (ps.map pcD)) [cD S]) : m_law_tb_star_at [cD S, cD (nD e f)] = .ok (.im (soD (star ps q))) [cD S, cD (nD e f)] := by
  obtain ⟨d, D1, E⟩ := tbpl_gen S hc ps ho P
  unfold star
  cases h : plc ps q with
  | none =>
    rw [h] at D1
    cases D1
    generalize nD e f = P1 at *
    simp only [m_law_tb_star_at, b_law_tb_star_at, dDef_eq, dSeq_eq]
    simp [E, soD]
  | some p =>
    rw [h] at D1
    obtain ⟨x, y, rfl, F⟩ := D1
    have RR := (rounded_both F (by decide) (by decide)).2
    generalize nD e f = P1 at *
    obtain ⟨RL, hR⟩ : ∃ RL, nD x y = PyData.tuple RL := ⟨_, rfl⟩
    rw [hR] at RR E
    show _ = R.ok (Dn.L.im (.int (p + 1 / 2).floor)) _
    generalize (p + 1 / 2).floor = z at *
    simp only [m_law_tb_star_at, b_law_tb_star_at, dDef_eq, dSeq_eq]
    simp [E, RR]
theorem gEq_so (o : Option Int) (a : Int) : gEq (soD o) (.int a) = some (decide (o = some a)) := by
  cases o with
  | none =>
    show gEq .none (.int a) = _
    rw [gEq_of shp_none (shp_int a)]
    rfl
  | some z =>
    show gEq (.int z) (.int a) = _
    rw [gEq_int]
    congr 1
    exact decide_eq_decide.mpr (by simp)
theorem shows_num {S : D} {q : Rat} {e f a : Int} {ps : List Pc} (st : m_law_tb_star_at [cD S, cD (nD e f)] = .ok (.im (soD (star ps q))) [cD S, cD (nD e f)]) (pl : PlO S (nD e f) (plc ps q)) :
    m_law_shows_at [cD (.str "number"), cD S, cD (nD e f), cI a] = .ok (.im (.bool (decide (star ps q = some a)))) [cD (.str "number"), cD S, cD (nD e f), cI a] := by
  have G := gEq_so (star ps q) a
  cases h : plc ps q with
  | none =>
    have hs : star ps q = none := by unfold star; rw [h]; rfl
    rw [h] at pl
    rw [hs] at st G ⊢
    obtain ⟨s, E⟩ := pl
    have lk := lk_none 59
    unfold Lk at lk
    simp only [soD] at st G ⊢
    obtain ⟨RL, hR⟩ : ∃ RL, nD e f = PyData.tuple RL := ⟨_, rfl⟩
    rw [hR] at E st ⊢
    simp only [m_law_shows_at, b_law_shows_at, dDef_eq, dSeq_eq]
    simp [isTy, qnuda, E, st, lk, G]
  | some p =>
    obtain ⟨z, hz⟩ : ∃ z, z = (p + 1 / 2).floor := ⟨_, rfl⟩
    have hs : star ps q = some z := by unfold star; rw [h, hz]; rfl
    rw [h] at pl
    rw [hs] at st G ⊢
    obtain ⟨x, y, F, E⟩ := pl
    have RR := (rounded_both F (by decide) (by decide)).1
    rw [← hz] at RR
    simp only [soD] at st G ⊢
    have lk := lk_int 59 z
    unfold Lk at lk
    obtain ⟨RL, hR⟩ : ∃ RL, nD e f = PyData.tuple RL := ⟨_, rfl⟩
    obtain ⟨R2, hR2⟩ : ∃ RL, nD x y = PyData.tuple RL := ⟨_, rfl⟩
    rw [hR] at E st ⊢
    rw [hR2] at E RR
    simp only [m_law_shows_at, b_law_shows_at, dDef_eq, dSeq_eq]
    simp [isTy, qnuda, E, st, lk, RR]
theorem shows_day {S : D} {c a : Int} {ps : List Pc} (st : m_law_tb_star_at [cD S, cD (nD c 1)] = .ok (.im (soD (star ps (c : Rat)))) [cD S, cD (nD c 1)]) (pl : PlO S (.int c) (plc ps (c : Rat))) :
    m_law_shows_at [cD (.str "day"), cD S, cD (nD c 1), cI a] = .ok (.im (.bool (decide (star ps (c : Rat) = some a)))) [cD (.str "day"), cD S, cD (nD c 1), cI a] := by
  have G := gEq_so (star ps (c : Rat)) a
  cases h : plc ps (c : Rat) with
  | none =>
    have hs : star ps (c : Rat) = none := by unfold star; rw [h]; rfl
    rw [h] at pl
    rw [hs] at st G ⊢
    obtain ⟨s, E⟩ := pl
    have lk := lk_none 59
    unfold Lk at lk
    simp only [soD] at st G ⊢
    simp only [nD] at st ⊢
    simp only [m_law_shows_at, b_law_shows_at, dDef_eq, dSeq_eq]
    simp [isTy, qdyda, E, st, lk, G]
  | some p =>
    obtain ⟨z, hz⟩ : ∃ z, z = (p + 1 / 2).floor := ⟨_, rfl⟩
    have hs : star ps (c : Rat) = some z := by unfold star; rw [h, hz]; rfl
    rw [h] at pl
    rw [hs] at st G ⊢
    obtain ⟨x, y, F, E⟩ := pl
    have RR := (rounded_both F (by decide) (by decide)).1
    rw [← hz] at RR
    simp only [soD] at st G ⊢
    have lk := lk_int 59 z
    unfold Lk at lk
    obtain ⟨R2, hR2⟩ : ∃ RL, nD x y = PyData.tuple RL := ⟨_, rfl⟩
    rw [hR2] at E RR
    simp only [nD] at st ⊢
    simp only [m_law_shows_at, b_law_shows_at, dDef_eq, dSeq_eq]
    simp [isTy, qdyda, E, st, lk, RR]
end Lw
namespace Lw
open PySem PySem.Spec PyProof.Rows L2 Dn
/-! belts are right -/
abbrev itD (i : Int × Int × Bool) : D := .tuple [nD i.1 i.2.1, .bool i.2.2]
theorem right_loop {kd : D} {dy : Bool} (hk : gNe kd (.str "day") = some (!dy)) (S bl lo hi sh nr be ab sm : D) (a : Int) : ∀ (its : List (Int × Int × Bool)), (∀ i ∈ its, (dy = true → 0 ≤ i.1 ∧ i.1 ≤ 3652058) → m_law_shows_at [cD kd, cD S, cD (nD i.1 i.2.1), cI a] = .ok (.im (.bool i.2.2)) [cD kd, cD S, cD (nD i.1 i.2.1), cI a]) →
    ∀ (y11 y12 y13 : Option Dn.L), free (some y11) = true → free (some y12) = true → free (some y13) = true → ∃ z11 z12 z13 : Option Dn.L,
      dForL (gTupD 2 (gsCons (putIm 11) (gsCons (putIm 12) gsNil))) b_law_belt_right_l1 (its.map itD) [cD kd, cD S, cI a, cD bl, cD lo, cD hi, cD sh, cD nr, cD be, cD ab, cD sm, y11, y12, y13] = .ok .nx [cD kd, cD S, cI a, cD bl, cD lo, cD hi, cD sh, cD nr, cD be, cD ab, cD sm, z11, z12, z13]
  | [], _, y11, y12, y13, f1, f2, f3 => ⟨y11, y12, y13, rfl⟩
  | i :: its, h, y11, y12, y13, f1, f2, f3 => by
    have hi' := h i List.mem_cons_self
    have lk := lk_bool 59 i.2.2
    unfold Lk at lk
    obtain ⟨i0, -⟩ := fr_ix (a := i.1) (b := i.2.1)
    obtain ⟨o, ho⟩ : ∃ o : Bool, o = (!dy || decide (0 ≤ i.1 ∧ i.1 ≤ 3652058)) := ⟨_, rfl⟩
    obtain ⟨z1, z2, z3, E⟩ := right_loop hk S bl lo hi sh nr be ab sm a its (fun j hj => h j (List.mem_cons_of_mem _ hj)) (cD (nD i.1 i.2.1)) (cD (.bool i.2.2)) (cD (.bool o)) rfl rfl rfl
    refine ⟨z1, z2, z3, ?_⟩
    rw [List.map_cons, ← E]
    clear E
    generalize List.map itD its = M
    unfold itD
    generalize nD i.1 i.2.1 = X at *
    cases dy with
    | false =>
      simp only [Bool.not_false, Bool.true_or] at ho
      subst ho
      have q := hi' (fun z => absurd z (by simp))
      simp [dForL, gTupD, gsCons, gsNil, b_law_belt_right_l1, f1, f2, f3, hk, q, lk]
    | true =>
      simp only [Bool.not_true, Bool.false_or] at ho
      by_cases k : 0 ≤ i.1 ∧ i.1 ≤ 3652058
      · rw [decide_eq_true k] at ho
        subst ho
        have q := hi' (fun _ => k)
        simp [dForL, gTupD, gsCons, gsNil, b_law_belt_right_l1, f1, f2, f3, hk, i0, k.1, k.2, q, lk]
      · rw [decide_eq_false k] at ho
        subst ho
        by_cases k1 : 0 ≤ i.1
        · have k2 : ¬ i.1 ≤ 3652058 := fun z => k ⟨k1, z⟩
          simp [dForL, gTupD, gsCons, gsNil, b_law_belt_right_l1, f1, f2, f3, hk, i0, k1, k2]
        · simp [dForL, gTupD, gsCons, gsNil, b_law_belt_right_l1, f1, f2, f3, hk, i0, k1]
theorem right_gen {kd : D} {dy : Bool} (hk : gNe kd (.str "day") = some (!dy)) (he : gEq kd (.str "day") = some dy) (S : D) (a : Int) {x y u v : Int} {s : Bool} {n1 n2 b1 b2 c1 c2 : Int} (hn : (if dy then 1 else 100000000000000000000) = n2) (hn1 : n1 = 1)
    (m1 : m_law_tb_minus [cD (nD x y), cD (nD n1 n2)] = .ok (.im (nD b1 b2)) [cD (nD x y), cD (nD n1 n2)]) (m2 : m_law_tb_plus [cD (nD u v), cD (nD n1 n2)] = .ok (.im (nD c1 c2)) [cD (nD u v), cD (nD n1 n2)])
    (ml : m_law_tb_less [cD (nD u v), cD (nD x y)] = .ok (.im (.bool false)) [cD (nD u v), cD (nD x y)])
    (h : ∀ i ∈ [(x, y, true), (b1, b2, false), (c1, c2, false), (u, v, s)], (dy = true → 0 ≤ i.1 ∧ i.1 ≤ 3652058) → m_law_shows_at [cD kd, cD S, cD (nD i.1 i.2.1), cI a] = .ok (.im (.bool i.2.2)) [cD kd, cD S, cD (nD i.1 i.2.1), cI a]) :
    m_law_belt_right [cD kd, cD S, cI a, cD (blD x y u v s)] = .ok (.im (.bool true)) [cD kd, cD S, cI a, cD (blD x y u v s)] := by
  have w20 : gPow (.int 10) (.int 20) = some (.int 100000000000000000000) := gPow_of (by decide) (by decide) (by decide)
  obtain ⟨z1, z2, z3, LP⟩ := right_loop hk S (blD x y u v s) (nD x y) (nD u v) (.bool s) (nD n1 n2) (nD b1 b2) (nD c1 c2) (.list ([(x, y, true), (b1, b2, false), (c1, c2, false), (u, v, s)].map itD)) a [(x, y, true), (b1, b2, false), (c1, c2, false), (u, v, s)] h none none none rfl rfl rfl
  simp only [List.map_cons, List.map_nil, itD] at LP
  clear h
  subst hn1
  simp only [m_law_belt_right, b_law_belt_right, dDef_eq, dSeq_eq]
  unfold blD at *
  generalize nD x y = X at *
  generalize nD u v = Y at *
  generalize nD b1 b2 = B at *
  generalize nD c1 c2 = C at *
  simp only [nD] at LP m1 m2
  cases dy with
  | false =>
    simp at hn
    subst hn
    simp [-Int.reducePow, gTupD, gsCons, gsNil, he, w20, m1, m2, LP, ml]
  | true =>
    simp at hn
    subst hn
    simp [gTupD, gsCons, gsNil, he, m1, m2, LP, ml]
section
variable {S : D} {ps : List Pc} {rs : List (Int × Int)} {L : Int} (sc : Sc S ps rs L)
include sc
theorem belt_right_num (pl : ∀ {q : Rat} {e f : Int}, Fr 3100 q e f → PlO S (nD e f) (plc ps q)) {a : Int} {r : Int × Int} (hr : rch rs a = some r) {cl ch : Rat} (hl : rdc ps (loV r.1 a) = some cl) (hh : rdc ps (hiV r.2 a) = some ch) {x y u v : Int} (F1 : Fr 3000 cl x y) (F2 : Fr 3000 ch u v) :
    m_law_belt_right [cD (.str "number"), cD S, cI a, cD (blD x y u v (decide (a = r.2)))] = .ok (.im (.bool true)) [cD (.str "number"), cD S, cI a, cD (blD x y u v (decide (a = r.2)))] := by
  have Fn : Fr 70 (qv 1 100000000000000000000) 1 100000000000000000000 := fr_self (by decide) (by decide) (by decide) (by decide)
  have np : 0 < qv 1 100000000000000000000 := qv_pos (by decide) (by decide)
  obtain ⟨b1, b2, G1, -, E1⟩ := minus_both F1 Fn (by decide) (by decide) (by decide)
  obtain ⟨c1, c2, G2, -, E2⟩ := plus_both F2 Fn (by decide) (by decide) (by decide)
  have ml := (less_both F2 F1 (by decide) (by decide) (by decide)).2
  rw [decide_eq_false (Rat.not_lt.mpr (lo_le_hi sc hr hl hh))] at ml
  generalize qv 1 100000000000000000000 = n at *
  have sh : ∀ {q : Rat} {e f : Int} {t : Bool}, Fr 3100 q e f → decide (star ps q = some a) = t → m_law_shows_at [cD (.str "number"), cD S, cD (nD e f), cI a] = .ok (.im (.bool t)) [cD (.str "number"), cD S, cD (nD e f), cI a] := fun hf ht => by
    have := shows_num (a := a) (star_at_eq S hf ps sc.ok sc.pcs) (pl hf)
    rwa [ht] at this
  refine right_gen (dy := false) nnuda qnuda S a (n1 := 1) (n2 := 100000000000000000000) rfl rfl E1 E2 ml ?_
  intro i hi _
  simp only [List.mem_cons, List.not_mem_nil, or_false] at hi
  rcases hi with rfl | rfl | rfl | rfl
  · exact sh (F1.up (by decide)) (decide_eq_true (star_lo sc hr hl))
  · exact sh (G1.up (by decide)) (decide_eq_false (star_below sc hr hl (by grind)))
  · exact sh (G2.up (by decide)) (decide_eq_false (star_above sc hr hh (by grind)))
  · refine sh (F2.up (by decide)) ?_
    rw [star_hi sc hr hh]
    by_cases k : a = r.2
    · rw [if_pos k]
      simp [k]
    · rw [if_neg k]
      simp [k]
      omega
end
end Lw
namespace Lw
open PySem PySem.Spec PyProof.Rows L2 Dn
/-! belts of days are right -/
theorem dyF_lo (cl : Rat) : cl ≤ (dyF cl : Rat) ∧ ((dyF cl - 1 : Int) : Rat) < cl := by
  have h1 := Rat.floor_le (-cl)
  have h2 := Rat.lt_floor_add_one (-cl)
  unfold dyF
  rw [Rat.intCast_add, show ((1 : Int) : Rat) = 1 from rfl] at h2
  rw [Rat.intCast_sub, Rat.intCast_neg, show ((1 : Int) : Rat) = 1 from rfl]
  constructor <;> grind
theorem dyF_le {cl : Rat} {d : Int} (h : cl ≤ (d : Rat)) : dyF cl ≤ d := by
  have k := (dyF_lo cl).2
  have : ((dyF cl - 1 : Int) : Rat) < (d : Rat) := Std.lt_of_lt_of_le k h
  have := Rat.intCast_lt_intCast.mp this
  omega
section
variable {S : D} {ps : List Pc} {rs : List (Int × Int)} {L : Int} (sc : Sc S ps rs L) {a : Int} {r : Int × Int} (hr : rch rs a = some r) {cl ch : Rat} (hl : rdc ps (loV r.1 a) = some cl) (hh : rdc ps (hiV r.2 a) = some ch)
include sc hr hh
theorem dyG_hi {d : Int} (h : (d : Rat) ≤ ch) (h2 : a = r.2 ∨ (d : Rat) < ch) : d ≤ dyG ch (decide (a = r.2)) := by
  unfold dyG
  by_cases k : a = r.2
  · rw [decide_eq_true k, if_pos rfl]
    exact Rat.le_floor_iff.mpr h
  · rw [decide_eq_false k, if_neg (by simp)]
    have h3 : (d : Rat) < ch := h2.resolve_left k
    have h4 := Rat.floor_le (-ch)
    have : ((-ch).floor : Rat) < ((-d : Int) : Rat) := by rw [Rat.intCast_neg]; grind
    have := Rat.intCast_lt_intCast.mp this
    omega
theorem dyG_le : ((dyG ch (decide (a = r.2)) : Int) : Rat) ≤ ch ∧ (a = r.2 ∨ ((dyG ch (decide (a = r.2)) : Int) : Rat) < ch) := by
  unfold dyG
  by_cases k : a = r.2
  · rw [decide_eq_true k, if_pos rfl]
    exact ⟨Rat.floor_le ch, .inl k⟩
  · rw [decide_eq_false k, if_neg (by simp)]
    have h2 := Rat.lt_floor_add_one (-ch)
    rw [Rat.intCast_add, show ((1 : Int) : Rat) = 1 from rfl] at h2
    have : ((-(-ch).floor - 1 : Int) : Rat) < ch := by
      rw [Rat.intCast_sub, Rat.intCast_neg, show ((1 : Int) : Rat) = 1 from rfl]
      grind
    exact ⟨Rat.le_of_lt this, .inr this⟩
theorem day_hi_out : star ps ((dyG ch (decide (a = r.2)) + 1 : Int) : Rat) ≠ some a := by
  by_cases k : a = r.2
  · refine star_above sc hr hh ?_
    unfold dyG
    rw [decide_eq_true k, if_pos rfl]
    exact Rat.lt_floor_add_one ch
  · by_cases e : ch = ((dyG ch (decide (a = r.2)) + 1 : Int) : Rat)
    · rw [← e, star_hi sc hr hh, if_neg k]
      simp
      omega
    · refine star_above sc hr hh ?_
      have : ch ≤ ((dyG ch (decide (a = r.2)) + 1 : Int) : Rat) := by
        have h1 := Rat.floor_le (-ch)
        unfold dyG
        rw [decide_eq_false k, if_neg (by simp), show -(-ch).floor - 1 + 1 = -(-ch).floor by omega, Rat.intCast_neg]
        grind
      grind
include hl
/-- where no day lies between, no day shows -/
theorem day_no (hn : ¬ dyF cl ≤ dyG ch (decide (a = r.2))) (d : Int) : star ps (d : Rat) ≠ some a := fun hs => by
  have h1 : cl ≤ (d : Rat) := Rat.not_lt.mp fun z => star_below sc hr hl z hs
  have h2 : (d : Rat) ≤ ch := Rat.not_lt.mp fun z => star_above sc hr hh z hs
  have h3 : a = r.2 ∨ (d : Rat) < ch := by
    by_cases k : a = r.2
    · exact .inl k
    · right
      by_cases e : (d : Rat) = ch
      · rw [e, star_hi sc hr hh, if_neg k] at hs
        simp at hs
        omega
      · grind
  have := dyF_le h1
  have := dyG_hi sc hr hh h2 h3
  omega
theorem belt_right_day (pl : ∀ {c : Int}, c.natAbs < 2 ^ 2000 → PlO S (.int c) (plc ps (c : Rat))) (mid : ∀ c : Rat, cl ≤ c → c ≤ ch → ∃ x, plc ps c = some x) {l h : Int} (l1 : (l : Rat) ≤ cl) (h1 : ch ≤ (h : Rat)) (l2 : l.natAbs < 2 ^ 100) (h2 : h.natAbs < 2 ^ 100) (hle : dyF cl ≤ dyG ch (decide (a = r.2))) :
    m_law_belt_right [cD (.str "day"), cD S, cI a, cD (blD (dyF cl) 1 (dyG ch (decide (a = r.2))) 1 true)] = .ok (.im (.bool true)) [cD (.str "day"), cD S, cI a, cD (blD (dyF cl) 1 (dyG ch (decide (a = r.2))) 1 true)] := by
  have ho := day_hi_out sc hr hh
  obtain ⟨g1, g2⟩ := dyG_le sc hr hh
  obtain ⟨f1, f2⟩ := dyF_lo cl
  have lf : l ≤ dyF cl := Rat.intCast_le_intCast.mp (Rat.le_trans l1 f1)
  have gh : dyG ch (decide (a = r.2)) ≤ h := Rat.intCast_le_intCast.mp (Rat.le_trans g1 h1)
  generalize dyG ch (decide (a = r.2)) = G at *
  generalize dyF cl = F at *
  have fg := Rat.intCast_le_intCast.mpr hle
  have FF := fr_whole F (M := 110) (by omega) (by decide)
  have FG := fr_whole G (M := 110) (by omega) (by decide)
  have F1 := fr_whole 1 (M := 110) (by decide) (by decide)
  obtain ⟨b1, b2, H1, -, E1⟩ := minus_both FF F1 (by decide) (by decide) (by decide)
  obtain ⟨c1, c2, H2, -, E2⟩ := plus_both FG F1 (by decide) (by decide) (by decide)
  rw [← Rat.intCast_sub] at H1
  rw [← Rat.intCast_add] at H2
  obtain ⟨rfl, rfl⟩ := H1.uniq (fr_whole (F - 1) (M := 110) (by omega) (by decide))
  obtain ⟨rfl, rfl⟩ := H2.uniq (fr_whole (G + 1) (M := 110) (by omega) (by decide))
  have ml := (less_both FG FF (by decide) (by decide) (by decide)).2
  rw [decide_eq_false (Rat.not_lt.mpr fg)] at ml
  have sh : ∀ {c : Int} {t : Bool}, c.natAbs < 2 ^ 120 → decide (star ps (c : Rat) = some a) = t → m_law_shows_at [cD (.str "day"), cD S, cD (nD c 1), cI a] = .ok (.im (.bool t)) [cD (.str "day"), cD S, cD (nD c 1), cI a] := fun {c t} hf ht => by
    have := shows_day (a := a) (star_at_eq S ((fr_whole c hf (by decide)).up (N := 3100) (by decide)) ps sc.ok sc.pcs) (pl (lt_up hf (by decide)))
    rwa [ht] at this
  refine right_gen (dy := true) ndyda qdyda S a (n1 := 1) (n2 := 1) rfl rfl E1 E2 ml ?_
  intro i hi _
  simp only [List.mem_cons, List.not_mem_nil, or_false] at hi
  rcases hi with rfl | rfl | rfl | rfl
  · obtain ⟨x, e⟩ := mid (F : Rat) f1 (Rat.le_trans fg g1)
    refine sh (by show F.natAbs < _; omega) (decide_eq_true (star_mid sc hr hl hh e f1 (Rat.le_trans fg g1) ?_))
    rcases g2 with g2 | g2
    · exact .inl g2
    · exact .inr (Std.lt_of_le_of_lt fg g2)
  · exact sh (by show (F - 1).natAbs < _; omega) (decide_eq_false (star_below sc hr hl f2))
  · exact sh (by show (G + 1).natAbs < _; omega) (decide_eq_false ho)
  · obtain ⟨x, e⟩ := mid (G : Rat) (Rat.le_trans f1 fg) g1
    exact sh (by show G.natAbs < _; omega) (decide_eq_true (star_mid sc hr hl hh e (Rat.le_trans f1 fg) g1 g2))
end
/-- no day shows -/
theorem none_right_day {l h L a : Int} {ps : List Pc} (hl : l.natAbs < 10 ^ 9) (hh : h.natAbs < 10 ^ 9) (hlt : l < h) (hlen : h - l < 1000) (st : ∀ c : Int, c.natAbs < 2 ^ 100 → m_law_tb_star_at [cD (dayD l h L), cD (nD c 1)] = .ok (.im (soD (star ps (c : Rat)))) [cD (dayD l h L), cD (nD c 1)])
    (no : ∀ d : Int, star ps (d : Rat) ≠ some a) : m_law_none_right [cD (.str "day"), cD (dayD l h L), cI a] = .ok (.im (.bool true)) [cD (.str "day"), cD (dayD l h L), cI a] := by
  have n9 : ((10 : Nat) ^ 9) = 1000000000 := by decide
  rw [n9] at hl hh
  have g1 : gIx (dayD l h L) (.int 1) = some (.int l) := rfl
  have g2 : gIx (dayD l h L) (.int 2) = some (.int h) := rfl
  obtain ⟨n, hn⟩ : ∃ n : Nat, n = (h + 1 - l).toNat := ⟨_, rfl⟩
  generalize dayD l h L = S at *
  have LC1 := lcL_mapP (t := b_law_none_right_l1) (vs := [6]) (g := fun i : Nat => PyData.int (l + (i : Int))) (f := fun i : Nat => nD (l + (i : Int)) 1) (ρ := [cD (.str "day"), cD S, cI a, none, none, none, none]) (ps := List.range n) (fun i _ => by
    refine ⟨[cD (.str "day"), cD S, cI a, none, none, none, cI (l + (i : Int))], ?_, by simp [restE]⟩
    generalize l + (i : Int) = z
    simp [b_law_none_right_l1, wipeE, nD]) (by have := PySem.sizeLine_eq; simp; omega)
  have LC2 := lcL_fmP (t := b_law_none_right_l2) (vs := [6]) (g := fun i : Nat => nD (l + (i : Int)) 1) (f := fun _ => none) (ρ := [cD (.str "day"), cD S, cI a, cD (.list ((List.range n).map fun i : Nat => nD (l + (i : Int)) 1)), none, none, none]) (ps := List.range n) (acc := []) (fun i hi => by
    have hi' := List.mem_range.mp hi
    have q := st (l + (i : Int)) (by omega)
    have G := gEq_so (star ps ((l + (i : Int) : Int) : Rat)) a
    rw [decide_eq_false (no _)] at G
    generalize (List.range n).map (fun i : Nat => nD (l + (i : Int)) 1) = M
    refine ⟨[cD (.str "day"), cD S, cI a, cD (.list M), none, none, cD (nD (l + (i : Int)) 1)], ?_, by simp [restE]⟩
    generalize soD (star ps ((l + (i : Int) : Int) : Rat)) = sd at *
    generalize nD (l + (i : Int)) 1 = X at *
    simp [b_law_none_right_l2, wipeE, q, G]) (by have := PySem.sizeLine_eq; simp; omega)
  have e2 : (List.range n).filterMap (fun _ => (none : Option D)) = [] := by
    rw [List.filterMap_eq_nil_iff]
    intro _ _
    rfl
  rw [e2] at LC2
  rw [show ((List.range n).map fun i : Nat => PyData.int (l + (i : Int))) = rngD l n from rfl] at LC1
  generalize (List.range n).map (fun i : Nat => nD (l + (i : Int)) 1) = M at *
  have I1 : Dn.inR l := ⟨by omega, by omega⟩
  have I2 : Dn.inR (h + 1) := ⟨by omega, by omega⟩
  subst hn
  simp only [m_law_none_right, b_law_none_right, dDef_eq, dSeq_eq]
  simp [qdyda, g1, g2, I1, I2, LC1, LC2, immE, gEq_ee]
end Lw
namespace Lw
open PySem PySem.Spec PyProof.Rows L2 Dn
/-! where no belt is told -/
section
variable {S : D} {ps : List Pc} {rs : List (Int × Int)} {L : Int} (sc : Sc S ps rs L)
include sc
theorem rdc_no {a : Int} (hn : rch rs a = none) {x : Rat} (h1 : (a : Rat) - 1 / 2 ≤ x) (h2 : x < (a : Rat) + 1 / 2) : rdc ps x = none := by
  cases h : rdc ps x with
  | none => rfl
  | some c => exact absurd (star_some.mpr ⟨x, plc_rdc sc.ord sc.ok h, h1, h2⟩) (star_none sc hn c)
theorem none_turn {a : Int} {x : Rat} {e f : Int} (hf : Fr 120 x e f) (hn : rdc ps x = none) (y5 : Option Dn.L) (f5 : free (some y5) = true) : ∃ z5, free (some z5) = true ∧ b_law_none_right_l3 [cD (.str "number"), cD S, cI a, none, cD (nD e f), y5, none] = .ok .nx [cD (.str "number"), cD S, cI a, none, cD (nD e f), z5, none] := by
  have l2 := sc.l2
  have l1 := sc.l1
  have F0 := fr_whole 0 (M := 120) (by decide) (by decide)
  have FL := fr_whole L (M := 120) (by omega) (by decide)
  have B := between_eq F0 hf FL (by decide) (by decide)
  rw [show ((0 : Int) : Rat) = 0 from rfl] at B
  have lst := sc.lst
  by_cases k : 0 ≤ x ∧ x ≤ (L : Rat)
  · obtain ⟨d, D1, R1⟩ := sc.rdp hf k.1 k.2
    obtain ⟨d', D2, R2⟩ := tbr_gen S (hf.up (N := 400) (by decide)) ps sc.ok sc.pcs
    rw [hn] at D1 D2
    cases D1
    cases D2
    have lk := lk_none 59
    unfold Lk at lk
    rw [decide_eq_true k] at B
    refine ⟨cD .none, rfl, ?_⟩
    generalize nD e f = P1 at *
    simp only [nD] at B
    simp [b_law_none_right_l3, lst, B, R1, R2, lk, f5]
  · rw [decide_eq_false k] at B
    refine ⟨y5, f5, ?_⟩
    generalize nD e f = P1 at *
    simp only [nD] at B
    simp [b_law_none_right_l3, lst, B]
theorem none_right_num {a : Int} (ha : a.natAbs < 2 ^ 110) (hn : rch rs a = none) : m_law_none_right [cD (.str "number"), cD S, cI a] = .ok (.im (.bool true)) [cD (.str "number"), cD S, cI a] := by
  obtain ⟨t, u, -, -, F, -, -, E2, -, -, g2⟩ := halves a ha
  obtain ⟨t4, u4, F4, -, E4⟩ := low_both (4 * a + 1) 4 (by decide) 120 (by decide) (by decide) (by omega) (by decide)
  have g4 : gMul (.int 4) (.int a) = some (.int (4 * a)) := (mul_big (a := 4) (b := a) (M := 3) (N := 110) (by decide) ha (by decide) (by decide) (by decide)).1
  have v4 : qv (4 * a + 1) 4 = (a : Rat) + 1 / 4 := by
    unfold qv
    rw [Rat.intCast_add, Rat.intCast_mul, show ((4 : Int) : Rat) = 4 from rfl, show ((1 : Int) : Rat) = 1 from rfl]
    grind
  rw [v4] at F4
  have Fa := fr_whole a (M := 120) (lt_up ha (by decide)) (by decide)
  obtain ⟨y1, f1, T1⟩ := none_turn sc (a := a) F (rdc_no sc hn (by grind) (by grind)) none rfl
  obtain ⟨y2, f2, T2⟩ := none_turn sc (a := a) Fa (rdc_no sc hn (by grind) (by grind)) y1 f1
  obtain ⟨y3, f3, T3⟩ := none_turn sc (a := a) F4 (rdc_no sc hn (by grind) (by grind)) y2 f2
  clear F F4 Fa
  generalize nD t u = A1 at *
  generalize nD t4 u4 = A4 at *
  generalize hX : nD a 1 = AX at *
  have LP : dForL (putIm 4) b_law_none_right_l3 [A1, AX, A4] [cD (.str "number"), cD S, cI a, none, none, none, none] = .ok .nx [cD (.str "number"), cD S, cI a, none, cD A4, y3, none] := by
    simp [dForL, T1, T2, T3]
  subst hX
  simp only [nD] at LP
  simp only [m_law_none_right, b_law_none_right, dDef_eq, dSeq_eq]
  simp [qnuda, g2, g4, E2, E4, LP]
end
/-- what the law asks at a whole place -/
def Kit (kd S : D) : Prop := ∀ a : Int, a.natAbs < 2 ^ 110 → ∃ d, m_law_tb_belt [cD S, cI a] = .ok (.im d) [cD S, cI a] ∧ m_belt_at [cD S, cI a] = .ok (.im d) [cD S, cI a] ∧ Lk 60 d ∧
  ((d = .none ∧ m_law_none_right [cD kd, cD S, cI a] = .ok (.im (.bool true)) [cD kd, cD S, cI a]) ∨ (∃ l, d = .tuple l) ∧ m_law_belt_right [cD kd, cD S, cI a, cD d] = .ok (.im (.bool true)) [cD kd, cD S, cI a, cD d])
theorem kit_num {S nm : D} {ps : List Pc} {rs : List (Int × Int)} {L : Int} (sc : Sc S ps rs L) (h0 : gIx S (.int 0) = some nm) (hd : gEq nm (.str "days") = some false) (pl : ∀ {q : Rat} {e f : Int}, Fr 3100 q e f → PlO S (nD e f) (plc ps q)) : Kit (.str "number") S := fun a ha => by
  cases hr : rch rs a with
  | none =>
    obtain ⟨b1, b2⟩ := belt_none sc ha hr
    exact ⟨.none, b2, b1, lk_none 59, .inl ⟨rfl, none_right_num sc ha hr⟩⟩
  | some r =>
    obtain ⟨cl, ch, x, y, u, v, hl, hh, F1, F2, b1, b2⟩ := belt_some sc h0 hd ha hr
    rw [if_neg (by simp)] at b1 b2
    exact ⟨_, b2, b1, lk_belt 57 _ _ _ _ _, .inr ⟨⟨_, rfl⟩, belt_right_num sc pl hr hl hh F1 F2⟩⟩
theorem kit_day {l h L : Int} (l0 : 0 ≤ l) (hlt : l < h) (hh9 : h < 10 ^ 8) (hlen : h - l < 1000) (L1 : 1 ≤ L) (L2 : L < 2 ^ 60) : Kit (.str "day") (dayD l h L) := fun a ha => by
  have n8 : ((10 : Int) ^ 8) = 100000000 := by decide
  rw [n8] at hh9
  have ls : l.natAbs < 2 ^ 100 := by omega
  have hs : h.natAbs < 2 ^ 100 := by omega
  have sc := sc_days l h ls hs hlt L L1 L2
  have st : ∀ c : Int, c.natAbs < 2 ^ 100 → m_law_tb_star_at [cD (dayD l h L), cD (nD c 1)] = .ok (.im (soD (star [pcS l 1 h 1 (l : Rat) (h : Rat) L] (c : Rat)))) [cD (dayD l h L), cD (nD c 1)] := fun c hc => star_at_eq _ ((fr_whole c hc (by decide)).up (by decide)) _ sc.ok sc.pcs
  have nr : (∀ d : Int, star [pcS l 1 h 1 (l : Rat) (h : Rat) L] (d : Rat) ≠ some a) → m_law_none_right [cD (.str "day"), cD (dayD l h L), cI a] = .ok (.im (.bool true)) [cD (.str "day"), cD (dayD l h L), cI a] := fun no => by
    have n9 : ((10 : Nat) ^ 9) = 1000000000 := by decide
    exact none_right_day (by rw [n9]; omega) (by rw [n9]; omega) hlt hlen st no
  cases hr : rch [(0, L)] a with
  | none =>
    obtain ⟨b1, b2⟩ := belt_none sc ha hr
    exact ⟨.none, b2, b1, lk_none 59, .inl ⟨rfl, nr fun d => star_none sc hr d⟩⟩
  | some r =>
    obtain ⟨cl, ch, x, y, u, v, hl, hh, F1, F2, b1, b2⟩ := belt_some (nm := .str "days") sc rfl qdada ha hr
    rw [if_pos rfl] at b1 b2
    by_cases k : dyF cl ≤ dyG ch (decide (a = r.2))
    · unfold dyD at b1 b2
      rw [if_pos k] at b1 b2
      refine ⟨_, b2, b1, lk_belt 57 _ _ _ _ _, .inr ⟨⟨_, rfl⟩, ?_⟩⟩
      obtain ⟨p, mp, c0, c1, -⟩ := plc_some (plc_rdc sc.ord sc.ok hl)
      obtain ⟨p', mp', c0', c1', -⟩ := plc_some (plc_rdc sc.ord sc.ok hh)
      rw [List.mem_singleton.mp mp] at c0 c1
      rw [List.mem_singleton.mp mp'] at c0' c1'
      refine belt_right_day sc hr hl hh (fun hc => pl_days l h ls hs hlt L L1 L2 hc) (fun c k0 k1 => ?_) (l := l) (h := h) c0 c1' ls hs k
      exact ⟨_, if_pos ⟨Rat.le_trans c0 k0, Rat.le_trans k1 c1'⟩⟩
    · unfold dyD at b1 b2
      rw [if_neg k] at b1 b2
      exact ⟨.none, b2, b1, lk_none 59, .inl ⟨rfl, nr fun d => day_no sc hr hl hh k d⟩⟩
end Lw
namespace Lw
open PySem PySem.Spec PyProof.Rows L2 Dn
/-! is_scale tells some truth value of what is drawn -/
theorem disp3 (ρ : En) : dDisp (((dC (.str "straight")), (dC (.int 4))) :: (((dC (.str "turns")), (dC (.int 5))) :: (((dC (.str "broken")), (dC (.int 3))) :: []))) ρ = .ok (.dict [(.str "straight", .int 4), (.str "turns", .int 5), (.str "broken", .int 3)]) ρ := by
  rfl
theorem get_st : gGetK (.dict [(.str "straight", .int 4), (.str "turns", .int 5), (.str "broken", .int 3)]) (.str "straight") (.int 0) = some (.int 4) := by rfl
theorem get_br : gGetK (.dict [(.str "straight", .int 4), (.str "turns", .int 5), (.str "broken", .int 3)]) (.str "broken") (.int 0) = some (.int 3) := by rfl
theorem tb_whole (i : Int) : m_law_tb_whole [cI i] = .ok (.im (.bool true)) [cI i] := by
  simp only [m_law_tb_whole, b_law_tb_whole, dDef_eq]
  simp [isTy]
theorem is_num {M : Nat} {q : Rat} {a b : Int} (h : Fr M q a b) : ∃ t : Bool, m_law_tb_is_number [cD (nD a b), cI 20, cI 10] = .ok (.im (.bool t)) [cD (nD a b), cI 20, cI 10] := by
  have C := common_eq a.natAbs b.toNat
  have hb := h.lw.p
  have eb : ((b.toNat : Nat) : Int) = b := by omega
  have ea : (if a < 0 then -a else a) = (a.natAbs : Int) := by split <;> omega
  have eg : ((Nat.gcd a.natAbs b.toNat : Nat) : Int) = 1 := by
    have := h.lw.g
    unfold Int.gcd at this
    rw [show b.natAbs = b.toNat by omega] at this
    rw [this]; rfl
  rw [eb, eg] at C
  have p1 := tb_power_all 10 (by decide) 20 (by decide)
  have p2 := tb_power_all 10 (by decide) 10 (by decide)
  rw [show (20 : Int).toNat = 20 from rfl, show (-20 : Int).toNat = 0 from rfl] at p1
  rw [show (10 : Int).toNat = 10 from rfl, show (-10 : Int).toNat = 0 from rfl] at p2
  have i1 := (fr_ix (a := (10 : Int) ^ 20) (b := (10 : Int) ^ 0)).1
  have i2 := (fr_ix (a := (10 : Int) ^ 10) (b := (10 : Int) ^ 0)).1
  have hb' : ¬ b < 1 := by omega
  have w1 := tb_whole a
  have w2 := tb_whole b
  generalize (10 : Int) ^ 20 = P at *
  generalize (10 : Int) ^ 10 = Q at *
  generalize (10 : Int) ^ 0 = Z at *
  generalize nD P Z = PP at *
  generalize nD Q Z = QQ at *
  refine ⟨decide ((a.natAbs : Int) < P) && decide (b < Q), ?_⟩
  generalize (a.natAbs : Int) = A at *
  simp only [m_law_tb_is_number, b_law_tb_is_number, dDef_eq, dSeq_eq]
  unfold nD
  by_cases k1 : A < P
  · by_cases k2 : b < Q
    · simp [isTy, gLen1, w1, w2, hb', ea, C, p1, p2, i1, i2, k1, k2]
    · simp [isTy, gLen1, w1, w2, hb', ea, C, p1, p2, i1, i2, k1, k2]
  · simp [isTy, gLen1, w1, w2, hb', ea, C, p1, p2, i1, i2, k1]
theorem ap_loop (P Ln : D) : ∀ (ps : List Pc), (∀ p ∈ ps, BOk p) → ∀ (ah : D), (ah = .none ∨ ∃ q a b, Fr 400 q a b ∧ ah = nD a b) → ∀ (bh : Int) (y4 y5 y6 y7 y8 : Option Dn.L), free (some y4) = true → free (some y5) = true → free (some y6) = true → free (some y7) = true → free (some y8) = true →
    ∃ z2 z3 z4 z5 z6 z7 z8 : Option Dn.L, dForL (putIm 4) b_law_tb_are_pieces_l1 (ps.map bpD) [cD P, cD Ln, cD ah, cI bh, y4, y5, y6, y7, y8] = .ok (.rt (.bool false)) [cD P, cD Ln, z2, z3, z4, z5, z6, z7, z8] ∨
      ∃ bh', dForL (putIm 4) b_law_tb_are_pieces_l1 (ps.map bpD) [cD P, cD Ln, cD ah, cI bh, y4, y5, y6, y7, y8] = .ok .nx [cD P, cD Ln, z2, cI bh', z4, z5, z6, z7, z8]
  | [], _, ah, _, bh, y4, y5, y6, y7, y8, f4, f5, f6, f7, f8 => ⟨cD ah, cI bh, y4, y5, y6, y7, y8, .inr ⟨bh, rfl⟩⟩
  | p :: ps, ho, ah, hah, bh, y4, y5, y6, y7, y8, f4, f5, f6, f7, f8 => by
    have B := ho p List.mem_cons_self
    obtain ⟨t1, n1⟩ := is_num B.o.l
    obtain ⟨t2, n2⟩ := is_num B.o.h
    have le := (less_both B.o.l B.o.h (by decide) (by decide) (by decide)).2
    rw [decide_eq_true B.o.lh] at le
    have be := B.be
    have w1 := tb_whole p.b1
    have w2 := tb_whole p.e1
    have gis : ah = .none ∨ ∃ t : Bool, (∃ RL, ah = .tuple RL) ∧ m_law_tb_less [cD ah, cD (nD p.l1 p.l2)] = .ok (.im (.bool t)) [cD ah, cD (nD p.l1 p.l2)] := by
      rcases hah with e | ⟨q, a, b, F, e⟩
      · exact .inl e
      · right
        have z := (less_both F B.o.l (by decide) (by decide) (by decide)).2
        rw [← e] at z
        exact ⟨_, ⟨_, e⟩, z⟩
    obtain ⟨z2, z3, z4, z5, z6, z7, z8, E⟩ := ap_loop P Ln ps (fun z hz => ho z (List.mem_cons_of_mem _ hz)) (nD p.h1 p.h2) (.inr ⟨_, _, _, B.o.h, rfl⟩) p.e1 (cD (bpD p)) (cD (nD p.l1 p.l2)) (cD (nD p.h1 p.h2)) (cI p.b1) (cI p.e1) rfl rfl rfl rfl rfl
    rw [List.map_cons]
    -- one turn either ends with False or goes on
    have key : (∃ z5 z6 z7 z8, dForL (putIm 4) b_law_tb_are_pieces_l1 (bpD p :: ps.map bpD) [cD P, cD Ln, cD ah, cI bh, y4, y5, y6, y7, y8] = .ok (.rt (.bool false)) [cD P, cD Ln, cD ah, cI bh, cD (bpD p), z5, z6, z7, z8]) ∨
        dForL (putIm 4) b_law_tb_are_pieces_l1 (bpD p :: ps.map bpD) [cD P, cD Ln, cD ah, cI bh, y4, y5, y6, y7, y8] = dForL (putIm 4) b_law_tb_are_pieces_l1 (ps.map bpD) [cD P, cD Ln, cD (nD p.h1 p.h2), cI p.e1, cD (bpD p), cD (nD p.l1 p.l2), cD (nD p.h1 p.h2), cI p.b1, cI p.e1] := by
      clear E hah
      generalize List.map bpD ps = M
      unfold bpD
      generalize nD p.l1 p.l2 = A0 at *
      generalize nD p.h1 p.h2 = A1 at *
      cases t1 with
      | false => left; exact ⟨y5, y6, y7, y8, by simp [dForL, b_law_tb_are_pieces_l1, isTy, gLen1, f4, n1]⟩
      | true =>
        cases t2 with
        | false => left; exact ⟨y5, y6, y7, y8, by simp [dForL, b_law_tb_are_pieces_l1, isTy, gLen1, f4, n1, n2]⟩
        | true =>
          by_cases k : p.b1 ≤ bh
          · left; exact ⟨cD A0, cD A1, cI p.b1, cI p.e1, by simp [dForL, b_law_tb_are_pieces_l1, isTy, gLen1, gTupD, gsCons, gsNil, atI_3, f4, f5, f6, f7, f8, n1, n2, w1, w2, be, le, k]⟩
          · rcases gis with rfl | ⟨t, ⟨RL, rfl⟩, q⟩
            · right; simp [dForL, b_law_tb_are_pieces_l1, isTy, gLen1, gTupD, gsCons, gsNil, atI_3, f4, f5, f6, f7, f8, n1, n2, w1, w2, be, le, k]
            · cases t with
              | false => left; exact ⟨cD A0, cD A1, cI p.b1, cI p.e1, by simp [dForL, b_law_tb_are_pieces_l1, isTy, gLen1, gTupD, gsCons, gsNil, atI_3, f4, f5, f6, f7, f8, n1, n2, w1, w2, be, le, k, q]⟩
              | true => right; simp [dForL, b_law_tb_are_pieces_l1, isTy, gLen1, gTupD, gsCons, gsNil, atI_3, f4, f5, f6, f7, f8, n1, n2, w1, w2, be, le, k, q]
    rcases key with ⟨z5', z6', z7', z8', key⟩ | key
    · exact ⟨cD ah, cI bh, cD (bpD p), z5', z6', z7', z8', .inl key⟩
    · rw [key]
      exact ⟨z2, z3, z4, z5, z6, z7, z8, E⟩
theorem are_pieces_ex {ps : List Pc} (ho : ∀ p ∈ ps, BOk p) (hl : ps.length ≤ 100) {p0 : Pc} (h0 : gIx (.list (ps.map bpD)) (.int 0) = some (bpD p0)) (L : Int) : ∃ t : Bool, m_law_tb_are_pieces [cD (.list (ps.map bpD)), cI L] = .ok (.im (.bool t)) [cD (.list (ps.map bpD)), cI L] := by
  obtain ⟨z2, z3, z4, z5, z6, z7, z8, E⟩ := ap_loop (.list (ps.map bpD)) (.int L) ps ho .none (.inl rfl) (-1) none none none none none rfl rfl rfl rfl rfl
  have gl : gLen1 (.list (ps.map bpD)) = some (.int ((ps.map bpD).length : Int)) := rfl
  have hl' : (ps.map bpD).length ≤ 100 := by rw [List.length_map]; exact hl
  have i2 : gIx (bpD p0) (.int 2) = some (.int p0.b1) := rfl
  generalize bpD p0 = B0 at *
  generalize List.map bpD ps = M at *
  generalize hn : (M.length : Int) = n at *
  simp only [gIx_lst] at h0
  simp only [m_law_tb_are_pieces, b_law_tb_are_pieces, dDef_eq, dSeq_eq]
  by_cases k1 : 2 ≤ n
  · by_cases k2 : n ≤ 4
    · rcases E with E | ⟨bh, E⟩
      · exact ⟨false, by simp [isTy, gl, k1, k2, gTupD, gsCons, gsNil, E]⟩
      · by_cases k3 : p0.b1 = 0
        · refine ⟨decide (bh = L), ?_⟩
          simp [isTy, gl, k1, k2, gTupD, gsCons, gsNil, E, h0, i2, k3]
        · refine ⟨false, ?_⟩
          simp [isTy, gl, k1, k2, gTupD, gsCons, gsNil, E, h0, i2, k3]
    · exact ⟨false, by simp [isTy, gl, k1, k2]⟩
  · exact ⟨false, by simp [isTy, gl, k1]⟩
theorem is_scale_st {ql qh : Rat} {a b c d : Int} (hl : Fr 400 ql a b) (hh : Fr 400 qh c d) (L : Int) : ∃ t : Bool, m_law_tb_is_scale [cD (.str "number"), cD (stD a b c d L)] = .ok (.im (.bool t)) [cD (.str "number"), cD (stD a b c d L)] := by
  obtain ⟨t1, n1⟩ := is_num hl
  obtain ⟨t2, n2⟩ := is_num hh
  have le := (less_both hl hh (by decide) (by decide) (by decide)).2
  have w := tb_whole L
  have qnn : gEq (.str "number") (.str "number") = some true := (lits (la := [110, 117, 109, 98, 101, 114]) (lb := [110, 117, 109, 98, 101, 114]) (by rfl) (by rfl) (by unfold okS; decide) (by unfold okS; decide)).trans (by rfl)
  have g1 : gIx (stD a b c d L) (.int (-1)) = some (.int L) := rfl
  have g0 : gIx (stD a b c d L) (.int 0) = some (.str "straight") := rfl
  have ga : gIx (stD a b c d L) (.int 1) = some (nD a b) := rfl
  have gc : gIx (stD a b c d L) (.int 2) = some (nD c d) := rfl
  have gl : gLen1 (stD a b c d L) = some (.int 4) := rfl
  have ty : isTy "tuple" (stD a b c d L) = true := rfl
  have ts : isTy "str" (.str "straight") = true := rfl
  generalize decide (ql < qh) = dd at *
  generalize stD a b c d L = S at *
  generalize nD a b = A at *
  generalize nD c d = C at *
  have gt := get_st
  have dp := disp3
  generalize [(PyData.str "straight", PyData.int 4), (.str "turns", .int 5), (.str "broken", .int 3)] = dl at *
  simp only [m_law_tb_is_scale, b_law_tb_is_scale, dDef_eq, dSeq_eq]
  by_cases k1 : 1 ≤ L
  · by_cases k2 : L ≤ 4000
    · cases t1
      · exact ⟨false, by simp [-dDisp_eq, dGet, qnn, dp, g0, g1, ga, gc, gl, ty, ts, gt, w, k1, k2, qstst, n1]⟩
      · cases t2
        · exact ⟨false, by simp [-dDisp_eq, dGet, qnn, dp, g0, g1, ga, gc, gl, ty, ts, gt, w, k1, k2, qstst, n1, n2]⟩
        · exact ⟨dd, by simp [-dDisp_eq, dGet, qnn, dp, g0, g1, ga, gc, gl, ty, ts, gt, w, k1, k2, qstst, n1, n2, le]⟩
    · exact ⟨false, by simp [-dDisp_eq, dGet, qnn, dp, g0, g1, ga, gc, gl, ty, ts, gt, w, k1, k2, qstst]⟩
  · exact ⟨false, by simp [-dDisp_eq, dGet, qnn, dp, g0, g1, ga, gc, gl, ty, ts, gt, w, k1, qstst]⟩
theorem is_scale_br {ps : List Pc} (ho : ∀ p ∈ ps, BOk p) (hl : ps.length ≤ 100) {p0 : Pc} (h0 : gIx (.list (ps.map bpD)) (.int 0) = some (bpD p0)) (L : Int) : ∃ t : Bool, m_law_tb_is_scale [cD (.str "number"), cD (brD ps L)] = .ok (.im (.bool t)) [cD (.str "number"), cD (brD ps L)] := by
  obtain ⟨t, n1⟩ := are_pieces_ex ho hl h0 L
  have w := tb_whole L
  have qnn : gEq (.str "number") (.str "number") = some true := (lits (la := [110, 117, 109, 98, 101, 114]) (lb := [110, 117, 109, 98, 101, 114]) (by rfl) (by rfl) (by unfold okS; decide) (by unfold okS; decide)).trans (by rfl)
  have g1 : gIx (brD ps L) (.int (-1)) = some (.int L) := rfl
  have g0 : gIx (brD ps L) (.int 0) = some (.str "broken") := rfl
  have ga : gIx (brD ps L) (.int 1) = some (.list (ps.map bpD)) := rfl
  have gc : gIx (brD ps L) (.int 2) = some (.int L) := rfl
  have gl : gLen1 (brD ps L) = some (.int 3) := rfl
  have ty : isTy "tuple" (brD ps L) = true := rfl
  have ts : isTy "str" (.str "broken") = true := rfl
  generalize brD ps L = S at *
  generalize List.map bpD ps = M at *
  have gt := get_br
  have dp := disp3
  generalize [(PyData.str "straight", PyData.int 4), (.str "turns", .int 5), (.str "broken", .int 3)] = dl at *
  simp only [m_law_tb_is_scale, b_law_tb_is_scale, dDef_eq, dSeq_eq]
  by_cases k1 : 1 ≤ L
  · by_cases k2 : L ≤ 4000
    · exact ⟨t, by simp [-dDisp_eq, dGet, qnn, dp, g0, g1, ga, gc, gl, ty, ts, gt, w, k1, k2, qbrst, qbrda, qbrbr, n1]⟩
    · exact ⟨false, by simp [-dDisp_eq, dGet, qnn, dp, g0, g1, ga, gc, gl, ty, ts, gt, w, k1, k2]⟩
  · exact ⟨false, by simp [-dDisp_eq, dGet, qnn, dp, g0, g1, ga, gc, gl, ty, ts, gt, w, k1]⟩
end Lw
namespace Lw
open PySem PySem.Spec PyProof.Rows L2 Dn
/-! pieces drawn -/
abbrev pcN (a b a1 b1 bg en : Int) (q q1 : Rat) : Pc := ⟨a, b, a1, b1, bg, 1, en, 1, q, q1, (bg : Rat), (en : Rat)⟩
theorem piece_turn (x : JarT) {q : Rat} {a b : Int} {M : Nat} (h : Fr M q a b) (hM : M ≤ 350) (h0 : 0 < M) (bg : Int) (A : List D) (hA : A.length ≤ 10) (g : Int) (y5 y6 : Option Dn.L) (f5 : free (some y5) = true) (f6 : free (some y6) = true) :
    ∃ (y : JarT) (a1 b1 a2 b2 en bg2 : Int) (q1 q2 : Rat), Fr (M + 41) q1 a1 b1 ∧ Fr (M + 82) q2 a2 b2 ∧ q < q1 ∧ q1 < q2 ∧ bg < en ∧ en + 1 ≤ bg2 ∧ bg2 ≤ bg + 60 ∧
      b_law_pieces_drawn_l1 [jD x, cD (nD a b), cI bg, some (.ow A), cI g, y5, y6] = .ok .nx [jD y, cD (nD a2 b2), cI bg2, some (.ow (A ++ [bpD (pcN a b a1 b1 bg en q q1)])), cI g, cD (nD a1 b1), cI en] := by
  obtain ⟨s1, t1, y1, G1, p1, e1⟩ := step_ex x
  obtain ⟨a1, b1, F1, -, P1⟩ := plus_both h G1 h0 (by decide) (by omega)
  obtain ⟨d, hd, y2, e2⟩ := one_ex y1 [.int 0, .int 1, .int 2, .int 5, .int 40] (by decide) (by decide)
  obtain ⟨o, rfl, o0, o1⟩ : ∃ o : Int, d = .int o ∧ 0 ≤ o ∧ o ≤ 40 := by
    simp only [List.mem_cons, List.not_mem_nil, or_false] at hd
    rcases hd with rfl | rfl | rfl | rfl | rfl <;> exact ⟨_, rfl, by decide, by decide⟩
  obtain ⟨s2, t2, y3, G2, p2, e3⟩ := step_ex y2
  obtain ⟨a2, b2, F2, -, P2⟩ := plus_both F1 G2 (by omega) (by decide) (by omega)
  obtain ⟨v, y4, v0, v1, e4⟩ := tk y3 3
  have z1 := qv_pos p1 G1.lw.p
  have z2 := qv_pos p2 G2.lw.p
  refine ⟨y4, a1, b1, a2, b2, bg + 1 + o, bg + 1 + o + 1 + v, _, _, F1.up (by omega), F2.up (by omega), by grind, by grind, by omega, by omega, by omega, ?_⟩
  have hs : A.length < sizeLine := by have := PySem.sizeLine_eq; omega
  unfold bpD pcN
  show _ = R.ok Fl.nx [jD y4, cD (nD a2 b2), cI (bg + 1 + o + 1 + v), some (.ow (A ++ [.tuple [nD a b, nD a1 b1, .int bg, .int (bg + 1 + o)]])), cI g, cD (nD a1 b1), cI (bg + 1 + o)]
  clear h F1 F2 G1 G2
  generalize nD a b = X at *
  generalize nD a1 b1 = X1 at *
  generalize nD a2 b2 = X2 at *
  generalize nD s1 t1 = S1 at *
  generalize nD s2 t2 = S2 at *
  simp [b_law_pieces_drawn_l1, lend, slotsOf, lendL, giveB, L.mine, L.put, e1, e2, e3, e4, P1, P2, f5, f6, hs]
structure DrP (ps : List Pc) (q : Rat) (bg : Int) : Prop where
  ok : ∀ p ∈ ps, BOk p
  ord : ps.Pairwise PB
  hi : ∀ p ∈ ps, p.qh < q ∧ p.e1 + 1 ≤ bg
theorem drp_snoc {ps : List Pc} {q q1 q2 : Rat} {a b a1 b1 bg en bg2 : Int} {M : Nat} (h : DrP ps q bg) (hF : Fr M q a b) (hF1 : Fr M q1 a1 b1) (hM : M ≤ 400) (l1 : q < q1) (l2 : q1 < q2) (b0 : 0 ≤ bg) (l3 : bg < en) (l4 : en + 1 ≤ bg2) (l5 : bg2 < 1000) : DrP (ps ++ [pcN a b a1 b1 bg en q q1]) q2 bg2 := by
  refine ⟨?_, ?_, ?_⟩
  · intro p hp
    rcases List.mem_append.mp hp with hp | hp
    · exact h.ok p hp
    · rw [List.mem_singleton.mp hp]
      exact ⟨⟨hF.up hM, hF1.up hM, (fr_whole bg (M := 400) (lt_up (K := 20) (by omega) (by decide)) (by decide)), (fr_whole en (M := 400) (lt_up (K := 20) (by omega) (by decide)) (by decide)), l1, Rat.intCast_lt_intCast.mpr l3⟩, rfl, rfl, b0, by show en < _; omega⟩
  · rw [List.pairwise_append]
    refine ⟨h.ord, List.pairwise_singleton _ _, ?_⟩
    intro p hp p' hp'
    rw [List.mem_singleton.mp hp']
    exact ⟨(h.hi p hp).1, (h.hi p hp).2⟩
  · intro p hp
    rcases List.mem_append.mp hp with hp | hp
    · obtain ⟨c1, c2⟩ := h.hi p hp
      exact ⟨by grind, by omega⟩
    · rw [List.mem_singleton.mp hp]
      exact ⟨l2, l4⟩
theorem pieces_ex (x : JarT) : ∃ (ps : List Pc) (y : JarT) (q : Rat) (bg : Int), DrP ps q bg ∧ 2 ≤ ps.length ∧ ps.length ≤ 4 ∧ bg ≤ 1000 ∧ m_law_pieces_drawn [jD x] = .ok (.ow (ps.map bpD)) [jD y] := by
  obtain ⟨a, b, y1, F, e1⟩ := number_ex x
  obtain ⟨v, y2, v0, v1, e2⟩ := tk y1 3
  obtain ⟨n, hn⟩ : ∃ n : Nat, n = (2 + v).toNat := ⟨_, rfl⟩
  obtain ⟨ρ', LP, ps, y, q, a', b', bg, z4, z5, z6, Fq, dr, hl, b0, b1, f4, f5, f6, rfl⟩ := forL_rng (g := putIm 4) (b := b_law_pieces_drawn_l1) (lo := 0) (n := n)
    (P := fun i ρ => ∃ (ps : List Pc) (y : JarT) (q : Rat) (a b bg : Int) (z4 z5 z6 : Option Dn.L), Fr (100 + 82 * i) q a b ∧ DrP ps q bg ∧ ps.length = i ∧ 0 ≤ bg ∧ bg ≤ 60 * (i : Int) ∧ free (some z4) = true ∧ free (some z5) = true ∧ free (some z6) = true ∧ ρ = [jD y, cD (nD a b), cI bg, some (.ow (ps.map bpD)), z4, z5, z6])
    (fun i hi ρ ⟨ps, y, q, a, b, bg, z4, z5, z6, Fq, dr, hl, b0, b1, f4, f5, f6, e⟩ => by
      subst e
      obtain ⟨y', a1, b1', a2, b2, en, bg2, q1, q2, F1, F2, l1, l2, l3, l4, l5, E⟩ := piece_turn y Fq (by omega) (by omega) bg (ps.map bpD) (by rw [List.length_map]; omega) (0 + (i : Int)) z5 z6 f5 f6
      refine ⟨[jD y, cD (nD a b), cI bg, some (.ow (ps.map bpD)), cI (0 + (i : Int)), z5, z6], _, by simp [f4], E, ps ++ [pcN a b a1 b1' bg en q q1], y', q2, a2, b2, bg2, cI (0 + (i : Int)), cD (nD a1 b1'), cI en, F2.up (by omega), drp_snoc dr (Fq.up (N := 100 + 82 * i + 41) (by omega)) F1 (by omega) l1 l2 b0 l3 l4 (by omega), ?_, by omega, by omega, rfl, rfl, rfl, ?_⟩
      · rw [List.length_append, hl]; rfl
      · rw [List.map_append]; rfl)
    [jD y2, cD (nD a b), cI 0, some (.ow []), none, none, none] ⟨[], y2, _, a, b, 0, none, none, none, F, ⟨by simp, List.Pairwise.nil, by simp⟩, rfl, by decide, by decide, rfl, rfl, rfl, rfl⟩
  refine ⟨ps, y, q, bg, dr, by omega, by omega, by omega, ?_⟩
  have I : Dn.inR (2 + v) := inR_of (by omega) (by omega)
  subst hn
  generalize nD a b = X at *
  generalize nD a' b' = X' at *
  generalize List.map bpD ps = M at *
  simp only [m_law_pieces_drawn, b_law_pieces_drawn, dDef_eq, dSeq_eq]
  simp [dPar3L, putOw, lend, slotsOf, lendL, giveB, L.mine, L.put, e1, e2, I, LP]
end Lw
namespace Lw
open PySem PySem.Spec PyProof.Rows L2 Dn
/-! scales drawn -/
theorem gIx_last (l : List D) (d : D) : gIx (.list (l ++ [d])) (.int (-1)) = some d := by
  rw [gIx_lst]
  have e : ixN (l ++ [d]).length (-1) = some l.length := by
    rw [List.length_append]
    unfold ixN
    simp
    omega
  unfold L2.atI
  rw [e]
  simp
def Drn (kd : Str) (S : D) : Prop := (∃ ps rs L, Sc S ps rs L ∧ ps.length ≤ 100) ∧ Kit (.str kd) S
theorem drn_straight {ql qh : Rat} {a b c d : Int} (hl : Fr 300 ql a b) (hh : Fr 300 qh c d) (hlt : ql < qh) (L : Int) (hL : 1 ≤ L) (hL2 : L < 2 ^ 60) : Drn "number" (stD a b c d L) := by
  have sc := sc_straight hl hh hlt L hL hL2
  exact ⟨⟨_, _, _, sc, by simp⟩, kit_num (nm := .str "straight") sc rfl qstda fun hf => pl_straight hl hh hlt L hL hL2 hf⟩
theorem drn_days {l h L : Int} (l0 : 0 ≤ l) (hlt : l < h) (hh9 : h < 10 ^ 8) (hlen : h - l < 1000) (L1 : 1 ≤ L) (L2 : L < 2 ^ 60) : Drn "day" (dayD l h L) := by
  have n8 : ((10 : Int) ^ 8) = 100000000 := by decide
  have k := hh9
  rw [n8] at k
  exact ⟨⟨_, _, _, sc_days l h (by omega) (by omega) hlt L L1 L2, by simp⟩, kit_day l0 hlt hh9 hlen L1 L2⟩
theorem drn_turns {b lo many L : Int} (b1 : 2 ≤ b) (hb : b.natAbs < 2 ^ 4) (hlo : -30 ≤ lo) (hm : 1 ≤ many) (hlm : lo + many ≤ 30) (hL : 1 ≤ L) (hL2 : L < 2 ^ 60) : Drn "number" (tnD b lo many L) := by
  obtain ⟨u, v, hu⟩ := bounds_ex many L hm (by omega) (by omega) (by omega)
  have sc := sc_turns b1 hb hlo hm hlm hL hL2 hu
  refine ⟨⟨_, _, _, sc, by simp; omega⟩, kit_num (nm := .str "turns") sc rfl qtuda fun hf => pl_turns b1 hb hlo hm hlm hL hL2 hu hf⟩
theorem drn_broken {ps : List Pc} {q : Rat} {bg : Int} (dr : DrP ps q bg) (h2 : 2 ≤ ps.length) (h4 : ps.length ≤ 4) : ∃ p0 pl, gIx (.list (ps.map bpD)) (.int 0) = some (bpD p0) ∧ gIx (.list (ps.map bpD)) (.int (-1)) = some (bpD pl) ∧ Drn "number" (brD ps pl.e1) := by
  obtain ⟨p0, t, rfl⟩ : ∃ p0 t, ps = p0 :: t := by
    cases ps with
    | nil => simp at h2
    | cons p0 t => exact ⟨p0, t, rfl⟩
  obtain ⟨i, pl, hi⟩ : ∃ i pl, p0 :: t = i ++ [pl] := ⟨(p0 :: t).dropLast, (p0 :: t).getLast (by simp), (List.dropLast_concat_getLast (by simp)).symm⟩
  have m0 : p0 ∈ p0 :: t := List.mem_cons_self
  have m1 : pl ∈ p0 :: t := by rw [hi]; simp
  have c0 : ∀ p ∈ p0 :: t, p = p0 ∨ PB p0 p := fun p hp => by
    rcases List.mem_cons.mp hp with rfl | hp
    · exact .inl rfl
    · exact .inr ((List.pairwise_cons.mp dr.ord).1 p hp)
  have c1 : ∀ p ∈ p0 :: t, p = pl ∨ PB p pl := fun p hp => by
    have o := dr.ord
    rw [hi] at hp o
    rcases List.mem_append.mp hp with hp | hp
    · exact .inr ((List.pairwise_append.mp o).2.2 p hp pl (by simp))
    · exact .inl (List.mem_singleton.mp hp)
  have hle : ∀ p ∈ p0 :: t, p.e1 ≤ pl.e1 := fun p hp => by
    rcases c1 p hp with rfl | h
    · exact Int.le_refl _
    · have := h.x
      have := (dr.ok pl m1).be
      omega
  have hall : ∀ p ∈ p0 :: t, p0.ql ≤ p.ql ∧ p.qh ≤ pl.qh := fun p hp => by
    constructor
    · rcases c0 p hp with rfl | h
      · exact Rat.le_refl
      · have := h.c
        have := (dr.ok p0 m0).o.lh
        grind
    · rcases c1 p hp with rfl | h
      · exact Rat.le_refl
      · have := h.c
        have := (dr.ok pl m1).o.lh
        grind
  have g0 : gIx (.list ((p0 :: t).map bpD)) (.int 0) = some (bpD p0) := by rw [List.map_cons, gIx_lst]; exact atI_of (i := 0) (by simp)
  have g1 : gIx (.list ((p0 :: t).map bpD)) (.int (-1)) = some (bpD pl) := by
    rw [hi, List.map_append]
    exact gIx_last _ _
  have be := (dr.ok pl m1).be
  have b0 := (dr.ok pl m1).b0
  have sc := sc_broken dr.ok dr.ord (by omega) (L := pl.e1) (by omega) (dr.ok pl m1).e0 hle
  exact ⟨p0, pl, g0, g1, ⟨_, _, _, sc, by omega⟩, kit_num (nm := .str "broken") sc rfl qbrda fun hf => place_broken hf dr.ok pl.e1 g0 g1 m0 m1 hall⟩
theorem scale_ex (x : JarT) : ∃ (kd : Str) (S : D) (y : JarT), Drn kd S ∧ m_law_scale_drawn [jD x] = .ok (.im (.tuple [.str kd, S])) [jD y] := by
  obtain ⟨d, hd, y1, e1⟩ := one_ex x [.int 1, .int 2, .int 3, .int 4, .int 7, .int 9, .int 60, .int 255, .int 4000] (by decide) (by decide)
  obtain ⟨L, rfl, L0, L1⟩ : ∃ o : Int, d = .int o ∧ 1 ≤ o ∧ o ≤ 4000 := by
    simp only [List.mem_cons, List.not_mem_nil, or_false] at hd
    rcases hd with rfl | rfl | rfl | rfl | rfl | rfl | rfl | rfl | rfl <;> exact ⟨_, rfl, by decide, by decide⟩
  obtain ⟨f, y2, f0, f1, e2⟩ := tk y1 5
  clear hd
  by_cases k0 : f = 0
  · obtain ⟨v, y3, v0, v1, e3⟩ := tk y2 3600000
    obtain ⟨d, hd, y4, e4⟩ := one_ex y3 [.int 0, .int 1, .int 100, .int 3652000, .int v] (by simp) (by simp)
    obtain ⟨l, rfl, l0, l1⟩ : ∃ o : Int, d = .int o ∧ 0 ≤ o ∧ o ≤ 3652000 := by
      simp only [List.mem_cons, List.not_mem_nil, or_false] at hd
      rcases hd with rfl | rfl | rfl | rfl | rfl <;> exact ⟨_, rfl, by omega, by omega⟩
    obtain ⟨w, y5, w0, w1, e5⟩ := tk y4 40
    have n8 : ((10 : Int) ^ 8) = 100000000 := by decide
    refine ⟨"day", dayD l (l + 1 + w) L, y5, drn_days l0 (by omega) (by rw [n8]; omega) (by omega) L0 (by omega), ?_⟩
    simp only [m_law_scale_drawn, b_law_scale_drawn, dDef_eq, dSeq_eq]
    simp [lend, slotsOf, lendL, giveB, Dn.L.mine, Dn.L.put, e1, e2, k0, e3, e4, e5]
  by_cases k1 : f = 1
  · obtain ⟨v, y3, v0, v1, e3⟩ := tk y2 6
    obtain ⟨d, hd, y4, e4⟩ := one_ex y3 [.int (-30), .int (-3), .int (-1), .int 0, .int 2, .int (30 - (1 + v))] (by simp) (by simp)
    obtain ⟨lo, rfl, l0, l1⟩ : ∃ o : Int, d = .int o ∧ -30 ≤ o ∧ o + (1 + v) ≤ 30 := by
      simp only [List.mem_cons, List.not_mem_nil, or_false] at hd
      rcases hd with rfl | rfl | rfl | rfl | rfl | rfl <;> exact ⟨_, rfl, by omega, by omega⟩
    obtain ⟨d, hd2, y5, e5⟩ := one_ex y4 [.int 2, .int 10] (by decide) (by decide)
    obtain ⟨b, rfl, b0, b1⟩ : ∃ o : Int, d = .int o ∧ 2 ≤ o ∧ o.natAbs < 2 ^ 4 := by
      simp only [List.mem_cons, List.not_mem_nil, or_false] at hd2
      rcases hd2 with rfl | rfl <;> exact ⟨_, rfl, by decide, by decide⟩
    refine ⟨"number", tnD b lo (1 + v) L, y5, drn_turns b0 b1 l0 (by omega) l1 L0 (by omega), ?_⟩
    simp only [m_law_scale_drawn, b_law_scale_drawn, dDef_eq, dSeq_eq]
    unfold tnD
    simp [lend, slotsOf, lendL, giveB, Dn.L.mine, Dn.L.put, e1, e2, k1, e3, e4, e5]
  obtain ⟨a, b, y3, F, e3⟩ := number_ex y2
  obtain ⟨s, t, y4, G, p, e4⟩ := step_ex y3
  obtain ⟨c, d, F2, -, P⟩ := plus_both F G (by decide) (by decide) (by decide)
  have lt : qv a b < qv a b + qv s t := by have := qv_pos p G.lw.p; grind
  have def_ : Drn "number" (stD 0 1 4 1 L) := drn_straight (ql := 0) (qh := 4) (fr_whole 0 (by decide) (by decide)) (fr_whole 4 (by decide) (by decide)) (by decide) L L0 (by omega)
  by_cases k2 : f < 4
  · obtain ⟨ps, y5, q, bg, dr, h2, h4, -, e5⟩ := pieces_ex y4
    obtain ⟨p0, pl, g0, g1, D1⟩ := drn_broken dr h2 h4
    obtain ⟨tt, e6⟩ := is_scale_br dr.ok (by omega) g0 pl.e1
    have g3 : gIx (bpD pl) (.int 3) = some (.int pl.e1) := rfl
    refine ⟨"number", if tt then brD ps pl.e1 else stD 0 1 4 1 L, y5, by cases tt; exact def_; exact D1, ?_⟩
    clear D1 def_ F F2 G dr lt
    unfold brD at *
    unfold stD
    generalize bpD pl = PL at *
    generalize List.map bpD ps = M at *
    generalize nD a b = A at *
    generalize nD c d = C at *
    generalize nD s t = T at *
    simp only [gIx_lst] at g1
    simp only [m_law_scale_drawn, b_law_scale_drawn, dDef_eq, dSeq_eq]
    cases tt <;> simp [nD, lend, slotsOf, lendL, giveB, Dn.L.mine, Dn.L.put, e1, e2, k0, k1, k2, e3, e4, P, e5, g1, g3, e6]
  · obtain ⟨tt, e6⟩ := is_scale_st (F.up (N := 400) (by decide)) (F2.up (N := 400) (by decide)) L
    have D1 : Drn "number" (stD a b c d L) := drn_straight (F.up (by decide)) (F2.up (by decide)) lt L L0 (by omega)
    refine ⟨"number", if tt then stD a b c d L else stD 0 1 4 1 L, y4, by cases tt; exact def_; exact D1, ?_⟩
    clear D1 def_ F F2 G lt
    unfold stD at *
    generalize nD a b = A at *
    generalize nD c d = C at *
    generalize nD s t = T at *
    simp only [m_law_scale_drawn, b_law_scale_drawn, dDef_eq, dSeq_eq]
    cases tt <;> simp [nD, lend, slotsOf, lendL, giveB, Dn.L.mine, Dn.L.put, e1, e2, k0, k1, k2, e3, e4, P, e6]
end Lw
namespace Lw
open PySem PySem.Spec PyProof.Rows L2 Dn
/-! the whole places that are asked for -/
def WhI (d : D) : Prop := ∃ a : Int, d = .int a ∧ a.natAbs < 2 ^ 110
theorem whi {a : Int} (h : a.natAbs < 2 ^ 110) : WhI (.int a) := ⟨a, rfl, h⟩
theorem along_loop {L : Int} (J0 S : D) (j : Option Dn.L) : ∀ (ps : List Pc), (∀ p ∈ ps, POk p ∧ 0 ≤ p.qb ∧ p.qe ≤ (L : Rat)) → L < 2 ^ 60 → ∀ (A : List D), (∀ d ∈ A, WhI d) → A.length + 4 * ps.length ≤ 1000 → ∀ (y4 y5 y6 y7 : Option Dn.L), free (some y4) = true → free (some y5) = true → free (some y6) = true → free (some y7) = true →
    ∃ (B : List D) (z4 z5 z6 z7 : Option Dn.L), (∀ d ∈ B, WhI d) ∧ B.length ≤ 1000 ∧ dForL (gTupD 4 (gsCons (putIm 4) (gsCons (putIm 5) (gsCons (putIm 6) (gsCons (putIm 7) gsNil))))) b_law_alongs_l1 (ps.map pcD) [j, cD S, cI L, some (.ow A), y4, y5, y6, y7, none] = .ok .nx [j, cD S, cI L, some (.ow B), z4, z5, z6, z7, none]
  | [], _, _, A, hA, hl, y4, y5, y6, y7, f4, f5, f6, f7 => ⟨A, y4, y5, y6, y7, hA, by omega, rfl⟩
  | p :: ps, ho, hL, A, hA, hl, y4, y5, y6, y7, f4, f5, f6, f7 => by
    obtain ⟨o, q0, q1⟩ := ho p List.mem_cons_self
    have E1 := (floor_both o.b (by decide) (by decide)).2
    have E2 := (floor_both o.e (by decide) (by decide)).2
    have be := o.be
    obtain ⟨b0, b1⟩ := floor_in q0 (show p.qb ≤ (L : Rat) by grind)
    obtain ⟨e0, e1⟩ := floor_in (show 0 ≤ p.qe by grind) q1
    generalize p.qb.floor = F at *
    generalize p.qe.floor = G at *
    have hA' : ∀ d ∈ A ++ [.int F, .int (F - 1), .int G, .int (G + 1)], WhI d := fun d hd => by
      rcases List.mem_append.mp hd with hd | hd
      · exact hA d hd
      · simp only [List.mem_cons, List.not_mem_nil, or_false] at hd
        rcases hd with rfl | rfl | rfl | rfl <;> exact whi (by omega)
    rw [List.length_cons] at hl
    obtain ⟨B, z4, z5, z6, z7, hB, lB, E⟩ := along_loop J0 S j ps (fun z hz => ho z (List.mem_cons_of_mem _ hz)) hL (A ++ [.int F, .int (F - 1), .int G, .int (G + 1)]) hA' (by rw [List.length_append]; simp; omega) (cD (nD p.l1 p.l2)) (cD (nD p.h1 p.h2)) (cD (nD p.b1 p.b2)) (cD (nD p.e1 p.e2)) rfl rfl rfl rfl
    refine ⟨B, z4, z5, z6, z7, hB, lB, ?_⟩
    rw [List.map_cons, ← E]
    have hs : A.length + 4 ≤ sizeLine := by have := PySem.sizeLine_eq; omega
    clear E hA hA'
    unfold pcD
    generalize List.map _ ps = M
    generalize nD p.l1 p.l2 = A0 at *
    generalize nD p.h1 p.h2 = B1 at *
    generalize nD p.b1 p.b2 = C1 at *
    generalize nD p.e1 p.e2 = D1 at *
    simp [dForL, gTupD, gsCons, gsNil, b_law_alongs_l1, dExt, atMine_eq, f4, f5, f6, f7, E1, E2, hs]
theorem alongs_ex (x : JarT) {S : D} {ps : List Pc} {rs : List (Int × Int)} {L : Int} (sc : Sc S ps rs L) (hl : ps.length ≤ 100) : ∃ (A : List D) (y : JarT), (∀ d ∈ A, WhI d) ∧ m_law_alongs [jD x, cD S] = .ok (.im (.list A)) [jD y, cD S] := by
  have l1 := sc.l1
  have l2 := sc.l2
  have lst := sc.lst
  by_cases k : L < 12
  · refine ⟨rngD (-2) (L + 3 - -2).toNat, x, ?_, ?_⟩
    · intro d hd
      obtain ⟨i, hi, rfl⟩ := List.mem_map.mp hd
      have := List.mem_range.mp hi
      exact whi (by omega)
    · have rg : rgL (.int (-2)) (.int (L + 3)) = some (rngD (-2) (L + 3 - -2).toNat) := if_pos ⟨by decide, by decide, by omega, by omega, by omega⟩
      generalize rngD (-2) (L + 3 - -2).toNat = RR at *
      simp only [m_law_alongs, b_law_alongs, dDef_eq, dSeq_eq]
      simp [lst, k, rg]
  · have hps : ∀ p ∈ ps, POk p ∧ 0 ≤ p.qb ∧ p.qe ≤ (L : Rat) := fun p hp => by
      obtain ⟨r, mr, g1, g2⟩ := sc.inr p hp
      obtain ⟨-, s2, s3⟩ := sc.sz r mr
      have z0 : ((0 : Int) : Rat) ≤ (r.1 : Rat) := Rat.intCast_le_intCast.mpr s2
      have zL : (r.2 : Rat) ≤ (L : Rat) := Rat.intCast_le_intCast.mpr s3
      rw [show ((0 : Int) : Rat) = 0 from rfl] at z0
      exact ⟨sc.ok p hp, Rat.le_trans z0 g1, Rat.le_trans g2 zL⟩
    have w30 : gPow (.int 10) (.int 30) = some (.int 1000000000000000000000000000000) := gPow_of (by decide) (by decide) (by decide)
    have h0 : ∀ d ∈ [PyData.int (-1), .int 0, .int 1, .int (L - 1), .int L, .int (L + 1), .int 4001, .int (-1000000000000000000000000000000)], WhI d := fun d hd => by
      simp only [List.mem_cons, List.not_mem_nil, or_false] at hd
      rcases hd with rfl | rfl | rfl | rfl | rfl | rfl | rfl | rfl <;> exact whi (by omega)
    obtain ⟨B, z4, z5, z6, z7, hB, lB, LP⟩ := along_loop .none S (jD x) ps hps l2 _ h0 (by simp; omega) none none none none rfl rfl rfl rfl
    obtain ⟨ys, ρ', LC, l3, s3, y, rfl⟩ := lcL_inv (t := b_law_alongs_l2) (vs := [8]) (ds := rngD 0 6) (acc := []) (ρ := [jD x, cD S, cI L, some (.ow B), z4, z5, z6, z7, none]) (P := fun ρ => ∃ y : JarT, ρ = [jD y, cD S, cI L, some (.ow B), z4, z5, z6, z7, none]) (S := WhI)
      (fun d hd ρ ⟨y, hp⟩ => by
        subst hp
        simp only [rngD, List.mem_map, List.mem_range] at hd
        obtain ⟨i, hi, rfl⟩ := hd
        obtain ⟨v, y', v0, v1, e⟩ := tk y (L + 1) (by omega) (by omega)
        refine ⟨.int v, [jD y', cD S, cI L, some (.ow B), z4, z5, z6, z7, cI (0 + (i : Int))], ?_, whi (by omega), y', by simp [restE]⟩
        generalize 0 + (i : Int) = ii
        simp [b_law_alongs_l2, wipeE, lend, slotsOf, lendL, giveB, Dn.L.mine, Dn.L.put, e]) ⟨x, rfl⟩ (by have := PySem.sizeLine_eq; simp [rngD])
    rw [List.nil_append] at LC
    have sl := gSl_take B 24
    have tl : (B.take 24).length + ys.length ≤ 1000000 := by rw [l3]; simp [rngD]; omega
    have ga := gAddL tl
    have I6 : Dn.inR 6 := inR_of (by decide) (by decide)
    refine ⟨B.take 24 ++ ys, y, ?_, ?_⟩
    · intro d hd
      rcases List.mem_append.mp hd with hd | hd
      · exact hB d (List.mem_of_mem_take hd)
      · exact s3 d hd
    · have P := sc.pcs
      rw [show ((24 : Nat) : Int) = 24 from rfl] at sl
      clear sc hps h0 hB s3 tl
      generalize List.map pcD ps = M at *
      generalize B.take 24 = B2 at *
      simp only [m_law_alongs, b_law_alongs, dDef_eq, dSeq_eq]
      simp [-Int.reducePow, lst, k, w30, P, LP, sl, I6, LC, immE, ga]
end Lw
namespace Lw
open PySem PySem.Spec PyProof.Rows L2 Dn
/-! the law -/
theorem scale_right_true (x : JarT) : ∃ y : JarT, m_law_scale_right [jD x] = .ok (.im (.bool true)) [jD y] := by
  obtain ⟨kd, S, y1, ⟨⟨ps, rs, L, sc, hl⟩, kit⟩, e1⟩ := scale_ex x
  obtain ⟨A, y2, hA, e2⟩ := alongs_ex y1 sc hl
  obtain ⟨ρ', LP, z3, z4, z5, f3, f4, f5, rfl⟩ := forL_inv (g := putIm 3) (b := b_law_scale_right_l1) (I := fun ρ => ∃ z3 z4 z5 : Option Dn.L, free (some z3) = true ∧ free (some z4) = true ∧ free (some z5) = true ∧ ρ = [jD y2, cD (.str kd), cD S, z3, z4, z5]) A
    (fun d hd ρ ⟨z3, z4, z5, f3, f4, f5, e⟩ => by
      subst e
      obtain ⟨a, rfl, ha⟩ := hA d hd
      obtain ⟨b, q1, q2, q3, q4⟩ := kit a ha
      unfold Lk at q3
      refine ⟨[jD y2, cD (.str kd), cD S, cI a, z4, z5], [jD y2, cD (.str kd), cD S, cI a, cD b, cD b], by simp [f3], ?_, _, _, _, rfl, rfl, rfl, rfl⟩
      rcases q4 with ⟨rfl, q4⟩ | ⟨⟨l, rfl⟩, q4⟩
      · simp [b_law_scale_right_l1, f4, f5, q1, q2, q3, q4]
      · simp [b_law_scale_right_l1, f4, f5, q1, q2, q3, q4])
    [jD y2, cD (.str kd), cD S, none, none, none] ⟨none, none, none, rfl, rfl, rfl, rfl⟩
  refine ⟨y2, ?_⟩
  simp only [m_law_scale_right, b_law_scale_right, dDef_eq, dSeq_eq]
  simp [gTupD, gsCons, gsNil, lend, slotsOf, lendL, giveB, Dn.L.mine, Dn.L.put, e1, e2, LP]
theorem half_val {cl q : Rat} {x y a b : Int} {M : Nat} (F : Fr M cl x y) (hq : cl = q) (h : Fr 100 q a b) : nD x y = nD a b := by
  subst hq
  obtain ⟨rfl, rfl⟩ := F.uniq h
  rfl
theorem ex_st (a : Int) (ha : a.natAbs < 2 ^ 110) (r : Int × Int) (hr : rch [(0, 4)] a = some r) {ql qh : Rat} {l1 l2 h1 h2 : Int} (e1 : rdc [pcS 0 1 4 1 0 4 4] (loV r.1 a) = some ql) (e2 : rdc [pcS 0 1 4 1 0 4 4] (hiV r.2 a) = some qh) (F1 : Fr 100 ql l1 l2) (F2 : Fr 100 qh h1 h2) :
    m_belt_at [cD (stD 0 1 4 1 4), cI a] = .ok (.im (blD l1 l2 h1 h2 (decide (a = r.2)))) [cD (stD 0 1 4 1 4), cI a] := by
  have sc := sc_straight (ql := 0) (qh := 4) (fr_whole 0 (by decide) (by decide)) (fr_whole 4 (by decide) (by decide)) (by decide) 4 (by decide) (by decide)
  obtain ⟨cl, ch, x, y, u, v, hl, hh, G1, G2, b1, -⟩ := belt_some (nm := .str "straight") sc rfl qstda ha hr
  rw [if_neg (by simp)] at b1
  rw [e1] at hl
  rw [e2] at hh
  have k1 := half_val G1 (Option.some.inj hl).symm F1
  have k2 := half_val G2 (Option.some.inj hh).symm F2
  unfold blD at b1
  rw [k1, k2] at b1
  exact b1
theorem ex_dy (L a : Int) (L1 : 1 ≤ L) (L2 : L < 2 ^ 60) (ha : a.natAbs < 2 ^ 110) (r : Int × Int) (hr : rch [(0, L)] a = some r) {ql qh : Rat} (e1 : rdc [pcS 10 1 12 1 10 12 L] (loV r.1 a) = some ql) (e2 : rdc [pcS 10 1 12 1 10 12 L] (hiV r.2 a) = some qh) {d : D} (hd : dyD ql qh (decide (a = r.2)) = d) :
    m_belt_at [cD (dayD 10 12 L), cI a] = .ok (.im d) [cD (dayD 10 12 L), cI a] := by
  have sc := sc_days 10 12 (by decide) (by decide) (by decide) L L1 L2
  obtain ⟨cl, ch, x, y, u, v, hl, hh, G1, G2, b1, -⟩ := belt_some (nm := .str "days") sc rfl qdada ha hr
  rw [if_pos rfl] at b1
  have hl' : rdc [pcS 10 1 12 1 10 12 L] (loV r.1 a) = some cl := hl
  have hh' : rdc [pcS 10 1 12 1 10 12 L] (hiV r.2 a) = some ch := hh
  rw [e1] at hl'
  rw [e2] at hh'
  cases hl'
  cases hh'
  rw [hd] at b1
  exact b1
theorem ex0 : m_belt_at [cD (stD 0 1 4 1 4), cI 0] = .ok (.im (blD 0 1 1 2 false)) [cD (stD 0 1 4 1 4), cI 0] := ex_st 0 (by decide) (0, 4) (by decide) (ql := 0) (qh := 1 / 2) (by decide +kernel) (by decide +kernel) (fr_whole 0 (by decide) (by decide)) (fr_self (a := 1) (b := 2) (by decide) (by decide) (by decide) (by decide))
theorem ex1 : m_belt_at [cD (stD 0 1 4 1 4), cI 1] = .ok (.im (blD 1 2 3 2 false)) [cD (stD 0 1 4 1 4), cI 1] := ex_st 1 (by decide) (0, 4) (by decide) (ql := 1 / 2) (qh := 3 / 2) (by decide +kernel) (by decide +kernel) (fr_self (a := 1) (b := 2) (by decide) (by decide) (by decide) (by decide)) (fr_self (a := 3) (b := 2) (by decide) (by decide) (by decide) (by decide))
theorem ex4 : m_belt_at [cD (stD 0 1 4 1 4), cI 4] = .ok (.im (blD 7 2 4 1 true)) [cD (stD 0 1 4 1 4), cI 4] := ex_st 4 (by decide) (0, 4) (by decide) (ql := 7 / 2) (qh := 4) (by decide +kernel) (by decide +kernel) (fr_self (a := 7) (b := 2) (by decide) (by decide) (by decide) (by decide)) (fr_whole 4 (by decide) (by decide))
theorem ex5 : m_belt_at [cD (stD 0 1 4 1 4), cI 5] = .ok (.im .none) [cD (stD 0 1 4 1 4), cI 5] := (belt_none (sc_straight (ql := 0) (qh := 4) (fr_whole 0 (by decide) (by decide)) (fr_whole 4 (by decide) (by decide)) (by decide) 4 (by decide) (by decide)) (a := 5) (by decide) (by decide)).1
theorem exd0 : m_belt_at [cD (dayD 10 12 1), cI 0] = .ok (.im (blD 10 1 10 1 true)) [cD (dayD 10 12 1), cI 0] := ex_dy 1 0 (by decide) (by decide) (by decide) (0, 1) (by decide) (ql := 10) (qh := 11) (by decide +kernel) (by decide +kernel) (by unfold dyD; rw [show dyF 10 = 10 by decide +kernel, show dyG 11 (decide ((0 : Int) = ((0 : Int), (1 : Int)).2)) = 10 by decide +kernel]; rfl)
theorem exd1 : m_belt_at [cD (dayD 10 12 1), cI 1] = .ok (.im (blD 11 1 12 1 true)) [cD (dayD 10 12 1), cI 1] := ex_dy 1 1 (by decide) (by decide) (by decide) (0, 1) (by decide) (ql := 11) (qh := 12) (by decide +kernel) (by decide +kernel) (by unfold dyD; rw [show dyF 11 = 11 by decide +kernel, show dyG 12 (decide ((1 : Int) = ((0 : Int), (1 : Int)).2)) = 12 by decide +kernel]; rfl)
theorem exd8 : m_belt_at [cD (dayD 10 12 8), cI 1] = .ok (.im .none) [cD (dayD 10 12 8), cI 1] := ex_dy 8 1 (by decide) (by decide) (by decide) (0, 8) (by decide) (ql := 81 / 8) (qh := 83 / 8) (by decide +kernel) (by decide +kernel) (by unfold dyD; rw [show dyF (81 / 8) = 11 by decide +kernel, show dyG (83 / 8) (decide ((1 : Int) = ((0 : Int), (8 : Int)).2)) = 10 by decide +kernel]; rfl)
end Lw
namespace Lw
open PySem PySem.Spec PyProof.Rows L2 Dn
theorem law_true (ns : List Int) (hl : ns.length ≤ 63) (hb : ∀ z ∈ ns, z.natAbs < 2 ^ 1048576) : ∃ ls', m_law [cD (scriptD ns)] = .ok (.im (.bool true)) ls' := by
  obtain ⟨x, ep⟩ := pool_ex ns
  generalize scriptD ns = s at *
  obtain ⟨ρ', LP, y, y2, f2, rfl⟩ := forL_rng (g := putIm 2) (b := b_law_l1) (lo := 0) (n := 7)
    (P := fun _ ρ => ∃ (y : JarT) (y2 : Option Dn.L), free (some y2) = true ∧ ρ = [cD s, some (.ow (jrD y.r y.s)), y2, none, none, none, none])
    (fun i hi ρ ⟨y, y2, f2, e⟩ => by
      subst e
      obtain ⟨y', e⟩ := scale_right_true y
      refine ⟨[cD s, some (.ow (jrD y.r y.s)), cI (0 + (i : Int)), none, none, none, none], [cD s, some (.ow (jrD y'.r y'.s)), cI (0 + (i : Int)), none, none, none, none], by simp [f2], ?_, y', _, rfl, rfl⟩
      generalize 0 + (i : Int) = ii
      simp [b_law_l1, lend, slotsOf, lendL, giveB, Dn.L.mine, Dn.L.put, e])
    [cD s, some (.ow (jrD x.r x.s)), none, none, none, none, none] ⟨x, none, rfl, rfl⟩
  refine ⟨[cD s], ?_⟩
  have I7 : Dn.inR 7 := inR_of (by decide) (by decide)
  have x0 := ex0
  have x1 := ex1
  have x4 := ex4
  have x5 := ex5
  have d0 := exd0
  have d1 := exd1
  have d8 := exd8
  have LC : lcL b_law_l2 [6] [.int 0, .int 1, .int 4, .int 5] [] [cD s, some (.ow (jrD y.r y.s)), y2, cD (stD 0 1 4 1 4), none, none, none] = .ok [blD 0 1 1 2 false, blD 1 2 3 2 false, blD 7 2 4 1 true, .none] [cD s, some (.ow (jrD y.r y.s)), y2, cD (stD 0 1 4 1 4), none, none, none] := by
    have := PySem.sizeLine_eq
    generalize stD 0 1 4 1 4 = S at *
    simp [lcL, b_law_l2, wipeE, restE, x0, x1, x4, x5, this]
  have lk : Lk 60 (.list [blD 0 1 1 2 false, blD 1 2 3 2 false, blD 7 2 4 1 true, .none, blD 10 1 10 1 true, blD 11 1 12 1 true, .none]) := lk_list (fun d hd => by
    simp only [List.mem_cons, List.not_mem_nil, or_false] at hd
    rcases hd with rfl | rfl | rfl | rfl | rfl | rfl | rfl
    · exact lk_belt 56 _ _ _ _ _
    · exact lk_belt 56 _ _ _ _ _
    · exact lk_belt 56 _ _ _ _ _
    · exact lk_none 58
    · exact lk_belt 56 _ _ _ _ _
    · exact lk_belt 56 _ _ _ _ _
    · exact lk_none 58) (by simp)
  have ga : gAdd (.list [blD 0 1 1 2 false, blD 1 2 3 2 false, blD 7 2 4 1 true, .none]) (.list [blD 10 1 10 1 true, blD 11 1 12 1 true, .none]) = some (.list [blD 0 1 1 2 false, blD 1 2 3 2 false, blD 7 2 4 1 true, .none, blD 10 1 10 1 true, blD 11 1 12 1 true, .none]) := gAddL (by simp)
  unfold Lk at lk
  have hs := PySem.sizeLine_eq
  try simp only [blD, nD, stD] at LC lk ga d0 d1
  simp only [m_law, b_law, dDef_eq, dSeq_eq]

  try simp only [dayD] at d0 d1 d8
  simp [I7, ep, LP, immE, LC, dExt, atMine_eq, hs, d0, d1, d8, ga, lk]
end Lw
namespace Lw
open PySem PySem.Spec PyProof.Rows L2 Dn
/-! the head -/
abbrev Rw : PySem.W.OpenRow := PySem.W.OpenLaw.row PySem.Challenge.rw_twobytwo_k01_belts_of_places
abbrev hkL : PySem.W.Hook := He.hookD 4 faL fnL
def obL (s : PySem.W.SharedT) : He.AlD := He.obsDG 4 faL fnL (HandSHeadRun.getT s)
theorem obL_eq (s : PySem.W.SharedT) : obL s = hkL.obs s.abs := He.obsDG_eq (HandSHeadRun.getT_eq s)
theorem runL (w : World) : HandSHeadRun.RunEq Rw (PySem.W.view Rw.prog [69]) hkL obL 4600 [("MarkError" : PySem.Str), ("NoNumber" : PySem.Str), ("divisor" : PySem.Str), ("lowest" : PySem.Str), ("plus" : PySem.Str), ("minus" : PySem.Str), ("times" : PySem.Str), ("over" : PySem.Str), ("under" : PySem.Str), ("floor_of" : PySem.Str), ("rounded" : PySem.Str), ("along_straight" : PySem.Str), ("back_straight" : PySem.Str), ("power_of" : PySem.Str), ("along_turns" : PySem.Str), ("back_turns" : PySem.Str), ("along_pieces" : PySem.Str), ("back_pieces" : PySem.Str), ("stretch_on" : PySem.Str), ("amid" : PySem.Str), ("along_order" : PySem.Str), ("place_on" : PySem.Str), ("read_on" : PySem.Str), ("ends_at" : PySem.Str), ("ceiling_of" : PySem.Str), ("day_belt" : PySem.Str), ("belt_at" : PySem.Str), ("_law_is_whole" : PySem.Str), ("_law_like" : PySem.Str), ("_law_pool" : PySem.Str), ("_law_take" : PySem.Str), ("_law_one" : PySem.Str), ("_law_tb_whole" : PySem.Str), ("_law_tb_common" : PySem.Str), ("_law_tb_made" : PySem.Str), ("_law_tb_plus" : PySem.Str), ("_law_tb_minus" : PySem.Str), ("_law_tb_times" : PySem.Str), ("_law_tb_over" : PySem.Str), ("_law_tb_less" : PySem.Str), ("_law_tb_floor" : PySem.Str), ("_law_tb_rounded" : PySem.Str), ("_law_tb_power" : PySem.Str), ("_law_tb_between" : PySem.Str), ("_law_tb_along" : PySem.Str), ("_law_tb_pieces" : PySem.Str), ("_law_tb_place" : PySem.Str), ("_law_tb_star_at" : PySem.Str), ("_law_tb_read" : PySem.Str), ("_law_tb_reach" : PySem.Str), ("_law_tb_belt" : PySem.Str), ("_law_tb_is_number" : PySem.Str), ("_law_tb_is_day" : PySem.Str), ("_law_tb_are_pieces" : PySem.Str), ("_law_tb_is_scale" : PySem.Str), ("_law_number_drawn" : PySem.Str), ("_law_step_drawn" : PySem.Str), ("_law_pieces_drawn" : PySem.Str), ("_law_scale_drawn" : PySem.Str), ("_law_alongs" : PySem.Str), ("_law_shows_at" : PySem.Str), ("_law_belt_right" : PySem.Str), ("_law_none_right" : PySem.Str), ("_law_scale_right" : PySem.Str)] w := by
  intro os
  kernel_rfl
theorem tx_of {K : PySem.W.Frag} {h : Heap} {mg : Str → Option Value} (X : K.In h) (G : h.Ns mainGlobals mg) (c : He.SaysD faL fnL K) : Tx K mg :=
  ⟨c, fun x q => He.glo_ok X G q, fun x q => He.free_ok X G q, fun x z q => He.str_ok X G q, fun x z q => He.int_ok X G q⟩
end Lw
open PySem PySem.W PySem.Calls PyProof.Rows
set_option maxHeartbeats 0 in
theorem PySem.Challenge.cw_twobytwo_k01_belts_of_places_holds : PySem.Challenge.rw_twobytwo_k01_belts_of_places.Holds := by
  w_on; o_law
  refine HandSHeadRun.head_any (r := OpenLaw.row PySem.Challenge.rw_twobytwo_k01_belts_of_places) (q := view (OpenLaw.row PySem.Challenge.rw_twobytwo_k01_belts_of_places).prog [69]) (H := Lw.hkL) (ob := Lw.obL) (M := 4600) (loose := [("MarkError" : PySem.Str), ("NoNumber" : PySem.Str), ("divisor" : PySem.Str), ("lowest" : PySem.Str), ("plus" : PySem.Str), ("minus" : PySem.Str), ("times" : PySem.Str), ("over" : PySem.Str), ("under" : PySem.Str), ("floor_of" : PySem.Str), ("rounded" : PySem.Str), ("along_straight" : PySem.Str), ("back_straight" : PySem.Str), ("power_of" : PySem.Str), ("along_turns" : PySem.Str), ("back_turns" : PySem.Str), ("along_pieces" : PySem.Str), ("back_pieces" : PySem.Str), ("stretch_on" : PySem.Str), ("amid" : PySem.Str), ("along_order" : PySem.Str), ("place_on" : PySem.Str), ("read_on" : PySem.Str), ("ends_at" : PySem.Str), ("ceiling_of" : PySem.Str), ("day_belt" : PySem.Str), ("belt_at" : PySem.Str), ("_law_is_whole" : PySem.Str), ("_law_like" : PySem.Str), ("_law_pool" : PySem.Str), ("_law_take" : PySem.Str), ("_law_one" : PySem.Str), ("_law_tb_whole" : PySem.Str), ("_law_tb_common" : PySem.Str), ("_law_tb_made" : PySem.Str), ("_law_tb_plus" : PySem.Str), ("_law_tb_minus" : PySem.Str), ("_law_tb_times" : PySem.Str), ("_law_tb_over" : PySem.Str), ("_law_tb_less" : PySem.Str), ("_law_tb_floor" : PySem.Str), ("_law_tb_rounded" : PySem.Str), ("_law_tb_power" : PySem.Str), ("_law_tb_between" : PySem.Str), ("_law_tb_along" : PySem.Str), ("_law_tb_pieces" : PySem.Str), ("_law_tb_place" : PySem.Str), ("_law_tb_star_at" : PySem.Str), ("_law_tb_read" : PySem.Str), ("_law_tb_reach" : PySem.Str), ("_law_tb_belt" : PySem.Str), ("_law_tb_is_number" : PySem.Str), ("_law_tb_is_day" : PySem.Str), ("_law_tb_are_pieces" : PySem.Str), ("_law_tb_is_scale" : PySem.Str), ("_law_number_drawn" : PySem.Str), ("_law_step_drawn" : PySem.Str), ("_law_pieces_drawn" : PySem.Str), ("_law_scale_drawn" : PySem.Str), ("_law_alongs" : PySem.Str), ("_law_shows_at" : PySem.Str), ("_law_belt_right" : PySem.Str), ("_law_none_right" : PySem.Str), ("_law_scale_right" : PySem.Str)]) (d := HandSHeadRun.topDef (OpenLaw.row PySem.Challenge.rw_twobytwo_k01_belts_of_places).prog 69) (kwd := []) Lw.obL_eq
    (by kernel_rfl) (fun s => by kernel_rfl) Lw.runL (by kernel_rfl) (by kernel_rfl) (by kernel_rfl) (by rfl) (by first | assumption | decide +kernel) (by decide +kernel) ⟨rfl, rfl, rfl, rfl, rfl, by decide +kernel⟩ ?hw ?hc
  case hw => w_witness2
  case hc =>
    refine Dn.walk_ofEB (l := PySem.Challenge.rw_twobytwo_k01_belts_of_places) (n := 63) (k := 66) (x := "script") (CX := fun w => L2.CX (PySem.Challenge.rw_twobytwo_k01_belts_of_places).prog w) rfl (by decide) (by kernel_rfl) ⟨rfl, by decide, by decide⟩ ?F (fun _ _ _ _ _ z => by obtain ⟨_, _, _, _, _, _, _, _, _, _, _, _, q⟩ := z; exact q)
    intro w mg fa h Y G hmg0
    obtain ⟨K, KX, c⟩ := Y
    have hmg : mg ("law" : PySem.Str) = some (.ref fa) := by
      have e : (HandSHeadRun.topDef (OpenLaw.row PySem.Challenge.rw_twobytwo_k01_belts_of_places).prog 69).name = ("law" : PySem.Str) := by kernel_rfl
      rw [← e]
      exact hmg0
    have T := Lw.tx_of KX G c
    have ef := hmg.symm.trans (Lw.g_law T)
    cases ef
    refine ⟨K, Lw.fd_law T, Dn.spD K (Dn.caK [] K) 1 Lw.m_law, KX, fun s v => (L2.FunD.bindsA (ps := ["script"]) (Lw.F_law T) fun _ _ _ _ _ _ us hl => match us, hl with | [_], _ => rfl) s [v] rfl, fun H a ns hl hb hS => ?_, fun base _ _ => Lw.ok_law T⟩
    obtain ⟨ls', e⟩ := Lw.law_true ns hl fun z hz => Dn.bits_lt (hb z hz)
    exact Dn.law_sp hS e
