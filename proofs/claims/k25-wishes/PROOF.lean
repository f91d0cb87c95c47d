import PyProof.Rows.All
import Wide.All
import OpenK.AllK
import Wide.FinOn
import HandS.ForMost
import HandS.ForExc
import HandS.Wide
import HandS.Walk
import HandS.CallSlots
import HandS.IsInst
import HandS.Style
import HandS.Deep
import HandS.Codes
import HandS.StrMore
import HandS.StrSplit
import HandS.WideBits
import HandS.TupAny
import HandS.NoneIn
import HandS.Defaults
import HandS.Head0
import HandS.Head1
import HandS.Head2
import HandS.HeadEnd
import HandS.HeadHook1
import HandS.HeadHook2
import HandS.EndBits
import HandS.WordsExc
import HandS.Comp
import HandS.More
import HandS.SortKw
import PyProof.WalkInts
import HandS.Strs
import PySem.Challenge.RW_twobytwo_k25_wishes
set_option Elab.async false
set_option linter.all false
set_option maxRecDepth 100000
set_option maxHeartbeats 4000000
namespace Dn
open PySem PySem.Spec PyProof.Rows L2

/-! ### data, cells, results -/
abbrev D := PyData
inductive L where
  | im (d : D)
  | ow (ds : List D)
  | bo (ds : List D)
def L.mu : L → Bool
  | .im _ => false
  | _ => true
abbrev En := List (Option L)
structure Exn where
  cls : String
  arg : Option (Str × D)
inductive R (α : Type) where
  | ok (a : α) (ρ : En)
  | ex (c : Exn) (ρ : En)
  | no
def R.bind {α β : Type} : R α → (α → En → R β) → R β
  | .ok a ρ, g => g a ρ
  | .ex c ρ, _ => .ex c ρ
  | .no, _ => .no

/-! ### how data stands in a heap -/
def kD : Key → PyData
  | .inl i => .int i
  | .inr s => .str s
mutual
inductive DR (K : PySem.W.Frag) (H : Hp) : V → PyData → Prop
  | non : DR K H .non .none
  | bl (b : Bool) : DR K H (.bl b) (.bool b)
  | int (i : Int) : DR K H (.int i) (.int i)
  | str (x : Str) : DR K H (.str x) (.str x)
  | lst {a : Addr} {xs : List V} {ds : List PyData} : SqL K H a xs → DRs K H xs ds → DR K H (.ref a) (.list ds)
  | tup {a : Addr} {xs : List V} {ds : List PyData} : SqT K H a xs → DRs K H xs ds → DR K H (.ref a) (.tuple ds)
  | dic {a : Addr} {kvs : List (Key × V)} {ds : List PyData} : H a = some (.dK kvs) → DRs K H (kvs.map (·.2)) ds → DR K H (.ref a) (.dict ((kvs.map fun p => kD p.1).zip ds))
inductive DRs (K : PySem.W.Frag) (H : Hp) : List V → List PyData → Prop
  | nil : DRs K H [] []
  | cons {v : V} {vs : List V} {d : PyData} {ds : List PyData} : DR K H v d → DRs K H vs ds → DRs K H (v :: vs) (d :: ds)
end

theorem Same.rd {H H' : Hp} {a : Addr} {o : HO} (e : Same H H') (h : Rd H a o) : Rd H' a o := by
  rcases h with h | ⟨o, h⟩
  · exact .inl (e _ _ h)
  · exact .inr ⟨o, e _ _ h⟩
theorem Same.tup {K : PySem.W.Frag} {H H' : Hp} {a : Addr} {xs : List V} (e : Same H H') (h : SqT K H a xs) : SqT K H' a xs := by
  rcases h with (h | ⟨o, h⟩) | h
  · exact .inl (.inl (e _ _ h))
  · exact .inl (.inr ⟨o, e _ _ h⟩)
  · exact .inr h
section
variable {K : PySem.W.Frag} {G H H' : Hp}
mutual
theorem DR.mono (e : Same H H') : ∀ {v : V} {d : PyData}, DR K H v d → DR K H' v d
  | _, _, .non => .non
  | _, _, .bl b => .bl b
  | _, _, .int i => .int i
  | _, _, .str x => .str x
  | _, _, .lst h hs => .lst (e.seq h) (DRs.mono e hs)
  | _, _, .tup h hs => .tup (Same.tup e h) (DRs.mono e hs)
  | _, _, .dic h hs => .dic (e _ _ h) (DRs.mono e hs)
theorem DRs.mono (e : Same H H') : ∀ {vs : List V} {ds : List PyData}, DRs K H vs ds → DRs K H' vs ds
  | _, _, .nil => .nil
  | _, _, .cons h t => .cons (DR.mono e h) (DRs.mono e t)
end
theorem DRs.length : ∀ {vs : List V} {ds : List PyData}, DRs K H vs ds → vs.length = ds.length
  | _, _, .nil => rfl
  | _, _, .cons _ t => by rw [List.length_cons, List.length_cons, DRs.length t]
theorem DRs.get : ∀ {vs : List V} {ds : List PyData} {i : Nat} {d : PyData}, DRs K H vs ds → ds[i]? = some d → ∃ v, vs[i]? = some v ∧ DR K H v d
  | _, _, _, _, .nil, e => by simp at e
  | _, _, 0, _, .cons h _, e => by simp at e; subst e; exact ⟨_, rfl, h⟩
  | _, _, i + 1, _, .cons _ t, e => by
    obtain ⟨v, h1, h2⟩ := DRs.get (i := i) t (by simpa using e)
    exact ⟨v, by simpa using h1, h2⟩
theorem DRs.append : ∀ {vs ws : List V} {ds es : List PyData}, DRs K H vs ds → DRs K H ws es → DRs K H (vs ++ ws) (ds ++ es)
  | _, _, _, _, .nil, s => s
  | _, _, _, _, .cons h t, s => .cons h (DRs.append t s)
theorem DRs.take : ∀ {vs : List V} {ds : List PyData} (n : Nat), DRs K H vs ds → DRs K H (vs.take n) (ds.take n)
  | _, _, 0, _ => .nil
  | _, _, _ + 1, .nil => .nil
  | _, _, n + 1, .cons h t => .cons h (DRs.take n t)
theorem DRs.drop : ∀ {vs : List V} {ds : List PyData} (n : Nat), DRs K H vs ds → DRs K H (vs.drop n) (ds.drop n)
  | _, _, 0, r => r
  | _, _, _ + 1, .nil => .nil
  | _, _, n + 1, .cons _ t => DRs.drop n t
theorem DRs.set {v : V} {d : PyData} (hv : DR K H v d) : ∀ {vs : List V} {ds : List PyData} (i : Nat), DRs K H vs ds → DRs K H (vs.set i v) (ds.set i d)
  | _, _, _, .nil => .nil
  | _, _, 0, .cons _ t => .cons hv t
  | _, _, i + 1, .cons h t => .cons h (DRs.set hv i t)
theorem DRs.erase : ∀ {vs : List V} {ds : List PyData} (i : Nat), DRs K H vs ds → DRs K H (vs.eraseIdx i) (ds.eraseIdx i)
  | _, _, _, .nil => .nil
  | _, _, 0, .cons _ t => t
  | _, _, i + 1, .cons h t => .cons h (DRs.erase i t)
theorem DRs.dropLast : ∀ {vs : List V} {ds : List PyData}, DRs K H vs ds → DRs K H vs.dropLast ds.dropLast := fun {vs ds} h => by
  rw [List.dropLast_eq_take, List.dropLast_eq_take, h.length]
  exact h.take _
theorem DRs.reverse : ∀ {vs : List V} {ds : List PyData}, DRs K H vs ds → DRs K H vs.reverse ds.reverse
  | _, _, .nil => .nil
  | _, _, .cons h t => by
    rw [List.reverse_cons, List.reverse_cons]
    exact DRs.append (DRs.reverse t) (.cons h .nil)
theorem DRs.ints : ∀ {vs : List V} {ns : List Int}, DRs K H vs (ns.map PyData.int) → vs = ns.map V.int
  | _, [], .nil => rfl
  | _, n :: r, .cons h t => by
    cases h
    rw [DRs.ints t]
    rfl
theorem DRs.ofInts : ∀ (ns : List Int), DRs K H (ns.map V.int) (ns.map PyData.int)
  | [] => .nil
  | n :: r => .cons (.int n) (DRs.ofInts r)
theorem DRs.strs : ∀ {vs : List V} {ns : List Str}, DRs K H vs (ns.map PyData.str) → vs = ns.map V.str
  | _, [], .nil => rfl
  | _, n :: r, .cons h t => by
    cases h
    rw [DRs.strs t]
    rfl
theorem DRs.ofStrs : ∀ (ns : List Str), DRs K H (ns.map V.str) (ns.map PyData.str)
  | [] => .nil
  | n :: r => .cons (.str n) (DRs.ofStrs r)
theorem DRs.bools : ∀ {vs : List V} {ns : List Bool}, DRs K H vs (ns.map PyData.bool) → vs = ns.map V.bl
  | _, [], .nil => rfl
  | _, n :: r, .cons h t => by
    cases h
    rw [DRs.bools t]
    rfl
end

/-! ### the frame's relation -/
def cellR (K : PySem.W.Frag) (G H : Hp) (v : V) : L → Prop
  | .im d => DR K G v d
  | .ow ds => ∃ o vs, v = .ref o ∧ G o = none ∧ H o = some (.lst vs) ∧ DRs K G vs ds
  | .bo ds => ∃ o vs, v = .ref o ∧ G o = none ∧ H o = some (.lst vs) ∧ DRs K G vs ds
/-- the mutable ones' addresses -/
def Own (σ : L2.St) (ρ : En) (a : Addr) : Prop := ∃ (i : Nat) (l : L), ρ[i]? = some (some l) ∧ l.mu = true ∧ σ[i]? = some (some (V.ref a))
structure Rel (K : PySem.W.Frag) (G H : Hp) (σ : L2.St) (ρ : En) : Prop where
  sub : Same G H
  len : σ.length = ρ.length
  cell : ∀ (i : Nat) (l : L), ρ[i]? = some (some l) → ∃ v, σ[i]? = some (some v) ∧ cellR K G H v l
  apart : ∀ (i j : Nat) (l m : L) (a : Addr), ρ[i]? = some (some l) → ρ[j]? = some (some m) → l.mu = true → m.mu = true → σ[i]? = some (some (V.ref a)) → σ[j]? = some (some (V.ref a)) → i = j
structure Stp (G H : Hp) (σ : L2.St) (ρ : En) (G' H' : Hp) (σ' : L2.St) (ρ' : En) : Prop where
  g : Same G G'
  h : ∀ a o, H a = some o → ¬ Own σ ρ a → H' a = some o
  fr : ∀ a, G' a ≠ none → G a ≠ none ∨ H a = none ∨ Own σ ρ a
  ow : ∀ a, Own σ' ρ' a → Own σ ρ a ∨ H a = none
  tr : ∀ a, H a ≠ none → H' a ≠ none
  ln : ρ'.length = ρ.length
  bo : ∀ (i : Nat) (ds : List D), ρ[i]? = some (some (L.bo ds)) → σ'[i]? = σ[i]? ∧ ∃ ds', ρ'[i]? = some (some (L.bo ds'))

section
variable {K : PySem.W.Frag} {G H G1 H1 G2 H2 : Hp} {σ σ1 σ2 : L2.St} {ρ ρ1 ρ2 : En}
theorem tracked_upd {p : Addr} {o : HO} : ∀ a, H a ≠ none → upd H p o a ≠ none := fun a h => by
  by_cases e : a = p
  · subst e; rw [upd_same]; exact fun z => nomatch z
  · rw [upd_ne e]; exact h
theorem mu_cell {v : V} {l : L} (h : cellR K G H v l) (m : l.mu = true) : ∃ o vs, v = .ref o ∧ G o = none ∧ H o = some (.lst vs) := by
  cases l with
  | im d => cases m
  | ow ds => obtain ⟨o, vs, e, g, q, _⟩ := h; exact ⟨o, vs, e, g, q⟩
  | bo ds => obtain ⟨o, vs, e, g, q, _⟩ := h; exact ⟨o, vs, e, g, q⟩
theorem Rel.own (r : Rel K G H σ ρ) {a : Addr} (h : Own σ ρ a) : G a = none ∧ ∃ vs, H a = some (.lst vs) := by
  obtain ⟨i, l, e, m, s⟩ := h
  obtain ⟨v, s', c⟩ := r.cell i l e
  rw [s] at s'
  cases s'
  obtain ⟨o, vs, e, g, q⟩ := mu_cell c m
  cases e
  exact ⟨g, vs, q⟩
theorem Stp.refl : Stp G H σ ρ G H σ ρ := ⟨Same.refl _, fun _ _ h _ => h, fun _ h => .inl h, fun _ h => .inl h, fun _ h => h, rfl, fun _ ds h => ⟨rfl, ds, h⟩⟩
theorem Stp.trans (r : Rel K G H σ ρ) (a : Stp G H σ ρ G1 H1 σ1 ρ1) (b : Stp G1 H1 σ1 ρ1 G2 H2 σ2 ρ2) : Stp G H σ ρ G2 H2 σ2 ρ2 := by
  refine ⟨a.g.trans b.g, fun x o h n => ?_, fun x h => ?_, fun x h => ?_, fun x h => b.tr x (a.tr x h), b.ln.trans a.ln, fun i ds h => ?_⟩
  · refine b.h x o (a.h x o h n) fun h1 => ?_
    rcases a.ow x h1 with z | z
    · exact n z
    · rw [h] at z; cases z
  · by_cases hx : Own σ ρ x
    · exact .inr (.inr hx)
    · rcases b.fr x h with z | z | z
      · exact a.fr x z
      · cases q : H x with
        | none => exact .inr (.inl rfl)
        | some o => rw [a.h x o q hx] at z; cases z
      · rcases a.ow x z with z | z
        · exact .inr (.inr z)
        · exact .inr (.inl z)
  · by_cases hx : Own σ ρ x
    · exact .inl hx
    · rcases b.ow x h with z | z
      · exact a.ow x z
      · cases q : H x with
        | none => exact .inr rfl
        | some o => rw [a.h x o q hx] at z; cases z
  · obtain ⟨e1, ds1, h1⟩ := a.bo i ds h
    obtain ⟨e2, ds2, h2⟩ := b.bo i ds1 h1
    exact ⟨e2.trans e1, ds2, h2⟩
/-- what the immutable part knows stays -/
theorem Rel.g_h (r : Rel K G H σ ρ) : Same G H := r.sub
/-- a new immutable object -/
theorem Rel.laid (r : Rel K G H σ ρ) {p : Addr} {o : HO} (hp : H p = none) : Rel K (upd G p o) (upd H p o) σ ρ ∧ Stp G H σ ρ (upd G p o) (upd H p o) σ ρ := by
  have hg : G p = none := Same.free r.sub hp
  have sg : Same G (upd G p o) := fun b x e => by rw [upd_ne (ne_of_none e hg)]; exact e
  have sh : Same H (upd H p o) := fun b x e => by rw [upd_ne (ne_of_none e hp)]; exact e
  refine ⟨⟨fun b x e => ?_, r.len, fun i l e => ?_, r.apart⟩, ⟨sg, fun a x e _ => sh a x e, fun a h => ?_, fun a h => .inl h, tracked_upd, rfl, fun i ds h => ⟨rfl, ds, h⟩⟩⟩
  · by_cases hb : b = p
    · subst hb; rw [upd_same] at e; rw [upd_same]; exact e
    · rw [upd_ne hb] at e; rw [upd_ne hb]; exact r.sub b x e
  · obtain ⟨v, s, c⟩ := r.cell i l e
    refine ⟨v, s, ?_⟩
    cases l with
    | im d => exact DR.mono sg c
    | ow ds =>
      obtain ⟨q, vs, e, g, hq, hd⟩ := c
      exact ⟨q, vs, e, by rw [upd_ne (ne_of_none hq hp)]; exact g, sh _ _ hq, DRs.mono sg hd⟩
    | bo ds =>
      obtain ⟨q, vs, e, g, hq, hd⟩ := c
      exact ⟨q, vs, e, by rw [upd_ne (ne_of_none hq hp)]; exact g, sh _ _ hq, DRs.mono sg hd⟩
  · by_cases ha : a = p
    · subst ha; exact .inr (.inl hp)
    · rw [upd_ne ha] at h; exact .inl h
/-- a new mutable object, not yet at a slot -/
theorem Rel.laidM (r : Rel K G H σ ρ) {p : Addr} {o : HO} (hp : H p = none) : Rel K G (upd H p o) σ ρ ∧ Stp G H σ ρ G (upd H p o) σ ρ := by
  have sh : Same H (upd H p o) := fun b x e => by rw [upd_ne (ne_of_none e hp)]; exact e
  refine ⟨⟨fun b x e => sh b x (r.sub b x e), r.len, fun i l e => ?_, r.apart⟩, ⟨Same.refl _, fun a x e _ => sh a x e, fun a h => .inl h, fun a h => .inl h, tracked_upd, rfl, fun i ds h => ⟨rfl, ds, h⟩⟩⟩
  obtain ⟨v, s, c⟩ := r.cell i l e
  refine ⟨v, s, ?_⟩
  cases l with
  | im d => exact c
  | ow ds =>
    obtain ⟨q, vs, e, g, hq, hd⟩ := c
    exact ⟨q, vs, e, g, sh _ _ hq, hd⟩
  | bo ds =>
    obtain ⟨q, vs, e, g, hq, hd⟩ := c
    exact ⟨q, vs, e, g, sh _ _ hq, hd⟩
end
end Dn
namespace Dn
open PySem PySem.Spec PyProof.Rows L2

theorem PE.imp {X : Cx} {e : Expr} {t t' : TE} (h : PE X e t) (i : ∀ σ H Q, t' σ H Q → t σ H Q) : PE X e t' := ⟨fun pins s σ H Q I q => h.run pins s σ H Q I (i _ _ _ q)⟩
theorem PT.imp {X : Cx} {e : Expr} {t t' : TT} (h : PT X e t) (i : ∀ σ H Q, t' σ H Q → t σ H Q) : PT X e t' := ⟨fun pins s σ H Q I q => h.run pins s σ H Q I (i _ _ _ q)⟩
theorem PW.imp {X : Cx} {e : Expr} {t t' : TT} (h : PW X e t) (i : ∀ σ H Q, t' σ H Q → t σ H Q) : PW X e t' := ⟨fun w pins s σ H Q I q => h.run w pins s σ H Q I (i _ _ _ q)⟩
theorem PA.imp {X : Cx} {es : List Expr} {t t' : TA} (h : PA X es t) (i : ∀ σ H Q, t' σ H Q → t σ H Q) : PA X es t' := ⟨fun p pins s σ H Q I q => h.run p pins s σ H Q I (i _ _ _ q)⟩
theorem PS.imp {X : Cx} {e : Stmt} {t t' : TS} (h : PS X e t) (i : ∀ D σ H, t' D σ H → t D σ H) : PS X e t' := ⟨fun pins s σ H D I q => h.run pins s σ H D I (i _ _ _ q)⟩
theorem PSs.imp {X : Cx} {e : List Stmt} {t t' : TS} (h : PSs X e t) (i : ∀ D σ H, t' D σ H → t D σ H) : PSs X e t' := ⟨fun pins s σ H D I q => h.run pins s σ H D I (i _ _ _ q)⟩
theorem PO.imp {X : Cx} {e : Option Expr} {t t' : TO} (h : PO X e t) (i : ∀ σ H Q, t' σ H Q → t σ H Q) : PO X e t' := ⟨fun pins s σ H Q I q => h.run pins s σ H Q I (i _ _ _ q)⟩

/-! ### what is wanted: of exceptions too -/
structure Wh where
  ca : String → Option Value
  W : WX
/-- an exception as it lies -/
structure ExR (K : PySem.W.Frag) (w : Wh) (G H : Hp) (c : Exn) (cls : Value) (dx : Option Addr) : Prop where
  hc : w.ca c.cls = some cls
  hn : c.arg = none → dx = none ∨ ∃ n, cls = Value.type n
  hs : ∀ f d, c.arg = some (f, d) → ∃ a v, dx = some a ∧ H a = some (.xd [(f, v)]) ∧ DR K G v d
section
variable {α β : Type}
def Fn (K : PySem.W.Frag) (w : Wh) (G H : Hp) (σ : L2.St) (ρ : En) (r : R α) (P : Hp → Hp → En → α → Prop) : Prop :=
  match r with
  | .no => False
  | .ok a ρ' => ∀ G' H', Rel K G' H' σ ρ' → Stp G H σ ρ G' H' σ ρ' → P G' H' ρ' a
  | .ex c ρ' => ∀ G' H' cls dx, Rel K G' H' σ ρ' → Stp G H σ ρ G' H' σ ρ' → ExR K w G' H' c cls dx → w.W cls dx σ H'
variable {K : PySem.W.Frag} {w : Wh} {G H : Hp} {σ : L2.St} {ρ : En}
theorem Fn.imp {r : R α} {P P' : Hp → Hp → En → α → Prop} (h : Fn K w G H σ ρ r P) (i : ∀ G' H' ρ' a, P G' H' ρ' a → P' G' H' ρ' a) : Fn K w G H σ ρ r P' := by
  cases r with
  | no => exact h
  | ok a ρ' => exact fun G' H' r s => i _ _ _ _ (h G' H' r s)
  | ex c ρ' => exact h
theorem Fn.bind {r : R α} {g : α → En → R β} {P : Hp → Hp → En → β → Prop} (rel : Rel K G H σ ρ) (h : Fn K w G H σ ρ (r.bind g) P) :
    Fn K w G H σ ρ r (fun G1 H1 ρ1 a => Rel K G1 H1 σ ρ1 ∧ Stp G H σ ρ G1 H1 σ ρ1 ∧ Fn K w G1 H1 σ ρ1 (g a ρ1) P) := by
  cases r with
  | no => exact h
  | ex c ρ' => exact h
  | ok a ρ' =>
    intro G1 H1 r1 s1
    refine ⟨r1, s1, ?_⟩
    have h' : Fn K w G H σ ρ (g a ρ') P := h
    cases q : g a ρ' with
    | no => rw [q] at h'; exact h'
    | ex c ρ2 => rw [q] at h'; exact fun G' H' cls dx r2 s2 => h' G' H' cls dx r2 (s1.trans rel s2)
    | ok b ρ2 => rw [q] at h'; exact fun G' H' r2 s2 => h' G' H' r2 (s1.trans rel s2)
def lift (o : Option α) (ρ : En) : R α := match o with
  | some a => .ok a ρ
  | none => .no
theorem Fn.lift {o : Option α} {P : Hp → Hp → En → α → Prop} (h : Fn K w G H σ ρ (lift o ρ) P) : ∃ a, o = some a ∧ ∀ G' H', Rel K G' H' σ ρ → Stp G H σ ρ G' H' σ ρ → P G' H' ρ a := by
  cases o with
  | none => exact h.elim
  | some a => exact ⟨a, rfl, h⟩
theorem Fn.ok {a : α} {P : Hp → Hp → En → α → Prop} (h : Fn K w G H σ ρ (.ok a ρ) P) (rel : Rel K G H σ ρ) : P G H ρ a := h G H rel Stp.refl
end

/-! ### the judgements -/
/-- what is wanted of a value -/
abbrev QD (K : PySem.W.Frag) (Q : VK) : Hp → Hp → En → D → Prop := fun G' H' _ d => ∀ v, DR K G' v d → Q v H'
abbrev QB (Q : Bool → Hp → Prop) : Hp → Hp → En → Bool → Prop := fun _ H' _ b => Q b H'
/-- a new list, nobody else's -/
structure NewL (K : PySem.W.Frag) (H : Hp) (σ : L2.St) (G' H' : Hp) (ρ' : En) (p : Addr) (ds : List D) : Prop where
  g : G' p = none
  own : ¬ Own σ ρ' p
  here : ∃ vs, H' p = some (.lst vs) ∧ DRs K G' vs ds
  new : H p = none
abbrev QN (K : PySem.W.Frag) (H : Hp) (σ : L2.St) (Q : VK) : Hp → Hp → En → List D → Prop := fun G' H' ρ' ds => ∀ p, NewL K H σ G' H' ρ' p ds → Q (.ref p) H'
/-- an argument: a value, or a slot lent -/
inductive AV where
  | im (d : D)
  | sl (i : Nat)
inductive AVs (K : PySem.W.Frag) (G : Hp) (σ : L2.St) : List V → List AV → Prop
  | nil : AVs K G σ [] []
  | im {v : V} {vs : List V} {d : D} {as : List AV} : DR K G v d → AVs K G σ vs as → AVs K G σ (v :: vs) (.im d :: as)
  | sl {v : V} {vs : List V} {i : Nat} {as : List AV} : σ[i]? = some (some v) → AVs K G σ vs as → AVs K G σ (v :: vs) (.sl i :: as)
abbrev QA (K : PySem.W.Frag) (σ : L2.St) (Q : List V → Hp → Prop) : Hp → Hp → En → List AV → Prop := fun G' H' _ as => ∀ vs, AVs K G' σ vs as → Q vs H'
abbrev QO (Q : Option Int → Hp → Prop) : Hp → Hp → En → Option Int → Prop := fun _ H' _ b => Q b H'

abbrev teD (K : PySem.W.Frag) (w : Wh) (f : En → R D) : TE := fun σ H Q => ∃ G ρ, Rel K G H σ ρ ∧ Fn K w G H σ ρ (f ρ) (QD K Q)
abbrev teN (K : PySem.W.Frag) (w : Wh) (f : En → R (List D)) : TE := fun σ H Q => ∃ G ρ, Rel K G H σ ρ ∧ Fn K w G H σ ρ (f ρ) (QN K H σ Q)
abbrev teB (K : PySem.W.Frag) (w : Wh) (f : En → R Bool) : TT := fun σ H Q => ∃ G ρ, Rel K G H σ ρ ∧ Fn K w G H σ ρ (f ρ) (QB Q)
abbrev teA (K : PySem.W.Frag) (w : Wh) (f : En → R (List AV)) : TA := fun σ H Q => ∃ G ρ, Rel K G H σ ρ ∧ Fn K w G H σ ρ (f ρ) (QA K σ Q)
abbrev teO (K : PySem.W.Frag) (w : Wh) (f : En → R (Option Int)) : TO := fun σ H Q => ∃ G ρ, Rel K G H σ ρ ∧ Fn K w G H σ ρ (f ρ) (QO Q)
abbrev VE (X : Cx) (w : Wh) (e : Expr) (f : En → R D) : Prop := PE X e (teD X.K w f)
abbrev VN (X : Cx) (w : Wh) (e : Expr) (f : En → R (List D)) : Prop := PE X e (teN X.K w f)
abbrev VT (X : Cx) (w : Wh) (e : Expr) (f : En → R Bool) : Prop := PT X e (teB X.K w f)
abbrev VW (X : Cx) (w : Wh) (e : Expr) (f : En → R Bool) : Prop := PW X e (teB X.K w f)
abbrev VA (X : Cx) (w : Wh) (es : List Expr) (f : En → R (List AV)) : Prop := PA X es (teA X.K w f)
abbrev VO (X : Cx) (w : Wh) (e : Option Expr) (f : En → R (Option Int)) : Prop := PO X e (teO X.K w f)

/-! ### names and constants -/
def frz (i : Nat) (ds : List D) (ρ : En) : En := ρ.set i (some (.im (.list ds)))
def dVar (i : Nat) : En → R D := fun ρ => match ρ[i]? with
  | some (some (.im d)) => .ok d ρ
  | some (some (.ow ds)) => .ok (.list ds) (frz i ds ρ)
  | _ => .no
def dC (d : D) : En → R D := fun ρ => .ok d ρ
section
variable {K : PySem.W.Frag} {G H : Hp} {σ : L2.St} {ρ : En}
/-- a slot's list becomes a datum -/
theorem Rel.freeze (r : Rel K G H σ ρ) {i : Nat} {ds : List D} (h : ρ[i]? = some (some (L.ow ds))) :
    ∃ G' o, σ[i]? = some (some (V.ref o)) ∧ Rel K G' H σ (frz i ds ρ) ∧ Stp G H σ ρ G' H σ (frz i ds ρ) ∧ DR K G' (.ref o) (.list ds) := by
  obtain ⟨v, s, c⟩ := r.cell i _ h
  obtain ⟨o, vs, rfl, g, q, hd⟩ := c
  have hi : i < ρ.length := (List.getElem?_eq_some_iff.mp h).1
  have sg : Same G (upd G o (.lst vs)) := fun b x e => by rw [upd_ne (ne_of_none e g)]; exact e
  have own_o : Own σ ρ o := ⟨i, _, h, rfl, s⟩
  have lk : ∀ j, j ≠ i → (frz i ds ρ)[j]? = ρ[j]? := fun j hj => by
    unfold frz; rw [List.getElem?_set_ne (Ne.symm hj)]
  have lki : (frz i ds ρ)[i]? = some (some (.im (.list ds))) := by
    unfold frz; rw [List.getElem?_set_self hi]
  have hDR : DR K (upd G o (.lst vs)) (.ref o) (.list ds) := .lst (.inl (.inl upd_same)) (DRs.mono sg hd)
  refine ⟨upd G o (.lst vs), o, s, ⟨fun b x e => ?_, ?_, fun j l e => ?_, fun j k l m a ej ek lj mk sj sk => ?_⟩, ⟨sg, fun a x e _ => e, fun a ha => ?_, fun a ha => .inl ?_, fun _ h => h, by unfold frz; rw [List.length_set], fun j es e => ⟨rfl, ?_⟩⟩, hDR⟩
  · by_cases hb : b = o
    · subst hb; rw [upd_same] at e; cases e; exact q
    · rw [upd_ne hb] at e; exact r.sub b x e
  · unfold frz; rw [List.length_set]; exact r.len
  · by_cases hj : j = i
    · subst hj; rw [lki] at e; cases e
      exact ⟨_, s, hDR⟩
    · rw [lk j hj] at e
      obtain ⟨v, s', c⟩ := r.cell j l e
      refine ⟨v, s', ?_⟩
      have away : ∀ o', v = V.ref o' → l.mu = true → o' ≠ o := fun o' ev ml eo => by
        subst ev; subst eo
        exact hj (r.apart j i l _ o' e h ml rfl s' s)
      cases l with
      | im d => exact DR.mono sg c
      | ow es =>
        obtain ⟨o', ws, rfl, g', q', hd'⟩ := c
        exact ⟨o', ws, rfl, by rw [upd_ne (away o' rfl rfl)]; exact g', q', DRs.mono sg hd'⟩
      | bo es =>
        obtain ⟨o', ws, rfl, g', q', hd'⟩ := c
        exact ⟨o', ws, rfl, by rw [upd_ne (away o' rfl rfl)]; exact g', q', DRs.mono sg hd'⟩
  · have hj : j ≠ i := fun z => by subst z; rw [lki] at ej; cases ej; cases lj
    have hk : k ≠ i := fun z => by subst z; rw [lki] at ek; cases ek; cases mk
    rw [lk j hj] at ej
    rw [lk k hk] at ek
    exact r.apart j k l m a ej ek lj mk sj sk
  · by_cases hb : a = o
    · subst hb; exact .inr (.inr own_o)
    · rw [upd_ne hb] at ha; exact .inl ha
  · obtain ⟨j, l, e, m, s'⟩ := ha
    have hj : j ≠ i := fun z => by subst z; rw [lki] at e; cases e; cases m
    rw [lk j hj] at e
    exact ⟨j, l, e, m, s'⟩
  · have hj : j ≠ i := fun z => by subst z; rw [h] at e; cases e
    exact ⟨es, by rw [lk j hj]; exact e⟩
end
section
variable {X : Cx} {w : Wh}
theorem ve_var (i : Nat) {x : Str} {pos : Pos} (hN : X.N[i]? = some x := by rfl) (hv : Vis X.env.scope x := by first | exact Or.inl rfl | exact Or.inr (Or.inl rfl) | exact Or.inr (Or.inr rfl)) (hd : (x == ("__debug__" : Str)) = false := by decide)
    (hcd : (x == ("__classdict__" : Str)) = false := by decide) : VE X w (.Name x pos) (dVar i) := by
  refine PE.imp (pe_var hN hv hd hcd) fun σ H Q ⟨G, ρ, r, h⟩ => ?_
  unfold dVar at h
  cases e : ρ[i]? with
  | none => rw [e] at h; exact h.elim
  | some o =>
    rw [e] at h
    cases o with
    | none => exact h.elim
    | some l =>
      cases l with
      | im d =>
        obtain ⟨v, s, c⟩ := r.cell i _ e
        exact ⟨v, s, h.ok r v c⟩
      | ow ds =>
        obtain ⟨G', o, s, r', st, hd⟩ := r.freeze e
        exact ⟨.ref o, s, h G' H r' st _ hd⟩
      | bo ds => exact h.elim
theorem ve_int {i : Int} {j : Nat} {pos : Pos} : VE X w (.Constant (.int i) j pos) (dC (.int i)) := PE.imp pe_int fun _ _ _ ⟨_, _, r, h⟩ => h.ok r _ (.int i)
end
end Dn
namespace Dn
open PySem PySem.Spec PyProof.Rows L2

/-! ### what operators do to data -/
def gAdd : D → D → Option D
  | .int i, .int j => some (.int (i + j))
  | .str a, .str b => if a.length + b.length ≤ sizeLine then some (.str (a ++ b)) else none
  | .list a, .list b => if a.length + b.length ≤ sizeLine then some (.list (a ++ b)) else none
  | .tuple a, .tuple b => if a.length + b.length ≤ sizeLine then some (.tuple (a ++ b)) else none
  | _, _ => none
def gSub : D → D → Option D
  | .int i, .int j => some (.int (i - j))
  | _, _ => none
def gMul : D → D → Option D
  | .int i, .int j => if i.natAbs.log2 + j.natAbs.log2 < 100000000 then some (.int (i * j)) else none
  | _, _ => none
def gFdiv : D → D → Option D
  | .int i, .int j => if j ≠ 0 ∧ j.natAbs.log2 < 9000 then some (.int (i.fdiv j)) else none
  | _, _ => none
def gMod : D → D → Option D
  | .int i, .int j => if j ≠ 0 then some (.int (i.fmod j)) else none
  | _, _ => none
def gPow : D → D → Option D
  | .int i, .int j => if 0 ≤ j ∧ j ≤ 1000000 ∧ i.natAbs < 2 ^ 64 then some (.int (i ^ j.toNat)) else none
  | _, _ => none
def OpS (K : PySem.W.Frag) (r : R2) (g : D → D → Option D) : Prop :=
  ∀ (w : Wh) (x y : V) (dx dy d : D) (G H : Hp) (σ : L2.St) (ρ : En) (Q : VK), Rel K G H σ ρ → DR K G x dx → DR K G y dy → g dx dy = some d →
    (∀ G' H', Rel K G' H' σ ρ → Stp G H σ ρ G' H' σ ρ → ∀ v, DR K G' v d → Q v H') → r x y H Q
def dOp (g : D → D → Option D) (fa fb : En → R D) : En → R D := fun ρ => (fa ρ).bind fun x ρ1 => (fb ρ1).bind fun y ρ2 => lift (g x y) ρ2
section
variable {K : PySem.W.Frag} {G H : Hp} {σ : L2.St} {ρ : En}
/-- a new immutable thing is handed on -/
theorem hand_new (r : Rel K G H σ ρ) {Q : VK} {d : D} (q : ∀ G' H', Rel K G' H' σ ρ → Stp G H σ ρ G' H' σ ρ → ∀ v, DR K G' v d → Q v H') {o : HO}
    (mk : ∀ p, H p = none → DR K (upd G p o) (.ref p) d) : ∀ p, H p = none → Q (.ref p) (upd H p o) := fun p hp => by
  obtain ⟨r', s'⟩ := r.laid (o := o) hp
  exact q _ _ r' s' _ (mk p hp)
theorem same_laid (r : Rel K G H σ ρ) {p : Addr} {o : HO} (hp : H p = none) : Same G (upd G p o) := (r.laid (o := o) hp).2.g
theorem DR.newT (r : Rel K G H σ ρ) {vs : List V} {ds : List D} (h : DRs K G vs ds) : ∀ p, H p = none → DR K (upd G p (.tup vs)) (.ref p) (.tuple ds) := fun p hp =>
  .tup (.inl (.inl upd_same)) (h.mono (same_laid r hp))
theorem DR.newL (r : Rel K G H σ ρ) {vs : List V} {ds : List D} (h : DRs K G vs ds) : ∀ p, H p = none → DR K (upd G p (.lst vs)) (.ref p) (.list ds) := fun p hp =>
  .lst (.inl (.inl upd_same)) (h.mono (same_laid r hp))
end
section
variable {X : Cx} {w : Wh}
/-- lists that are read -/
def rCatR (K : PySem.W.Frag) : R2 := fun x y H Q => ∃ l b xs zs, x = .ref l ∧ y = .ref b ∧ SqL K H l xs ∧ SqL K H b zs ∧ xs.length + zs.length ≤ sizeLine ∧ ∀ p, H p = none → Q (.ref p) (upd H p (.lst (xs ++ zs)))
theorem op_catR : OpR X (binaryOp .Add) (rCatR X.K) := by
  intro pins s σ H x y v u Q I rx ry h
  obtain ⟨l, b, xs, zs, rfl, rfl, hH, hB, hz, q⟩ := h
  cases rx
  cases ry
  obtain ⟨its, r, ⟨⟨cls, dd, data, sl⟩, n, ho, hc, hdn, hd⟩, z⟩ := I.list hH
  obtain ⟨its2, r2, ⟨⟨cls2, dd2, data2, sl2⟩, n2, ho2, hc2, hdn2, hd2⟩, z2⟩ := I.list hB
  simp only at hc hd hc2 hd2
  subst hc hd hc2 hd2
  have hl := r.length
  have hl2 := r2.length
  have ea : its.toArray ++ its2.toArray = (its ++ its2).toArray := by simp
  refine concat_meets ⟨_, ho, rfl⟩ ⟨_, ho2, rfl⟩ noFill_list_add seq_list_add PySem.F.slot_list_add PySem.F.entry_list_add (PySem.F.args_list_add_2 _ _) (list_addW l b its.toArray its2.toArray n n2 dd dd2 sl sl2 (by rw [List.size_toArray, List.size_toArray]; omega)) ⟨ho, ho2, ?_⟩
  rw [ea]
  exact ⟨.ref _, _, I.lnew (t' := s.toks) (r.append r2) (by rw [List.length_append]; omega), rfl, q _ I.fresh⟩
def rAddA (K : PySem.W.Frag) : R2 := fun x y H Q => (∃ i j, x = .int i ∧ y = .int j ∧ Q (.int (i + j)) H) ∨ (∃ i j, x = .str i ∧ y = .str j ∧ i.length + j.length ≤ sizeLine ∧ Q (.str (i ++ j)) H) ∨ rCatR K x y H Q ∨ rCatA K x y H Q
theorem op_addA : OpR X (binaryOp .Add) (rAddA X.K) := op_add.or (op_add_str.or (op_catR.or op_catA))
theorem os_add : OpS X.K (rAddA X.K) gAdd := by
  intro w x y dx dy d G H σ ρ Q r hx hy e q
  cases hx with
  | int i =>
    cases hy with
    | int j => cases e; exact .inl ⟨i, j, rfl, rfl, q _ _ r Stp.refl _ (.int _)⟩
    | _ => cases e
  | str a =>
    cases hy with
    | str b =>
      simp only [gAdd] at e
      split at e
      · cases e; exact .inr (.inl ⟨a, b, rfl, rfl, ‹_›, q _ _ r Stp.refl _ (.str _)⟩)
      · cases e
    | _ => cases e
  | @lst a xs ds h hs =>
    cases hy with
    | @lst b ys es h' hs' =>
      simp only [gAdd] at e
      split at e
      · rename_i hz
        cases e
        refine .inr (.inr (.inl ⟨a, b, xs, ys, rfl, rfl, r.sub.seq h, r.sub.seq h', ?_, hand_new r q (DR.newL r (hs.append hs'))⟩))
        rw [hs.length, hs'.length]; exact hz
      · cases e
    | _ => cases e
  | @tup a xs ds h hs =>
    cases hy with
    | @tup b ys es h' hs' =>
      simp only [gAdd] at e
      split at e
      · rename_i hz
        cases e
        refine .inr (.inr (.inr ⟨a, b, xs, ys, rfl, rfl, Same.tup r.sub h, Same.tup r.sub h', ?_, fun hn => ?_, fun _ hn => ?_, fun _ _ => hand_new r q (DR.newT r (hs.append hs'))⟩))
        · rw [hs.length, hs'.length]; exact hz
        · subst hn; cases hs
          rw [List.nil_append] at q
          exact q _ _ r Stp.refl _ (.tup h' hs')
        · subst hn; cases hs'
          rw [List.append_nil] at q
          exact q _ _ r Stp.refl _ (.tup h hs)
      · cases e
    | _ => cases e
  | _ => cases e
/-- ints alone -/
theorem os_int {C : Int → Int → Prop} {g : Int → Int → Int} {gd : D → D → Option D} {K : PySem.W.Frag} (hg : ∀ a b d, gd a b = some d → ∃ i j, a = .int i ∧ b = .int j ∧ C i j ∧ d = .int (g i j)) : OpS K (rI C fun i j => .int (g i j)) gd := by
  intro w x y dx dy d G H σ ρ Q r hx hy e q
  obtain ⟨i, j, rfl, rfl, c, rfl⟩ := hg _ _ _ e
  cases hx
  cases hy
  exact ⟨i, j, rfl, rfl, c, q _ _ r Stp.refl _ (.int _)⟩
theorem op_subA : OpR X (binaryOp .Sub) (rI (fun _ _ => True) fun i j => .int (i - j)) := opI fun _ _ _ _ _ _ _ _ q => sub_int q
theorem os_sub {K : PySem.W.Frag} : OpS K (rI (fun _ _ => True) fun i j => .int (i - j)) gSub := os_int fun a b d e => by
  cases a <;> cases b <;> first | (cases e; done) | (cases e; exact ⟨_, _, rfl, rfl, trivial, rfl⟩)
theorem mulX_log {i j : Int} (h : i.natAbs.log2 + j.natAbs.log2 < 100000000) : CMulX i j :=
  mulx_ok (a := i.natAbs.log2 + 1) (b := j.natAbs.log2 + 1) Nat.lt_log2_self Nat.lt_log2_self (by omega)
theorem os_mul {K : PySem.W.Frag} : OpS K (rI CMulX fun i j => .int (i * j)) gMul := os_int fun a b d e => by
  cases a <;> cases b <;> first | (cases e; done) | (simp only [gMul] at e; split at e <;> cases e; exact ⟨_, _, rfl, rfl, mulX_log ‹_›, rfl⟩)
def CDivX (_ j : Int) : Prop := j ≠ 0 ∧ j.natAbs.log2 < 9000
theorem op_fdivX : OpR X (binaryOp .FloorDiv) (rI CDivX fun i j => .int (i.fdiv j)) := opI fun _ _ _ _ _ _ _ hc q => floordiv_int hc.1 q (.inl (PyProof.noPylong_of_log2 hc.2))
theorem os_fdiv {K : PySem.W.Frag} : OpS K (rI CDivX fun i j => .int (i.fdiv j)) gFdiv := os_int fun a b d e => by
  cases a <;> cases b <;> first | (cases e; done) | (simp only [gFdiv] at e; split at e <;> cases e; exact ⟨_, _, rfl, rfl, ‹_›, rfl⟩)
theorem os_mod {K : PySem.W.Frag} : OpS K (rI (fun _ j => j ≠ 0) fun i j => .int (i.fmod j)) gMod := os_int fun a b d e => by
  cases a <;> cases b <;> first | (cases e; done) | (simp only [gMod] at e; split at e <;> cases e; exact ⟨_, _, rfl, rfl, ‹_›, rfl⟩)
theorem os_pow {K : PySem.W.Frag} : OpS K (rI CPow fun i j => .int (i ^ j.toNat)) gPow := os_int fun a b d e => by
  cases a <;> cases b <;> first | (cases e; done) | (simp only [gPow] at e; split at e <;> cases e; exact ⟨_, _, rfl, rfl, ‹_›, rfl⟩)

theorem ve_op {op : Operator} {r : R2} {g : D → D → Option D} {a b : Expr} {fa fb : En → R D} {pos : Pos} (ho : OpR X (binaryOp op) r) (hs : OpS X.K r g) (ha : VE X w a fa) (hb : VE X w b fb) : VE X w (.BinOp a op b pos) (dOp g fa fb) := by
  refine PE.imp (pe_op ho ha hb) fun σ H Q ⟨G, ρ, rel, h⟩ => ⟨G, ρ, rel, (Fn.bind rel h).imp fun G1 H1 ρ1 dx ⟨r1, s1, h1⟩ x hx => ⟨G1, ρ1, r1, (Fn.bind r1 h1).imp fun G2 H2 ρ2 dy ⟨r2, s2, h2⟩ y hy => ?_⟩⟩
  obtain ⟨d, e, q⟩ := Fn.lift h2
  exact hs w x y dx dy d G2 H2 σ ρ2 Q r2 (hx.mono s2.g) hy e q
theorem ve_add {a b : Expr} {fa fb : En → R D} {pos : Pos} (ha : VE X w a fa) (hb : VE X w b fb) : VE X w (.BinOp a .Add b pos) (dOp gAdd fa fb) := ve_op op_addA os_add ha hb
theorem ve_sub {a b : Expr} {fa fb : En → R D} {pos : Pos} (ha : VE X w a fa) (hb : VE X w b fb) : VE X w (.BinOp a .Sub b pos) (dOp gSub fa fb) := ve_op op_subA os_sub ha hb
theorem ve_mul {a b : Expr} {fa fb : En → R D} {pos : Pos} (ha : VE X w a fa) (hb : VE X w b fb) : VE X w (.BinOp a .Mult b pos) (dOp gMul fa fb) := ve_op op_mulX os_mul ha hb
theorem ve_fdiv {a b : Expr} {fa fb : En → R D} {pos : Pos} (ha : VE X w a fa) (hb : VE X w b fb) : VE X w (.BinOp a .FloorDiv b pos) (dOp gFdiv fa fb) := ve_op op_fdivX os_fdiv ha hb
theorem ve_mod {a b : Expr} {fa fb : En → R D} {pos : Pos} (ha : VE X w a fa) (hb : VE X w b fb) : VE X w (.BinOp a .Mod b pos) (dOp gMod fa fb) := ve_op op_modN os_mod ha hb
theorem ve_pow {a b : Expr} {fa fb : En → R D} {pos : Pos} (ha : VE X w a fa) (hb : VE X w b fb) : VE X w (.BinOp a .Pow b pos) (dOp gPow fa fb) := ve_op op_pow os_pow ha hb

/-! ### one-place operators -/
def gNeg : D → Option D
  | .int i => some (.int (-i))
  | _ => none
def d1 (g : D → Option D) (fa : En → R D) : En → R D := fun ρ => (fa ρ).bind fun x ρ1 => lift (g x) ρ1
theorem ve_neg {a : Expr} {fa : En → R D} {pos : Pos} (ha : VE X w a fa) : VE X w (.UnaryOp .USub a pos) (d1 gNeg fa) := by
  refine PE.imp (pe_un un_neg ha) fun σ H Q ⟨G, ρ, rel, h⟩ => ⟨G, ρ, rel, (Fn.bind rel h).imp fun G1 H1 ρ1 dx ⟨r1, s1, h1⟩ x hx => ?_⟩
  obtain ⟨d, e, q⟩ := Fn.lift h1
  cases hx with
  | int i => cases e; exact ⟨i, rfl, q _ _ r1 Stp.refl _ (.int _)⟩
  | _ => cases e

/-! ### comparisons -/
def shp (d : D) : Bool := SeqAt.shaped d
def gEq (a b : D) : Option Bool := if shp a = true ∧ shp b = true then some (PyData.eqv a b) else none
def gNe (a b : D) : Option Bool := (gEq a b).map (!·)
def gLt : D → D → Option Bool
  | .int i, .int j => some (decide (i < j))
  | .str a, .str b => some (decide (a.cps.toList < b.cps.toList))
  | _, _ => none
def gLe : D → D → Option Bool
  | .int i, .int j => some (decide (i ≤ j))
  | .str a, .str b => some (!decide (b.cps.toList < a.cps.toList))
  | _, _ => none
def gGt : D → D → Option Bool
  | .int i, .int j => some (decide (j < i))
  | .str a, .str b => some (decide (b.cps.toList < a.cps.toList))
  | _, _ => none
def gGe : D → D → Option Bool
  | .int i, .int j => some (decide (j ≤ i))
  | .str a, .str b => some (!decide (a.cps.toList < b.cps.toList))
  | _, _ => none
def gIs : D → D → Option Bool
  | x, .none => some (match x with | .none => true | _ => false)
  | .bool a, .bool b => some (decide (a = b))
  | .none, .bool _ => some false
  | .tuple _, .bool _ => some false
  | .list _, .bool _ => some false
  | _, _ => none
def gIsNot (a b : D) : Option Bool := (gIs a b).map (!·)
def OpB (K : PySem.W.Frag) (r : R2) (g : D → D → Option Bool) : Prop :=
  ∀ (x y : V) (dx dy : D) (b : Bool) (H : Hp) (Q : VK), DR K H x dx → DR K H y dy → g dx dy = some b → Q (.bl b) H → r x y H Q
def dCmp (g : D → D → Option Bool) (fa fb : En → R D) : En → R Bool := fun ρ => (fa ρ).bind fun x ρ1 => (fb ρ1).bind fun y ρ2 => lift (g x y) ρ2
/-- a truth as a value -/
def dB (f : En → R Bool) : En → R D := fun ρ => (f ρ).bind fun b ρ1 => .ok (.bool b) ρ1
theorem vt_cmp {op : CmpOp} {r : R2} {g : D → D → Option Bool} {a b : Expr} {fa fb : En → R D} {pos : Pos} (ho : OpR X (compareOp op) r) (hs : OpB X.K r g) (ha : VE X w a fa) (hb : VE X w b fb) (hm : behindInMarks op b = false) :
    VT X w (.Compare a [op] [b] pos) (dCmp g fa fb) := by
  refine PT.imp (pt_cmpR ho ha hb hm) fun σ H Q ⟨G, ρ, rel, h⟩ => ⟨G, ρ, rel, (Fn.bind rel h).imp fun G1 H1 ρ1 dx ⟨r1, s1, h1⟩ x hx => ⟨G1, ρ1, r1, (Fn.bind r1 h1).imp fun G2 H2 ρ2 dy ⟨r2, s2, h2⟩ y hy => ?_⟩⟩
  obtain ⟨d, e, q⟩ := Fn.lift h2
  exact hs x y dx dy d H2 _ ((hx.mono s2.g).mono r2.sub) (hy.mono r2.sub) e ⟨d, rfl, q _ _ r2 Stp.refl⟩
theorem ve_cmp {op : CmpOp} {r : R2} {g : D → D → Option Bool} {a b : Expr} {fa fb : En → R D} {pos : Pos} (ho : OpR X (compareOp op) r) (hs : OpB X.K r g) (ha : VE X w a fa) (hb : VE X w b fb) (hm : behindInMarks op b = false) :
    VE X w (.Compare a [op] [b] pos) (dB (dCmp g fa fb)) := by
  refine PE.imp (pe_cmpR ho ha hb hm) fun σ H Q ⟨G, ρ, rel, h⟩ => ⟨G, ρ, rel, (Fn.bind rel (Fn.bind rel h |>.imp (P' := fun G1 H1 ρ1 (b : Bool) => ∀ v, DR X.K G1 v (.bool b) → Q v H1) (fun G1 H1 ρ1 b ⟨r1, s1, h1⟩ => fun v hv => h1.ok r1 v hv))).imp fun G1 H1 ρ1 dx ⟨r1, s1, h1⟩ x hx => ⟨G1, ρ1, r1, (Fn.bind r1 h1).imp fun G2 H2 ρ2 dy ⟨r2, s2, h2⟩ y hy => ?_⟩⟩
  obtain ⟨d, e, q⟩ := Fn.lift h2
  exact hs x y dx dy d H2 _ ((hx.mono s2.g).mono r2.sub) (hy.mono r2.sub) e (q _ _ r2 Stp.refl _ (.bl d))
end
end Dn
namespace Dn
open PySem PySem.Spec PyProof.Rows L2

/-! ### data that == and in take -/
section
variable {K : PySem.W.Frag} {H : Hp}
mutual
theorem DR.dp : ∀ {d : PyData} {v : V}, DR K H v d → d.canLay0 = true → Dp K H v d
  | _, _, .non, _ => .non
  | _, _, .bl b, _ => .bl b
  | _, _, .int i, _ => .int i
  | _, _, .str x, _ => .str x
  | _, _, .lst h hs, c => .lst h (DRs.dp hs (by simpa [PyData.canLay0] using c))
  | _, _, .tup h hs, c => .tup h (DRs.dp hs (by simpa [PyData.canLay0] using c))
  | _, _, .dic _ _, c => by simp [PyData.canLay0] at c
theorem DRs.dp : ∀ {ds : List PyData} {vs : List V}, DRs K H vs ds → PyData.canLayAll0 ds = true → DpAll K H vs ds
  | _, _, .nil, _ => .nil
  | _, _, .cons h t, c => by
    have c' := c
    simp only [PyData.canLayAll0, Bool.and_eq_true] at c'
    exact .cons (DR.dp h c'.1) (DRs.dp t c'.2)
end
theorem shp_can {d : PyData} (h : shp d = true) : d.canLay0 = true := SeqAt.canLay_of_shaped h
end
theorem room_in_shaped' {A : Around} {xs : List PyData} {d : PyData} (hd : shp d = true) (hu : A.units + 65 < cLine) : A.units + 1 + min (PyData.depthAll xs) d.depth < cLine := by
  have h1 : d.depth ≤ 64 := SeqAt.depth_of_shaped hd
  have h2 : min (PyData.depthAll xs) d.depth ≤ d.depth := Nat.min_le_right _ _
  omega
def gInD (x : D) (y : D) : Option Bool := match y with
  | .list ds => if shp x = true ∧ shp (.list ds) = true then some (ds.any fun z => PyData.eqv z x) else none
  | .tuple ds => if shp x = true ∧ shp (.tuple ds) = true then some (ds.any fun z => PyData.eqv z x) else none
  | _ => none
def gInS (x : D) (y : D) : Option Bool := match x, y with
  | .str a, .str b => some (match a.cps.toList with
    | [c] => decide (c ∈ b.cps.toList)
    | _ => !(Builtin.Str.occurrences b a 0 b.length 1).isEmpty)
  | _, _ => none
def gIn (x y : D) : Option Bool := match y with
  | .str _ => gInS x y
  | _ => gInD x y
def gNotIn (x y : D) : Option Bool := (gIn x y).map (!·)
section
variable {X : Cx} {w : Wh}
theorem ob_eq : OpB X.K (rEqD X.K) gEq := by
  intro x y dx dy b H Q hx hy e q
  simp only [gEq] at e
  split at e
  · rename_i h
    cases e
    exact ⟨dx, dy, hx.dp (shp_can h.1), hy.dp (shp_can h.2), h.1, h.2, q⟩
  · cases e
theorem ob_ne : OpB X.K (rNeD X.K) gNe := by
  intro x y dx dy b H Q hx hy e q
  simp only [gNe, gEq] at e
  split at e
  · rename_i h
    cases e
    exact ⟨dx, dy, hx.dp (shp_can h.1), hy.dp (shp_can h.2), h.1, h.2, q⟩
  · cases e
def rOrdA (p : Int → Int → Bool) (q : Str → Str → Bool) : R2 := fun x y H Q => (∃ i j, x = .int i ∧ y = .int j ∧ Q (.bl (p i j)) H) ∨ (∃ i j, x = .str i ∧ y = .str j ∧ Q (.bl (q i j)) H)
theorem op_ltA : OpR X (compareOp .Lt) (rOrdA (fun i j => decide (i < j)) fun a b => decide (a.cps.toList < b.cps.toList)) := op_lt.or op_lt_str
theorem op_leA : OpR X (compareOp .LtE) (rOrdA (fun i j => decide (i ≤ j)) fun a b => !decide (b.cps.toList < a.cps.toList)) := op_le.or op_le_str
theorem op_gtA : OpR X (compareOp .Gt) (rOrdA (fun i j => decide (j < i)) fun a b => decide (b.cps.toList < a.cps.toList)) := op_gt.or op_gt_str
theorem op_geA : OpR X (compareOp .GtE) (rOrdA (fun i j => decide (j ≤ i)) fun a b => !decide (a.cps.toList < b.cps.toList)) := op_ge.or op_ge_str
theorem ob_ord {p : Int → Int → Bool} {q : Str → Str → Bool} {g : D → D → Option Bool} {K : PySem.W.Frag} (h1 : ∀ i j, g (.int i) (.int j) = some (p i j)) (h2 : ∀ i j, g (.str i) (.str j) = some (q i j))
    (h3 : ∀ x y b, g x y = some b → (∃ i j, x = .int i ∧ y = .int j) ∨ ∃ i j, x = .str i ∧ y = .str j) : OpB K (rOrdA p q) g := by
  intro x y dx dy b H Q hx hy e k
  rcases h3 _ _ _ e with ⟨i, j, rfl, rfl⟩ | ⟨i, j, rfl, rfl⟩
  · cases hx; cases hy
    rw [h1] at e; cases e
    exact .inl ⟨i, j, rfl, rfl, k⟩
  · cases hx; cases hy
    rw [h2] at e; cases e
    exact .inr ⟨i, j, rfl, rfl, k⟩
theorem ob_lt {K : PySem.W.Frag} : OpB K (rOrdA (fun i j => decide (i < j)) fun a b => decide (a.cps.toList < b.cps.toList)) gLt := ob_ord (fun _ _ => rfl) (fun _ _ => rfl) fun x y b e => by
  cases x <;> cases y <;> first | (cases e; done) | exact .inl ⟨_, _, rfl, rfl⟩ | exact .inr ⟨_, _, rfl, rfl⟩
theorem ob_le {K : PySem.W.Frag} : OpB K (rOrdA (fun i j => decide (i ≤ j)) fun a b => !decide (b.cps.toList < a.cps.toList)) gLe := ob_ord (fun _ _ => rfl) (fun _ _ => rfl) fun x y b e => by
  cases x <;> cases y <;> first | (cases e; done) | exact .inl ⟨_, _, rfl, rfl⟩ | exact .inr ⟨_, _, rfl, rfl⟩
theorem ob_gt {K : PySem.W.Frag} : OpB K (rOrdA (fun i j => decide (j < i)) fun a b => decide (b.cps.toList < a.cps.toList)) gGt := ob_ord (fun _ _ => rfl) (fun _ _ => rfl) fun x y b e => by
  cases x <;> cases y <;> first | (cases e; done) | exact .inl ⟨_, _, rfl, rfl⟩ | exact .inr ⟨_, _, rfl, rfl⟩
theorem ob_ge {K : PySem.W.Frag} : OpB K (rOrdA (fun i j => decide (j ≤ i)) fun a b => !decide (a.cps.toList < b.cps.toList)) gGe := ob_ord (fun _ _ => rfl) (fun _ _ => rfl) fun x y b e => by
  cases x <;> cases y <;> first | (cases e; done) | exact .inl ⟨_, _, rfl, rfl⟩ | exact .inr ⟨_, _, rfl, rfl⟩

/-! #### is -/
def plV : V → V → Bool
  | _, .non => true
  | .non, .bl _ => true
  | .bl _, .bl _ => true
  | .ref _, .bl _ => true
  | _, _ => false
def rIsP (neg : Bool) : R2 := fun x y H Q => plV x y = true ∧ Q (.bl (if neg then !decide (x = y) else decide (x = y))) H
theorem plV_is {x y : V} {v u : Value} (h : plV x y = true) (rx : RelV x v) (ry : RelV y u) : plainIs v u = true ∧ (v = u ↔ x = y) := by
  cases y with
  | non =>
    cases (show u = Value.none from ry)
    cases x with
    | non => cases (show v = Value.none from rx); exact ⟨rfl, by simp⟩
    | bl b => cases (show v = Value.bool b from rx); exact ⟨rfl, by simp⟩
    | int i => obtain ⟨t, rfl⟩ := rx; exact ⟨rfl, by simp⟩
    | str i => obtain ⟨t, rfl⟩ := rx; exact ⟨rfl, by simp⟩
    | byt i => obtain ⟨t, rfl⟩ := rx; exact ⟨rfl, by simp⟩
    | flt i => obtain ⟨t, rfl⟩ := rx; exact ⟨rfl, by simp⟩
    | ref a => cases (show v = Value.ref a from rx); exact ⟨rfl, by simp⟩
    | ty n => cases (show v = Value.type n from rx); exact ⟨rfl, by simp⟩
  | bl c =>
    cases (show u = Value.bool c from ry)
    cases x with
    | non => cases (show v = Value.none from rx); exact ⟨rfl, by simp⟩
    | bl b => cases (show v = Value.bool b from rx); exact ⟨rfl, by simp⟩
    | ref a => cases (show v = Value.ref a from rx); exact ⟨rfl, by simp⟩
    | _ => cases h
  | _ => cases x <;> cases h
theorem op_isP : OpR X (compareOp .Is) (rIsP false) := by
  intro pins s σ H x y v u Q I rx ry h
  obtain ⟨hp, q⟩ := h
  obtain ⟨h1, h2⟩ := plV_is hp rx ry
  refine wpAny_is_plain h1 ⟨.bl (decide (x = y)), H, I, ?_, q⟩
  show _ = Value.bool _
  congr 1
  rw [Bool.eq_iff_iff]; simp [h2]
theorem op_isNotP : OpR X (compareOp .IsNot) (rIsP true) := by
  intro pins s σ H x y v u Q I rx ry h
  obtain ⟨hp, q⟩ := h
  obtain ⟨h1, h2⟩ := plV_is hp rx ry
  refine wpAny_isNot_plain h1 ⟨.bl (!decide (x = y)), H, I, ?_, q⟩
  show _ = Value.bool _
  congr 2
  rw [Bool.eq_iff_iff]; simp [h2]
theorem gIs_ok {K : PySem.W.Frag} {H : Hp} {x y : V} {dx dy : D} {b : Bool} (hx : DR K H x dx) (hy : DR K H y dy) (e : gIs dx dy = some b) : plV x y = true ∧ decide (x = y) = b := by
  cases hy with
  | non => cases hx <;> (cases e; exact ⟨rfl, by simp⟩)
  | bl c => cases hx <;> first | (cases e; done) | (cases e; exact ⟨rfl, by simp⟩)
  | _ => cases hx <;> cases e
theorem ob_is {K : PySem.W.Frag} : OpB K (rIsP false) gIs := fun x y dx dy b H Q hx hy e q => by
  obtain ⟨h1, h2⟩ := gIs_ok hx hy e
  exact ⟨h1, by rw [if_neg Bool.false_ne_true, h2]; exact q⟩
theorem ob_isNot {K : PySem.W.Frag} : OpB K (rIsP true) gIsNot := fun x y dx dy b H Q hx hy e q => by
  simp only [gIsNot, Option.map_eq_some_iff] at e
  obtain ⟨c, e, rfl⟩ := e
  obtain ⟨h1, h2⟩ := gIs_ok hx hy e
  exact ⟨h1, by rw [if_pos rfl, h2]; exact q⟩

/-! #### in -/
def rInS (neg : Bool) : R2 := fun x y H Q => ∃ i j : Str, x = .str i ∧ y = .str j ∧ ∃ b, gInS (.str i) (.str j) = some b ∧ Q (.bl (if neg then !b else b)) H
theorem op_inS : OpR X (compareOp .In) (rInS false) := by
  intro pins s σ H x y v u Q I rx ry h
  obtain ⟨i, j, rfl, rfl, b, e, q⟩ := h
  simp only [gInS] at e
  split at e
  · rename_i c hc
    cases e
    have ei : i = ⟨#[c]⟩ := by
      obtain ⟨⟨l⟩⟩ := i
      have hc : l = [c] := hc
      subst hc
      rfl
    subst ei
    exact op_in_sign pins s σ H _ _ v u Q I rx ry ⟨c, j, rfl, rfl, q⟩
  · cases e
    exact op_in_str pins s σ H _ _ v u Q I rx ry ⟨i, j, rfl, rfl, q⟩
theorem op_notInS : OpR X (compareOp .NotIn) (rInS true) := by
  intro pins s σ H x y v u Q I rx ry h
  obtain ⟨i, j, rfl, rfl, b, e, q⟩ := h
  simp only [gInS] at e
  split at e
  · rename_i c hc
    cases e
    have ei : i = ⟨#[c]⟩ := by
      obtain ⟨⟨l⟩⟩ := i
      have hc : l = [c] := hc
      subst hc
      rfl
    subst ei
    exact op_notIn_sign pins s σ H _ _ v u Q I rx ry ⟨c, j, rfl, rfl, q⟩
  · cases e
    exact op_notin_str pins s σ H _ _ v u Q I rx ry ⟨i, j, rfl, rfl, q⟩
def rInT (K : PySem.W.Frag) (neg : Bool) : R2 := fun x y H Q => ∃ d e b, Dp K H x d ∧ Dp K H y e ∧ gInD d e = some b ∧ Q (.bl (if neg then !b else b)) H
theorem op_inT (hu : X.A.units + 65 < cLine) : OpR X (compareOp .In) (rInT X.K false) := by
  intro pins s σ H x y v u Q I rx ry h
  obtain ⟨d, e, b, hd, he, eb, q⟩ := h
  obtain ⟨as, r1⟩ := Dp.reads I d x v hd rx
  obtain ⟨bs, r2⟩ := Dp.reads I e y u he ry
  cases e with
  | list ds =>
    simp only [gInD] at eb
    split at eb
    · rename_i h; cases eb
      exact SeqAt.in_list_reads r2 r1 (shp_can h.2) (shp_can h.1) (room_in_shaped' h.1 hu) ⟨.bl _, H, I, rfl, q⟩
    · cases eb
  | tuple ds =>
    simp only [gInD] at eb
    split at eb
    · rename_i h; cases eb
      exact SeqAt.in_tuple_reads r2 r1 (shp_can h.2) (shp_can h.1) (room_in_shaped' h.1 hu) ⟨.bl _, H, I, rfl, q⟩
    · cases eb
  | _ => cases eb
theorem op_notInT (hu : X.A.units + 65 < cLine) : OpR X (compareOp .NotIn) (rInT X.K true) := by
  intro pins s σ H x y v u Q I rx ry h
  obtain ⟨d, e, b, hd, he, eb, q⟩ := h
  obtain ⟨as, r1⟩ := Dp.reads I d x v hd rx
  obtain ⟨bs, r2⟩ := Dp.reads I e y u he ry
  cases e with
  | list ds =>
    simp only [gInD] at eb
    split at eb
    · rename_i h; cases eb
      exact SeqAt.notIn_list_reads r2 r1 (shp_can h.2) (shp_can h.1) (room_in_shaped' h.1 hu) ⟨.bl _, H, I, rfl, q⟩
    · cases eb
  | tuple ds =>
    simp only [gInD] at eb
    split at eb
    · rename_i h; cases eb
      exact SeqAt.notIn_tuple_reads r2 r1 (shp_can h.2) (shp_can h.1) (room_in_shaped' h.1 hu) ⟨.bl _, H, I, rfl, q⟩
    · cases eb
  | _ => cases eb
def rInA (K : PySem.W.Frag) (neg : Bool) : R2 := fun x y H Q => rInS neg x y H Q ∨ rInT K neg x y H Q
theorem op_inA (hu : X.A.units + 65 < cLine) : OpR X (compareOp .In) (rInA X.K false) := op_inS.or (op_inT hu)
theorem op_notInA (hu : X.A.units + 65 < cLine) : OpR X (compareOp .NotIn) (rInA X.K true) := op_notInS.or (op_notInT hu)
theorem gInD_can {x y : D} {b : Bool} (e : gInD x y = some b) : x.canLay0 = true ∧ y.canLay0 = true := by
  cases y with
  | list ds =>
    simp only [gInD] at e
    split at e
    · rename_i h; exact ⟨shp_can h.1, shp_can h.2⟩
    · cases e
  | tuple ds =>
    simp only [gInD] at e
    split at e
    · rename_i h; exact ⟨shp_can h.1, shp_can h.2⟩
    · cases e
  | _ => cases e
theorem gIn_ok {K : PySem.W.Frag} {H : Hp} {x y : V} {dx dy : D} {b : Bool} {neg : Bool} {Q : VK} (hx : DR K H x dx) (hy : DR K H y dy) (e : gIn dx dy = some b) (q : Q (.bl (if neg then !b else b)) H) : rInA K neg x y H Q := by
  cases dy with
  | str j =>
    simp only [gIn] at e
    cases dx with
    | str i => cases hx; cases hy; exact .inl ⟨i, j, rfl, rfl, b, e, q⟩
    | _ => cases e
  | list ds =>
    have e' : gInD dx (.list ds) = some b := e
    exact .inr ⟨dx, _, b, hx.dp (gInD_can e').1, hy.dp (gInD_can e').2, e', q⟩
  | tuple ds =>
    have e' : gInD dx (.tuple ds) = some b := e
    exact .inr ⟨dx, _, b, hx.dp (gInD_can e').1, hy.dp (gInD_can e').2, e', q⟩
  | _ => cases e
theorem ob_in {K : PySem.W.Frag} : OpB K (rInA K false) gIn := fun x y dx dy b H Q hx hy e q => gIn_ok hx hy e (by rw [if_neg Bool.false_ne_true]; exact q)
theorem ob_notIn {K : PySem.W.Frag} : OpB K (rInA K true) gNotIn := fun x y dx dy b H Q hx hy e q => by
  simp only [gNotIn, Option.map_eq_some_iff] at e
  obtain ⟨c, e, rfl⟩ := e
  exact gIn_ok hx hy e (by rw [if_pos rfl]; exact q)

/-! ### truths: and, or, not, if else -/
def dNot (f : En → R Bool) : En → R Bool := fun ρ => (f ρ).bind fun b ρ1 => .ok (!b) ρ1
def dAnd (f g : En → R Bool) : En → R Bool := fun ρ => (f ρ).bind fun b ρ1 => if b = true then g ρ1 else .ok false ρ1
def dOr (f g : En → R Bool) : En → R Bool := fun ρ => (f ρ).bind fun b ρ1 => if b = true then .ok true ρ1 else g ρ1
def dIfE {α : Type} (c : En → R Bool) (f g : En → R α) : En → R α := fun ρ => (c ρ).bind fun b ρ1 => if b = true then f ρ1 else g ρ1
variable {a b c e : Expr} {rest : List Expr} {fa fb fc : En → R D} {ga gb gc : En → R Bool} {pos : Pos}
theorem vt_not (ha : VT X w a ga) : VT X w (.UnaryOp .Not a pos) (dNot ga) :=
  PT.imp (pt_not ha) fun σ H Q ⟨G, ρ, rel, h⟩ => ⟨G, ρ, rel, (Fn.bind rel h).imp fun G1 H1 ρ1 b ⟨r1, s1, h1⟩ => h1.ok r1⟩
theorem vw_and1 (ha : VT X w a ga) : VW X w (.BoolOp .And [a] pos) ga := pw_and1 ha
theorem vw_or1 (ha : VT X w a ga) : VW X w (.BoolOp .Or [a] pos) ga := pw_or1 ha
theorem vw_and (ha : VT X w a ga) (hb : VW X w (.BoolOp .And (b :: rest) pos) gb) : VW X w (.BoolOp .And (a :: b :: rest) pos) (dAnd ga gb) :=
  PW.imp (pw_and ha hb) fun σ H Q ⟨G, ρ, rel, h⟩ => ⟨G, ρ, rel, (Fn.bind rel h).imp fun G1 H1 ρ1 b ⟨r1, s1, h1⟩ => by
    cases b with
    | true => exact iteT ⟨G1, ρ1, r1, h1⟩
    | false => exact iteF (Fn.ok (show Fn X.K w G1 H1 σ ρ1 (.ok false ρ1) (QB Q) from h1) r1)⟩
theorem vw_or (ha : VT X w a ga) (hb : VW X w (.BoolOp .Or (b :: rest) pos) gb) : VW X w (.BoolOp .Or (a :: b :: rest) pos) (dOr ga gb) :=
  PW.imp (pw_or ha hb) fun σ H Q ⟨G, ρ, rel, h⟩ => ⟨G, ρ, rel, (Fn.bind rel h).imp fun G1 H1 ρ1 b ⟨r1, s1, h1⟩ => by
    cases b with
    | true => exact iteT (Fn.ok (show Fn X.K w G1 H1 σ ρ1 (.ok true ρ1) (QB Q) from h1) r1)
    | false => exact iteF ⟨G1, ρ1, r1, h1⟩⟩
theorem vt_w (h : VW X w e ga) : VT X w e ga := PW.pt h
/-- a truth that is a value -/
theorem Fn.dB {K : PySem.W.Frag} {G H : Hp} {σ : L2.St} {ρ : En} {Q : VK} (rel : Rel K G H σ ρ) (h : Fn K w G H σ ρ (dB ga ρ) (QD K Q)) : Fn K w G H σ ρ (ga ρ) (fun G1 H1 ρ1 b => Rel K G1 H1 σ ρ1 ∧ Stp G H σ ρ G1 H1 σ ρ1 ∧ Q (.bl b) H1) :=
  (Fn.bind rel h).imp fun G1 H1 ρ1 b ⟨r1, s1, h1⟩ => ⟨r1, s1, h1.ok r1 _ (.bl b)⟩
theorem Fn.toB {K : PySem.W.Frag} {G H : Hp} {σ : L2.St} {ρ : En} {P : Hp → Hp → En → D → Prop} {g : En → R Bool} (rel : Rel K G H σ ρ) (h : Fn K w G H σ ρ (g ρ) (fun G1 H1 ρ1 b => P G1 H1 ρ1 (.bool b))) : Fn K w G H σ ρ (Dn.dB g ρ) P := by
  unfold Dn.dB
  cases q : g ρ with
  | no => rw [q] at h; exact h
  | ex c ρ' => rw [q] at h; exact h
  | ok b ρ' => rw [q] at h; exact h
theorem ve_not (ha : VE X w a (dB ga)) : VE X w (.UnaryOp .Not a pos) (dB (dNot ga)) :=
  PE.imp (pe_not ha) fun σ H Q ⟨G, ρ, rel, h⟩ => ⟨G, ρ, rel, Fn.toB rel ((Fn.bind rel (Fn.dB rel h)).imp fun G1 H1 ρ1 b ⟨r1, s1, h1⟩ v hv => by
    cases hv
    exact ⟨b, rfl, (h1.ok r1).2.2⟩)⟩
theorem ve_and1 (ha : VE X w a fa) : VE X w (.BoolOp .And [a] pos) fa := pe_one ha
theorem ve_or1 (ha : VE X w a fa) : VE X w (.BoolOp .Or [a] pos) fa := pe_one ha
def dAndV (f : En → R Bool) (g : En → R D) : En → R D := fun ρ => (f ρ).bind fun b ρ1 => if b = true then g ρ1 else .ok (.bool false) ρ1
def dOrV (f : En → R Bool) (g : En → R D) : En → R D := fun ρ => (f ρ).bind fun b ρ1 => if b = true then .ok (.bool true) ρ1 else g ρ1
theorem ve_and (ha : VE X w a (dB ga)) (hb : VE X w (.BoolOp .And (b :: rest) pos) fb) : VE X w (.BoolOp .And (a :: b :: rest) pos) (dAndV ga fb) :=
  PE.imp (pe_and ha hb) fun σ H Q ⟨G, ρ, rel, h⟩ => ⟨G, ρ, rel, Fn.toB rel ((Fn.bind rel h).imp fun G1 H1 ρ1 b ⟨r1, s1, h1⟩ v hv => by
    cases hv
    refine ⟨b, rfl, ?_⟩
    cases b with
    | true => exact iteT ⟨G1, ρ1, r1, h1⟩
    | false => exact iteF (Fn.ok (show Fn X.K w G1 H1 σ ρ1 (.ok (.bool false) ρ1) (QD X.K Q) from h1) r1 _ (.bl false)))⟩
theorem ve_or (ha : VE X w a (dB ga)) (hb : VE X w (.BoolOp .Or (b :: rest) pos) fb) : VE X w (.BoolOp .Or (a :: b :: rest) pos) (dOrV ga fb) :=
  PE.imp (pe_or ha hb) fun σ H Q ⟨G, ρ, rel, h⟩ => ⟨G, ρ, rel, Fn.toB rel ((Fn.bind rel h).imp fun G1 H1 ρ1 b ⟨r1, s1, h1⟩ v hv => by
    cases hv
    refine ⟨b, rfl, ?_⟩
    cases b with
    | true => exact iteT (Fn.ok (show Fn X.K w G1 H1 σ ρ1 (.ok (.bool true) ρ1) (QD X.K Q) from h1) r1 _ (.bl true))
    | false => exact iteF ⟨G1, ρ1, r1, h1⟩)⟩
theorem ve_ifE (hc : VT X w c gc) (ha : VE X w a fa) (hb : VE X w b fb) : VE X w (.IfExp c a b pos) (dIfE gc fa fb) :=
  PE.imp (pe_ifExp hc ha hb) fun σ H Q ⟨G, ρ, rel, h⟩ => ⟨G, ρ, rel, (Fn.bind rel h).imp fun G1 H1 ρ1 b ⟨r1, s1, h1⟩ => by
    cases b with
    | true => exact iteT ⟨G1, ρ1, r1, h1⟩
    | false => exact iteF ⟨G1, ρ1, r1, h1⟩⟩
/-- a value's truth -/
def truD : D → Option Bool
  | .none => some false
  | .bool b => some b
  | .int i => some (i != 0)
  | .str s => if s.length ≤ sizeLine then some ((s.length : Int) != 0) else none
  | .list l => some (!l.isEmpty)
  | .tuple l => some (!l.isEmpty)
  | .dict _ => none
def asB : D → Option Bool
  | .bool b => some b
  | _ => none
/-- a value that is a truth, as one -/
def dUB (f : En → R D) : En → R Bool := fun ρ => (f ρ).bind fun d ρ1 => lift (asB d) ρ1
def dTru (f : En → R D) : En → R Bool := fun ρ => (f ρ).bind fun d ρ1 => lift (truD d) ρ1
theorem DRs.emp {K : PySem.W.Frag} {H : Hp} {vs : List V} {ds : List D} (h : DRs K H vs ds) : vs.isEmpty = ds.isEmpty := by cases h <;> rfl
theorem truD_ok {K : PySem.W.Frag} {H : Hp} {v : V} {d : D} {b : Bool} (h : DR K H v d) (e : truD d = some b) : TruV K v H b := by
  cases h with
  | non => cases e; rfl
  | bl b => cases e; rfl
  | int i => cases e; rfl
  | str s =>
    simp only [truD] at e
    split at e
    · cases e; exact ⟨‹_›, rfl⟩
    · cases e
  | lst h hs => cases e; exact .inl ⟨_, h, by rw [hs.emp]⟩
  | tup h hs => cases e; exact .inr (.inl ⟨_, h, by rw [hs.emp]⟩)
  | dic _ _ => cases e
theorem vt_tru (ha : VE X w a fa) (he : ∀ whole, isTrue a X.env whole = (do let v ← whole; standAt a.pos; holding [v] (truthy v)) := by intro _; rfl) : VT X w a (dTru fa) :=
  PT.imp (pt_truth ha he) fun σ H Q ⟨G, ρ, rel, h⟩ => ⟨G, ρ, rel, (Fn.bind rel h).imp fun G1 H1 ρ1 d ⟨r1, s1, h1⟩ v hv => by
    obtain ⟨b, e, q⟩ := Fn.lift h1
    exact ⟨b, truD_ok (hv.mono r1.sub) e, q _ _ r1 Stp.refl⟩⟩
/-- a value seen as a truth -/
theorem ve_ub (ha : VE X w a fa) : VE X w a (dB (dUB fa)) :=
  PE.imp ha fun σ H Q ⟨G, ρ, rel, h⟩ => ⟨G, ρ, rel, (Fn.bind rel (Fn.dB rel h)).imp fun G1 H1 ρ1 d ⟨r1, s1, h1⟩ v hv => by
    obtain ⟨b, e, q⟩ := Fn.lift h1
    cases hv with
    | bl c => cases e; exact (q _ _ r1 Stp.refl).2.2
    | _ => cases e⟩
end
end Dn
namespace Dn
open PySem PySem.Spec PyProof.Rows L2

/-! ### reading -/
def L.toD : L → D
  | .im d => d
  | .ow ds => .list ds
  | .bo ds => .list ds
/-- what may be read as d now -/
inductive DV (K : PySem.W.Frag) (G H : Hp) : V → D → Prop where
  | im {v : V} {d : D} (h : DR K G v d) : DV K G H v d
  | mu {o : Addr} {vs : List V} {ds : List D} (e : H o = some (.lst vs)) (h : DRs K G vs ds) : DV K G H (.ref o) (.list ds)
section
variable {K : PySem.W.Frag} {G H : Hp} {σ : L2.St} {ρ : En}
theorem Rel.view (r : Rel K G H σ ρ) {i : Nat} {l : L} (h : ρ[i]? = some (some l)) : ∃ v, σ[i]? = some (some v) ∧ DV K G H v l.toD := by
  obtain ⟨v, s, c⟩ := r.cell i l h
  refine ⟨v, s, ?_⟩
  cases l with
  | im d => exact .im c
  | ow ds => obtain ⟨o, vs, rfl, g, q, hd⟩ := c; exact .mu q hd
  | bo ds => obtain ⟨o, vs, rfl, g, q, hd⟩ := c; exact .mu q hd
/-- a list or a tuple that is read -/
theorem DV.list (r : Rel K G H σ ρ) {v : V} {ds : List D} (h : DV K G H v (.list ds)) : ∃ o vs, v = .ref o ∧ SqL K H o vs ∧ DRs K G vs ds := by
  cases h with
  | im h => cases h with | lst h hs => exact ⟨_, _, rfl, r.sub.seq h, hs⟩
  | mu e h => exact ⟨_, _, rfl, .inl (.inl e), h⟩
theorem DV.tuple (r : Rel K G H σ ρ) {v : V} {ds : List D} (h : DV K G H v (.tuple ds)) : ∃ o vs, v = .ref o ∧ SqT K H o vs ∧ DRs K G vs ds := by
  cases h with
  | im h => cases h with | tup h hs => exact ⟨_, _, rfl, Same.tup r.sub h, hs⟩
theorem DV.str {v : V} {s : Str} (h : DV K G H v (.str s)) : v = .str s := by
  cases h with
  | im h => cases h; rfl
theorem DV.int {v : V} {s : Int} (h : DV K G H v (.int s)) : v = .int s := by
  cases h with
  | im h => cases h; rfl
theorem DV.bool {v : V} {s : Bool} (h : DV K G H v (.bool s)) : v = .bl s := by
  cases h with
  | im h => cases h; rfl
end
def gIx : D → D → Option D
  | .list ds, .int i => atI ds i
  | .tuple ds, .int i => atI ds i
  | .str s, .int i => if s.length ≤ sizeLine then (atI s.cps.toList i).map fun c => .str ⟨#[c]⟩ else none
  | _, _ => none
theorem DRs.atI {K : PySem.W.Frag} {G : Hp} {vs : List V} {ds : List D} {i : Int} {d : D} (h : DRs K G vs ds) (e : L2.atI ds i = some d) : ∃ v, L2.atI vs i = some v ∧ DR K G v d := by
  unfold L2.atI at e ⊢
  rw [h.length]
  cases q : ixN ds.length i with
  | none => rw [q] at e; cases e
  | some j =>
    rw [q] at e
    exact h.get e
theorem gIx_ok {K : PySem.W.Frag} {G H : Hp} {σ : L2.St} {ρ : En} {x y : V} {dx dy d : D} {Q : VK} (r : Rel K G H σ ρ) (hx : DV K G H x dx) (hy : DR K G y dy) (e : gIx dx dy = some d) (q : ∀ v, DR K G v d → Q v H) : rIx K x y H Q := by
  cases dy with
  | int i =>
    cases hy
    cases dx with
    | list ds =>
      obtain ⟨o, vs, rfl, h, hs⟩ := hx.list r
      obtain ⟨v, e', hv⟩ := hs.atI e
      exact .inl ⟨o, vs, i, v, rfl, rfl, h, e', q v hv⟩
    | tuple ds =>
      obtain ⟨o, vs, rfl, h, hs⟩ := hx.tuple r
      obtain ⟨v, e', hv⟩ := hs.atI e
      exact .inr (.inl ⟨o, vs, i, v, rfl, rfl, h, e', q v hv⟩)
    | str s =>
      have := hx.str
      subst this
      simp only [gIx] at e
      split at e
      · simp only [Option.map_eq_some_iff] at e
        obtain ⟨c, e, rfl⟩ := e
        exact .inr (.inr ⟨s, i, c, rfl, rfl, ‹_›, e, q _ (.str _)⟩)
      · cases e
    | _ => cases e
  | _ => cases dx <;> cases e
/-- the slot i, read when what follows is done -/
def atSlot {α β : Type} (i : Nat) (f : En → R β) (g : L → β → En → R α) : En → R α := fun ρ => match ρ[i]? with
  | some (some _) => (f ρ).bind fun y ρ1 => match ρ1[i]? with
    | some (some l) => g l y ρ1
    | _ => .no
  | _ => .no
section
variable {X : Cx} {w : Wh} {a b : Expr} {fa fb : En → R D} {pos : Pos}
theorem ve_ix (ha : VE X w a fa) (hb : VE X w b fb) (hp : PlainIx b := by exact fun _ _ => rfl) : VE X w (.Subscript a b pos) (dOp gIx fa fb) := by
  refine PE.imp (pe_ix ix_seq ha hb hp) fun σ H Q ⟨G, ρ, rel, h⟩ => ⟨G, ρ, rel, (Fn.bind rel h).imp fun G1 H1 ρ1 dx ⟨r1, s1, h1⟩ x hx => ⟨G1, ρ1, r1, (Fn.bind r1 h1).imp fun G2 H2 ρ2 dy ⟨r2, s2, h2⟩ y hy => ?_⟩⟩
  obtain ⟨d, e, q⟩ := Fn.lift h2
  exact gIx_ok r2 (.im (hx.mono s2.g)) hy e fun v hv => q _ _ r2 Stp.refl v hv
theorem Fn.slot {α β : Type} {K : PySem.W.Frag} {G H : Hp} {σ : L2.St} {ρ : En} {i : Nat} {f : En → R β} {g : L → β → En → R α} {P : Hp → Hp → En → α → Prop} (rel : Rel K G H σ ρ) (h : Fn K w G H σ ρ (atSlot i f g ρ) P) :
    ∃ v, σ[i]? = some (some v) ∧ Fn K w G H σ ρ (f ρ) (fun G1 H1 ρ1 y => ∃ l, ρ1[i]? = some (some l) ∧ DV K G1 H1 v l.toD ∧ Rel K G1 H1 σ ρ1 ∧ Stp G H σ ρ G1 H1 σ ρ1 ∧ Fn K w G1 H1 σ ρ1 (g l y ρ1) P) := by
  unfold atSlot at h
  split at h
  · rename_i l0 e0
    obtain ⟨v, s, _⟩ := rel.view e0
    refine ⟨v, s, (Fn.bind rel h).imp fun G1 H1 ρ1 y ⟨r1, s1, h1⟩ => ?_⟩
    split at h1
    · rename_i l e1
      obtain ⟨v', s', dv⟩ := r1.view e1
      rw [s] at s'; cases s'
      exact ⟨l, e1, dv, r1, s1, h1⟩
    · exact h1.elim
  · exact h.elim
def dIxN (i : Nat) (fb : En → R D) : En → R D := atSlot i fb fun l y ρ => lift (gIx l.toD y) ρ
theorem ve_ixN (i : Nat) {x : Str} {p : Pos} (hb : VE X w b fb) (hN : X.N[i]? = some x := by rfl) (hv : Vis X.env.scope x := by first | exact Or.inl rfl | exact Or.inr (Or.inl rfl) | exact Or.inr (Or.inr rfl))
    (hp : PlainIx b := by exact fun _ _ => rfl) (hd : (x == ("__debug__" : Str)) = false := by decide) (hcd : (x == ("__classdict__" : Str)) = false := by decide) : VE X w (.Subscript (.Name x p) b pos) (dIxN i fb) := by
  refine PE.imp (pe_ix ix_seq (pe_var hN hv hd hcd) hb hp) fun σ H Q ⟨G, ρ, rel, h⟩ => ?_
  obtain ⟨v, s, h⟩ := Fn.slot rel h
  refine ⟨v, s, G, ρ, rel, h.imp fun G1 H1 ρ1 dy ⟨l, e, dv, r1, s1, h1⟩ y hy => ?_⟩
  obtain ⟨d, e', q⟩ := Fn.lift h1
  exact gIx_ok r1 dv hy e' fun v hv => q _ _ r1 Stp.refl v hv

/-! ### slices -/
def gSl : D → Option Int → Option Int → Option D
  | .list ds, lo, hi => some (.list ((ds.drop (HT.sIx ds.length 0 lo)).take (HT.sIx ds.length ds.length hi - HT.sIx ds.length 0 lo)))
  | .tuple ds, lo, hi => some (.tuple ((ds.drop (HT.sIx ds.length 0 lo)).take (HT.sIx ds.length ds.length hi - HT.sIx ds.length 0 lo)))
  | .str s, lo, hi => if s.length ≤ sizeLine then some (.str (cutS s lo hi)) else none
  | _, _, _ => none
def rSlA (K : PySem.W.Frag) : V → Option Int → Option Int → Hp → VK → Prop := fun x lo hi H Q => rSlL K x lo hi H Q ∨ L2.rSlA K x lo hi H Q ∨ rSlS x lo hi H Q
theorem sl_all : SlR X (rSlA X.K) := sl_list.or (sl_tupA.or sl_str)
theorem DRs.cut {K : PySem.W.Frag} {G : Hp} {vs : List V} {ds : List D} (h : DRs K G vs ds) (lo hi : Option Int) : DRs K G (cutV vs lo hi) ((ds.drop (HT.sIx ds.length 0 lo)).take (HT.sIx ds.length ds.length hi - HT.sIx ds.length 0 lo)) := by
  unfold cutV
  rw [h.length]
  exact (h.drop _).take _
theorem gSl_ok {K : PySem.W.Frag} {G H : Hp} {σ : L2.St} {ρ : En} {x : V} {dx d : D} {lo hi : Option Int} {Q : VK} (r : Rel K G H σ ρ) (hx : DV K G H x dx) (e : gSl dx lo hi = some d)
    (q : ∀ G' H', Rel K G' H' σ ρ → Stp G H σ ρ G' H' σ ρ → ∀ v, DR K G' v d → Q v H') : rSlA K x lo hi H Q := by
  cases dx with
  | list ds =>
    cases e
    obtain ⟨o, vs, rfl, h, hs⟩ := hx.list r
    exact .inl ⟨o, vs, rfl, h, hand_new r q (DR.newL r (hs.cut lo hi))⟩
  | tuple ds =>
    cases e
    obtain ⟨o, vs, rfl, h, hs⟩ := hx.tuple r
    refine .inr (.inl ⟨o, vs, rfl, h, fun hw => ?_, fun _ => hand_new r q (DR.newT r (hs.cut lo hi))⟩)
    rw [hs.length] at hw
    rw [hw.1, hw.2, Nat.sub_zero, List.drop_zero, List.take_length] at q
    cases hx with
    | im hx => exact q _ _ r Stp.refl _ hx
  | str s =>
    simp only [gSl] at e
    split at e
    · cases e
      have := hx.str
      subst this
      exact .inr (.inr ⟨s, rfl, ‹_›, q _ _ r Stp.refl _ (.str _)⟩)
    · cases e
  | _ => cases e
def oN : En → R (Option Int) := fun ρ => .ok none ρ
def asI : D → Option Int
  | .int i => some i
  | _ => none
def oI (f : En → R D) : En → R (Option Int) := fun ρ => (f ρ).bind fun d ρ1 => lift ((asI d).map some) ρ1
theorem vo_none : VO X w none oN := PO.imp po_none fun σ H Q ⟨G, ρ, rel, h⟩ => Fn.ok (show Fn X.K w G H σ ρ (.ok none ρ) (QO Q) from h) rel
theorem vo_some {e : Expr} {f : En → R D} (he : VE X w e f) : VO X w (some e) (oI f) :=
  PO.imp (po_some he) fun σ H Q ⟨G, ρ, rel, h⟩ => ⟨G, ρ, rel, (Fn.bind rel h).imp fun G1 H1 ρ1 d ⟨r1, s1, h1⟩ v hv => by
    obtain ⟨o, e', q⟩ := Fn.lift h1
    simp only [Option.map_eq_some_iff] at e'
    obtain ⟨i, ei, rfl⟩ := e'
    cases hv with
    | int j => cases ei; exact ⟨i, rfl, q _ _ r1 Stp.refl⟩
    | _ => cases ei⟩
def dPair {α β : Type} (f : En → R α) (g : En → R β) : En → R (α × β) := fun ρ => (f ρ).bind fun a ρ1 => (g ρ1).bind fun b ρ2 => .ok (a, b) ρ2
def dSl (fa : En → R D) (l u : En → R (Option Int)) : En → R D := fun ρ => (fa ρ).bind fun x ρ1 => (l ρ1).bind fun lo ρ2 => (u ρ2).bind fun hi ρ3 => lift (gSl x lo hi) ρ3
theorem ve_sl {lo hi : Option Expr} {l u : En → R (Option Int)} {p2 : Pos} (ha : VE X w a fa) (hl : VO X w lo l) (hu : VO X w hi u) : VE X w (.Subscript a (.Slice lo hi none p2) pos) (dSl fa l u) := by
  refine PE.imp (pe_slice sl_all ha hl hu) fun σ H Q ⟨G, ρ, rel, h⟩ => ⟨G, ρ, rel, (Fn.bind rel h).imp fun G1 H1 ρ1 dx ⟨r1, s1, h1⟩ x hx => ⟨G1, ρ1, r1, (Fn.bind r1 h1).imp fun G2 H2 ρ2 lo ⟨r2, s2, h2⟩ => ⟨G2, ρ2, r2, (Fn.bind r2 h2).imp fun G3 H3 ρ3 hi ⟨r3, s3, h3⟩ => ?_⟩⟩⟩
  obtain ⟨d, e, q⟩ := Fn.lift h3
  exact gSl_ok r3 (.im ((hx.mono s2.g).mono s3.g)) e q
def dSlN (i : Nat) (l u : En → R (Option Int)) : En → R D := atSlot i (dPair l u) fun x p ρ => lift (gSl x.toD p.1 p.2) ρ
theorem ve_slN (i : Nat) {x : Str} {p : Pos} {lo hi : Option Expr} {l u : En → R (Option Int)} {p2 : Pos} (hl : VO X w lo l) (hu : VO X w hi u) (hN : X.N[i]? = some x := by rfl) (hv : Vis X.env.scope x := by first | exact Or.inl rfl | exact Or.inr (Or.inl rfl) | exact Or.inr (Or.inr rfl))
    (hd : (x == ("__debug__" : Str)) = false := by decide) (hcd : (x == ("__classdict__" : Str)) = false := by decide) : VE X w (.Subscript (.Name x p) (.Slice lo hi none p2) pos) (dSlN i l u) := by
  refine PE.imp (pe_slice sl_all (pe_var hN hv hd hcd) hl hu) fun σ H Q ⟨G, ρ, rel, h⟩ => ?_
  obtain ⟨v, s, h⟩ := Fn.slot rel h
  refine ⟨v, s, G, ρ, rel, (Fn.bind rel h).imp fun G1 H1 ρ1 lo ⟨r1, s1, h1⟩ => ⟨G1, ρ1, r1, (Fn.bind r1 h1).imp fun G2 H2 ρ2 hi ⟨r2, s2, h2⟩ => ?_⟩⟩
  obtain ⟨L, e, dv, r3, s3, h3⟩ := h2.ok r2
  obtain ⟨d, e', q⟩ := Fn.lift h3
  exact gSl_ok r3 dv e' q

/-! ### arguments, displays -/
def aNil : En → R (List AV) := fun ρ => .ok [] ρ
def aIm (f : En → R D) (g : En → R (List AV)) : En → R (List AV) := fun ρ => (f ρ).bind fun d ρ1 => (g ρ1).bind fun as ρ2 => .ok (.im d :: as) ρ2
def aSl (i : Nat) (g : En → R (List AV)) : En → R (List AV) := fun ρ => match ρ[i]? with
  | some (some _) => (g ρ).bind fun as ρ2 => .ok (.sl i :: as) ρ2
  | _ => .no
theorem AVs.mono {K : PySem.W.Frag} {G G' : Hp} {σ : L2.St} (e : Same G G') : ∀ {vs : List V} {as : List AV}, AVs K G σ vs as → AVs K G' σ vs as
  | _, _, .nil => .nil
  | _, _, .im h t => .im (h.mono e) (AVs.mono e t)
  | _, _, .sl h t => .sl h (AVs.mono e t)
variable {e : Expr} {es : List Expr} {f : En → R D} {ga : En → R (List AV)}
theorem va_nil : VA X w [] aNil := PA.imp pa_nil fun σ H Q ⟨G, ρ, rel, h⟩ => Fn.ok (show Fn X.K w G H σ ρ (.ok [] ρ) (QA X.K σ Q) from h) rel _ .nil
theorem va_im (he : VE X w e f) (ht : VA X w es ga) (hs : starEach (e :: es) X.env = (false, eval e X.env) :: starEach es X.env := by rfl) : VA X w (e :: es) (aIm f ga) :=
  PA.imp (pa_cons he ht hs) fun σ H Q ⟨G, ρ, rel, h⟩ => ⟨G, ρ, rel, (Fn.bind rel h).imp fun G1 H1 ρ1 d ⟨r1, s1, h1⟩ v hv => ⟨G1, ρ1, r1, (Fn.bind r1 h1).imp fun G2 H2 ρ2 as ⟨r2, s2, h2⟩ vs hvs =>
    Fn.ok (show Fn X.K w G2 H2 σ ρ2 (.ok (AV.im d :: as) ρ2) (QA X.K σ Q) from h2) r2 _ (.im (hv.mono s2.g) hvs)⟩⟩
theorem va_sl (i : Nat) {x : Str} {p : Pos} (ht : VA X w es ga) (hN : X.N[i]? = some x := by rfl) (hv : Vis X.env.scope x := by first | exact Or.inl rfl | exact Or.inr (Or.inl rfl) | exact Or.inr (Or.inr rfl))
    (hd : (x == ("__debug__" : Str)) = false := by decide) (hcd : (x == ("__classdict__" : Str)) = false := by decide) (hs : starEach (.Name x p :: es) X.env = (false, eval (.Name x p) X.env) :: starEach es X.env := by rfl) : VA X w (.Name x p :: es) (aSl i ga) :=
  PA.imp (pa_cons (pe_var hN hv hd hcd) ht hs) fun σ H Q ⟨G, ρ, rel, h⟩ => by
    unfold aSl at h
    split at h
    · rename_i l el
      obtain ⟨v, s, _⟩ := rel.view el
      exact ⟨v, s, G, ρ, rel, (Fn.bind rel h).imp fun G2 H2 ρ2 as ⟨r2, s2, h2⟩ vs hvs => Fn.ok (show Fn X.K w G2 H2 σ ρ2 (.ok (AV.sl i :: as) ρ2) (QA X.K σ Q) from h2) r2 _ (.sl s hvs)⟩
    · exact h.elim
/-- all are values -/
def allIm : List AV → Option (List D)
  | [] => some []
  | .im d :: r => (allIm r).map (d :: ·)
  | .sl _ :: _ => none
theorem AVs.all {K : PySem.W.Frag} {G : Hp} {σ : L2.St} : ∀ {vs : List V} {as : List AV} {ds : List D}, AVs K G σ vs as → allIm as = some ds → DRs K G vs ds
  | _, _, _, .nil, e => by cases e; exact .nil
  | _, _, _, .im h t, e => by
    simp only [allIm, Option.map_eq_some_iff] at e
    obtain ⟨r, e, rfl⟩ := e
    exact .cons h (AVs.all t e)
  | _, _, _, .sl _ _, e => by cases e
def dAll (g : En → R (List AV)) : En → R (List D) := fun ρ => (g ρ).bind fun as ρ1 => lift (allIm as) ρ1
def dTup (g : En → R (List AV)) : En → R D := fun ρ => (dAll g ρ).bind fun ds ρ1 => if ds.length ≤ sizeLine then .ok (.tuple ds) ρ1 else .no
def dLst (g : En → R (List AV)) : En → R D := fun ρ => (dAll g ρ).bind fun ds ρ1 => if ds.length ≤ sizeLine then .ok (.list ds) ρ1 else .no
def nLst (g : En → R (List AV)) : En → R (List D) := fun ρ => (dAll g ρ).bind fun ds ρ1 => if ds.length ≤ sizeLine then .ok ds ρ1 else .no
theorem Fn.all {α : Type} {K : PySem.W.Frag} {G H : Hp} {σ : L2.St} {ρ : En} {g : List D → En → R α} {P : Hp → Hp → En → α → Prop} (rel : Rel K G H σ ρ) (h : Fn K w G H σ ρ ((dAll ga ρ).bind g) P) :
    Fn K w G H σ ρ (ga ρ) (fun G1 H1 ρ1 as => Rel K G1 H1 σ ρ1 ∧ Stp G H σ ρ G1 H1 σ ρ1 ∧ ∃ ds, allIm as = some ds ∧ Fn K w G1 H1 σ ρ1 (g ds ρ1) P) := by
  have h' : Fn K w G H σ ρ ((ga ρ).bind fun as ρ1 => (Dn.lift (allIm as) ρ1 : R (List D)).bind g) P := by
    have : (dAll ga ρ).bind g = (ga ρ).bind fun as ρ1 => (Dn.lift (allIm as) ρ1 : R (List D)).bind g := by
      unfold dAll
      cases ga ρ <;> rfl
    rw [← this]; exact h
  refine (Fn.bind rel h').imp fun G1 H1 ρ1 as ⟨r1, s1, h1⟩ => ⟨r1, s1, ?_⟩
  cases q : allIm as with
  | none => rw [q] at h1; exact h1.elim
  | some ds => rw [q] at h1; exact ⟨ds, rfl, h1⟩
theorem ve_tup {k : Nat} (h : VA X w es ga) : VE X w (.Tuple es k pos) (dTup ga) :=
  PE.imp (pe_tup h) fun σ H Q ⟨G, ρ, rel, h⟩ => ⟨G, ρ, rel, (Fn.all rel h).imp fun G1 H1 ρ1 as ⟨r1, s1, ds, e, h1⟩ vs hvs => by
    have hd := hvs.all e
    split at h1
    · exact ⟨by rw [hd.length]; assumption, hand_new r1 h1 (DR.newT r1 hd)⟩
    · exact h1.elim⟩
theorem ve_lst (h : VA X w es ga) : VE X w (.List es pos) (dLst ga) :=
  PE.imp (pe_lst h) fun σ H Q ⟨G, ρ, rel, h⟩ => ⟨G, ρ, rel, (Fn.all rel h).imp fun G1 H1 ρ1 as ⟨r1, s1, ds, e, h1⟩ vs hvs => by
    have hd := hvs.all e
    split at h1
    · exact ⟨by rw [hd.length]; assumption, hand_new r1 h1 (DR.newL r1 hd)⟩
    · exact h1.elim⟩
theorem NewL.of {K : PySem.W.Frag} {G H G1 H1 : Hp} {σ : L2.St} {ρ ρ1 : En} {p : Addr} {vs : List V} {ds : List D} (rel : Rel K G H σ ρ) (r1 : Rel K G1 H1 σ ρ1) (s1 : Stp G H σ ρ G1 H1 σ ρ1) (hp : H1 p = none) (hd : DRs K G1 vs ds) :
    NewL K H σ G1 (upd H1 p (.lst vs)) ρ1 p ds := by
  refine ⟨Same.free r1.sub hp, fun ho => ?_, ⟨vs, upd_same, hd⟩, ?_⟩
  · obtain ⟨_, ws, q⟩ := r1.own ho
    rw [hp] at q; cases q
  · cases q : H p with
    | none => rfl
    | some o => exact absurd hp (s1.tr p (by rw [q]; exact fun z => nomatch z))
theorem vn_lst (h : VA X w es ga) : VN X w (.List es pos) (nLst ga) :=
  PE.imp (pe_lst h) fun σ H Q ⟨G, ρ, rel, h⟩ => ⟨G, ρ, rel, (Fn.all rel h).imp fun G1 H1 ρ1 as ⟨r1, s1, ds, e, h1⟩ vs hvs => by
    have hd := hvs.all e
    split at h1
    · refine ⟨by rw [hd.length]; assumption, fun p hp => ?_⟩
      obtain ⟨r2, s2⟩ := r1.laidM (o := .lst vs) hp
      exact h1 _ _ r2 s2 p (NewL.of rel r1 s1 hp hd)
    · exact h1.elim⟩
end
end Dn
namespace Dn
open PySem PySem.Spec PyProof.Rows L2

/-! ### calls of what is built in -/
def CallS (K : PySem.W.Frag) (r : List V → Hp → VK → Prop) (g : List D → Option D) : Prop :=
  ∀ (vs : List V) (ds : List D) (d : D) (G H : Hp) (σ : L2.St) (ρ : En) (Q : VK), Rel K G H σ ρ → DRs K G vs ds → g ds = some d →
    (∀ G' H', Rel K G' H' σ ρ → Stp G H σ ρ G' H' σ ρ → ∀ v, DR K G' v d → Q v H') → r vs H Q
def dCall (g : List D → Option D) (ga : En → R (List AV)) : En → R D := fun ρ => (dAll ga ρ).bind fun ds ρ1 => lift (g ds) ρ1
section
variable {X : Cx} {w : Wh} {x : Str} {p pos : Pos} {e : Expr} {es : List Expr} {ga : En → R (List AV)} {id T : String} {r : List V → Hp → VK → Prop} {g : List D → Option D}
theorem CallS.run {K : PySem.W.Frag} (hs : CallS K r g) {G H : Hp} {σ : L2.St} {ρ : En} {Q : VK} (rel : Rel K G H σ ρ) (h : Fn K w G H σ ρ (dCall g ga ρ) (QD K Q)) :
    Fn K w G H σ ρ (ga ρ) (QA K σ fun vs H1 => r vs H1 Q) := (Fn.all rel h).imp fun G1 H1 ρ1 as ⟨r1, s1, ds, e, h1⟩ vs hvs => by
  obtain ⟨d, e', q⟩ := Fn.lift h1
  exact hs vs ds d G1 H1 σ ρ1 Q r1 (hvs.all e) e' q
theorem ve_cB (hc : CallR X (.builtin id) r) (hs : CallS X.K r g) (hg : Gl X x) (hm : X.mg x = none) (hv : bootBuiltins x = some (.builtin id)) (ha : VA X w (e :: es) ga) (hn : x ≠ "__name__" := by decide) (hdb : (x == ("__debug__" : Str)) = false := by decide)
    (he : starEach (e :: es) X.env = (false, eval e X.env) :: starEach es X.env := by rfl) (hpl : (backTo pos (starEach es X.env)).any (·.1) = false := by rfl) : VE X w (.Call (.Name x p) (e :: es) [] pos) (dCall g ga) :=
  PE.imp (pe_callB hc hg hm hv ha hn hdb he hpl) fun σ H Q ⟨G, ρ, rel, h⟩ => ⟨G, ρ, rel, hs.run rel h⟩
theorem ve_cT (hc : CallR X (.type T) r) (hs : CallS X.K r g) (hg : Gl X x) (hm : X.mg x = none) (hv : bootBuiltins x = some (.type T)) (ha : VA X w (e :: es) ga) (hn : x ≠ "__name__" := by decide) (hdb : (x == ("__debug__" : Str)) = false := by decide)
    (he : starEach (e :: es) X.env = (false, eval e X.env) :: starEach es X.env := by rfl) (hpl : (backTo pos (starEach es X.env)).any (·.1) = false := by rfl) : VE X w (.Call (.Name x p) (e :: es) [] pos) (dCall g ga) :=
  PE.imp (pe_callTy hc hg hm hv ha hn hdb he hpl) fun σ H Q ⟨G, ρ, rel, h⟩ => ⟨G, ρ, rel, hs.run rel h⟩

/-! #### len -/
def gLen1 : D → Option D
  | .str s => if s.length ≤ sizeLine then some (.int s.length) else none
  | .list l => some (.int l.length)
  | .tuple l => some (.int l.length)
  | _ => none
def gLen : List D → Option D
  | [d] => gLen1 d
  | _ => none
abbrev rLen (K : PySem.W.Frag) : List V → Hp → VK → Prop := fun xs H Q => ∃ x n, xs = [x] ∧ LenV K x H n ∧ Q (.int n) H
theorem gLen_ok {K : PySem.W.Frag} {G H : Hp} {σ : L2.St} {ρ : En} {v : V} {d d' : D} {Q : VK} (r : Rel K G H σ ρ) (hv : DV K G H v d) (e : gLen1 d = some d') (q : ∀ v, DR K G v d' → Q v H) : rLen K [v] H Q := by
  cases d with
  | str s =>
    have := hv.str
    subst this
    simp only [gLen1] at e
    split at e
    · cases e; exact ⟨_, s.length, rfl, ⟨‹_›, rfl⟩, q _ (.int _)⟩
    · cases e
  | list l =>
    cases e
    obtain ⟨o, vs, rfl, h, hs⟩ := hv.list r
    exact ⟨_, l.length, rfl, .inl ⟨vs, h, hs.length.symm⟩, q _ (.int _)⟩
  | tuple l =>
    cases e
    obtain ⟨o, vs, rfl, h, hs⟩ := hv.tuple r
    exact ⟨_, l.length, rfl, .inr ⟨vs, h, hs.length.symm⟩, q _ (.int _)⟩
  | _ => cases e
theorem cs_len {K : PySem.W.Frag} : CallS K (rLen K) gLen := fun vs ds d G H σ ρ Q r h e q => by
  cases h with
  | nil => cases e
  | cons h1 t =>
    cases t with
    | nil => exact gLen_ok r (.im h1) e (q _ _ r Stp.refl)
    | cons _ _ => cases e
theorem ve_len (hg : Gl X "len") (hm : X.mg "len" = none) (ha : VA X w (e :: es) ga) (he : starEach (e :: es) X.env = (false, eval e X.env) :: starEach es X.env := by rfl) (hpl : (backTo pos (starEach es X.env)).any (·.1) = false := by rfl) :
    VE X w (.Call (.Name "len" p) (e :: es) [] pos) (dCall gLen ga) := ve_cB call_len cs_len hg hm PySem.boot_len ha (by decide) (by decide) he hpl
def dLenN (i : Nat) : En → R D := atSlot i (fun ρ => .ok () ρ) fun l _ ρ => lift (gLen1 l.toD) ρ
theorem ve_lenN (i : Nat) {y : Str} {p2 : Pos} (hg : Gl X "len") (hm : X.mg "len" = none) (hN : X.N[i]? = some y := by rfl) (hv : Vis X.env.scope y := by first | exact Or.inl rfl | exact Or.inr (Or.inl rfl) | exact Or.inr (Or.inr rfl))
    (hd : (y == ("__debug__" : Str)) = false := by decide) (hcd : (y == ("__classdict__" : Str)) = false := by decide)
    (he : starEach [Expr.Name y p2] X.env = [(false, eval (.Name y p2) X.env)] := by rfl) : VE X w (.Call (.Name "len" p) [.Name y p2] [] pos) (dLenN i) := by
  refine PE.imp (pe_callB call_len hg hm PySem.boot_len (pa_cons (pe_var hN hv hd hcd) pa_nil (by rw [he]; rfl)) (by decide) (by decide) (by rw [he]; rfl) (by rfl)) fun σ H Q ⟨G, ρ, rel, h⟩ => ?_
  obtain ⟨v, s, h⟩ := Fn.slot rel h
  obtain ⟨l, e, dv, r1, s1, h1⟩ := h.ok rel
  obtain ⟨d, e', q⟩ := Fn.lift h1
  exact ⟨v, s, gLen_ok r1 dv e' (q _ _ r1 Stp.refl)⟩

/-! #### ints -/
def gAbs : List D → Option D
  | [.int i] => some (.int (if i < 0 then -i else i))
  | _ => none
def gInt : List D → Option D
  | [.int i] => some (.int i)
  | [.bool k] => some (.int (if k then 1 else 0))
  | [.str s] => if s.length ≤ 640 then (PySem.intText? s).map .int else none
  | _ => none
def gStr : List D → Option D
  | [.int i] => if i.natAbs.log2 < 1920 then some (.str (toString i)) else none
  | _ => none
def gMax2 : List D → Option D
  | [.int i, .int j] => some (.int (if j > i then j else i))
  | _ => none
def gMin2 : List D → Option D
  | [.int i, .int j] => some (.int (if j < i then j else i))
  | _ => none
theorem cs1 {K : PySem.W.Frag} {r : List V → Hp → VK → Prop} {g : List D → Option D} (hg : ∀ ds d, g ds = some d → ∃ x, ds = [x])
    (h : ∀ v x d G H σ ρ Q, Rel K G H σ ρ → DR K G v x → g [x] = some d → (∀ v, DR K G v d → Q v H) → r [v] H Q) : CallS K r g := fun vs ds d G H σ ρ Q rel hv e q => by
  obtain ⟨x, rfl⟩ := hg _ _ e
  cases hv with
  | cons h1 t =>
    cases t
    exact h _ x d G H σ ρ Q rel h1 e (q _ _ rel Stp.refl)
theorem cs2 {K : PySem.W.Frag} {r : List V → Hp → VK → Prop} {g : List D → Option D} (hg : ∀ ds d, g ds = some d → ∃ x y, ds = [x, y])
    (h : ∀ v u x y d G H σ ρ Q, Rel K G H σ ρ → DR K G v x → DR K G u y → g [x, y] = some d → (∀ v, DR K G v d → Q v H) → r [v, u] H Q) : CallS K r g := fun vs ds d G H σ ρ Q rel hv e q => by
  obtain ⟨x, y, rfl⟩ := hg _ _ e
  cases hv with
  | cons h1 t =>
    cases t with
    | cons h2 t => cases t; exact h _ _ x y d G H σ ρ Q rel h1 h2 e (q _ _ rel Stp.refl)
theorem cs_abs {K : PySem.W.Frag} : CallS K (fun xs H Q => ∃ i, xs = [.int i] ∧ Q (.int (if i < 0 then -i else i)) H) gAbs :=
  cs1 (fun ds d e => by rcases ds with _ | ⟨x, _ | ⟨y, t⟩⟩ <;> first | exact ⟨_, rfl⟩ | (cases e; done) | (cases x <;> cases e)) fun v x d G H σ ρ Q rel h e q => by
    cases h with
    | int i => cases e; exact ⟨i, rfl, q _ (.int _)⟩
    | _ => cases e
theorem cs_max2 {K : PySem.W.Frag} : CallS K (fun xs H Q => ∃ i j, xs = [.int i, .int j] ∧ Q (.int (if j > i then j else i)) H) gMax2 :=
  cs2 (fun ds d e => by rcases ds with _ | ⟨x, _ | ⟨y, _ | ⟨z, t⟩⟩⟩ <;> first | exact ⟨_, _, rfl⟩ | (cases e; done) | (cases x <;> cases e; done) | (cases x <;> cases y <;> cases e)) fun v u x y d G H σ ρ Q rel h1 h2 e q => by
    cases h1 with
    | int i =>
      cases h2 with
      | int j => cases e; exact ⟨i, j, rfl, q _ (.int _)⟩
      | _ => cases e
    | _ => cases h2 <;> cases e
theorem cs_min2 {K : PySem.W.Frag} : CallS K (fun xs H Q => ∃ i j, xs = [.int i, .int j] ∧ Q (.int (if j < i then j else i)) H) gMin2 :=
  cs2 (fun ds d e => by rcases ds with _ | ⟨x, _ | ⟨y, _ | ⟨z, t⟩⟩⟩ <;> first | exact ⟨_, _, rfl⟩ | (cases e; done) | (cases x <;> cases e; done) | (cases x <;> cases y <;> cases e)) fun v u x y d G H σ ρ Q rel h1 h2 e q => by
    cases h1 with
    | int i =>
      cases h2 with
      | int j => cases e; exact ⟨i, j, rfl, q _ (.int _)⟩
      | _ => cases e
    | _ => cases h2 <;> cases e
abbrev rInt : List V → Hp → VK → Prop := fun xs H Q => ((∃ i, xs = [.int i] ∧ Q (.int i) H) ∨ ∃ k, xs = [.bl k] ∧ Q (.int (if k then 1 else 0)) H) ∨ (∃ a n, xs = [.str a] ∧ PySem.intText? a = some n ∧ a.length ≤ 640 ∧ Q (.int n) H)
theorem call_intA : CallR X (.type "int") rInt := call_int1.or call_int_str
theorem cs_int {K : PySem.W.Frag} : CallS K rInt gInt :=
  cs1 (fun ds d e => by rcases ds with _ | ⟨x, _ | ⟨y, t⟩⟩ <;> first | exact ⟨_, rfl⟩ | (cases e; done) | (cases x <;> cases e)) fun v x d G H σ ρ Q rel h e q => by
    cases h with
    | int i => cases e; exact .inl (.inl ⟨i, rfl, q _ (.int _)⟩)
    | bl k => cases e; exact .inl (.inr ⟨k, rfl, q _ (.int _)⟩)
    | str s =>
      simp only [gInt] at e
      split at e
      · simp only [Option.map_eq_some_iff] at e
        obtain ⟨n, e, rfl⟩ := e
        exact .inr ⟨s, n, rfl, e, ‹_›, q _ (.int _)⟩
      · cases e
    | _ => cases e
theorem cs_str {K : PySem.W.Frag} : CallS K (fun xs H Q => ∃ i, xs = [.int i] ∧ i.natAbs.log2 < 1920 ∧ Q (.str (toString i)) H) gStr :=
  cs1 (fun ds d e => by rcases ds with _ | ⟨x, _ | ⟨y, t⟩⟩ <;> first | exact ⟨_, rfl⟩ | (cases e; done) | (cases x <;> cases e)) fun v x d G H σ ρ Q rel h e q => by
    cases h with
    | int i =>
      simp only [gStr] at e
      split at e
      · cases e; exact ⟨i, rfl, ‹_›, q _ (.str _)⟩
      · cases e
    | _ => cases e

/-! #### isinstance -/
def tyN : D → String
  | .none => "NoneType" | .bool _ => "bool" | .int _ => "int" | .str _ => "str" | .list _ => "list" | .tuple _ => "tuple" | .dict _ => "dict"
def isTy (t : String) : D → Bool
  | .none => t == "NoneType" | .bool _ => t == "bool" || t == "int" | .int _ => t == "int" | .str _ => t == "str" | .list _ => t == "list" | .tuple _ => t == "tuple" | .dict _ => t == "dict"
def dIsi (t : String) (f : En → R D) : En → R Bool := fun ρ => (f ρ).bind fun d ρ1 => .ok (isTy t d) ρ1
theorem DR.ty {K : PySem.W.Frag} {H : Hp} {v : V} {d : D} (h : DR K H v d) : TyX K H v (.type (tyN d)) := by
  cases h with
  | non => exact .base .non
  | bl b => exact .base (.bl b)
  | int i => exact .base (.int i)
  | str s => exact .base (.str s)
  | lst h hs =>
    rcases h with (h | ⟨o, h⟩) | ⟨o, its, n, hk, hc, _⟩
    · exact .base (.lst h)
    · exact .base (.frz h)
    · exact .kList hk hc
  | tup h hs =>
    rcases h with (h | ⟨o, h⟩) | ⟨o, its, n, hk, hc, _⟩
    · exact .base (.tup h)
    · exact .fTuple h
    · exact .kTuple hk hc
  | dic h hs => exact .base (.dK h)
def tyOk (t : String) : Bool := t == "NoneType" || t == "bool" || t == "int" || t == "str" || t == "list" || t == "tuple" || t == "dict"
def isTyS (t n : String) : Bool := t == n || (n == "bool" && t == "int")
theorem isTy_S (t : String) (d : D) : isTy t d = isTyS t (tyN d) := by
  cases d <;> simp [isTy, isTyS, tyN]
theorem isTy_kit {t : String} (ht : tyOk t = true) (d : D) : kitB (tyN d) t = some (isTy t d) := by
  have h : t = "NoneType" ∨ t = "bool" ∨ t = "int" ∨ t = "str" ∨ t = "list" ∨ t = "tuple" ∨ t = "dict" := by
    simpa [tyOk, or_assoc] using ht
  have hn : tyN d = "NoneType" ∨ tyN d = "bool" ∨ tyN d = "int" ∨ tyN d = "str" ∨ tyN d = "list" ∨ tyN d = "tuple" ∨ tyN d = "dict" := by
    cases d <;> simp [tyN]
  rw [isTy_S]
  generalize tyN d = n at hn
  rcases h with rfl | rfl | rfl | rfl | rfl | rfl | rfl <;> rcases hn with rfl | rfl | rfl | rfl | rfl | rfl | rfl <;> decide +kernel
theorem ve_isi {a : Expr} {f : En → R D} {y : Str} {t : String} {p2 : Pos} (hg : Gl X "isinstance") (hm : X.mg "isinstance" = none) (ha : VE X w a f) (hgy : Gl X y) (hmy : X.mg y = none) (hvy : bootBuiltins y = some (.type t)) (ht : tyOk t = true := by rfl)
    (hn : y ≠ "__name__" := by decide) (hdy : (y == ("__debug__" : Str)) = false := by decide)
    (he : starEach [a, Expr.Name y p2] X.env = [(false, eval a X.env), (false, eval (.Name y p2) X.env)] := by rfl)
    (he2 : starEach [Expr.Name y p2] X.env = [(false, eval (.Name y p2) X.env)] := by rfl) :
    VE X w (.Call (.Name "isinstance" p) [a, .Name y p2] [] pos) (dB (dIsi t f)) := by
  refine PE.imp (pe_callB call_isi hg hm (by decide +kernel) (pa_cons ha (pa_cons (pe_bltn (v := .ty t) hgy hmy hvy rfl hn hdy) pa_nil (by rw [he2]; rfl)) (by rw [he, he2])) (by decide) (by decide) (by rw [he, he2]) (by rw [he2]; rfl)) fun σ H Q ⟨G, ρ, rel, h⟩ => ?_
  refine ⟨G, ρ, rel, (Fn.bind rel (Fn.dB rel h)).imp fun G1 H1 ρ1 d ⟨r1, s1, h1⟩ v hv => ?_⟩
  exact ⟨v, .ty t, _, _, _, rfl, .ty t, (hv.mono r1.sub).ty, kit_ty (isTy_kit ht d), (h1.ok r1).2.2⟩
end
end Dn
namespace Dn
open PySem PySem.Spec PyProof.Rows L2

/-! ### statements -/
inductive Fl where
  | nx | bk | ct
  | rt (d : D)
  | rl (ds : List D)
/-- a list that is handed out, nobody else's -/
structure OutL (K : PySem.W.Frag) (G H : Hp) (σ : L2.St) (ρ : En) (G' H' : Hp) (σ' : L2.St) (ρ' : En) (p : Addr) (ds : List D) : Prop where
  g : G' p = none
  own : ¬ Own σ' ρ' p
  here : ∃ vs, H' p = some (.lst vs) ∧ DRs K G' vs ds
  new : H p = none ∨ ∃ (i : Nat) (es : List D), ρ[i]? = some (some (L.ow es)) ∧ σ[i]? = some (some (V.ref p))
def FnS (K : PySem.W.Frag) (w : Wh) (G H : Hp) (σ : L2.St) (ρ : En) (r : R Fl) (D : Ends) : Prop :=
  match r with
  | .no => False
  | .ok .nx ρ' => ∀ G' H' σ', Rel K G' H' σ' ρ' → Stp G H σ ρ G' H' σ' ρ' → D.nx σ' H'
  | .ok .bk ρ' => ∀ G' H' σ', Rel K G' H' σ' ρ' → Stp G H σ ρ G' H' σ' ρ' → D.bk σ' H'
  | .ok .ct ρ' => ∀ G' H' σ', Rel K G' H' σ' ρ' → Stp G H σ ρ G' H' σ' ρ' → D.ct σ' H'
  | .ok (.rt d) ρ' => ∀ G' H' σ' v, Rel K G' H' σ' ρ' → Stp G H σ ρ G' H' σ' ρ' → DR K G' v d → D.rt v H'
  | .ok (.rl ds) ρ' => ∀ G' H' σ' p, Rel K G' H' σ' ρ' → Stp G H σ ρ G' H' σ' ρ' → OutL K G H σ ρ G' H' σ' ρ' p ds → D.rt (.ref p) H'
  | .ex c ρ' => ∀ G' H' σ' cls dx, Rel K G' H' σ' ρ' → Stp G H σ ρ G' H' σ' ρ' → ExR K w G' H' c cls dx → w.W cls dx σ' H'
abbrev tsS (K : PySem.W.Frag) (w : Wh) (f : En → R Fl) : TS := fun D σ H => ∃ G ρ, Rel K G H σ ρ ∧ FnS K w G H σ ρ (f ρ) D
abbrev VS (X : Cx) (w : Wh) (st : Stmt) (f : En → R Fl) : Prop := PS X st (tsS X.K w f)
abbrev VSs (X : Cx) (w : Wh) (sts : List Stmt) (f : En → R Fl) : Prop := PSs X sts (tsS X.K w f)

section
variable {K : PySem.W.Frag} {w : Wh} {G H G1 H1 G2 H2 : Hp} {σ σ1 σ2 : L2.St} {ρ ρ1 ρ2 : En}
/-- an own slot keeps being own and at its place, or goes; here: what is moved out of a later state was new or own before -/
theorem OutL.back (rel : Rel K G H σ ρ) (r1 : Rel K G1 H1 σ1 ρ1) (s1 : Stp G H σ ρ G1 H1 σ1 ρ1) {p : Addr} {ds : List D} (h : OutL K G1 H1 σ1 ρ1 G2 H2 σ2 ρ2 p ds) : OutL K G H σ ρ G2 H2 σ2 ρ2 p ds := by
  refine ⟨h.g, h.own, h.here, ?_⟩
  cases q : H p with
  | none => exact .inl rfl
  | some o =>
    rcases h.new with z | ⟨i, es, e, s⟩
    · exact absurd z (s1.tr p (by rw [q]; exact fun z => nomatch z))
    · rcases s1.ow p ⟨i, _, e, rfl, s⟩ with ⟨j, l, ej, mj, sj⟩ | z
      · cases l with
        | im d => cases mj
        | ow es' => exact .inr ⟨j, es', ej, sj⟩
        | bo es' =>
          obtain ⟨e1, ds', e2⟩ := s1.bo j es' ej
          have := r1.apart i j _ _ p e e2 rfl rfl s (e1.trans sj)
          subst this
          rw [e] at e2; cases e2
      · rw [q] at z; cases z
/-- behind a first step -/
theorem FnS.after (rel : Rel K G H σ ρ) (r1 : Rel K G1 H1 σ1 ρ1) (s1 : Stp G H σ ρ G1 H1 σ1 ρ1) {r : R Fl} {D : Ends} (h : FnS K w G H σ ρ r D) : FnS K w G1 H1 σ1 ρ1 r D := by
  cases r with
  | no => exact h
  | ex c ρ' => exact fun G' H' σ' cls dx r2 s2 => h G' H' σ' cls dx r2 (s1.trans rel s2)
  | ok f ρ' =>
    cases f with
    | nx => exact fun G' H' σ' r2 s2 => h G' H' σ' r2 (s1.trans rel s2)
    | bk => exact fun G' H' σ' r2 s2 => h G' H' σ' r2 (s1.trans rel s2)
    | ct => exact fun G' H' σ' r2 s2 => h G' H' σ' r2 (s1.trans rel s2)
    | rt d => exact fun G' H' σ' v r2 s2 => h G' H' σ' v r2 (s1.trans rel s2)
    | rl ds => exact fun G' H' σ' p r2 s2 ho => h G' H' σ' p r2 (s1.trans rel s2) (ho.back rel r1 s1)
/-- first an expression -/
theorem FnS.bind {α : Type} {r : R α} {g : α → En → R Fl} {D : Ends} (rel : Rel K G H σ ρ) (h : FnS K w G H σ ρ (r.bind g) D) :
    Fn K w G H σ ρ r (fun G1 H1 ρ1 a => Rel K G1 H1 σ ρ1 ∧ Stp G H σ ρ G1 H1 σ ρ1 ∧ FnS K w G1 H1 σ ρ1 (g a ρ1) D) := by
  cases r with
  | no => exact h
  | ex c ρ' => exact fun G' H' cls dx r1 s1 x => h G' H' σ cls dx r1 s1 x
  | ok a ρ' => exact fun G1 H1 r1 s1 => ⟨r1, s1, FnS.after rel r1 s1 (show FnS K w G H σ ρ (g a ρ') D from h)⟩
theorem FnS.lift {α : Type} {o : Option α} {g : α → R Fl} {D : Ends} (h : FnS K w G H σ ρ (match o with | some a => g a | none => .no) D) : ∃ a, o = some a ∧ FnS K w G H σ ρ (g a) D := by
  cases o with
  | none => exact h.elim
  | some a => exact ⟨a, rfl, h⟩
theorem FnS.nx {D : Ends} (h : FnS K w G H σ ρ (.ok .nx ρ1) D) {σ' : L2.St} (r : Rel K G1 H1 σ' ρ1) (s : Stp G H σ ρ G1 H1 σ' ρ1) : D.nx σ' H1 := h _ _ _ r s
/-- a block's first statement -/
theorem FnS.seq {f g : En → R Fl} {D : Ends} (rel : Rel K G H σ ρ) (h : FnS K w G H σ ρ ((f ρ).bind fun fl ρ1 => match fl with | .nx => g ρ1 | fl => .ok fl ρ1) D) :
    FnS K w G H σ ρ (f ρ) { D with nx := fun σ1 H1 => ∃ G1 ρ1, Rel K G1 H1 σ1 ρ1 ∧ FnS K w G1 H1 σ1 ρ1 (g ρ1) D } := by
  cases q : f ρ with
  | no => rw [q] at h; exact h
  | ex c ρ' => rw [q] at h; exact h
  | ok fl ρ' =>
    rw [q] at h
    cases fl with
    | nx => exact fun G1 H1 σ1 r1 s1 => ⟨G1, ρ', r1, FnS.after rel r1 s1 (show FnS K w G H σ ρ (g ρ') D from h)⟩
    | bk => exact h
    | ct => exact h
    | rt d => exact h
    | rl ds => exact h
end
def dSeq (f g : En → R Fl) : En → R Fl := fun ρ => (f ρ).bind fun fl ρ1 => match fl with
  | .nx => g ρ1
  | fl => .ok fl ρ1
def dNx : En → R Fl := fun ρ => .ok .nx ρ
def dBk : En → R Fl := fun ρ => .ok .bk ρ
def dCt : En → R Fl := fun ρ => .ok .ct ρ
def dRet (f : En → R D) : En → R Fl := fun ρ => (f ρ).bind fun d ρ1 => .ok (.rt d) ρ1
def dRetL (f : En → R (List D)) : En → R Fl := fun ρ => (f ρ).bind fun d ρ1 => .ok (.rl d) ρ1
def dDrop (f : En → R D) : En → R Fl := fun ρ => (f ρ).bind fun _ ρ1 => .ok .nx ρ1
def dIf (c : En → R Bool) (f g : En → R Fl) : En → R Fl := fun ρ => (c ρ).bind fun b ρ1 => if b = true then f ρ1 else g ρ1
section
variable {X : Cx} {w : Wh} {st : Stmt} {rest : List Stmt} {f g : En → R Fl} {pos : Pos} {e : Expr} {fe : En → R D}
theorem vss_nil : VSs X w [] dNx := PSs.imp pss_nil fun D σ H ⟨G, ρ, rel, h⟩ => FnS.nx (show FnS X.K w G H σ ρ (.ok .nx ρ) D from h) rel Stp.refl
theorem vss_cons (h1 : VS X w st f) (h2 : VSs X w rest g) : VSs X w (st :: rest) (dSeq f g) := PSs.imp (pss_cons h1 h2) fun D σ H ⟨G, ρ, rel, h⟩ => ⟨G, ρ, rel, FnS.seq rel h⟩
theorem vss_one (h1 : VS X w st f) : VSs X w [st] f := pss_one h1
theorem vs_pass : VS X w (.Pass pos) dNx := PS.imp ps_pass fun D σ H ⟨G, ρ, rel, h⟩ => FnS.nx (show FnS X.K w G H σ ρ (.ok .nx ρ) D from h) rel Stp.refl
theorem vs_break : VS X w (.Break pos) dBk := PS.imp ps_break fun D σ H ⟨G, ρ, rel, h⟩ => (show FnS X.K w G H σ ρ (.ok .bk ρ) D from h) _ _ _ rel Stp.refl
theorem vs_cont : VS X w (.Continue pos) dCt := PS.imp ps_continue fun D σ H ⟨G, ρ, rel, h⟩ => (show FnS X.K w G H σ ρ (.ok .ct ρ) D from h) _ _ _ rel Stp.refl
theorem vs_ret (he : VE X w e fe) : VS X w (.Return (some e) pos) (dRet fe) := PS.imp (ps_ret he) fun D σ H ⟨G, ρ, rel, h⟩ => ⟨G, ρ, rel, (FnS.bind rel h).imp fun G1 H1 ρ1 d ⟨r1, s1, h1⟩ v hv =>
  (show FnS X.K w G1 H1 σ ρ1 (.ok (.rt d) ρ1) D from h1) _ _ _ _ r1 Stp.refl hv⟩
theorem vs_retN : VS X w (.Return none pos) (dRet (dC .none)) := PS.imp ps_retN fun D σ H ⟨G, ρ, rel, h⟩ => (show FnS X.K w G H σ ρ (.ok (.rt .none) ρ) D from h) _ _ _ _ rel Stp.refl .non
theorem vs_expr (he : VE X w e fe) (hs : swapsWith e none pos.line X.env = pure false := by rfl) : VS X w (.Expr e pos) (dDrop fe) := PS.imp (ps_expr he hs) fun D σ H ⟨G, ρ, rel, h⟩ => ⟨G, ρ, rel, (FnS.bind rel h).imp fun G1 H1 ρ1 d ⟨r1, s1, h1⟩ v hv =>
  FnS.nx (show FnS X.K w G1 H1 σ ρ1 (.ok .nx ρ1) D from h1) r1 Stp.refl⟩
theorem vs_if {c : Expr} {a b : List Stmt} {gc : En → R Bool} (hc : VT X w c gc) (ha : VSs X w a f) (hb : VSs X w b g) : VS X w (.If c a b pos) (dIf gc f g) := PS.imp (ps_if hc ha hb) fun D σ H ⟨G, ρ, rel, h⟩ => ⟨G, ρ, rel, (FnS.bind rel h).imp fun G1 H1 ρ1 b ⟨r1, s1, h1⟩ => by
  cases b with
  | true => exact iteT ⟨G1, ρ1, r1, h1⟩
  | false => exact iteF ⟨G1, ρ1, r1, h1⟩⟩
theorem vs_retL {fl : En → R (List D)} (he : VN X w e fl) : VS X w (.Return (some e) pos) (dRetL fl) := PS.imp (ps_ret he) fun D σ H ⟨G, ρ, rel, h⟩ => ⟨G, ρ, rel, by
  unfold dRetL at h
  cases q : fl ρ with
  | no => rw [q] at h; exact h
  | ex c ρ' => rw [q] at h; exact fun G' H' cls dx r1 s1 x => h G' H' σ cls dx r1 s1 x
  | ok ds ρ' =>
    rw [q] at h
    exact fun G1 H1 r1 s1 p n => h G1 H1 σ p r1 s1 ⟨n.g, n.own, n.here, .inl n.new⟩⟩
end

/-! ### stores into slots -/
section
variable {K : PySem.W.Frag} {G H : Hp} {σ : L2.St} {ρ : En}
theorem set_same {α : Type} {l : List α} {i : Nat} {a b : α} (h : l[i]? = some b) : (l.set i a)[i]? = some a := List.getElem?_set_self (List.getElem?_eq_some_iff.mp h).1
/-- the slot i takes a datum -/
theorem Rel.put (r : Rel K G H σ ρ) {i : Nat} {c : Option L} (hi : ρ[i]? = some c) (hb : ∀ ds, c ≠ some (L.bo ds)) {v : V} {d : D} (hv : DR K G v d) :
    Rel K G H (σ.set i (some v)) (ρ.set i (some (.im d))) ∧ Stp G H σ ρ G H (σ.set i (some v)) (ρ.set i (some (.im d))) := by
  have hσ : i < σ.length := by rw [r.len]; exact (List.getElem?_eq_some_iff.mp hi).1
  have lk : ∀ j, j ≠ i → (ρ.set i (some (L.im d)))[j]? = ρ[j]? := fun j hj => List.getElem?_set_ne (Ne.symm hj)
  have ls : ∀ j, j ≠ i → (σ.set i (some v))[j]? = σ[j]? := fun j hj => List.getElem?_set_ne (Ne.symm hj)
  have lki : (ρ.set i (some (L.im d)))[i]? = some (some (.im d)) := set_same hi
  have own : ∀ a, Own (σ.set i (some v)) (ρ.set i (some (.im d))) a → Own σ ρ a := fun a ⟨j, l, e, m, s⟩ => by
    have hj : j ≠ i := fun z => by subst z; rw [lki] at e; cases e; cases m
    rw [lk j hj] at e; rw [ls j hj] at s
    exact ⟨j, l, e, m, s⟩
  refine ⟨⟨r.sub, by rw [List.length_set, List.length_set]; exact r.len, fun j l e => ?_, fun j k l m a ej ek lj mk sj sk => ?_⟩, ⟨Same.refl _, fun _ _ h _ => h, fun _ h => .inl h, fun a h => .inl (own a h), fun _ h => h, by rw [List.length_set], fun j ds e => ?_⟩⟩
  · by_cases hj : j = i
    · subst hj; rw [lki] at e; cases e
      exact ⟨v, List.getElem?_set_self hσ, hv⟩
    · rw [lk j hj] at e; rw [ls j hj]; exact r.cell j l e
  · have hj : j ≠ i := fun z => by subst z; rw [lki] at ej; cases ej; cases lj
    have hk : k ≠ i := fun z => by subst z; rw [lki] at ek; cases ek; cases mk
    rw [lk j hj] at ej; rw [ls j hj] at sj; rw [lk k hk] at ek; rw [ls k hk] at sk
    exact r.apart j k l m a ej ek lj mk sj sk
  · have hj : j ≠ i := fun z => by subst z; rw [hi] at e; exact hb ds (Option.some.inj e)
    exact ⟨ls j hj, ds, by rw [lk j hj]; exact e⟩
/-- the slot i takes a new list of its own -/
theorem Rel.putL (r : Rel K G H σ ρ) {i : Nat} {c : Option L} (hi : ρ[i]? = some c) (hb : ∀ ds, c ≠ some (L.bo ds)) {p : Addr} {ds : List D} (hg : G p = none) (ho : ¬ Own σ ρ p) (hh : ∃ vs, H p = some (.lst vs) ∧ DRs K G vs ds) :
    Rel K G H (σ.set i (some (.ref p))) (ρ.set i (some (.ow ds))) := by
  obtain ⟨vs, hp, hd⟩ := hh
  have hσ : i < σ.length := by rw [r.len]; exact (List.getElem?_eq_some_iff.mp hi).1
  have lk : ∀ j, j ≠ i → (ρ.set i (some (L.ow ds)))[j]? = ρ[j]? := fun j hj => List.getElem?_set_ne (Ne.symm hj)
  have ls : ∀ j, j ≠ i → (σ.set i (some (V.ref p)))[j]? = σ[j]? := fun j hj => List.getElem?_set_ne (Ne.symm hj)
  have lki : (ρ.set i (some (L.ow ds)))[i]? = some (some (.ow ds)) := set_same hi
  have lsi : (σ.set i (some (V.ref p)))[i]? = some (some (.ref p)) := List.getElem?_set_self hσ
  refine ⟨r.sub, by rw [List.length_set, List.length_set]; exact r.len, fun j l e => ?_, fun j k l m a ej ek lj mk sj sk => ?_⟩
  · by_cases hj : j = i
    · subst hj; rw [lki] at e; cases e
      exact ⟨_, lsi, p, vs, rfl, hg, hp, hd⟩
    · rw [lk j hj] at e; rw [ls j hj]; exact r.cell j l e
  · by_cases hj : j = i
    · subst hj
      by_cases hk : k = j
      · exact hk.symm
      · rw [lk k hk] at ek; rw [ls k hk] at sk
        rw [lsi] at sj; cases sj
        exact absurd ⟨k, m, ek, mk, sk⟩ ho
    · rw [lk j hj] at ej; rw [ls j hj] at sj
      by_cases hk : k = i
      · subst hk
        rw [lsi] at sk; cases sk
        exact absurd ⟨j, l, ej, lj, sj⟩ ho
      · rw [lk k hk] at ek; rw [ls k hk] at sk
        exact r.apart j k l m a ej ek lj mk sj sk
theorem Stp.putL {G0 H0 : Hp} {σ0 : L2.St} {ρ0 : En} (s : Stp G0 H0 σ0 ρ0 G H σ ρ) {i : Nat} {c : Option L} (hi : ρ[i]? = some c) (hb : ∀ ds, c ≠ some (L.bo ds)) {p : Addr} {ds : List D} (hn : H0 p = none) :
    Stp G0 H0 σ0 ρ0 G H (σ.set i (some (.ref p))) (ρ.set i (some (.ow ds))) := by
  have lk : ∀ j, j ≠ i → (ρ.set i (some (L.ow ds)))[j]? = ρ[j]? := fun j hj => List.getElem?_set_ne (Ne.symm hj)
  have ls : ∀ j, j ≠ i → (σ.set i (some (V.ref p)))[j]? = σ[j]? := fun j hj => List.getElem?_set_ne (Ne.symm hj)
  refine ⟨s.g, s.h, s.fr, fun a ⟨j, l, e, m, q⟩ => ?_, s.tr, by rw [List.length_set]; exact s.ln, fun j es e => ?_⟩
  · by_cases hj : j = i
    · subst hj
      have hσ : j < σ.length := by
        have := (List.getElem?_eq_some_iff.mp q).1
        rwa [List.length_set] at this
      rw [List.getElem?_set_self hσ] at q
      cases q
      exact .inr hn
    · rw [lk j hj] at e; rw [ls j hj] at q
      exact s.ow a ⟨j, l, e, m, q⟩
  · obtain ⟨e1, ds', e2⟩ := s.bo j es e
    have hj : j ≠ i := fun z => by subst z; rw [hi] at e2; exact hb ds' (Option.some.inj e2)
    exact ⟨(ls j hj).trans e1, ds', by rw [lk j hj]; exact e2⟩
end
/-- no lent slot is stored into -/
def free (c : Option (Option L)) : Bool := match c with
  | none => false
  | some (some (.bo _)) => false
  | _ => true
theorem free_ok {ρ : En} {i : Nat} (h : free ρ[i]? = true) : ∃ c, ρ[i]? = some c ∧ ∀ ds, c ≠ some (L.bo ds) := by
  cases q : ρ[i]? with
  | none => rw [q] at h; cases h
  | some c =>
    refine ⟨c, rfl, fun ds e => ?_⟩
    subst e
    rw [q] at h; cases h
def putIm (i : Nat) (d : D) (ρ : En) : R Unit := if free ρ[i]? = true then .ok () (ρ.set i (some (.im d))) else .no
def putOw (i : Nat) (ds : List D) (ρ : En) : R Unit := if free ρ[i]? = true then .ok () (ρ.set i (some (.ow ds))) else .no
/-! targets -/
def FnG (K : PySem.W.Frag) (G H : Hp) (σ : L2.St) (ρ : En) (r : R Unit) (Q : L2.St → Hp → Prop) : Prop :=
  match r with
  | .ok _ ρ' => ∀ G' H' σ', Rel K G' H' σ' ρ' → Stp G H σ ρ G' H' σ' ρ' → Q σ' H'
  | _ => False
abbrev VG (X : Cx) (tg : Expr) (g : D → En → R Unit) : Prop := PG X tg (fun v σ H Q => ∃ G ρ d, Rel X.K G H σ ρ ∧ DR X.K G v d ∧ FnG X.K G H σ ρ (g d ρ) Q)
abbrev VGs (X : Cx) (tgs : List Expr) (g : List D → En → R Unit) : Prop := PGs X tgs (fun vs σ H Q => ∃ G ρ ds, Rel X.K G H σ ρ ∧ DRs X.K G vs ds ∧ FnG X.K G H σ ρ (g ds ρ) Q)
theorem PG.imp {X : Cx} {e : Expr} {t t' : TG} (h : PG X e t) (i : ∀ v σ H Q, t' v σ H Q → t v σ H Q) : PG X e t' := ⟨fun pins s σ H v u Q I r q => h.run pins s σ H v u Q I r (i _ _ _ _ q)⟩
theorem PGs.imp {X : Cx} {e : List Expr} {t t' : TGs} (h : PGs X e t) (i : ∀ v σ H Q, t' v σ H Q → t v σ H Q) : PGs X e t' := ⟨fun pins s σ H v u Q I r q => h.run pins s σ H v u Q I r (i _ _ _ _ q)⟩
def gsNil : List D → En → R Unit := fun ds ρ => match ds with
  | [] => .ok () ρ
  | _ => .no
def gsCons (g : D → En → R Unit) (h : List D → En → R Unit) : List D → En → R Unit := fun ds ρ => match ds with
  | d :: r => (g d ρ).bind fun _ ρ1 => h r ρ1
  | [] => .no
def gTupD (n : Nat) (h : List D → En → R Unit) : D → En → R Unit := fun d ρ => match d with
  | .tuple ds => if ds.length = n then h ds ρ else .no
  | .list ds => if ds.length = n then h ds ρ else .no
  | _ => .no
theorem pgOr {X : Cx} {e : Expr} {t t' : TG} (h : PG X e t) (h' : PG X e t') : PG X e (fun v σ H Q => t v σ H Q ∨ t' v σ H Q) :=
  ⟨fun pins s σ H v u Q I r q => q.elim (fun q => h.run pins s σ H v u Q I r q) (fun q => h'.run pins s σ H v u Q I r q)⟩
section
variable {X : Cx} {w : Wh} {x : Str} {pos p : Pos} {e : Expr} {es : List Expr} {fe : En → R D} {g : D → En → R Unit} {h : List D → En → R Unit}
theorem FnG.put {K : PySem.W.Frag} {G H : Hp} {σ : L2.St} {ρ : En} {i : Nat} {v : V} {d : D} {Q : L2.St → Hp → Prop} (rel : Rel K G H σ ρ) (hv : DR K G v d) (q : FnG K G H σ ρ (putIm i d ρ) Q) : Q (σ.set i (some v)) H := by
  unfold putIm at q
  split at q
  · rename_i hf
    obtain ⟨c, hc, hb⟩ := free_ok hf
    obtain ⟨r1, s1⟩ := rel.put hc hb hv
    exact q _ _ _ r1 s1
  · exact q.elim
theorem vg_name (i : Nat) (hN : X.N.Nodup) (hi : X.N[i]? = some x := by rfl) (hx : Loc X.env.scope x := by first | exact Or.inl rfl | exact Or.inr rfl) (hf : X.fn x = true ∨ X.env.scope.names.lookup x = some .local := by first | exact .inl rfl | exact .inr rfl | assumption) : VG X (.Name x pos) (putIm i) :=
  PG.imp (pg_name hN hi hx hf) fun v σ H Q ⟨G, ρ, d, rel, hv, q⟩ => FnG.put rel hv q
theorem vgs_nil : VGs X [] gsNil := PGs.imp pgs_nil fun vs σ H Q ⟨G, ρ, ds, rel, hv, q⟩ => by
  cases hv with
  | nil => exact ⟨rfl, q _ _ _ rel Stp.refl⟩
  | cons _ _ => exact q.elim
theorem vgs_cons (h1 : VG X e g) (h2 : VGs X es h) (hs : (assignEach (e :: es) X.env).map (·.2) = assign e X.env :: (assignEach es X.env).map (·.2) := by rfl) : VGs X (e :: es) (gsCons g h) :=
  PGs.imp (pgs_cons h1 h2 hs) fun vs σ H Q ⟨G, ρ, ds, rel, hv, q⟩ => by
    cases hv with
    | nil => exact q.elim
    | @cons v vs d ds hv1 hvs =>
      have q' : FnG X.K G H σ ρ ((g d ρ).bind fun _ ρ1 => h ds ρ1) Q := q
      refine ⟨v, vs, rfl, G, ρ, d, rel, hv1, ?_⟩
      cases e1 : g d ρ with
      | no => rw [e1] at q'; exact q'
      | ex c ρ' => rw [e1] at q'; exact q'
      | ok u ρ' =>
        rw [e1] at q'
        intro G1 H1 σ1 r1 s1
        refine ⟨G1, ρ', ds, r1, hvs.mono s1.g, ?_⟩
        have q2 : FnG X.K G H σ ρ (h ds ρ') Q := q'
        cases e2 : h ds ρ' with
        | no => rw [e2] at q2; exact q2
        | ex c ρ'' => rw [e2] at q2; exact q2
        | ok u' ρ'' => rw [e2] at q2; exact fun G2 H2 σ2 r2 s2 => q2 G2 H2 σ2 r2 (s1.trans rel s2)
theorem vg_tup {k : Nat} {n : Nat} (hc : X.calm = true) (hs : VGs X es h) (hn : (assignEach es X.env).length = n := by rfl) (hst : (assignEach es X.env).findIdx? (·.1) = none := by rfl) : VG X (.Tuple es k pos) (gTupD n h) :=
  PG.imp (pgOr (pg_tup hc hs hn hst) (pg_unl hc hs hn hst)) fun v σ H Q ⟨G, ρ, d, rel, hv, q⟩ => by
    cases hv with
    | @lst a xs ds hq hds =>
      have q' : FnG X.K G H σ ρ (if ds.length = n then h ds ρ else .no) Q := q
      split at q'
      · rename_i hl
        exact .inr ⟨a, xs, rfl, rel.sub.seq hq, by rw [hds.length]; exact hl, G, ρ, ds, rel, hds, q'⟩
      · exact q'.elim
    | @tup a xs ds hq hds =>
      have q' : FnG X.K G H σ ρ (if ds.length = n then h ds ρ else .no) Q := q
      split at q'
      · rename_i hl
        exact .inl ⟨a, xs, rfl, Same.tup rel.sub hq, by rw [hds.length]; exact hl, G, ρ, ds, rel, hds, q'⟩
      · exact q'.elim
    | _ => exact q.elim
def dAsg (g : D → En → R Unit) (f : En → R D) : En → R Fl := fun ρ => (f ρ).bind fun d ρ1 => (g d ρ1).bind fun _ ρ2 => .ok .nx ρ2
theorem FnS.tg {K : PySem.W.Frag} {G H : Hp} {σ : L2.St} {ρ : En} {r : R Unit} {D : Ends} (h : FnS K w G H σ ρ (r.bind fun _ ρ2 => .ok .nx ρ2) D) (hx : ∀ c ρ', r ≠ .ex c ρ') : FnG K G H σ ρ r D.nx := by
  cases r with
  | no => exact h
  | ex c ρ' => exact absurd rfl (hx c ρ')
  | ok u ρ' => exact h
/-- no target raises -/
def NoX (g : D → En → R Unit) : Prop := ∀ d ρ c ρ', g d ρ ≠ .ex c ρ'
theorem nox_put {i : Nat} : NoX (putIm i) := fun d ρ c ρ' => by
  unfold putIm; split <;> exact fun z => nomatch z
theorem vs_asg {tg : Expr} (he : VE X w e fe) (hg : VG X tg g) (hx : NoX g) (hs : swapsWithSole [tg] e pos.line X.env = pure false := by rfl) (hw : swappedStores [tg] e X.env = pure none := by rfl)
    (h1 : (assignEach [tg] X.env).map (·.2) = [assign tg X.env] := by rfl) : VS X w (.Assign [tg] e pos) (dAsg g fe) :=
  PS.imp (ps_asg he hg hs hw h1) fun D σ H ⟨G, ρ, rel, h⟩ => ⟨G, ρ, rel, (FnS.bind rel h).imp fun G1 H1 ρ1 d ⟨r1, s1, h1⟩ v hv => ⟨G1, ρ1, d, r1, hv, FnS.tg h1 (hx d ρ1)⟩⟩
theorem vs_set (i : Nat) {pos' : Pos} (hN : X.N.Nodup) (he : VE X w e fe) (hi : X.N[i]? = some x := by rfl) (hx : Loc X.env.scope x := by first | exact Or.inl rfl | exact Or.inr rfl) (hs : swapsWith e (some (.Name x pos')) pos.line X.env = pure false := by rfl)
    (hf : X.fn x = true ∨ X.env.scope.names.lookup x = some .local := by first | exact .inl rfl | exact .inr rfl | assumption) : VS X w (.Assign [.Name x pos'] e pos) (dAsg (putIm i) fe) :=
  PS.imp (ps_set hN hi hx he hs hf) fun D σ H ⟨G, ρ, rel, h⟩ => ⟨G, ρ, rel, (FnS.bind rel h).imp fun G1 H1 ρ1 d ⟨r1, s1, h1⟩ v hv => FnG.put r1 hv (FnS.tg h1 (nox_put d ρ1))⟩
def dAsgL (i : Nat) (f : En → R (List D)) : En → R Fl := fun ρ => (f ρ).bind fun ds ρ1 => (putOw i ds ρ1).bind fun _ ρ2 => .ok .nx ρ2
theorem vs_setL (i : Nat) {pos' : Pos} {fl : En → R (List D)} (hN : X.N.Nodup) (he : VN X w e fl) (hi : X.N[i]? = some x := by rfl) (hx : Loc X.env.scope x := by first | exact Or.inl rfl | exact Or.inr rfl) (hs : swapsWith e (some (.Name x pos')) pos.line X.env = pure false := by rfl)
    (hf : X.fn x = true ∨ X.env.scope.names.lookup x = some .local := by first | exact .inl rfl | exact .inr rfl | assumption) : VS X w (.Assign [.Name x pos'] e pos) (dAsgL i fl) :=
  PS.imp (ps_set hN hi hx he hs hf) fun D σ H ⟨G, ρ, rel, h⟩ => ⟨G, ρ, rel, by
    unfold dAsgL at h
    cases q : fl ρ with
    | no => rw [q] at h; exact h
    | ex c ρ' => rw [q] at h; exact fun G' H' cls dx r1 s1 x => h G' H' σ cls dx r1 s1 x
    | ok ds ρ' =>
      rw [q] at h
      intro G1 H1 r1 s1 p n
      have h' : FnS X.K w G H σ ρ ((putOw i ds ρ').bind fun _ ρ2 => .ok .nx ρ2) D := h
      unfold putOw at h'
      split at h'
      · rename_i hf
        obtain ⟨c, hc, hb⟩ := free_ok hf
        exact FnS.nx (show FnS X.K w G H σ ρ (.ok .nx (ρ'.set i (some (.ow ds)))) D from h') (r1.putL hc hb n.g n.own n.here) (s1.putL hc hb n.new)
      · exact h'.elim⟩
/-- a, b = x, y -/
def dPar (i j : Nat) (ga : En → R (List AV)) : En → R Fl := fun ρ => (dAll ga ρ).bind fun ds ρ1 => match ds with
  | [a, b] => (putIm i a ρ1).bind fun _ ρ2 => (putIm j b ρ2).bind fun _ ρ3 => .ok .nx ρ3
  | _ => .no
theorem FnS.all {K : PySem.W.Frag} {G H : Hp} {σ : L2.St} {ρ : En} {ga : En → R (List AV)} {g : List D → En → R Fl} {Z : Ends} (rel : Rel K G H σ ρ) (h : FnS K w G H σ ρ ((dAll ga ρ).bind g) Z) :
    Fn K w G H σ ρ (ga ρ) (fun G1 H1 ρ1 as => Rel K G1 H1 σ ρ1 ∧ Stp G H σ ρ G1 H1 σ ρ1 ∧ ∃ ds, allIm as = some ds ∧ FnS K w G1 H1 σ ρ1 (g ds ρ1) Z) := by
  have h' : FnS K w G H σ ρ ((ga ρ).bind fun as ρ1 => (Dn.lift (allIm as) ρ1 : R (List D)).bind g) Z := by
    have : (dAll ga ρ).bind g = (ga ρ).bind fun as ρ1 => (Dn.lift (allIm as) ρ1 : R (List D)).bind g := by
      unfold dAll
      cases ga ρ <;> rfl
    rw [← this]; exact h
  refine (FnS.bind rel h').imp fun G1 H1 ρ1 as ⟨r1, s1, h1⟩ => ⟨r1, s1, ?_⟩
  cases q : allIm as with
  | none => rw [q] at h1; exact h1.elim
  | some ds => rw [q] at h1; exact ⟨ds, rfl, h1⟩
theorem vs_par (i j : Nat) {y : Str} {a b : Expr} {ga : En → R (List AV)} {px py pt : Pos} {kt k2 : Nat} {pt2 : Pos} (hc : X.calm = true) (hN : X.N.Nodup) (ha : VA X w [a, b] ga) (hi : X.N[i]? = some x := by rfl) (hj : X.N[j]? = some y := by rfl) (hij : i ≠ j := by decide)
    (hx : X.env.scope.names.lookup x = some .local := by rfl) (hy : X.env.scope.names.lookup y = some .local := by rfl)
    (hw : swappedStores [.Tuple [.Name x px, .Name y py] kt pt] (.Tuple [a, b] k2 pt2) X.env = pure (some [x, y]) := by rfl)
    (hs : swapsWithSole [.Tuple [.Name x px, .Name y py] kt pt] (.Tuple [a, b] k2 pt2) pos.line X.env = pure false := by rfl) :
    VS X w (.Assign [.Tuple [.Name x px, .Name y py] kt pt] (.Tuple [a, b] k2 pt2) pos) (dPar i j ga) :=
  PS.imp (ps_par hc hN hi hj hij hx hy ha hw hs) fun D σ H ⟨G, ρ, rel, h⟩ => ⟨G, ρ, rel, (FnS.all rel h).imp fun G1 H1 ρ1 as ⟨r1, s1, ds, e, h1⟩ vs hvs => by
    have hd := hvs.all e
    cases hd with
    | nil => exact h1.elim
    | @cons v vs d ds hv hvs' =>
      cases hvs' with
      | nil => exact h1.elim
      | @cons u vs d' ds hu t =>
        cases t with
        | cons _ _ => exact h1.elim
        | nil =>
          refine ⟨v, u, rfl, ?_⟩
          have h2 : FnS X.K w G1 H1 σ ρ1 ((putIm i d ρ1).bind fun _ ρ2 => (putIm j d' ρ2).bind fun _ ρ3 => .ok .nx ρ3) D := h1
          unfold putIm at h2
          split at h2
          · rename_i hf
            obtain ⟨c, hc', hb⟩ := free_ok hf
            obtain ⟨r2, s2⟩ := r1.put hc' hb hv
            have h3 : FnS X.K w G1 H1 σ ρ1 ((if free (ρ1.set i (some (.im d)))[j]? = true then R.ok () ((ρ1.set i (some (.im d))).set j (some (.im d'))) else .no).bind fun _ ρ3 => .ok .nx ρ3) D := h2
            split at h3
            · rename_i hf2
              obtain ⟨c2, hc2, hb2⟩ := free_ok hf2
              obtain ⟨r3, s3⟩ := r2.put hc2 hb2 hu
              exact FnS.nx (show FnS X.K w G1 H1 σ ρ1 (.ok .nx _) D from h3) r3 (s2.trans r1 s3)
            · exact h3.elim
          · exact h2.elim⟩
end
end Dn
namespace Dn
open PySem PySem.Spec PyProof.Rows L2

/-! ### lists that change -/
def L.put : L → List D → L
  | .im d, _ => .im d
  | .ow _, ds => .ow ds
  | .bo _, ds => .bo ds
def L.mine : L → Option (List D)
  | .im _ => none
  | .ow ds => some ds
  | .bo ds => some ds
section
variable {K : PySem.W.Frag} {w : Wh} {G H : Hp} {σ : L2.St} {ρ : En}
theorem Rel.mine (r : Rel K G H σ ρ) {i : Nat} {l : L} {ds : List D} (h : ρ[i]? = some (some l)) (m : l.mine = some ds) : ∃ o vs, σ[i]? = some (some (V.ref o)) ∧ G o = none ∧ H o = some (.lst vs) ∧ DRs K G vs ds := by
  obtain ⟨v, s, c⟩ := r.cell i l h
  cases l with
  | im d => cases m
  | ow es => cases m; obtain ⟨o, vs, rfl, g, q, hd⟩ := c; exact ⟨o, vs, s, g, q, hd⟩
  | bo es => cases m; obtain ⟨o, vs, rfl, g, q, hd⟩ := c; exact ⟨o, vs, s, g, q, hd⟩
theorem L.put_mu {l : L} {ds es : List D} (m : l.mine = some ds) : (l.put es).mu = true ∧ l.mu = true ∧ (l.put es).mine = some es := by
  cases l <;> first | (cases m; done) | exact ⟨rfl, rfl, rfl⟩
theorem Rel.change (r : Rel K G H σ ρ) {i : Nat} {l : L} {ds es : List D} (h : ρ[i]? = some (some l)) (m : l.mine = some ds) {o : Addr} (s : σ[i]? = some (some (V.ref o))) {vs : List V} (hd : DRs K G vs es) :
    Rel K G (upd H o (.lst vs)) σ (ρ.set i (some (l.put es))) ∧ Stp G H σ ρ G (upd H o (.lst vs)) σ (ρ.set i (some (l.put es))) := by
  obtain ⟨o', ws, s', go, ho, _⟩ := r.mine h m
  rw [s] at s'; cases s'
  obtain ⟨pm, lm, pq⟩ := L.put_mu (es := es) m
  have lk : ∀ j, j ≠ i → (ρ.set i (some (l.put es)))[j]? = ρ[j]? := fun j hj => List.getElem?_set_ne (Ne.symm hj)
  have lki : (ρ.set i (some (l.put es)))[i]? = some (some (l.put es)) := set_same h
  have own_o : Own σ ρ o := ⟨i, l, h, lm, s⟩
  have ownb : ∀ a, Own σ (ρ.set i (some (l.put es))) a → Own σ ρ a := fun a ⟨j, k, e, mu', q⟩ => by
    by_cases hj : j = i
    · subst hj; rw [s] at q; cases q; exact own_o
    · rw [lk j hj] at e; exact ⟨j, k, e, mu', q⟩
  refine ⟨⟨fun b x e => ?_, by rw [List.length_set]; exact r.len, fun j k e => ?_, fun j k a b c ej ek mj mk sj sk => ?_⟩, ⟨Same.refl _, fun a x e n => ?_, fun a q => .inl q, fun a q => .inl (ownb a q), tracked_upd, by rw [List.length_set], fun j bs e => ⟨rfl, ?_⟩⟩⟩
  · have hb : b ≠ o := ne_of_none e go
    rw [upd_ne hb]; exact r.sub b x e
  · by_cases hj : j = i
    · subst hj
      rw [lki] at e; cases e
      refine ⟨_, s, ?_⟩
      cases l with
      | im d => cases m
      | ow _ => exact ⟨o, vs, rfl, go, upd_same, hd⟩
      | bo _ => exact ⟨o, vs, rfl, go, upd_same, hd⟩
    · rw [lk j hj] at e
      obtain ⟨v, q, c⟩ := r.cell j k e
      refine ⟨v, q, ?_⟩
      have away : ∀ p, v = V.ref p → k.mu = true → p ≠ o := fun p ev mk eo => by
        subst ev; subst eo
        exact hj (r.apart j i k l p e h mk lm q s)
      cases k with
      | im d => exact c
      | ow _ => obtain ⟨p, us, rfl, g, q', hd'⟩ := c; exact ⟨p, us, rfl, g, by rw [upd_ne (away p rfl rfl)]; exact q', hd'⟩
      | bo _ => obtain ⟨p, us, rfl, g, q', hd'⟩ := c; exact ⟨p, us, rfl, g, by rw [upd_ne (away p rfl rfl)]; exact q', hd'⟩
  · have old : ∀ (j : Nat) (a : L), (ρ.set i (some (l.put es)))[j]? = some (some a) → a.mu = true → ∃ a', ρ[j]? = some (some a') ∧ a'.mu = true := fun j a e ma => by
      by_cases hj : j = i
      · subst hj; exact ⟨l, h, lm⟩
      · rw [lk j hj] at e; exact ⟨a, e, ma⟩
    obtain ⟨a', e1, m1⟩ := old j a ej mj
    obtain ⟨b', e2, m2⟩ := old k b ek mk
    exact r.apart j k a' b' c e1 e2 m1 m2 sj sk
  · have ha : a ≠ o := fun z => by subst z; exact n own_o
    rw [upd_ne ha]; exact e
  · by_cases hj : j = i
    · subst hj
      rw [h] at e; cases e
      exact ⟨es, lki⟩
    · exact ⟨bs, by rw [lk j hj]; exact e⟩
end
/-- at a list of one's own -/
def atMine {α β : Type} (i : Nat) (f : En → R β) (g : L → List D → β → En → R α) : En → R α := fun ρ => match ρ[i]? with
  | some (some l0) => match l0.mine with
    | some _ => (f ρ).bind fun y ρ1 => match ρ1[i]? with
      | some (some l) => match l.mine with
        | some ds => g l ds y ρ1
        | none => .no
      | _ => .no
    | none => .no
  | _ => .no
section
variable {X : Cx} {w : Wh} {x : Str} {p pos : Pos} {e : Expr} {fe fi : En → R D}
theorem FnS.mine {α : Type} {K : PySem.W.Frag} {G H : Hp} {σ : L2.St} {ρ : En} {i : Nat} {f : En → R α} {g : L → List D → α → En → R Fl} {Z : Ends} (rel : Rel K G H σ ρ) (h : FnS K w G H σ ρ (atMine i f g ρ) Z) :
    ∃ o, σ[i]? = some (some (V.ref o)) ∧ (∃ vs, H o = some (.lst vs)) ∧ Fn K w G H σ ρ (f ρ) (fun G1 H1 ρ1 y => ∃ l ds, ρ1[i]? = some (some l) ∧ l.mine = some ds ∧ Rel K G1 H1 σ ρ1 ∧ Stp G H σ ρ G1 H1 σ ρ1 ∧ FnS K w G1 H1 σ ρ1 (g l ds y ρ1) Z) := by
  unfold atMine at h
  split at h
  · rename_i l0 e0
    split at h
    · rename_i es m0
      obtain ⟨o, vs, s, go, ho, hd⟩ := rel.mine e0 m0
      refine ⟨o, s, ⟨vs, ho⟩, (FnS.bind rel h).imp fun G1 H1 ρ1 y ⟨r1, s1, h1⟩ => ?_⟩
      split at h1
      · rename_i l e1
        split at h1
        · rename_i ds m; exact ⟨l, ds, e1, m, r1, s1, h1⟩
        · exact h1.elim
      · exact h1.elim
    · exact h.elim
  · exact h.elim
theorem Fn.mine {α β : Type} {K : PySem.W.Frag} {G H : Hp} {σ : L2.St} {ρ : En} {i : Nat} {f : En → R α} {g : L → List D → α → En → R β} {P : Hp → Hp → En → β → Prop} (rel : Rel K G H σ ρ) (h : Fn K w G H σ ρ (atMine i f g ρ) P) :
    ∃ o, σ[i]? = some (some (V.ref o)) ∧ (∃ vs, H o = some (.lst vs)) ∧ Fn K w G H σ ρ (f ρ) (fun G1 H1 ρ1 y => ∃ l ds, ρ1[i]? = some (some l) ∧ l.mine = some ds ∧ Rel K G1 H1 σ ρ1 ∧ Stp G H σ ρ G1 H1 σ ρ1 ∧ Fn K w G1 H1 σ ρ1 (g l ds y ρ1) P) := by
  unfold atMine at h
  split at h
  · rename_i l0 e0
    split at h
    · rename_i es m0
      obtain ⟨o, vs, s, go, ho, hd⟩ := rel.mine e0 m0
      refine ⟨o, s, ⟨vs, ho⟩, (Fn.bind rel h).imp fun G1 H1 ρ1 y ⟨r1, s1, h1⟩ => ?_⟩
      split at h1
      · rename_i l e1
        split at h1
        · rename_i ds m; exact ⟨l, ds, e1, m, r1, s1, h1⟩
        · exact h1.elim
      · exact h1.elim
    · exact h.elim
  · exact h.elim
/-- x.append(e) -/
def dApp (i : Nat) (f : En → R D) : En → R Fl := atMine i f fun l ds d ρ => if ds.length < sizeLine then .ok .nx (ρ.set i (some (l.put (ds ++ [d])))) else .no
theorem vs_append (i : Nat) {apos : Pos} (he : VE X w e fe) (hN : X.N[i]? = some x := by rfl) (hv : Vis X.env.scope x := by first | exact Or.inl rfl | exact Or.inr (Or.inl rfl) | exact Or.inr (Or.inr rfl)) (hd : (x == ("__debug__" : Str)) = false := by decide) (hcd : (x == ("__classdict__" : Str)) = false := by decide)
    (hbase : attributeBase (.Name x p) "append" X.env (eval (.Name x p) X.env) = eval (.Name x p) X.env := by rfl) (hline : (apos.endLine == pos.line) = true := by rfl)
    (hfew : ((backTo pos (starEach [e] X.env)).all (fun x => !x.1) && (backToKw pos (keywordEach [] X.env)).all (fun x => x.1.isSome) && decide (([e] : List Expr).length + ([] : List Keyword).length + (if ([] : List Keyword).isEmpty then 0 else 1) < 30)) = true := by rfl)
    (hs : starEach [e] X.env = (false, eval e X.env) :: starEach [] X.env := by rfl) {pos2 : Pos} (hsw : swapsWith (.Call (.Attribute (.Name x p) "append" apos) [e] [] pos) none pos2.line X.env = pure false := by rfl) :
    VS X w (.Expr (.Call (.Attribute (.Name x p) "append" apos) [e] [] pos) pos2) (dApp i fe) :=
  PS.imp (ps_expr (pe_bm PySem.F.plainAttrs_list PySem.F.slot_list_append PySem.F.type_list_append mt_append (pe_var hN hv hd hcd) (pa_cons he pa_nil hs) hbase hfew hline hs (by rfl)) hsw) fun Z σ H ⟨G, ρ, rel, h⟩ => by
    obtain ⟨o, s, ⟨vs, ho⟩, h⟩ := FnS.mine rel h
    refine ⟨.ref o, s, .inl ⟨rfl, vs, .inl (.inl ho)⟩, G, ρ, rel, h.imp fun G1 H1 ρ1 d ⟨l, ds, e1, m, r1, s1, h1⟩ v hv => ?_⟩
    obtain ⟨o', ws, s', go, hw, hd⟩ := r1.mine e1 m
    rw [s] at s'; cases s'
    split at h1
    · obtain ⟨r2, s2⟩ := r1.change e1 m s (hd.append (.cons hv .nil))
      exact ⟨o, ws, v, rfl, rfl, hw, by rw [hd.length]; assumption, FnS.nx h1 r2 s2⟩
    · exact h1.elim
/-- x[k] = e -/
def dSetI (i : Nat) (f k : En → R D) : En → R Fl := fun ρ => (f ρ).bind fun d ρ1 => atMine i k (fun l ds y ρ2 => match asI y with
  | some z => match ixN ds.length z with
    | some j => .ok .nx (ρ2.set i (some (l.put (ds.set j d))))
    | none => .no
  | none => .no) ρ1
theorem vs_setI (i : Nat) {k : Expr} {pos2 : Pos} (he : VE X w e fe) (hk : VE X w k fi) (hN : X.N[i]? = some x := by rfl) (hv : Vis X.env.scope x := by first | exact Or.inl rfl | exact Or.inr (Or.inl rfl) | exact Or.inr (Or.inr rfl)) (hd : (x == ("__debug__" : Str)) = false := by decide) (hcd : (x == ("__classdict__" : Str)) = false := by decide)
    (ha : ∀ v, assign (.Subscript (.Name x p) k pos) X.env v = (do
      let ov ← holding [v] (eval (.Name x p) X.env)
      let iv ← holding [v, ov] (eval k X.env)
      standAt pos
      holding [v, ov, iv] (setItem ov iv v)
      release [v, ov, iv] []) := by intro _; rfl)
    (hs : swapsWithSole [.Subscript (.Name x p) k pos] e pos2.line X.env = pure false := by rfl) (hw : swappedStores [.Subscript (.Name x p) k pos] e X.env = pure none := by rfl)
    (h1 : (assignEach [.Subscript (.Name x p) k pos] X.env).map (·.2) = [assign (.Subscript (.Name x p) k pos) X.env] := by rfl) : VS X w (.Assign [.Subscript (.Name x p) k pos] e pos2) (dSetI i fe fi) :=
  PS.imp (ps_asg he (pg_sub (pe_var hN hv hd hcd) hk set_list ha) hs hw h1) fun Z σ H ⟨G, ρ, rel, h⟩ => ⟨G, ρ, rel, (FnS.bind rel h).imp fun G1 H1 ρ1 d ⟨r1, s1, h1⟩ v hv => by
    obtain ⟨o, s, ⟨vs, ho⟩, h2⟩ := FnS.mine r1 h1
    refine ⟨.ref o, s, G1, ρ1, r1, h2.imp fun G2 H2 ρ2 y ⟨l, ds, e2, m, r2, s2, h3⟩ u hu => ?_⟩
    obtain ⟨o', ws, s', go, hw, hd⟩ := r2.mine e2 m
    rw [s] at s'; cases s'
    split at h3
    · rename_i z ez
      split at h3
      · rename_i j ej
        obtain ⟨r3, s3⟩ := r2.change e2 m s (hd.set (hv.mono s2.g) j)
        cases hu with
        | int q => cases ez; exact ⟨o, ws, z, j, rfl, rfl, hw, by rw [hd.length]; exact ej, FnS.nx h3 r3 s3⟩
        | _ => cases ez
      · exact h3.elim
    · exact h3.elim⟩

/-! ### a name that is handed out -/
theorem Rel.drop {K : PySem.W.Frag} {G H : Hp} {σ : L2.St} {ρ : En} (r : Rel K G H σ ρ) {i : Nat} {ds : List D} (h : ρ[i]? = some (some (L.ow ds))) :
    ∃ o, σ[i]? = some (some (V.ref o)) ∧ Rel K G H σ (ρ.set i none) ∧ Stp G H σ ρ G H σ (ρ.set i none) ∧ OutL K G H σ ρ G H σ (ρ.set i none) o ds := by
  obtain ⟨o, vs, s, go, ho, hd⟩ := r.mine h rfl
  have lk : ∀ j, j ≠ i → (ρ.set i none)[j]? = ρ[j]? := fun j hj => List.getElem?_set_ne (Ne.symm hj)
  have lki : (ρ.set i none)[i]? = some none := set_same h
  have old : ∀ (j : Nat) (l : L), (ρ.set i none)[j]? = some (some l) → j ≠ i ∧ ρ[j]? = some (some l) := fun j l e => by
    by_cases hj : j = i
    · subst hj; rw [lki] at e; cases e
    · rw [lk j hj] at e; exact ⟨hj, e⟩
  refine ⟨o, s, ⟨r.sub, by rw [List.length_set]; exact r.len, fun j l e => r.cell j l (old j l e).2, fun j k l m a ej ek lj mk sj sk => r.apart j k l m a (old j l ej).2 (old k m ek).2 lj mk sj sk⟩,
    ⟨Same.refl _, fun _ _ h _ => h, fun _ h => .inl h, fun a ⟨j, l, e, m, q⟩ =>   .inl ⟨j, l, (old j l e).2, m, q⟩, fun _ h => h, by rw [List.length_set], fun j es e => ⟨rfl, es, ?_⟩⟩, ⟨go, fun ⟨j, l, e, m, q⟩ => ?_, ⟨vs, ho, hd⟩, .inr ⟨i, ds, h, s⟩⟩⟩
  · have hj : j ≠ i := fun z => by subst z; rw [h] at e; cases e
    rw [lk j hj]; exact e
  · obtain ⟨hj, e⟩ := old j l e
    exact hj (r.apart j i l _ o e h m rfl q s)
def dRetV (i : Nat) : En → R Fl := fun ρ => match ρ[i]? with
  | some (some (.ow ds)) => .ok (.rl ds) (ρ.set i none)
  | some (some (.im d)) => .ok (.rt d) ρ
  | _ => .no
theorem vs_retV (i : Nat) (hN : X.N[i]? = some x := by rfl) (hv : Vis X.env.scope x := by first | exact Or.inl rfl | exact Or.inr (Or.inl rfl) | exact Or.inr (Or.inr rfl)) (hd : (x == ("__debug__" : Str)) = false := by decide) (hcd : (x == ("__classdict__" : Str)) = false := by decide) :
    VS X w (.Return (some (.Name x p)) pos) (dRetV i) := PS.imp (ps_ret (pe_var hN hv hd hcd)) fun Z σ H ⟨G, ρ, rel, h⟩ => by
  unfold dRetV at h
  split at h
  · rename_i ds e
    obtain ⟨o, s, r1, s1, ho⟩ := rel.drop e
    exact ⟨.ref o, s, h _ _ _ _ r1 s1 ho⟩
  · rename_i d e
    obtain ⟨v, s, c⟩ := rel.cell i _ e
    exact ⟨v, s, h _ _ _ _ rel Stp.refl c⟩
  · exact h.elim
end
end Dn
namespace Dn
open PySem PySem.Spec PyProof.Rows L2

/-! ### while -/
def isNo {α : Type} : R α → Bool
  | .no => true
  | _ => false
def whN (c : En → R Bool) (b : En → R Fl) : Nat → En → R Fl
  | 0, _ => .no
  | n + 1, ρ => (c ρ).bind fun t ρ1 => if t = true then (b ρ1).bind fun fl ρ2 => match fl with
      | .nx => whN c b n ρ2
      | .ct => whN c b n ρ2
      | .bk => .ok .nx ρ2
      | .rt d => .ok (.rt d) ρ2
      | .rl ds => .ok (.rl ds) ρ2
    else .ok .nx ρ1
open Classical in
noncomputable def dWhile (c : En → R Bool) (b : En → R Fl) : En → R Fl := fun ρ => if h : ∃ n, isNo (whN c b n ρ) = false then whN c b h.choose ρ else .no
theorem whN_succ {c : En → R Bool} {b : En → R Fl} : ∀ {n : Nat} {ρ : En}, isNo (whN c b n ρ) = false → whN c b (n + 1) ρ = whN c b n ρ
  | 0, ρ, h => by cases h
  | n + 1, ρ, h => by
    have h' := h
    show (c ρ).bind _ = (c ρ).bind _
    rw [whN] at h'
    cases q : c ρ with
    | no => rfl
    | ex e ρ1 => rfl
    | ok t ρ1 =>
      rw [q] at h'
      cases t with
      | false => rfl
      | true =>
        show (b ρ1).bind _ = (b ρ1).bind _
        have h2 : isNo ((b ρ1).bind fun fl ρ2 => match fl with | .nx => whN c b n ρ2 | .ct => whN c b n ρ2 | .bk => .ok .nx ρ2 | .rt d => .ok (.rt d) ρ2 | .rl ds => .ok (.rl ds) ρ2) = false := h'
        cases q2 : b ρ1 with
        | no => rfl
        | ex e ρ2 => rfl
        | ok fl ρ2 =>
          rw [q2] at h2
          cases fl with
          | nx => exact whN_succ (n := n) h2
          | ct => exact whN_succ (n := n) h2
          | bk => rfl
          | rt d => rfl
          | rl ds => rfl
theorem whN_le {c : En → R Bool} {b : En → R Fl} {n m : Nat} {ρ : En} (h : isNo (whN c b n ρ) = false) (l : n ≤ m) : whN c b m ρ = whN c b n ρ := by
  induction l with
  | refl => rfl
  | step _ ih => rw [whN_succ (by rw [ih]; exact h), ih]
theorem dWhile_of {c : En → R Bool} {b : En → R Fl} {n : Nat} {ρ : En} (h : isNo (whN c b n ρ) = false) : dWhile c b ρ = whN c b n ρ := by
  unfold dWhile
  have hx : ∃ n, isNo (whN c b n ρ) = false := ⟨n, h⟩
  rw [dif_pos hx]
  rcases Nat.le_total hx.choose n with l | l
  · exact (whN_le hx.choose_spec l).symm
  · exact whN_le h l
theorem dWhile_no {c : En → R Bool} {b : En → R Fl} {ρ : En} (h : isNo (dWhile c b ρ) = false) : ∃ n, whN c b n ρ = dWhile c b ρ := by
  unfold dWhile at h ⊢
  split at h
  · rename_i hx; exact ⟨hx.choose, by rw [dif_pos hx]⟩
  · cases h
/-- one turn -/
theorem dWhile_turn {c : En → R Bool} {b : En → R Fl} {ρ : En} : dWhile c b ρ = (c ρ).bind fun t ρ1 => if t = true then (b ρ1).bind fun fl ρ2 => match fl with
      | .nx => dWhile c b ρ2
      | .ct => dWhile c b ρ2
      | .bk => .ok .nx ρ2
      | .rt d => .ok (.rt d) ρ2
      | .rl ds => .ok (.rl ds) ρ2
    else .ok .nx ρ1 := by
  have key : ∀ {n : Nat}, isNo (whN c b (n + 1) ρ) = false → whN c b (n + 1) ρ = (c ρ).bind fun t ρ1 => if t = true then (b ρ1).bind fun fl ρ2 => match fl with
      | .nx => dWhile c b ρ2
      | .ct => dWhile c b ρ2
      | .bk => .ok .nx ρ2
      | .rt d => .ok (.rt d) ρ2
      | .rl ds => .ok (.rl ds) ρ2
    else .ok .nx ρ1 := fun {n} h => by
    rw [whN] at h ⊢
    cases q : c ρ with
    | no => rfl
    | ex e ρ1 => rfl
    | ok t ρ1 =>
      rw [q] at h
      cases t with
      | false => rfl
      | true =>
        show (b ρ1).bind _ = (b ρ1).bind _
        have h2 : isNo ((b ρ1).bind fun fl ρ2 => match fl with | .nx => whN c b n ρ2 | .ct => whN c b n ρ2 | .bk => .ok .nx ρ2 | .rt d => .ok (.rt d) ρ2 | .rl ds => .ok (.rl ds) ρ2) = false := h
        cases q2 : b ρ1 with
        | no => rfl
        | ex e ρ2 => rfl
        | ok fl ρ2 =>
          rw [q2] at h2
          cases fl with
          | nx => exact (dWhile_of h2).symm
          | ct => exact (dWhile_of h2).symm
          | bk => rfl
          | rt d => rfl
          | rl ds => rfl
  by_cases hx : ∃ n, isNo (whN c b n ρ) = false
  · obtain ⟨n, hn⟩ := hx
    cases n with
    | zero => cases hn
    | succ n => rw [dWhile_of hn, key hn]
  · have e1 : dWhile c b ρ = .no := by unfold dWhile; rw [dif_neg hx]
    rw [e1]
    cases q : c ρ with
    | no => rfl
    | ex e ρ1 => exact absurd ⟨1, by rw [whN, q]; rfl⟩ hx
    | ok t ρ1 =>
      cases t with
      | false => exact absurd ⟨1, by rw [whN, q]; rfl⟩ hx
      | true =>
        show R.no = (b ρ1).bind _
        cases q2 : b ρ1 with
        | no => rfl
        | ex e ρ2 => exact absurd ⟨1, by rw [whN, q]; show isNo ((b ρ1).bind _) = false; rw [q2]; rfl⟩ hx
        | ok fl ρ2 =>
          have hw : ∀ n, isNo (whN c b n ρ2) = false → (fl = .nx ∨ fl = .ct) → False := fun n hn hf => hx ⟨n + 1, by
            rw [whN, q]; show isNo ((b ρ1).bind _) = false; rw [q2]
            rcases hf with rfl | rfl <;> exact hn⟩
          cases fl with
          | nx => show R.no = dWhile c b ρ2; unfold dWhile; rw [dif_neg fun ⟨n, hn⟩ => hw n hn (.inl rfl)]
          | ct => show R.no = dWhile c b ρ2; unfold dWhile; rw [dif_neg fun ⟨n, hn⟩ => hw n hn (.inr rfl)]
          | bk => exact absurd ⟨1, by rw [whN, q]; show isNo ((b ρ1).bind _) = false; rw [q2]; rfl⟩ hx
          | rt d => exact absurd ⟨1, by rw [whN, q]; show isNo ((b ρ1).bind _) = false; rw [q2]; rfl⟩ hx
          | rl d => exact absurd ⟨1, by rw [whN, q]; show isNo ((b ρ1).bind _) = false; rw [q2]; rfl⟩ hx
section
variable {X : Cx} {w : Wh} {pos : Pos}
/-- a loop's body, then what comes -/
theorem FnS.loop {K : PySem.W.Frag} {G H : Hp} {σ : L2.St} {ρ : En} {b : En → R Fl} {k : En → R Fl} {Z : Ends} (rel : Rel K G H σ ρ)
    (h : FnS K w G H σ ρ ((b ρ).bind fun fl ρ2 => match fl with | .nx => k ρ2 | .ct => k ρ2 | .bk => .ok .nx ρ2 | .rt d => .ok (.rt d) ρ2 | .rl ds => .ok (.rl ds) ρ2) Z) {N : L2.St → Hp → Prop}
    (hN : ∀ G1 H1 σ1 ρ1, Rel K G1 H1 σ1 ρ1 → Stp G H σ ρ G1 H1 σ1 ρ1 → FnS K w G1 H1 σ1 ρ1 (k ρ1) Z → N σ1 H1) : FnS K w G H σ ρ (b ρ) { Z with nx := N, ct := N, bk := Z.nx } := by
  cases q : b ρ with
  | no => rw [q] at h; exact h
  | ex c ρ' => rw [q] at h; exact h
  | ok fl ρ' =>
    rw [q] at h
    cases fl with
    | nx => exact fun G1 H1 σ1 r1 s1 => hN _ _ _ _ r1 s1 (FnS.after rel r1 s1 (show FnS K w G H σ ρ (k ρ') Z from h))
    | ct => exact fun G1 H1 σ1 r1 s1 => hN _ _ _ _ r1 s1 (FnS.after rel r1 s1 (show FnS K w G H σ ρ (k ρ') Z from h))
    | bk => exact h
    | rt d => exact h
    | rl ds => exact h
theorem FnS.notNo {K : PySem.W.Frag} {G H : Hp} {σ : L2.St} {ρ : En} {r : R Fl} {Z : Ends} (h : FnS K w G H σ ρ r Z) : isNo r = false := by
  cases r with
  | no => exact h.elim
  | _ => rfl
theorem vs_while {c : Expr} {body : List Stmt} {gc : En → R Bool} {gb : En → R Fl} (hp : PassesOwn (model X.prog X.w) X.A X.env X.xe) (hc : VT X w c gc) (hb : VSs X w body gb) : VS X w (.While c body [] pos) (dWhile gc gb) :=
  PS.imp (ps_while hp hc hb) fun Z σ H ⟨G, ρ, rel, h⟩ => by
    obtain ⟨n, hn⟩ := dWhile_no h.notNo
    rw [← hn] at h
    refine ⟨fun m σ H => ∃ G ρ, Rel X.K G H σ ρ ∧ FnS X.K w G H σ ρ (whN gc gb m ρ) Z, ⟨n, G, ρ, rel, h⟩, ?_⟩
    rintro m σ H ⟨G, ρ, rel, h⟩
    cases m with
    | zero => exact h.elim
    | succ m =>
      rw [whN] at h
      refine ⟨G, ρ, rel, (FnS.bind rel h).imp fun G1 H1 ρ1 t ⟨r1, s1, h1⟩ => ?_⟩
      cases t with
      | false => exact iteF (FnS.nx (show FnS X.K w G1 H1 σ ρ1 (.ok .nx ρ1) Z from h1) r1 Stp.refl)
      | true =>
        refine iteT ⟨fun σ' H' => ∃ G ρ, Rel X.K G H' σ' ρ ∧ FnS X.K w G H' σ' ρ (whN gc gb m ρ) Z, fun σ' H' q => ⟨m, Nat.lt_succ_self m, q⟩, G1, ρ1, r1, ?_⟩
        exact FnS.loop r1 h1 fun G2 H2 σ2 ρ2 r2 s2 h2 => ⟨G2, ρ2, r2, h2⟩
end

/-! ### for -/
structure ItS (K : PySem.W.Frag) (G0 : Hp) (J : It) (ds : List D) : Prop where
  go : ∀ i H, i < ds.length → Same G0 H → J.go i H
  stop : ∀ H, Same G0 H → J.stop ds.length H
  yld : ∀ (i : Nat) (H : Hp) (x : V) (H' : Hp) (d : D), ds[i]? = some d → J.yld i H x H' → ∀ G σ ρ, Same G0 G → Rel K G H σ ρ → ∃ G', Rel K G' H' σ ρ ∧ Stp G H σ ρ G' H' σ ρ ∧ DR K G' x d
abbrev VI (X : Cx) (w : Wh) (tg iter : Expr) (f : En → R (List D)) : Prop := PI X tg iter (fun σ H R => ∃ G ρ, Rel X.K G H σ ρ ∧ Fn X.K w G H σ ρ (f ρ) (fun G1 H1 _ ds => ∀ J, ItS X.K G1 J ds → R J H1))
def dForL (g : D → En → R Unit) (b : En → R Fl) : List D → En → R Fl
  | [], ρ => .ok .nx ρ
  | d :: ds, ρ => (g d ρ).bind fun _ ρ1 => (b ρ1).bind fun fl ρ2 => match fl with
    | .nx => dForL g b ds ρ2
    | .ct => dForL g b ds ρ2
    | .bk => .ok .nx ρ2
    | .rt d => .ok (.rt d) ρ2
    | .rl ds => .ok (.rl ds) ρ2
def dFor (f : En → R (List D)) (g : D → En → R Unit) (b : En → R Fl) : En → R Fl := fun ρ => (f ρ).bind fun ds ρ1 => dForL g b ds ρ1
section
variable {X : Cx} {w : Wh} {pos : Pos}
theorem PI.imp {tg e : Expr} {t t' : TI} (h : PI X tg e t) (i : ∀ σ H R, t' σ H R → t σ H R) : PI X tg e t' := ⟨fun pins s σ H R I q => h.run pins s σ H R I (i _ _ _ q)⟩
theorem vs_for {tg iter : Expr} {body : List Stmt} {fi : En → R (List D)} {g : D → En → R Unit} {gb : En → R Fl} (hp : PassesOwn (model X.prog X.w) X.A X.env X.xe) (hc : X.calm = true) (hi : VI X w tg iter fi) (hg : VG X tg g) (hx : NoX g) (hb : VSs X w body gb)
    (hs : ∀ x, foldedSetIterable iter X.env x = pure x := by intro _; rfl) : VS X w (.For tg iter body [] pos) (dFor fi g gb) :=
  PS.imp (ps_for hp hc hi hg hb hs) fun Z σ H ⟨G, ρ, rel, h⟩ => ⟨G, ρ, rel, (FnS.bind rel h).imp fun G1 H1 ρ1 ds ⟨r1, s1, h1⟩ J hJ => by
    refine ⟨fun i m σ H => m = ds.length - i ∧ i ≤ ds.length ∧ ∃ G ρ, Same G1 G ∧ Rel X.K G H σ ρ ∧ FnS X.K w G H σ ρ (dForL g gb (ds.drop i) ρ) Z, ⟨ds.length, rfl, Nat.zero_le _, G1, ρ1, Same.refl _, r1, by rw [List.drop_zero]; exact h1⟩, ?_⟩
    rintro i m σ H ⟨rfl, hi, G, ρ, sG, r, h⟩
    have sH : Same G1 H := sG.trans r.sub
    by_cases hlt : i < ds.length
    · obtain ⟨d, hd⟩ : ∃ d, ds[i]? = some d := ⟨ds[i], List.getElem?_eq_getElem hlt⟩
      have hdrop : ds.drop i = d :: ds.drop (i + 1) := by
        rw [List.drop_eq_getElem_cons hlt]
        rw [List.getElem?_eq_getElem hlt] at hd; cases hd; rfl
      rw [hdrop] at h
      refine .inr ⟨hJ.go i H hlt sH, fun σ' H' => ∃ G ρ, Same G1 G ∧ Rel X.K G H' σ' ρ ∧ FnS X.K w G H' σ' ρ (dForL g gb (ds.drop (i + 1)) ρ) Z, fun σ' H' q => ⟨_, by omega, rfl, hlt, q⟩, fun x H' hy => ?_⟩
      obtain ⟨G', r', s', hx'⟩ := hJ.yld i H x H' d hd hy G σ ρ sG r
      have h' := FnS.after r r' s' h
      refine ⟨G', ρ, d, r', hx', ?_⟩
      have h2 : FnS X.K w G' H' σ ρ ((g d ρ).bind fun _ ρ1 => (gb ρ1).bind fun fl ρ2 => match fl with | .nx => dForL g gb (ds.drop (i + 1)) ρ2 | .ct => dForL g gb (ds.drop (i + 1)) ρ2 | .bk => .ok .nx ρ2 | .rt d => .ok (.rt d) ρ2 | .rl ds => .ok (.rl ds) ρ2) Z := h'
      cases q : g d ρ with
      | no => rw [q] at h2; exact h2.elim
      | ex c ρ2 => exact absurd q (hx d ρ c ρ2)
      | ok u ρ2 =>
        rw [q] at h2
        intro G2 H2 σ2 r2 s2
        refine ⟨G2, ρ2, r2, FnS.loop r2 (FnS.after r' r2 s2 h2) fun G3 H3 σ3 ρ3 r3 s3 h3 => ⟨G3, ρ3, ((sG.trans s'.g).trans s2.g).trans s3.g, r3, h3⟩⟩
    · have e : i = ds.length := by omega
      subst e
      refine .inl ⟨hJ.stop H sH, ?_⟩
      rw [List.drop_length] at h
      exact FnS.nx (show FnS X.K w G H σ ρ (.ok .nx ρ) Z from h) r Stp.refl⟩
/-! what is walked -/
def iD (f : En → R D) : En → R (List D) := fun ρ => (f ρ).bind fun d ρ1 => match d with
  | .list ds => .ok ds ρ1
  | .tuple ds => .ok ds ρ1
  | .str s => .ok (s.cps.toList.map fun c => .str ⟨#[c]⟩) ρ1
  | _ => .no
theorem its_list {K : PySem.W.Frag} {G0 : Hp} {a : Addr} {vs : List V} {ds : List D} (h : SqL K G0 a vs) (hd : DRs K G0 vs ds) : ItS K G0 (Itl K a) ds where
  go := fun i H hi s => ⟨vs, vs[i]'(by rw [hd.length]; exact hi), s.seq h, List.getElem?_eq_getElem _⟩
  stop := fun H s => ⟨vs, s.seq h, by rw [hd.length]; exact Nat.le_refl _⟩
  yld := fun i H x H' d e y G σ ρ sG r => by
    obtain ⟨rfl, f⟩ := y
    obtain ⟨v, ev, hv⟩ := hd.get e
    have := f vs ((sG.trans r.sub).seq h)
    rw [ev] at this; cases this
    exact ⟨G, r, Stp.refl, hv.mono sG⟩
theorem its_tup {K : PySem.W.Frag} {G0 : Hp} {a : Addr} {vs : List V} {ds : List D} (h : SqT K G0 a vs) (hd : DRs K G0 vs ds) : ItS K G0 (Itt K a) ds where
  go := fun i H hi s => ⟨vs, vs[i]'(by rw [hd.length]; exact hi), Same.tup s h, List.getElem?_eq_getElem _⟩
  stop := fun H s => ⟨vs, Same.tup s h, by rw [hd.length]; exact Nat.le_refl _⟩
  yld := fun i H x H' d e y G σ ρ sG r => by
    obtain ⟨rfl, f⟩ := y
    obtain ⟨v, ev, hv⟩ := hd.get e
    have := f vs (Same.tup (sG.trans r.sub) h)
    rw [ev] at this; cases this
    exact ⟨G, r, Stp.refl, hv.mono sG⟩
def rngD (lo : Int) (n : Nat) : List D := (List.range n).map fun (i : Nat) => PyData.int (lo + (i : Int))
theorem its_range {K : PySem.W.Frag} {G0 : Hp} {lo : Int} {n : Nat} : ItS K G0 (Itr lo n) (rngD lo n) where
  go := fun i H hi s => by show i < n; simpa [rngD] using hi
  stop := fun H s => by show n ≤ _; simp [rngD]
  yld := fun i H x H' d e y G σ ρ sG r => by
    obtain ⟨rfl, rfl⟩ := y
    simp only [rngD, List.getElem?_map, Option.map_eq_some_iff] at e
    obtain ⟨j, ej, rfl⟩ := e
    have hi : i < n := by have := (List.getElem?_eq_some_iff.mp ej).1; simpa using this
    rw [List.getElem?_range hi] at ej
    cases ej; exact ⟨G, r, Stp.refl, .int _⟩
def rngC (lo c : Int) (n : Nat) : List D := (List.range n).map fun (i : Nat) => PyData.int (lo + (i : Int) * c)
theorem its_rangeC {K : PySem.W.Frag} {G0 : Hp} {lo c : Int} {n : Nat} : ItS K G0 (Itc lo c n) (rngC lo c n) where
  go := fun i H hi s => by show i < n; simpa [rngC] using hi
  stop := fun H s => by show n ≤ _; simp [rngC]
  yld := fun i H x H' d e y G σ ρ sG r => by
    obtain ⟨rfl, rfl⟩ := y
    simp only [rngC, List.getElem?_map, Option.map_eq_some_iff] at e
    obtain ⟨j, ej, rfl⟩ := e
    have hi : i < n := by have := (List.getElem?_eq_some_iff.mp ej).1; simpa using this
    rw [List.getElem?_range hi] at ej
    cases ej; exact ⟨G, r, Stp.refl, .int _⟩
def strD (s : Str) : List D := s.cps.toList.map fun c => PyData.str ⟨#[c]⟩
theorem its_str {K : PySem.W.Frag} {G0 : Hp} {s : Str} : ItS K G0 (Its s) (strD s) where
  go := fun i H hi _ => by show i < s.cps.size; simpa [strD] using hi
  stop := fun H _ => by show s.cps.size ≤ _; simp [strD]
  yld := fun i H x H' d e y G σ ρ sG r => by
    obtain ⟨rfl, c, ec, rfl⟩ := y
    simp only [strD, List.getElem?_map, Option.map_eq_some_iff] at e
    obtain ⟨c', ej, rfl⟩ := e
    rw [Array.getElem?_toList, ec] at ej
    cases ej; exact ⟨G, r, Stp.refl, .str _⟩
theorem vi_val {tg e : Expr} {f : En → R D} (he : VE X w e f) : VI X w tg e (iD f) := by
  refine ⟨fun pins s σ H Rr I q => ?_⟩
  obtain ⟨G, ρ, rel, h⟩ := q
  have h0 : Fn X.K w G H σ ρ ((f ρ).bind fun d ρ1 => match d with | .list ds => R.ok ds ρ1 | .tuple ds => .ok ds ρ1 | .str s => .ok (strD s) ρ1 | _ => .no) (fun G1 H1 _ ds => ∀ J, ItS X.K G1 J ds → Rr J H1) := h
  have via : ∀ {t : TI}, PI X tg e t → t σ H Rr → wpAny (model X.prog X.w) X.A (eval e X.env) (fun v s1 => wpAny (model X.prog X.w) X.A (pyIter v) (PIE X pins σ tg Rr) X.xe s1) X.xe s := fun h t => h.run pins s σ H Rr I t
  cases q : f ρ with
  | no => rw [q] at h0; exact h0.elim
  | ex c ρ1 =>
    refine via (pi_list he) ⟨G, ρ, rel, ?_⟩
    rw [q] at h0 ⊢
    exact h0
  | ok d ρ1 =>
    rw [q] at h0
    cases d with
    | list ds =>
      refine via (pi_list he) ⟨G, ρ, rel, ?_⟩
      rw [q]
      intro G1 H1 r1 s1 v hv
      cases hv with
      | lst hr hs => exact ⟨_, rfl, ⟨_, r1.sub.seq hr⟩, h0 G1 H1 r1 s1 _ (its_list hr hs)⟩
    | tuple ds =>
      refine via (pi_tup he) ⟨G, ρ, rel, ?_⟩
      rw [q]
      intro G1 H1 r1 s1 v hv
      cases hv with
      | tup hr hs => exact ⟨_, rfl, ⟨_, Same.tup r1.sub hr⟩, h0 G1 H1 r1 s1 _ (its_tup hr hs)⟩
    | str z =>
      refine via (pi_str he) ⟨G, ρ, rel, ?_⟩
      rw [q]
      intro G1 H1 r1 s1 v hv
      cases hv
      exact ⟨z, rfl, h0 G1 H1 r1 s1 _ its_str⟩
    | _ => exact h0.elim
def inR (j : Int) : Prop := -(2 ^ 62) ≤ j ∧ j < 2 ^ 62
noncomputable instance (j : Int) : Decidable (inR j) := Classical.propDecidable _
noncomputable def iRg1 (ga : En → R (List AV)) : En → R (List D) := fun ρ => (dAll ga ρ).bind fun ds ρ1 => match ds with
  | [.int j] => if inR j then .ok (rngD 0 j.toNat) ρ1 else .no
  | _ => .no
noncomputable def iRg2 (ga : En → R (List AV)) : En → R (List D) := fun ρ => (dAll ga ρ).bind fun ds ρ1 => match ds with
  | [.int i, .int j] => if inR i ∧ inR j then .ok (rngD i (j - i).toNat) ρ1 else .no
  | _ => .no
/-- how many -/
def rgN (i j c : Int) : Nat := (Builtin.Range.rangeSize i j c).toNat
def rgOk (i j c : Int) : Bool := decide (c ≠ 0 ∧ c.natAbs < 1073741824 ∧ 0 ≤ Builtin.Range.rangeSize i j c) && Builtin.Range.small i j c
def iRg3 (ga : En → R (List AV)) : En → R (List D) := fun ρ => (dAll ga ρ).bind fun ds ρ1 => match ds with
  | [.int i, .int j, .int c] => if rgOk i j c = true then .ok (rngC i c (rgN i j c)) ρ1 else .no
  | _ => .no
variable {tg : Expr} {p : Pos} {ga : En → R (List AV)}
theorem vi_range1 {a : Expr} (hg : Gl X "range") (hm : X.mg "range" = none) (ha : VA X w [a] ga) (hs : starEach [a] X.env = [(false, eval a X.env)] := by rfl) : VI X w tg (.Call (.Name "range" p) [a] [] pos) (iRg1 ga) :=
  PI.imp (pi_range1 hg hm ha hs) fun σ H R ⟨G, ρ, rel, h⟩ => ⟨G, ρ, rel, (Fn.all rel h).imp fun G1 H1 ρ1 as ⟨r1, s1, ds, e, h1⟩ vs hvs => by
    have hd := hvs.all e
    split at h1
    · rename_i j
      split at h1
      · rename_i hj
        cases hd with
        | cons h t =>
          cases h; cases t
          exact ⟨j, rfl, hj.1, hj.2, h1.ok r1 _ its_range⟩
      · exact h1.elim
    · exact h1.elim⟩
theorem vi_range2 {a b : Expr} (hg : Gl X "range") (hm : X.mg "range" = none) (ha : VA X w [a, b] ga) (hs : starEach [a, b] X.env = [(false, eval a X.env), (false, eval b X.env)] := by rfl) (hs2 : starEach [b] X.env = [(false, eval b X.env)] := by rfl) : VI X w tg (.Call (.Name "range" p) [a, b] [] pos) (iRg2 ga) :=
  PI.imp (pi_range2 hg hm ha hs hs2) fun σ H R ⟨G, ρ, rel, h⟩ => ⟨G, ρ, rel, (Fn.all rel h).imp fun G1 H1 ρ1 as ⟨r1, s1, ds, e, h1⟩ vs hvs => by
    have hd := hvs.all e
    split at h1
    · rename_i i j
      split at h1
      · rename_i hj
        cases hd with
        | cons h t =>
          cases t with
          | cons h' t =>
            cases h; cases h'; cases t
            exact ⟨i, j, rfl, ⟨hj.1.1, hj.1.2, hj.2.1, hj.2.2⟩, h1.ok r1 _ its_range⟩
      · exact h1.elim
    · exact h1.elim⟩
theorem vi_range3 {a b c : Expr} (hg : Gl X "range") (hm : X.mg "range" = none) (ha : VA X w [a, b, c] ga) (hs : starEach [a, b, c] X.env = (false, eval a X.env) :: starEach [b, c] X.env := by rfl) (hpl : (backTo pos (starEach [b, c] X.env)).any (·.1) = false := by rfl) : VI X w tg (.Call (.Name "range" p) [a, b, c] [] pos) (iRg3 ga) :=
  PI.imp (pi_range3 hg hm ha hs hpl) fun σ H R ⟨G, ρ, rel, h⟩ => ⟨G, ρ, rel, (Fn.all rel h).imp fun G1 H1 ρ1 as ⟨r1, s1, ds, e, h1⟩ vs hvs => by
    have hd := hvs.all e
    split at h1
    · rename_i i j k
      split at h1
      · rename_i hj
        simp only [rgOk, Bool.and_eq_true, decide_eq_true_eq] at hj
        cases hd with
        | cons h t =>
          cases t with
          | cons h' t =>
            cases t with
            | cons h'' t =>
              cases h; cases h'; cases h''; cases t
              exact ⟨i, j, k, rgN i j k, rfl, ⟨hj.1.1, hj.1.2.1, hj.2, (Int.toNat_of_nonneg hj.1.2.2).symm⟩, h1.ok r1 _ its_rangeC⟩
      · exact h1.elim
    · exact h1.elim⟩
end
end Dn
namespace Dn
open PySem PySem.Spec PyProof.Rows L2

/-! ### defs -/
def wh (ca : String → Option Value) (E : XK) : Wh := ⟨ca, fun cls d _ H => E cls d H⟩
theorem ExR.to {K : PySem.W.Frag} {w w' : Wh} {G H : Hp} {c : Exn} {cls : Value} {dx : Option Addr} (h : ExR K w G H c cls dx) (e : w.ca = w'.ca) : ExR K w' G H c cls dx := ⟨by rw [← e]; exact h.hc, h.hn, h.hs⟩
def FnC (K : PySem.W.Frag) (w : Wh) (G H : Hp) (vs : List V) (ls : En) (r : R L) (Q : VK) (E : XK) : Prop :=
  match r with
  | .no => False
  | .ok (.im d) ls' => ∀ G' H' v, Rel K G' H' (vs.map some) ls' → Stp G H (vs.map some) ls G' H' (vs.map some) ls' → DR K G' v d → Q v H'
  | .ok (.ow ds) ls' => ∀ G' H' p, Rel K G' H' (vs.map some) ls' → Stp G H (vs.map some) ls G' H' (vs.map some) ls' → G' p = none → ¬ Own (vs.map some) ls' p → (∃ us, H' p = some (.lst us) ∧ DRs K G' us ds) → H p = none → Q (.ref p) H'
  | .ok (.bo _) _ => False
  | .ex c ls' => ∀ G' H' cls dx, Rel K G' H' (vs.map some) ls' → Stp G H (vs.map some) ls G' H' (vs.map some) ls' → ExR K w G' H' c cls dx → E cls dx H'
def noOw (ls : En) : Prop := ∀ (i : Nat) (ds : List D), ls[i]? ≠ some (some (L.ow ds))
def spD (K : PySem.W.Frag) (ca : String → Option Value) (n : Nat) (den : En → R L) : Sp := fun vs H Q E =>
  ∃ G ls, Rel K G H (vs.map some) ls ∧ noOw ls ∧ vs.length = n ∧ FnC K (wh ca E) G H vs ls (den ls) Q E
def backE : En → En → En
  | some (.bo _) :: ls, c :: ρ => c :: backE ls ρ
  | l :: ls, _ :: ρ => l :: backE ls ρ
  | ls, [] => ls
  | [], _ => []
def dDef (n : Nat) (b : En → R Fl) : En → R L := fun ls => match b (ls ++ List.replicate (n - ls.length) none) with
  | .ok .nx ρ => .ok (.im .none) (backE ls ρ)
  | .ok (.rt d) ρ => .ok (.im d) (backE ls ρ)
  | .ok (.rl ds) ρ => .ok (.ow ds) (backE ls ρ)
  | .ex c ρ => .ex c (backE ls ρ)
  | _ => .no
theorem backE_length : ∀ (ls ρ : En), (backE ls ρ).length = ls.length
  | [], ρ => by cases ρ <;> rfl
  | l :: ls, [] => by cases l with
    | none => rfl
    | some l => cases l <;> rfl
  | l :: ls, c :: ρ => by cases l with
    | none => simp [backE, backE_length ls ρ]
    | some l => cases l <;> simp [backE, backE_length ls ρ]
theorem backE_bo : ∀ {ls ρ : En} {i : Nat} {ds : List D}, ls.length ≤ ρ.length → ls[i]? = some (some (L.bo ds)) → (backE ls ρ)[i]? = ρ[i]?
  | [], _, _, _, _, h => by simp at h
  | l :: ls, [], _, _, hl, _ => by simp at hl
  | l :: ls, c :: ρ, 0, ds, hl, h => by
    simp at h; subst h; rfl
  | l :: ls, c :: ρ, i + 1, ds, hl, h => by
    have h' : ls[i]? = some (some (L.bo ds)) := by simpa using h
    have ih := backE_bo (ρ := ρ) (by simpa using hl) h'
    cases l with
    | none => simpa [backE] using ih
    | some l => cases l <;> simpa [backE] using ih
theorem backE_no : ∀ {ls ρ : En} {i : Nat}, (∀ ds, ls[i]? ≠ some (some (L.bo ds))) → (backE ls ρ)[i]? = ls[i]?
  | [], ρ, i, _ => by cases ρ <;> rfl
  | l :: ls, [], i, _ => by cases l with
    | none => rfl
    | some l => cases l <;> rfl
  | l :: ls, c :: ρ, 0, h => by
    cases l with
    | none => rfl
    | some l => cases l with
      | bo ds => exact absurd rfl (h ds)
      | _ => rfl
  | l :: ls, c :: ρ, i + 1, h => by
    have h' : ∀ ds, ls[i]? ≠ some (some (L.bo ds)) := fun ds e => h ds (by simpa using e)
    have ih := backE_no (ρ := ρ) h'
    cases l with
    | none => simpa [backE] using ih
    | some l => cases l <;> simpa [backE] using ih
section
variable {K : PySem.W.Frag} {w : Wh} {G H G' H' : Hp} {vs : List V} {ls ρ' : En} {σ' : L2.St} {n : Nat}
/-- slots that hold nothing yet -/
theorem Rel.more (r : Rel K G H (vs.map some) ls) : Rel K G H (vs.map some ++ List.replicate (n - vs.length) none) (ls ++ List.replicate (n - ls.length) none) ∧
    (∀ a, Own (vs.map some ++ List.replicate (n - vs.length) none) (ls ++ List.replicate (n - ls.length) none) a → Own (vs.map some) ls a) ∧
    (∀ a, Own (vs.map some) ls a → Own (vs.map some ++ List.replicate (n - vs.length) none) (ls ++ List.replicate (n - ls.length) none) a) := by
  have hl : vs.length = ls.length := by have := r.len; simpa using this
  have old : ∀ (i : Nat) (l : L), (ls ++ List.replicate (n - ls.length) none)[i]? = some (some l) → i < ls.length ∧ ls[i]? = some (some l) := fun i l e => by
    by_cases hi : i < ls.length
    · rw [List.getElem?_append_left hi] at e; exact ⟨hi, e⟩
    · rw [List.getElem?_append_right (by omega), List.getElem?_replicate] at e
      split at e <;> cases e
  have at_ : ∀ (i : Nat), i < ls.length → (vs.map some ++ List.replicate (n - vs.length) none)[i]? = (vs.map some)[i]? := fun i hi => List.getElem?_append_left (by simpa [hl] using hi)
  refine ⟨⟨r.sub, by simp [hl], fun i l e => ?_, fun i j l m a ei ej li mj si sj => ?_⟩, fun a ⟨i, l, e, m, s⟩ => ?_, fun a ⟨i, l, e, m, s⟩ => ?_⟩
  · obtain ⟨hi, e'⟩ := old i l e
    obtain ⟨v, s, c⟩ := r.cell i l e'
    exact ⟨v, by rw [at_ i hi]; exact s, c⟩
  · obtain ⟨hi, ei'⟩ := old i l ei
    obtain ⟨hj, ej'⟩ := old j m ej
    rw [at_ i hi] at si; rw [at_ j hj] at sj
    exact r.apart i j l m a ei' ej' li mj si sj
  · obtain ⟨hi, e'⟩ := old i l e
    rw [at_ i hi] at s
    exact ⟨i, l, e', m, s⟩
  · have hi : i < ls.length := (List.getElem?_eq_some_iff.mp e).1
    exact ⟨i, l, by rw [List.getElem?_append_left hi]; exact e, m, by rw [at_ i hi]; exact s⟩
/-- at a def's end -/
theorem Rel.back (r : Rel K G H (vs.map some) ls) (no : noOw ls) (r' : Rel K G' H' σ' ρ')
    (s : Stp G H (vs.map some ++ List.replicate (n - vs.length) none) (ls ++ List.replicate (n - ls.length) none) G' H' σ' ρ') :
    Rel K G' H' (vs.map some) (backE ls ρ') ∧ Stp G H (vs.map some) ls G' H' (vs.map some) (backE ls ρ') ∧ (∀ a, Own (vs.map some) (backE ls ρ') a → Own σ' ρ' a) := by
  have hl : vs.length = ls.length := by have := r.len; simpa using this
  obtain ⟨_, o1, o2⟩ := r.more (n := n)
  have hn : ls.length ≤ ρ'.length := by rw [s.ln, List.length_append]; exact Nat.le_add_right _ _
  have bo : ∀ (i : Nat) (ds : List D), ls[i]? = some (some (L.bo ds)) → σ'[i]? = (vs.map some)[i]? ∧ ∃ ds', ρ'[i]? = some (some (L.bo ds')) := fun i ds e => by
    have hi : i < ls.length := (List.getElem?_eq_some_iff.mp e).1
    obtain ⟨e1, e2⟩ := s.bo i ds (by rw [List.getElem?_append_left hi]; exact e)
    rw [List.getElem?_append_left (by simpa [hl] using hi)] at e1
    exact ⟨e1, e2⟩
  have cases_ : ∀ (i : Nat) (l : L), (backE ls ρ')[i]? = some (some l) → (∃ d, l = .im d ∧ ls[i]? = some (some (.im d))) ∨ ∃ ds ds', l = .bo ds' ∧ ls[i]? = some (some (.bo ds)) ∧ ρ'[i]? = some (some (.bo ds')) ∧ σ'[i]? = (vs.map some)[i]? := fun i l e => by
    by_cases hb : ∃ ds, ls[i]? = some (some (L.bo ds))
    · obtain ⟨ds, hb⟩ := hb
      obtain ⟨e1, ds', e2⟩ := bo i ds hb
      rw [backE_bo hn hb, e2] at e
      cases e
      exact .inr ⟨ds, ds', rfl, hb, e2, e1⟩
    · rw [backE_no fun ds z => hb ⟨ds, z⟩] at e
      cases l with
      | im d => exact .inl ⟨d, rfl, e⟩
      | ow ds => exact absurd e (no i ds)
      | bo ds => exact absurd ⟨ds, e⟩ hb
  have own' : ∀ a, Own (vs.map some) (backE ls ρ') a → Own σ' ρ' a ∧ Own (vs.map some) ls a := fun a ⟨i, l, e, m, q⟩ => by
    rcases cases_ i l e with ⟨d, rfl, _⟩ | ⟨ds, ds', rfl, e1, e2, e3⟩
    · cases m
    · exact ⟨⟨i, _, e2, rfl, e3.trans q⟩, ⟨i, _, e1, rfl, q⟩⟩
  refine ⟨⟨r'.sub, by rw [backE_length]; exact r.len, fun i l e => ?_, fun i j l m a ei ej li mj si sj => ?_⟩, ⟨s.g, fun a o e n' => s.h a o e fun z => n' (o1 a z), fun a e => ?_, fun a q => .inl (own' a q).2, s.tr, backE_length _ _, fun i ds e => ⟨rfl, ?_⟩⟩, fun a q => (own' a q).1⟩
  · rcases cases_ i l e with ⟨d, rfl, e1⟩ | ⟨ds, ds', rfl, e1, e2, e3⟩
    · obtain ⟨v, q, c⟩ := r.cell i _ e1
      exact ⟨v, q, DR.mono s.g c⟩
    · obtain ⟨v, q, c⟩ := r'.cell i _ e2
      exact ⟨v, e3.symm.trans q, c⟩
  · rcases cases_ i l ei with ⟨d, rfl, _⟩ | ⟨ds, ds', rfl, e1, e2, e3⟩
    · cases li
    · rcases cases_ j m ej with ⟨d, rfl, _⟩ | ⟨es, es', rfl, f1, f2, f3⟩
      · cases mj
      · exact r'.apart i j _ _ a e2 f2 rfl rfl (e3.trans si) (f3.trans sj)
  · rcases s.fr a e with z | z | z
    · exact .inl z
    · exact .inr (.inl z)
    · exact .inr (.inr (o1 a z))
  · obtain ⟨e1, ds', e2⟩ := bo i ds e
    exact ⟨ds', by rw [backE_bo hn e]; exact e2⟩
end
/-- what a body's derivation may lean on -/
structure Gd (X : Cx) (w : Wh) (k : Nat) : Prop where
  calm : X.calm = true
  tk : Takes X w.W
  po : PassesOwn (model X.prog X.w) X.A X.env X.xe
  hr : Room k X.A
theorem fn_den {P : Program} {wd : World} {K : PySem.W.Frag} {mg : Str → Option Value} {base : Heap} {ca : String → Option Value} {x qual : Str} {st : Stmt} {f : Addr} {fd : FuncData} {N ps : List Str} {k : Nat} {b : En → R Fl}
    (F : Fun K x qual st f fd) (S : FnScope N ps (defScope st))
    (hb : ∀ (cdv : Value) (A : Around) (outer : List Env) (s : Shared) (H : Hp) (E : XK), Gd (cxOf (L2.CX P wd) P wd K mg base N qual (defScope st) f cdv A outer s H E) (wh ca E) k →
      VSs (cxOf (L2.CX P wd) P wd K mg base N qual (defScope st) f cdv A outer s H E) (wh ca E) (defBody st) b) :
    FnOk P wd K mg base (L2.CX P wd) (k + 1) f fd ps (spD K ca ps.length (dDef N.length b)) := by
  have hpl : ps.length ≤ N.length := by have := congrArg List.length S.pre; rw [List.length_take] at this; omega
  refine F.okX S (fun vs H Q E h => ?_) (fun cdv A outer s H vs Q E hr h => ?_)
  · obtain ⟨_, _, _, _, e, _⟩ := h; exact e
  · obtain ⟨G, ls, rel, no, hl, h⟩ := h
    have hll : vs.length = ls.length := by have := rel.len; simpa using this
    refine ⟨_, hb cdv A outer s H E ⟨rfl, takes_of rfl rfl rfl rfl, passes_of rfl, hr⟩, ?_⟩
    obtain ⟨r0, o1, o2⟩ := rel.more (n := N.length)
    refine ⟨G, _, r0, ?_⟩
    unfold dDef at h
    show FnS K (wh ca E) G H (vs.map some ++ List.replicate (N.length - vs.length) none) (ls ++ List.replicate (N.length - ls.length) none) (b (ls ++ List.replicate (N.length - ls.length) none)) { nx := fun _ H' => Q .non H', rt := Q }
    cases q : b (ls ++ List.replicate (N.length - ls.length) none) with
    | no => rw [q] at h; exact h
    | ex c ρ' =>
      rw [q] at h
      intro G' H' σ' cls dx r' s' x'
      obtain ⟨r2, s2, _⟩ := rel.back no r' s'
      exact h G' H' cls dx r2 s2 x'
    | ok fl ρ' =>
      rw [q] at h
      cases fl with
      | nx =>
        intro G' H' σ' r' s'
        obtain ⟨r2, s2, _⟩ := rel.back no r' s'
        exact h G' H' .non r2 s2 .non
      | bk => exact h.elim
      | ct => exact h.elim
      | rt d =>
        intro G' H' σ' v r' s' hv
        obtain ⟨r2, s2, _⟩ := rel.back no r' s'
        exact h G' H' v r2 s2 hv
      | rl ds =>
        intro G' H' σ' p r' s' ho
        obtain ⟨r2, s2, o3⟩ := rel.back no r' s'
        refine h G' H' p r2 s2 ho.g (fun z => ho.own (o3 p z)) ho.here ?_
        rcases ho.new with z | ⟨i, es, e, _⟩
        · exact z
        · by_cases hi : i < ls.length
          · rw [List.getElem?_append_left hi] at e; exact absurd e (no i es)
          · rw [List.getElem?_append_right (by omega), List.getElem?_replicate] at e
            split at e <;> cases e
end Dn
namespace Dn
open PySem PySem.Spec PyProof.Rows L2

/-! ### a call of a def -/
def slotsOf : List AV → List Nat
  | [] => []
  | .im _ :: as => slotsOf as
  | .sl i :: as => i :: slotsOf as
def lendL (ρ : En) : List AV → Option En
  | [] => some []
  | .im d :: as => (lendL ρ as).map (some (.im d) :: ·)
  | .sl i :: as => match ρ[i]? with
    | some (some l) => match l.mine with
      | some ds => (lendL ρ as).map (some (.bo ds) :: ·)
      | none => none
    | _ => none
def lend (as : List AV) (ρ : En) : Option En := if (slotsOf as).Nodup then lendL ρ as else none
def giveB : List AV → En → En → En
  | .sl i :: as, some (.bo ds) :: ls, ρ => giveB as ls (match ρ[i]? with
    | some (some l) => ρ.set i (some (l.put ds))
    | _ => ρ)
  | _ :: as, _ :: ls, ρ => giveB as ls ρ
  | _, _, ρ => ρ
theorem giveB_length : ∀ (as : List AV) (ls ρ : En), (giveB as ls ρ).length = ρ.length
  | [], ls, ρ => by cases ls <;> rfl
  | .im d :: as, [], ρ => rfl
  | .sl i :: as, [], ρ => rfl
  | .im d :: as, c :: ls, ρ => by simp [giveB, giveB_length as ls ρ]
  | .sl i :: as, none :: ls, ρ => by simp [giveB, giveB_length as ls ρ]
  | .sl i :: as, some (.im d) :: ls, ρ => by simp [giveB, giveB_length as ls ρ]
  | .sl i :: as, some (.ow d) :: ls, ρ => by simp [giveB, giveB_length as ls ρ]
  | .sl i :: as, some (.bo ds) :: ls, ρ => by
    simp only [giveB]
    rw [giveB_length as ls]
    split
    · rw [List.length_set]
    · rfl
theorem giveB_out : ∀ {as : List AV} {ls ρ : En} {j : Nat}, j ∉ slotsOf as → (giveB as ls ρ)[j]? = ρ[j]?
  | [], ls, ρ, j, _ => by cases ls <;> rfl
  | .im d :: as, [], ρ, j, _ => rfl
  | .sl i :: as, [], ρ, j, _ => rfl
  | .im d :: as, c :: ls, ρ, j, h => by simp only [giveB]; exact giveB_out (as := as) h
  | .sl i :: as, none :: ls, ρ, j, h => by simp only [giveB]; exact giveB_out (as := as) fun z => h (List.mem_cons_of_mem _ z)
  | .sl i :: as, some (.im d) :: ls, ρ, j, h => by simp only [giveB]; exact giveB_out (as := as) fun z => h (List.mem_cons_of_mem _ z)
  | .sl i :: as, some (.ow d) :: ls, ρ, j, h => by simp only [giveB]; exact giveB_out (as := as) fun z => h (List.mem_cons_of_mem _ z)
  | .sl i :: as, some (.bo ds) :: ls, ρ, j, h => by
    have hj : j ≠ i := fun z => h (by rw [z]; exact List.mem_cons_self ..)
    simp only [giveB]
    rw [giveB_out (as := as) fun z => h (List.mem_cons_of_mem _ z)]
    split
    · rw [List.getElem?_set_ne (Ne.symm hj)]
    · rfl
theorem giveB_in : ∀ {as : List AV} {ls ρ : En} {k j : Nat} {ds : List D} {l : L}, (slotsOf as).Nodup → as[k]? = some (.sl j) → ls[k]? = some (some (L.bo ds)) → ρ[j]? = some (some l) → (giveB as ls ρ)[j]? = some (some (l.put ds))
  | [], _, _, k, _, _, _, _, h, _, _ => by simp at h
  | _ :: _, [], _, k, _, _, _, _, _, h, _ => by simp at h
  | .im d :: as, c :: ls, ρ, 0, j, ds, l, _, h, _, _ => by simp at h
  | .im d :: as, c :: ls, ρ, k + 1, j, ds, l, nd, h1, h2, h3 => by simp only [giveB]; exact giveB_in (as := as) (k := k) nd (by simpa using h1) (by simpa using h2) h3
  | .sl i :: as, c :: ls, ρ, 0, j, ds, l, nd, h1, h2, h3 => by
    have e1 : i = j := by simpa using h1
    have e2 : c = some (.bo ds) := by simpa using h2
    subst e1; subst e2
    have nd' := List.nodup_cons.mp nd
    simp only [giveB]
    rw [giveB_out (as := as) nd'.1, h3]
    exact set_same h3
  | .sl i :: as, c :: ls, ρ, k + 1, j, ds, l, nd, h1, h2, h3 => by
    have nd' := List.nodup_cons.mp nd
    have h1' : as[k]? = some (.sl j) := by simpa using h1
    have h2' : ls[k]? = some (some (L.bo ds)) := by simpa using h2
    have hmem : ∀ {as : List AV} {k : Nat}, as[k]? = some (AV.sl j) → j ∈ slotsOf as := by
      intro as
      induction as with
      | nil => intro k h; simp at h
      | cons a as ih =>
        intro k h
        cases k with
        | zero => simp at h; subst h; exact List.mem_cons_self ..
        | succ k =>
          have := ih (k := k) (by simpa using h)
          cases a with
          | im d => exact this
          | sl i => exact List.mem_cons_of_mem _ this
    have hj : i ≠ j := fun z => nd'.1 (z ▸ hmem h1')
    cases c with
    | none => simp only [giveB]; exact giveB_in (as := as) (k := k) nd'.2 h1' h2' h3
    | some c =>
      cases c with
      | im d => simp only [giveB]; exact giveB_in (as := as) (k := k) nd'.2 h1' h2' h3
      | ow d => simp only [giveB]; exact giveB_in (as := as) (k := k) nd'.2 h1' h2' h3
      | bo es =>
        simp only [giveB]
        refine giveB_in (as := as) (k := k) nd'.2 h1' h2' ?_
        split
        · rw [List.getElem?_set_ne hj]; exact h3
        · exact h3
theorem slot_at : ∀ {as : List AV} {j : Nat}, j ∈ slotsOf as → ∃ k : Nat, as[k]? = some (AV.sl j)
  | .im d :: as, j, h => by
    obtain ⟨k, e⟩ := slot_at (as := as) h
    exact ⟨k + 1, by simpa using e⟩
  | .sl i :: as, j, h => by
    rcases List.mem_cons.mp h with rfl | h
    · exact ⟨0, rfl⟩
    · obtain ⟨k, e⟩ := slot_at (as := as) h
      exact ⟨k + 1, by simpa using e⟩
section
variable {K : PySem.W.Frag} {w : Wh} {G H G' H' : Hp} {σ : L2.St} {ρ ρ' : En}
theorem AVs.im_at : ∀ {vs : List V} {as : List AV} {k : Nat} {d : D}, AVs K G σ vs as → as[k]? = some (.im d) → ∃ v, vs[k]? = some v ∧ DR K G v d
  | _, _, 0, _, .im h _, e => by cases e; exact ⟨_, rfl, h⟩
  | _, _, 0, _, .sl _ _, e => by cases e
  | _, _, k + 1, _, .im _ t, e => by obtain ⟨v, h1, h2⟩ := AVs.im_at (k := k) t (by simpa using e); exact ⟨v, by simpa using h1, h2⟩
  | _, _, k + 1, _, .sl _ t, e => by obtain ⟨v, h1, h2⟩ := AVs.im_at (k := k) t (by simpa using e); exact ⟨v, by simpa using h1, h2⟩
theorem AVs.sl_at : ∀ {vs : List V} {as : List AV} {k j : Nat}, AVs K G σ vs as → as[k]? = some (.sl j) → ∃ v, vs[k]? = some v ∧ σ[j]? = some (some v)
  | _, _, 0, _, .sl h _, e => by cases e; exact ⟨_, rfl, h⟩
  | _, _, 0, _, .im _ _, e => by cases e
  | _, _, k + 1, _, .im _ t, e => by obtain ⟨v, h1, h2⟩ := AVs.sl_at (k := k) t (by simpa using e); exact ⟨v, by simpa using h1, h2⟩
  | _, _, k + 1, _, .sl _ t, e => by obtain ⟨v, h1, h2⟩ := AVs.sl_at (k := k) t (by simpa using e); exact ⟨v, by simpa using h1, h2⟩
theorem AVs.length : ∀ {vs : List V} {as : List AV}, AVs K G σ vs as → vs.length = as.length
  | _, _, .nil => rfl
  | _, _, .im _ t => by simp [AVs.length t]
  | _, _, .sl _ t => by simp [AVs.length t]
theorem lendL_length : ∀ {as : List AV} {ls : En}, lendL ρ as = some ls → ls.length = as.length
  | [], _, h => by cases h; rfl
  | .im d :: as, ls, h => by
    simp only [lendL, Option.map_eq_some_iff] at h
    obtain ⟨r, e, rfl⟩ := h
    simp [lendL_length e]
  | .sl i :: as, ls, h => by
    simp only [lendL] at h
    split at h
    · split at h
      · simp only [Option.map_eq_some_iff] at h
        obtain ⟨r, e, rfl⟩ := h
        simp [lendL_length e]
      · cases h
    · cases h
theorem lendL_at : ∀ {as : List AV} {ls : En} {k : Nat} {c : Option L}, lendL ρ as = some ls → ls[k]? = some c →
    (∃ d, c = some (.im d) ∧ as[k]? = some (.im d)) ∨ ∃ j l ds, c = some (.bo ds) ∧ as[k]? = some (.sl j) ∧ ρ[j]? = some (some l) ∧ l.mine = some ds
  | [], _, k, c, h, e => by cases h; simp at e
  | .im d :: as, ls, k, c, h, e => by
    simp only [lendL, Option.map_eq_some_iff] at h
    obtain ⟨r, h, rfl⟩ := h
    cases k with
    | zero => simp at e; subst e; exact .inl ⟨d, rfl, rfl⟩
    | succ k => simpa using lendL_at (k := k) (c := c) h (by simpa using e)
  | .sl i :: as, ls, k, c, h, e => by
    simp only [lendL] at h
    split at h
    · rename_i l el
      split at h
      · rename_i ds m
        simp only [Option.map_eq_some_iff] at h
        obtain ⟨r, h, rfl⟩ := h
        cases k with
        | zero => simp at e; subst e; exact .inr ⟨i, l, ds, rfl, rfl, el, m⟩
        | succ k => simpa using lendL_at (k := k) (c := c) h (by simpa using e)
      · cases h
    · cases h
theorem nodup_sl : ∀ {as : List AV} {i k j : Nat}, (slotsOf as).Nodup → as[i]? = some (.sl j) → as[k]? = some (.sl j) → i = k
  | [], i, k, j, _, h, _ => by simp at h
  | a :: as, 0, 0, j, _, _, _ => rfl
  | a :: as, i + 1, k + 1, j, nd, h1, h2 => by
    have nd' : (slotsOf as).Nodup := by cases a with
      | im d => exact nd
      | sl i => exact (List.nodup_cons.mp nd).2
    exact congrArg (· + 1) (nodup_sl (as := as) nd' (by simpa using h1) (by simpa using h2))
  | a :: as, 0, k + 1, j, nd, h1, h2 => by
    simp at h1; subst h1
    exact absurd (mem_sl (as := as) (k := k) (by simpa using h2)) (List.nodup_cons.mp nd).1
  | a :: as, i + 1, 0, j, nd, h1, h2 => by
    simp at h2; subst h2
    exact absurd (mem_sl (as := as) (k := i) (by simpa using h1)) (List.nodup_cons.mp nd).1
where mem_sl : ∀ {as : List AV} {k j : Nat}, as[k]? = some (AV.sl j) → j ∈ slotsOf as
  | [], k, _, h => by simp at h
  | a :: as, 0, j, h => by simp at h; subst h; exact List.mem_cons_self ..
  | .im d :: as, k + 1, j, h => mem_sl (as := as) (k := k) (by simpa using h)
  | .sl i :: as, k + 1, j, h => List.mem_cons_of_mem _ (mem_sl (as := as) (k := k) (by simpa using h))
/-- the callee's view -/
theorem Rel.lent (r : Rel K G H σ ρ) {vs : List V} {as : List AV} {ls : En} (h : AVs K G σ vs as) (e : lend as ρ = some ls) :
    Rel K G H (vs.map some) ls ∧ noOw ls ∧ ∀ a, Own (vs.map some) ls a → Own σ ρ a := by
  unfold Dn.lend at e
  split at e
  · rename_i nd
    have own : ∀ a (k : Nat) (l : L), ls[k]? = some (some l) → l.mu = true → (vs.map some)[k]? = some (some (V.ref a)) → ∃ j l' ds, as[k]? = some (.sl j) ∧ ρ[j]? = some (some l') ∧ l'.mine = some ds ∧ σ[j]? = some (some (V.ref a)) := fun a k l ek m q => by
      rcases lendL_at e ek with ⟨d, ed, _⟩ | ⟨j, l', ds, ed, e1, e2, e3⟩
      · cases ed; cases m
      · cases ed
        obtain ⟨v, h1, h2⟩ := h.sl_at e1
        rw [List.getElem?_map, h1] at q
        cases q
        exact ⟨j, l', ds, e1, e2, e3, h2⟩
    refine ⟨⟨r.sub, by simp [h.length, lendL_length e], fun k l ek => ?_, fun i k l m a ei ek li mk si sk => ?_⟩, fun k ds ek => ?_, fun a ⟨k, l, ek, m, q⟩ => ?_⟩
    · rcases lendL_at e ek with ⟨d, ed, e1⟩ | ⟨j, l', ds, ed, e1, e2, e3⟩
      · cases ed
        obtain ⟨v, h1, h2⟩ := h.im_at e1
        exact ⟨v, by rw [List.getElem?_map, h1]; rfl, h2⟩
      · cases ed
        obtain ⟨v, h1, h2⟩ := h.sl_at e1
        obtain ⟨o, us, s, go, ho, hd⟩ := r.mine e2 e3
        rw [h2] at s; cases s
        exact ⟨_, by rw [List.getElem?_map, h1]; rfl, o, us, rfl, go, ho, hd⟩
    · obtain ⟨j1, l1, d1, a1, b1, c1, s1⟩ := own a i l ei li si
      obtain ⟨j2, l2, d2, a2, b2, c2, s2⟩ := own a k m ek mk sk
      have := r.apart j1 j2 l1 l2 a b1 b2 (by cases l1 <;> first | (cases c1; done) | rfl) (by cases l2 <;> first | (cases c2; done) | rfl) s1 s2
      subst this
      exact nodup_sl nd a1 a2
    · rcases lendL_at e ek with ⟨d, ed, _⟩ | ⟨j, l', ds', ed, _⟩ <;> cases ed
    · obtain ⟨j1, l1, d1, a1, b1, c1, s1⟩ := own a k l ek m q
      exact ⟨j1, l1, b1, by cases l1 <;> first | (cases c1; done) | rfl, s1⟩
  · cases e
theorem Rel.give (r : Rel K G H σ ρ) {vs : List V} {as : List AV} {ls ls' : En} (h : AVs K G σ vs as) (e : lend as ρ = some ls) (r' : Rel K G' H' (vs.map some) ls') (s : Stp G H (vs.map some) ls G' H' (vs.map some) ls') :
    Rel K G' H' σ (giveB as ls' ρ) ∧ Stp G H σ ρ G' H' σ (giveB as ls' ρ) ∧ ∀ a, Own σ (giveB as ls' ρ) a → Own σ ρ a := by
  obtain ⟨r0, no, own⟩ := r.lent h e
  have nd : (slotsOf as).Nodup := by
    unfold Dn.lend at e
    split at e
    · assumption
    · cases e
  have e0 : lendL ρ as = some ls := by unfold Dn.lend at e; rw [if_pos nd] at e; exact e
  -- what stands at a place behind
  have look : ∀ (j : Nat) (l : L), (giveB as ls' ρ)[j]? = some (some l) → (j ∉ slotsOf as ∧ ρ[j]? = some (some l)) ∨ ∃ (k : Nat) (l0 : L) (ds ds' : List D), as[k]? = some (.sl j) ∧ ρ[j]? = some (some l0) ∧ l0.mine = some ds ∧ l = l0.put ds' ∧ ls'[k]? = some (some (.bo ds')) := fun j l ej => by
    by_cases hj : j ∈ slotsOf as
    · obtain ⟨k, ek⟩ := slot_at hj
      have hk : k < ls.length := by rw [lendL_length e0]; exact (List.getElem?_eq_some_iff.mp ek).1
      rcases lendL_at e0 (List.getElem?_eq_getElem hk) with ⟨d, _, e1⟩ | ⟨j', l', ds, ec, e1, e2, e3⟩
      · rw [ek] at e1; cases e1
      · rw [ek] at e1; cases e1
        obtain ⟨_, ds', e4⟩ := s.bo k ds (by rw [List.getElem?_eq_getElem hk, ec])
        rw [giveB_in nd ek e4 e2] at ej
        cases ej
        exact .inr ⟨k, l', ds, ds', ek, e2, e3, rfl, e4⟩
    · rw [giveB_out hj] at ej; exact .inl ⟨hj, ej⟩
  have mu : ∀ (l0 : L) (ds ds' : List D), l0.mine = some ds → (l0.put ds').mu = true ∧ l0.mu = true := fun l0 ds ds' m => ⟨(L.put_mu m).1, (L.put_mu (es := ds') m).2.1⟩
  have ownb : ∀ a, Own σ (giveB as ls' ρ) a → Own σ ρ a := fun a ⟨j, l, ej, m, q⟩ => by
    rcases look j l ej with ⟨_, e1⟩ | ⟨k, l0, ds, ds', _, e1, e2, rfl, _⟩
    · exact ⟨j, l, e1, m, q⟩
    · exact ⟨j, l0, e1, (mu l0 ds ds' e2).2, q⟩
  refine ⟨⟨r'.sub, by rw [giveB_length]; exact r.len, fun j l ej => ?_, fun i j l m a ei ej li mj si sj => ?_⟩, ⟨s.g, fun a o q n => s.h a o q fun z => n (own a z), fun a q => ?_, fun a q => .inl (ownb a q), s.tr, giveB_length _ _ _, fun j ds ej => ⟨rfl, ?_⟩⟩, ownb⟩
  · rcases look j l ej with ⟨hj, e1⟩ | ⟨k, l0, ds, ds', ek, e1, e2, rfl, e4⟩
    · obtain ⟨v, q, c⟩ := r.cell j l e1
      refine ⟨v, q, ?_⟩
      have away : ∀ o, v = V.ref o → l.mu = true → ¬ Own (vs.map some) ls o := fun o ev ml ⟨k, l2, ek2, m2, q2⟩ => by
        subst ev
        rcases lendL_at e0 ek2 with ⟨d, ed, _⟩ | ⟨j', l', ds, ed, f1, f2, f3⟩
        · cases ed; cases m2
        · obtain ⟨v', h1, h2⟩ := h.sl_at f1
          rw [List.getElem?_map, h1] at q2; cases q2
          have := r.apart j j' l l' o e1 f2 ml (by cases l' <;> first | (cases f3; done) | rfl) q h2
          subst this
          exact hj (nodup_sl.mem_sl f1)
      have gn : ∀ o us, G o = none → H o = some (.lst us) → ¬ Own (vs.map some) ls o → G' o = none := fun o us g hq n => by
        cases z : G' o with
        | none => rfl
        | some u =>
          rcases s.fr o (by rw [z]; exact fun z => nomatch z) with y | y | y
          · exact absurd g y
          · rw [hq] at y; cases y
          · exact absurd y n
      cases l with
      | im d => exact DR.mono s.g c
      | ow es => obtain ⟨o, us, rfl, g, hq, hd⟩ := c; exact ⟨o, us, rfl, gn o us g hq (away o rfl rfl), s.h o _ hq (away o rfl rfl), hd.mono s.g⟩
      | bo es => obtain ⟨o, us, rfl, g, hq, hd⟩ := c; exact ⟨o, us, rfl, gn o us g hq (away o rfl rfl), s.h o _ hq (away o rfl rfl), hd.mono s.g⟩
    · obtain ⟨v, h1, h2⟩ := h.sl_at ek
      obtain ⟨v', q, c⟩ := r'.cell k _ e4
      rw [List.getElem?_map, h1] at q; cases q
      refine ⟨v, h2, ?_⟩
      cases l0 with
      | im d => cases e2
      | ow es => exact c
      | bo es => exact c
  · have up : ∀ (j : Nat) (l : L), (giveB as ls' ρ)[j]? = some (some l) → l.mu = true → ∃ l', ρ[j]? = some (some l') ∧ l'.mu = true := fun j l ej m => by
      rcases look j l ej with ⟨_, e1⟩ | ⟨k, l0, ds, ds', _, e1, e2, rfl, _⟩
      · exact ⟨l, e1, m⟩
      · exact ⟨l0, e1, (mu l0 ds ds' e2).2⟩
    obtain ⟨l', e1, m1⟩ := up i l ei li
    obtain ⟨m', e2, m2⟩ := up j m ej mj
    exact r.apart i j l' m' a e1 e2 m1 m2 si sj
  · rcases s.fr a q with z | z | z
    · exact .inl z
    · exact .inr (.inl z)
    · exact .inr (.inr (own a z))
  · by_cases hj : j ∈ slotsOf as
    · obtain ⟨k, ek⟩ := slot_at hj
      have hk : k < ls.length := by rw [lendL_length e0]; exact (List.getElem?_eq_some_iff.mp ek).1
      rcases lendL_at e0 (List.getElem?_eq_getElem hk) with ⟨d, _, e1⟩ | ⟨j', l', es, ec, e1, e2, e3⟩
      · rw [ek] at e1; cases e1
      · rw [ek] at e1; cases e1
        obtain ⟨_, ds', e4⟩ := s.bo k es (by rw [List.getElem?_eq_getElem hk, ec])
        rw [ej] at e2; cases e2
        exact ⟨ds', giveB_in nd ek e4 ej⟩
    · exact ⟨ds, by rw [giveB_out hj]; exact ej⟩
end
/-- the callee's result in the caller: a datum -/
def dFn (n : Nat) (den : En → R L) (ga : En → R (List AV)) : En → R D := fun ρ => (ga ρ).bind fun as ρ1 => if as.length = n then match lend as ρ1 with
  | none => .no
  | some ls => match den ls with
    | .ok (.im d) ls' => .ok d (giveB as ls' ρ1)
    | .ok (.ow ds) ls' => .ok (.list ds) (giveB as ls' ρ1)
    | .ok (.bo _) _ => .no
    | .ex c ls' => .ex c (giveB as ls' ρ1)
    | .no => .no
  else .no
/-- a new list -/
def nFn (n : Nat) (den : En → R L) (ga : En → R (List AV)) : En → R (List D) := fun ρ => (ga ρ).bind fun as ρ1 => if as.length = n then match lend as ρ1 with
  | none => .no
  | some ls => match den ls with
    | .ok (.ow ds) ls' => .ok ds (giveB as ls' ρ1)
    | .ex c ls' => .ex c (giveB as ls' ρ1)
    | _ => .no
  else .no
section
variable {K : PySem.W.Frag} {G H : Hp} {σ : L2.St} {ρ : En}
/-- a new mutable list becomes immutable -/
theorem Rel.settle (r : Rel K G H σ ρ) {p : Addr} {us : List V} {ds : List D} (hg : G p = none) (ho : ¬ Own σ ρ p) (hp : H p = some (.lst us)) (hd : DRs K G us ds) :
    Rel K (upd G p (.lst us)) H σ ρ ∧ Same G (upd G p (.lst us)) ∧ DR K (upd G p (.lst us)) (.ref p) (.list ds) ∧ ∀ a, upd G p (.lst us) a ≠ none → G a ≠ none ∨ a = p := by
  have sg : Same G (upd G p (.lst us)) := fun b x e => by rw [upd_ne (ne_of_none e hg)]; exact e
  refine ⟨⟨fun b x e => ?_, r.len, fun i l e => ?_, r.apart⟩, sg, .lst (.inl (.inl upd_same)) (hd.mono sg), fun a h => ?_⟩
  · by_cases hb : b = p
    · subst hb; rw [upd_same] at e; cases e; exact hp
    · rw [upd_ne hb] at e; exact r.sub b x e
  · obtain ⟨v, s, c⟩ := r.cell i l e
    refine ⟨v, s, ?_⟩
    have away : ∀ o, v = V.ref o → l.mu = true → o ≠ p := fun o ev m z => by
      subst ev; subst z; exact ho ⟨i, l, e, m, s⟩
    cases l with
    | im d => exact DR.mono sg c
    | ow es => obtain ⟨o, ws, rfl, g, q, hd'⟩ := c; exact ⟨o, ws, rfl, by rw [upd_ne (away o rfl rfl)]; exact g, q, hd'.mono sg⟩
    | bo es => obtain ⟨o, ws, rfl, g, q, hd'⟩ := c; exact ⟨o, ws, rfl, by rw [upd_ne (away o rfl rfl)]; exact g, q, hd'.mono sg⟩
  · by_cases ha : a = p
    · exact .inr ha
    · rw [upd_ne ha] at h; exact .inl h
end
section
variable {X : Cx} {w : Wh} {k n : Nat} {f : Addr} {fd : FuncData} {ps : List Str} {den : En → R L} {ca : String → Option Value} {x : Str} {p pos : Pos} {e : Expr} {es : List Expr} {ga : En → R (List AV)}
theorem call_ok (hca : w.ca = ca) {σ : L2.St} {H : Hp} {Q : VK} {G : Hp} {ρ : En} {vs : List V} {as : List AV} {ls : En} (r : Rel X.K G H σ ρ) (hvs : AVs X.K G σ vs as) (hl : as.length = n) (e : lend as ρ = some ls)
    (h1 : ∀ d ls', den ls = .ok (.im d) ls' → ∀ G' H', Rel X.K G' H' σ (giveB as ls' ρ) → Stp G H σ ρ G' H' σ (giveB as ls' ρ) → ∀ v, DR X.K G' v d → Q v H')
    (h2 : ∀ ds ls', den ls = .ok (.ow ds) ls' → ∀ G' H', Rel X.K G' H' σ (giveB as ls' ρ) → Stp G H σ ρ G' H' σ (giveB as ls' ρ) → ∀ p, G' p = none → ¬ Own σ (giveB as ls' ρ) p → (∃ us, H' p = some (.lst us) ∧ DRs X.K G' us ds) → H p = none → Q (.ref p) H')
    (h3 : ∀ c ls', den ls = .ex c ls' → ∀ G' H' cls dx, Rel X.K G' H' σ (giveB as ls' ρ) → Stp G H σ ρ G' H' σ (giveB as ls' ρ) → ExR X.K w G' H' c cls dx → w.W cls dx σ H')
    (h4 : den ls ≠ .no) (h5 : ∀ ds ls', den ls ≠ .ok (.bo ds) ls') : spD X.K ca n den vs H Q (WE w.W σ) := by
  obtain ⟨r0, no, own⟩ := r.lent hvs e
  refine ⟨G, ls, r0, no, hvs.length.trans hl, ?_⟩
  cases q : den ls with
  | no => exact absurd q h4
  | ex c ls' =>
    intro G' H' cls dx r' s' x'
    obtain ⟨r2, s2, ob⟩ := r.give hvs e r' s'
    exact h3 c ls' q G' H' cls dx r2 s2 (x'.to hca.symm)
  | ok l ls' =>
    cases l with
    | bo ds => exact absurd q (h5 ds ls')
    | im d =>
      intro G' H' v r' s' hv
      obtain ⟨r2, s2, ob⟩ := r.give hvs e r' s'
      exact h1 d ls' q G' H' r2 s2 v hv
    | ow ds =>
      intro G' H' p r' s' hg ho hu hn
      obtain ⟨r2, s2, ob⟩ := r.give hvs e r' s'
      refine h2 ds ls' q G' H' r2 s2 p hg (fun z => ?_) hu hn
      obtain ⟨_, us, y'⟩ := r.own (ob p z)
      rw [hn] at y'; cases y'
theorem ve_call (F : FnOk X.prog X.w X.K X.mg X.base (L2.CX X.prog X.w) k f fd ps (spD X.K ca n den)) (hr : Room k X.A) (tk : Takes X w.W) (hca : w.ca = ca) (hg : Gl X x) (hm : X.mg x = some (.ref f)) (hk : PySem.W.keepIn X.K (.ref f) = true) (hb : Binds X.K fd ps [])
    (ha : VA X w (e :: es) ga) (hdb : (x == ("__debug__" : Str)) = false := by decide) (he : starEach (e :: es) X.env = (false, eval e X.env) :: starEach es X.env := by rfl) (hpl : (backTo pos (starEach es X.env)).any (·.1) = false := by rfl) :
    VE X w (.Call (.Name x p) (e :: es) [] pos) (dFn n den ga) :=
  PE.imp (pe_callS F hr hg hm hk hb (passAt tk) ha hdb he hpl) fun σ H Q ⟨G, ρ, rel, h⟩ => ⟨G, ρ, rel, (Fn.bind rel h).imp fun G1 H1 ρ1 as ⟨r1, s1, h1⟩ vs hvs => by
    split at h1
    · rename_i hl
      cases q : lend as ρ1 with
      | none => rw [q] at h1; exact h1.elim
      | some ls =>
        rw [q] at h1
        have h1' : Fn X.K w G1 H1 σ ρ1 (match den ls with | .ok (.im d) ls' => R.ok d (giveB as ls' ρ1) | .ok (.ow ds) ls' => .ok (.list ds) (giveB as ls' ρ1) | .ok (.bo _) _ => .no | .ex c ls' => .ex c (giveB as ls' ρ1) | .no => .no) (QD X.K Q) := h1
        refine call_ok hca r1 hvs hl q (fun d ls' e => ?_) (fun ds ls' e => ?_) (fun c ls' e => ?_) (fun e => ?_) (fun ds ls' e => ?_)
        · rw [e] at h1'; exact fun G' H' r' s' v hv => h1' G' H' r' s' v hv
        · rw [e] at h1'
          intro G' H' r' s' p hg ho ⟨us, hp, hd⟩ hn
          obtain ⟨r2, sg, hdr, hfr⟩ := r'.settle hg ho hp hd
          refine h1' _ H' r2 ⟨s'.g.trans sg, s'.h, fun a z => ?_, s'.ow, s'.tr, s'.ln, s'.bo⟩ _ hdr
          rcases hfr a z with y | rfl
          · exact s'.fr a y
          · exact .inr (.inl hn)
        · rw [e] at h1'; exact fun G' H' cls dx r' s' x' => h1' G' H' cls dx r' s' x'
        · rw [e] at h1'; exact h1'
        · rw [e] at h1'; exact h1'
    · exact h1.elim⟩
theorem vn_call (F : FnOk X.prog X.w X.K X.mg X.base (L2.CX X.prog X.w) k f fd ps (spD X.K ca n den)) (hr : Room k X.A) (tk : Takes X w.W) (hca : w.ca = ca) (hg : Gl X x) (hm : X.mg x = some (.ref f)) (hk : PySem.W.keepIn X.K (.ref f) = true) (hb : Binds X.K fd ps [])
    (ha : VA X w (e :: es) ga) (hdb : (x == ("__debug__" : Str)) = false := by decide) (he : starEach (e :: es) X.env = (false, eval e X.env) :: starEach es X.env := by rfl) (hpl : (backTo pos (starEach es X.env)).any (·.1) = false := by rfl) :
    VN X w (.Call (.Name x p) (e :: es) [] pos) (nFn n den ga) :=
  PE.imp (pe_callS F hr hg hm hk hb (passAt tk) ha hdb he hpl) fun σ H Q ⟨G, ρ, rel, h⟩ => ⟨G, ρ, rel, (Fn.bind rel h).imp fun G1 H1 ρ1 as ⟨r1, s1, h1⟩ vs hvs => by
    split at h1
    · rename_i hl
      cases q : lend as ρ1 with
      | none => rw [q] at h1; exact h1.elim
      | some ls =>
        rw [q] at h1
        have h1' : Fn X.K w G1 H1 σ ρ1 (match den ls with | .ok (.ow ds) ls' => R.ok ds (giveB as ls' ρ1) | .ex c ls' => .ex c (giveB as ls' ρ1) | _ => .no) (QN X.K H σ Q) := h1
        refine call_ok hca r1 hvs hl q (fun d ls' e => ?_) (fun ds ls' e => ?_) (fun c ls' e => ?_) (fun e => ?_) (fun ds ls' e => ?_)
        · rw [e] at h1'; exact h1'.elim
        · rw [e] at h1'
          intro G' H' r' s' p hg ho hu hn
          refine h1' _ H' r' s' p ⟨hg, ho, hu, ?_⟩
          cases z : H p with
          | none => rfl
          | some o => exact absurd hn (s1.tr p (by rw [z]; exact fun z => nomatch z))
        · rw [e] at h1'; exact fun G' H' cls dx r' s' x' => h1' G' H' cls dx r' s' x'
        · rw [e] at h1'; exact h1'
        · rw [e] at h1'; exact h1'
    · exact h1.elim⟩
end
end Dn
namespace Dn
open PySem PySem.Spec PyProof.Rows L2

/-! ### constants -/
section
variable {X : Cx} {w : Wh}
theorem ve_bl {b : Bool} {j : Nat} {pos : Pos} : VE X w (.Constant (.bool b) j pos) (dC (.bool b)) := PE.imp pe_bl fun _ _ _ ⟨_, _, r, h⟩ => h.ok r _ (.bl b)
theorem ve_non {j : Nat} {pos : Pos} : VE X w (.Constant .none j pos) (dC .none) := PE.imp pe_non fun _ _ _ ⟨_, _, r, h⟩ => h.ok r _ .non
theorem ve_str {x : Str} {j : Nat} {pos : Pos} : VE X w (.Constant (.str x) j pos) (dC (.str x)) := PE.imp pe_str fun _ _ _ ⟨_, _, r, h⟩ => h.ok r _ (.str x)
theorem ve_glS {x : Str} {z : Str} {pos : Pos} (hg : Gl X x) (hm : ∃ t, X.mg x = some (.str z t)) (hd : (x == ("__debug__" : Str)) = false := by decide) : VE X w (.Name x pos) (dC (.str z)) := by
  obtain ⟨t, hm⟩ := hm
  exact PE.imp (pe_glob (v := .str z) hg hm ⟨_, rfl⟩ hd) fun _ _ _ ⟨_, _, r, h⟩ => h.ok r _ (.str z)
theorem ve_glI {x : Str} {z : Int} {pos : Pos} (hg : Gl X x) (hm : ∃ t, X.mg x = some (.int z t)) (hd : (x == ("__debug__" : Str)) = false := by decide) : VE X w (.Name x pos) (dC (.int z)) := by
  obtain ⟨t, hm⟩ := hm
  exact PE.imp (pe_glob (v := .int z) hg hm ⟨_, rfl⟩ hd) fun _ _ _ ⟨_, _, r, h⟩ => h.ok r _ (.int z)
/-- a constant table of the top -/
theorem ve_glO {x : Str} {a : Addr} {d : D} {pos : Pos} (hg : Gl X x) (hm : X.mg x = some (.ref a)) (hd' : ∀ G, DR X.K G (.ref a) d) (hd : (x == ("__debug__" : Str)) = false := by decide) : VE X w (.Name x pos) (dC d) :=
  PE.imp (pe_glob (v := .ref a) hg hm rfl hd) fun _ _ _ ⟨_, _, r, h⟩ => h.ok r _ (hd' _)
end
/-! ### defs by names -/
theorem fn_denD {P : Program} {wd : World} {K : PySem.W.Frag} {mg : Str → Option Value} {base : Heap} {ca : String → Option Value} {x qual : Str} {params : Arguments} {body : List Stmt} {scope : Scope} {dvs : List V} {kws : List (Str × V)} {f : Addr} {fd : FuncData} {N ps : List Str} {k : Nat} {b : En → R Fl}
    (F : FunD K x qual params body scope dvs kws f fd) (S : FnScope N ps scope)
    (hb : ∀ (cdv : Value) (A : Around) (outer : List Env) (s : Shared) (H : Hp) (E : XK), Gd (cxOf (L2.CX P wd) P wd K mg base N qual scope f cdv A outer s H E) (wh ca E) k →
      VSs (cxOf (L2.CX P wd) P wd K mg base N qual scope f cdv A outer s H E) (wh ca E) body b) :
    FnOk P wd K mg base (L2.CX P wd) (k + 1) f fd ps (spD K ca ps.length (dDef N.length b)) := by
  refine F.ok S (fun vs H Q E h => ?_) (fun cdv A outer s H vs Q E hr h => ?_)
  · obtain ⟨_, _, _, _, e, _⟩ := h; exact e
  · obtain ⟨G, ls, rel, no, hl, h⟩ := h
    refine ⟨_, hb cdv A outer s H E ⟨rfl, takes_of rfl rfl rfl rfl, passes_of rfl, hr⟩, ?_⟩
    obtain ⟨r0, o1, o2⟩ := rel.more (n := N.length)
    refine ⟨G, _, r0, ?_⟩
    unfold dDef at h
    show FnS K (wh ca E) G H (vs.map some ++ List.replicate (N.length - vs.length) none) (ls ++ List.replicate (N.length - ls.length) none) (b (ls ++ List.replicate (N.length - ls.length) none)) { nx := fun _ H' => Q .non H', rt := Q }
    cases q : b (ls ++ List.replicate (N.length - ls.length) none) with
    | no => rw [q] at h; exact h
    | ex c ρ' =>
      rw [q] at h
      intro G' H' σ' cls dx r' s' x'
      obtain ⟨r2, s2, _⟩ := rel.back no r' s'
      exact h G' H' cls dx r2 s2 x'
    | ok fl ρ' =>
      rw [q] at h
      cases fl with
      | nx =>
        intro G' H' σ' r' s'
        obtain ⟨r2, s2, _⟩ := rel.back no r' s'
        exact h G' H' .non r2 s2 .non
      | bk => exact h.elim
      | ct => exact h.elim
      | rt d =>
        intro G' H' σ' v r' s' hv
        obtain ⟨r2, s2, _⟩ := rel.back no r' s'
        exact h G' H' v r2 s2 hv
      | rl ds =>
        intro G' H' σ' p r' s' ho
        obtain ⟨r2, s2, o3⟩ := rel.back no r' s'
        refine h G' H' p r2 s2 ho.g (fun z => ho.own (o3 p z)) ho.here ?_
        rcases ho.new with z | ⟨i, es, e, _⟩
        · exact z
        · by_cases hi : i < ls.length
          · rw [List.getElem?_append_left hi] at e; exact absurd e (no i es)
          · rw [List.getElem?_append_right (by omega), List.getElem?_replicate] at e
            split at e <;> cases e
/-- a class's value, by its name -/
def caK (bi : List String) (K : PySem.W.Frag) : String → Option Value := fun s => if bi.contains s = true then some (.type s) else some (.ref (He.ga K (Str.ofString s)))
/-! ### the end of a law's row -/
theorem walk_ofEB {l : PySem.W.OpenLaw} {n k : Nat} {q : Program} {loose : List Str} {XP : (Str → Option Value) → Heap → Prop} {YP : World → Heap → Prop} {d : DefRec} {CX : World → CXT} {x : Str}
    (hn : l.most = some n) (hn2 : n ≤ sizeLine) (hdf : d.params.defaults = []) (hr : Room k callerA)
    (F : ∀ (w : World) (mg : Str → Option Value) (fa : Addr) (h : Heap), YP w h → h.Ns mainGlobals mg → mg d.name = some (.ref fa) →
      ∃ (K : PySem.W.Frag) (fd : FuncData) (sp : Sp), K.In h ∧ (∀ (s : Shared) (u : Value), BindsTo s fd ⟨[u], []⟩ [(x, u)]) ∧
        (∀ (H : Hp) (a : Addr) (ns : List Int), ns.length ≤ n → (∀ z ∈ ns, Builtin.Int.intBits z ≤ 1048576) → SqL K H a (ns.map V.int) → sp [.ref a] H (fun v _ => v = .bl true) fun _ _ _ => False) ∧
        ∀ base : Heap, K.In base → base.Ns mainGlobals mg → FnOk l.prog w K mg base (CX w) k fa fd [x] sp)
    (hCX : ∀ (w : World) (H : Hp) (s : Shared) (e : Value) (s' : Shared), CX w [] H s (fun _ _ _ => False) e s' → False) :
    PySem.W.WalkO q loose XP YP l.row.toRowW d [] (fun f vs => PySem.call f vs) := by
  refine Att.attach_callB hn hdf fun w s₀ s₁ mg mb fa o pm cd doc a vs ns G Y ho hd hcd hmg hobj hints hlen hbits hg => ?_
  obtain ⟨K, fd, sp, KX, hb, hsp, hF⟩ := F w mg fa _ Y G.T.g hmg
  exact law_call KX G.T.g G.T.b G.T.builtins G.T.nolimit hg hobj hints (Nat.le_trans hlen hn2) hr hF hb (fun H hO hS => hsp H a ns hlen hbits hS) fun H e s' => hCX w H s₁ e s'
/-- a script's cell has few bits -/
theorem bits_lt {z : Int} (h : Builtin.Int.intBits z ≤ 1048576) : z.natAbs < 2 ^ 1048576 := by
  unfold Builtin.Int.intBits at h
  split at h
  · rename_i e
    have : z = 0 := by simpa using e
    subst this
    exact Nat.pow_pos (by decide)
  · rename_i e
    have hz : z.natAbs ≠ 0 := by intro q; apply e; simp [Int.natAbs_eq_zero.mp q]
    refine (Nat.log2_lt hz).mp ?_
    omega
def scriptD (ns : List Int) : D := .list (ns.map PyData.int)
/-- the law's def gives True: what the row asks -/
theorem law_sp {K : PySem.W.Frag} {ca : String → Option Value} {den : En → R L} {H : Hp} {a : Addr} {ns : List Int} (hS : SqL K H a (ns.map V.int)) {ls' : En} (h : den [some (.im (scriptD ns))] = .ok (.im (.bool true)) ls') :
    spD K ca 1 den [.ref a] H (fun v _ => v = .bl true) fun _ _ _ => False := by
  have hd : DR K H (.ref a) (scriptD ns) := .lst hS (DRs.ofInts ns)
  refine ⟨H, [some (.im (scriptD ns))], ⟨Same.refl _, rfl, fun i l e => ?_, fun i j l m b ei ej li mj si sj => ?_⟩, fun i ds e => ?_, rfl, ?_⟩
  · cases i with
    | zero => cases e; exact ⟨_, rfl, hd⟩
    | succ i => simp at e
  · cases i with
    | zero => cases ei; cases li
    | succ i => simp at ei
  · cases i with
    | zero => cases e
    | succ i => simp at e
  · rw [h]
    intro G' H' v r s hv
    cases hv
    rfl
end Dn
namespace Dn
open PySem PySem.Spec PyProof.Rows L2
theorem boot_ty_int : bootBuiltins "int" = some (.type "int") := by decide +kernel
theorem boot_ty_bool : bootBuiltins "bool" = some (.type "bool") := by decide +kernel
theorem boot_ty_str : bootBuiltins "str" = some (.type "str") := by decide +kernel
theorem boot_ty_list : bootBuiltins "list" = some (.type "list") := by decide +kernel
theorem boot_ty_tuple : bootBuiltins "tuple" = some (.type "tuple") := by decide +kernel
theorem boot_ty_dict : bootBuiltins "dict" = some (.type "dict") := by decide +kernel
theorem boot_B_abs : bootBuiltins "abs" = some (.builtin "abs") := by decide +kernel
theorem boot_B_max : bootBuiltins "max" = some (.builtin "max") := by decide +kernel
theorem boot_B_min : bootBuiltins "min" = some (.builtin "min") := by decide +kernel
theorem boot_B_sum : bootBuiltins "sum" = some (.builtin "sum") := by decide +kernel
theorem boot_B_all : bootBuiltins "all" = some (.builtin "all") := by decide +kernel
theorem boot_B_any : bootBuiltins "any" = some (.builtin "any") := by decide +kernel
theorem boot_B_sorted : bootBuiltins "sorted" = some (.builtin "sorted") := by decide +kernel
theorem Gd.u65 {X : Cx} {w : Wh} {k : Nat} (g : Gd X w k) : X.A.units + 65 < cLine := by have := g.hr.un; omega
theorem nox_nil : ∀ (d : List D) (ρ : En) (c : Exn) (ρ' : En), gsNil d ρ ≠ .ex c ρ' := fun d ρ c ρ' => by
  cases d <;> exact fun z => nomatch z
theorem nox_cons {g : D → En → R Unit} {h : List D → En → R Unit} (hg : NoX g) (hh : ∀ (d : List D) (ρ : En) (c : Exn) (ρ' : En), h d ρ ≠ .ex c ρ') : ∀ (d : List D) (ρ : En) (c : Exn) (ρ' : En), gsCons g h d ρ ≠ .ex c ρ' := fun d ρ c ρ' => by
  cases d with
  | nil => exact fun z => nomatch z
  | cons a r =>
    show (g a ρ).bind _ ≠ _
    cases q : g a ρ with
    | no => exact fun z => nomatch z
    | ex c1 ρ1 => exact absurd q (hg a ρ c1 ρ1)
    | ok u ρ1 => exact hh r ρ1 c ρ'
theorem nox_tup {n : Nat} {h : List D → En → R Unit} (hh : ∀ (d : List D) (ρ : En) (c : Exn) (ρ' : En), h d ρ ≠ .ex c ρ') : NoX (gTupD n h) := fun d ρ c ρ' => by
  unfold gTupD
  split
  · split
    · exact hh _ _ _ _
    · exact fun z => nomatch z
  · split
    · exact hh _ _ _ _
    · exact fun z => nomatch z
  · exact fun z => nomatch z
section
variable {X : Cx} {w : Wh} {a b c : Expr} {fa fb fc : En → R D} {ga : En → R Bool} {pos : Pos}
/-- a truth's value as a test -/
theorem vt_b (ha : VE X w a (dB ga)) (he : ∀ whole, isTrue a X.env whole = (do let v ← whole; standAt a.pos; holding [v] (truthy v)) := by intro _; rfl) : VT X w a ga :=
  PT.imp (pt_truth ha he) fun σ H Q ⟨G, ρ, rel, h⟩ => ⟨G, ρ, rel, Fn.toB rel (h.imp fun G1 H1 ρ1 b q v hv => by
    cases hv
    exact ⟨b, rfl, q⟩)⟩
/-- a < b < c -/
def dChain (g g' : D → D → Option Bool) (fa fb fc : En → R D) : En → R Bool := fun ρ => (fa ρ).bind fun x ρ1 => (fb ρ1).bind fun y ρ2 => (lift (g x y) ρ2).bind fun t ρ3 => if t = true then (fc ρ3).bind fun z ρ4 => lift (g' y z) ρ4 else .ok false ρ3
theorem chain_core {K : PySem.W.Frag} {r r' : R2} {g g' : D → D → Option Bool} (h1 : OpB K r g) (h2 : OpB K r' g') {G H : Hp} {σ : L2.St} {ρ : En} {P : Bool → Hp → Prop} (rel : Rel K G H σ ρ) (h : Fn K w G H σ ρ (dChain g g' fa fb fc ρ) (QB P)) :
    tChain r r' (teD K w fa) (teD K w fb) (teD K w fc) σ H (fun v H1 => ∃ k, v = .bl k ∧ P k H1) :=
  ⟨G, ρ, rel, (Fn.bind rel h).imp fun G1 H1 ρ1 dx ⟨r1, s1, h1'⟩ x hx => ⟨G1, ρ1, r1, (Fn.bind r1 h1').imp fun G2 H2 ρ2 dy ⟨r2, s2, h2'⟩ y hy => by
    obtain ⟨t, e, q⟩ := Fn.lift (Fn.bind r2 h2')
    obtain ⟨r3, s3, h3⟩ := q _ _ r2 Stp.refl
    refine h1 x y dx dy t H2 _ ((hx.mono s2.g).mono r2.sub) (hy.mono r2.sub) e ⟨t, rfl, ?_⟩
    cases t with
    | false => exact iteF ⟨false, rfl, Fn.ok (show Fn K w G2 H2 σ ρ2 (.ok false ρ2) (QB P) from h3) r2⟩
    | true =>
      refine iteT ⟨G2, ρ2, r2, (Fn.bind r2 (show Fn K w G2 H2 σ ρ2 ((fc ρ2).bind fun z ρ4 => lift (g' dy z) ρ4) (QB P) from h3)).imp fun G4 H4 ρ4 dz ⟨r4, s4, h4⟩ z hz => ?_⟩
      obtain ⟨b, e', q'⟩ := Fn.lift h4
      exact h2 y z dy dz b H4 _ ((hy.mono s4.g).mono r4.sub) (hz.mono r4.sub) e' ⟨b, rfl, q' _ _ r4 Stp.refl⟩⟩⟩
theorem vt_chain {op op' : CmpOp} {r r' : R2} {g g' : D → D → Option Bool} (ho : OpR X (compareOp op) r) (hs : OpB X.K r g) (ho' : OpR X (compareOp op') r') (hs' : OpB X.K r' g') (ha : VE X w a fa) (hb : VE X w b fb) (hc : VE X w c fc)
    (hm : lastMarks [op, op'] [b, c] = false := by with_unfolding_all rfl) : VT X w (.Compare a [op, op'] [b, c] pos) (dChain g g' fa fb fc) :=
  PT.imp (pt_chain ho ho' ha hb hc hm) fun σ H Q ⟨G, ρ, rel, h⟩ => chain_core hs hs' rel h
theorem tChain_imp {r r' : R2} {ta tb tc : TE} {σ : L2.St} {H : Hp} {Q : VK} (h : tChain r r' ta tb tc σ H Q) : tChain r r' ta tb tc σ H Q := h
theorem ve_chain {op op' : CmpOp} {r r' : R2} {g g' : D → D → Option Bool} (ho : OpR X (compareOp op) r) (hs : OpB X.K r g) (ho' : OpR X (compareOp op') r') (hs' : OpB X.K r' g') (ha : VE X w a fa) (hb : VE X w b fb) (hc : VE X w c fc)
    (hm : lastMarks [op, op'] [b, c] = false := by with_unfolding_all rfl) : VE X w (.Compare a [op, op'] [b, c] pos) (dB (dChain g g' fa fb fc)) := by
  refine ⟨fun pins s σ H Q I q => ?_⟩
  obtain ⟨G, ρ, rel, h⟩ := q
  refine thn ((pe_chain ho ho' ha hb hc hm).run pins s σ H _ I (chain_core (P := fun b H1 => Q (.bl b) H1) hs hs' rel ((Fn.dB rel h).imp fun G1 H1 ρ1 b q => q.2.2))) fun u s1 ⟨v, H1, I1, rv, k, e, q⟩ => ?_
  subst e
  exact ⟨_, H1, I1, rv, q⟩
end
end Dn
namespace Dn
open PySem PySem.Spec PyProof.Rows L2
/-! ### reckoning with denotations -/
section
variable {α β : Type}
@[simp] theorem bind_ok (a : α) (ρ : En) (g : α → En → R β) : (R.ok a ρ).bind g = g a ρ := rfl
@[simp] theorem bind_ex (c : Exn) (ρ : En) (g : α → En → R β) : (R.ex c ρ : R α).bind g = .ex c ρ := rfl
@[simp] theorem bind_no (g : α → En → R β) : (R.no : R α).bind g = .no := rfl
@[simp] theorem bind_ite (c : Prop) [Decidable c] (x y : R α) (g : α → En → R β) : (if c then x else y).bind g = if c then x.bind g else y.bind g := by split <;> rfl
@[simp] theorem lift_some (a : α) (ρ : En) : lift (some a) ρ = .ok a ρ := rfl
@[simp] theorem lift_none (ρ : En) : (lift none ρ : R α) = .no := rfl
@[simp] theorem lift_ite (c : Prop) [Decidable c] (x y : Option α) (ρ : En) : lift (if c then x else y) ρ = if c then lift x ρ else lift y ρ := by split <;> rfl
end
/-- a block goes on -/
def thn' (r : R Fl) (g : En → R Fl) : R Fl := match r with
  | .ok .nx ρ => g ρ
  | .ok fl ρ => .ok fl ρ
  | .ex c ρ => .ex c ρ
  | .no => .no
@[simp] theorem thn_nx (ρ : En) (g : En → R Fl) : thn' (.ok .nx ρ) g = g ρ := rfl
@[simp] theorem thn_rt (d : D) (ρ : En) (g : En → R Fl) : thn' (.ok (.rt d) ρ) g = .ok (.rt d) ρ := rfl
@[simp] theorem thn_rl (d : List D) (ρ : En) (g : En → R Fl) : thn' (.ok (.rl d) ρ) g = .ok (.rl d) ρ := rfl
@[simp] theorem thn_bk (ρ : En) (g : En → R Fl) : thn' (.ok .bk ρ) g = .ok .bk ρ := rfl
@[simp] theorem thn_ct (ρ : En) (g : En → R Fl) : thn' (.ok .ct ρ) g = .ok .ct ρ := rfl
@[simp] theorem thn_ex (c : Exn) (ρ : En) (g : En → R Fl) : thn' (.ex c ρ) g = .ex c ρ := rfl
@[simp] theorem thn_no (g : En → R Fl) : thn' .no g = .no := rfl
@[simp] theorem thn_ite (c : Prop) [Decidable c] (x y : R Fl) (g : En → R Fl) : thn' (if c then x else y) g = if c then thn' x g else thn' y g := by split <;> rfl
/-- a def ends -/
def finD (ls : En) (r : R Fl) : R L := match r with
  | .ok .nx ρ => .ok (.im .none) (backE ls ρ)
  | .ok (.rt d) ρ => .ok (.im d) (backE ls ρ)
  | .ok (.rl ds) ρ => .ok (.ow ds) (backE ls ρ)
  | .ex c ρ => .ex c (backE ls ρ)
  | _ => .no
@[simp] theorem fin_nx (ls ρ : En) : finD ls (.ok .nx ρ) = .ok (.im .none) (backE ls ρ) := rfl
@[simp] theorem fin_rt (ls ρ : En) (d : D) : finD ls (.ok (.rt d) ρ) = .ok (.im d) (backE ls ρ) := rfl
@[simp] theorem fin_rl (ls ρ : En) (d : List D) : finD ls (.ok (.rl d) ρ) = .ok (.ow d) (backE ls ρ) := rfl
@[simp] theorem fin_ex (ls ρ : En) (c : Exn) : finD ls (.ex c ρ) = .ex c (backE ls ρ) := rfl
@[simp] theorem fin_ite (c : Prop) [Decidable c] (ls : En) (x y : R Fl) : finD ls (if c then x else y) = if c then finD ls x else finD ls y := by split <;> rfl
@[simp] theorem dDef_eq (n : Nat) (b : En → R Fl) (ls : En) : dDef n b ls = finD ls (b (ls ++ List.replicate (n - ls.length) none)) := rfl
@[simp] theorem dSeq_eq (f g : En → R Fl) (ρ : En) : dSeq f g ρ = thn' (f ρ) g := by
  unfold dSeq thn'
  cases q : f ρ with
  | ok fl ρ1 => cases fl <;> rfl
  | _ => rfl
section
variable (f g : En → R D) (p q : En → R Bool) (s t : En → R Fl) (ga : En → R (List AV)) (ρ : En) (i j : Nat) (d : D)
@[simp] theorem dNx_eq : dNx ρ = .ok .nx ρ := rfl
@[simp] theorem dBk_eq : dBk ρ = .ok .bk ρ := rfl
@[simp] theorem dCt_eq : dCt ρ = .ok .ct ρ := rfl
@[simp] theorem dRet_eq : dRet f ρ = (f ρ).bind fun d ρ1 => .ok (.rt d) ρ1 := rfl
@[simp] theorem dDrop_eq : dDrop f ρ = (f ρ).bind fun _ ρ1 => .ok .nx ρ1 := rfl
@[simp] theorem dIf_eq : dIf p s t ρ = (p ρ).bind fun b ρ1 => if b = true then s ρ1 else t ρ1 := rfl
@[simp] theorem dC_eq : dC d ρ = .ok d ρ := rfl
@[simp] theorem dOp_eq (h : D → D → Option D) : dOp h f g ρ = (f ρ).bind fun x ρ1 => (g ρ1).bind fun y ρ2 => lift (h x y) ρ2 := rfl
@[simp] theorem d1_eq (h : D → Option D) : d1 h f ρ = (f ρ).bind fun x ρ1 => lift (h x) ρ1 := rfl
@[simp] theorem dCmp_eq (h : D → D → Option Bool) : dCmp h f g ρ = (f ρ).bind fun x ρ1 => (g ρ1).bind fun y ρ2 => lift (h x y) ρ2 := rfl
@[simp] theorem dB_eq : dB p ρ = (p ρ).bind fun b ρ1 => .ok (.bool b) ρ1 := rfl
@[simp] theorem dNot_eq : dNot p ρ = (p ρ).bind fun b ρ1 => .ok (!b) ρ1 := rfl
@[simp] theorem dAnd_eq : dAnd p q ρ = (p ρ).bind fun b ρ1 => if b = true then q ρ1 else .ok false ρ1 := rfl
@[simp] theorem dOr_eq : dOr p q ρ = (p ρ).bind fun b ρ1 => if b = true then .ok true ρ1 else q ρ1 := rfl
@[simp] theorem dAndV_eq : dAndV p f ρ = (p ρ).bind fun b ρ1 => if b = true then f ρ1 else .ok (.bool false) ρ1 := rfl
@[simp] theorem dOrV_eq : dOrV p f ρ = (p ρ).bind fun b ρ1 => if b = true then .ok (.bool true) ρ1 else f ρ1 := rfl
@[simp] theorem dIfE_eq : dIfE p f g ρ = (p ρ).bind fun b ρ1 => if b = true then f ρ1 else g ρ1 := rfl
@[simp] theorem dIsi_eq (t : String) : dIsi t f ρ = (f ρ).bind fun d ρ1 => .ok (isTy t d) ρ1 := rfl
@[simp] theorem dUB_eq : dUB f ρ = (f ρ).bind fun d ρ1 => lift (asB d) ρ1 := rfl
@[simp] theorem dTru_eq : dTru f ρ = (f ρ).bind fun d ρ1 => lift (truD d) ρ1 := rfl
@[simp] theorem dChain_eq (h h' : D → D → Option Bool) (k : En → R D) : dChain h h' f g k ρ = (f ρ).bind fun x ρ1 => (g ρ1).bind fun y ρ2 => (lift (h x y) ρ2).bind fun t ρ3 => if t = true then (k ρ3).bind fun z ρ4 => lift (h' y z) ρ4 else .ok false ρ3 := rfl
@[simp] theorem aNil_eq : aNil ρ = .ok [] ρ := rfl
@[simp] theorem aIm_eq : aIm f ga ρ = (f ρ).bind fun d ρ1 => (ga ρ1).bind fun as ρ2 => .ok (.im d :: as) ρ2 := rfl
@[simp] theorem dAll_eq : dAll ga ρ = (ga ρ).bind fun as ρ1 => lift (allIm as) ρ1 := rfl
@[simp] theorem dTup_eq : dTup ga ρ = (dAll ga ρ).bind fun ds ρ1 => if ds.length ≤ sizeLine then .ok (.tuple ds) ρ1 else .no := rfl
@[simp] theorem dLst_eq : dLst ga ρ = (dAll ga ρ).bind fun ds ρ1 => if ds.length ≤ sizeLine then .ok (.list ds) ρ1 else .no := rfl
@[simp] theorem nLst_eq : nLst ga ρ = (dAll ga ρ).bind fun ds ρ1 => if ds.length ≤ sizeLine then .ok ds ρ1 else .no := rfl
@[simp] theorem dCall_eq (h : List D → Option D) : dCall h ga ρ = (dAll ga ρ).bind fun ds ρ1 => lift (h ds) ρ1 := rfl
@[simp] theorem dAsg_eq (h : D → En → R Unit) : dAsg h f ρ = (f ρ).bind fun d ρ1 => (h d ρ1).bind fun _ ρ2 => .ok .nx ρ2 := rfl
@[simp] theorem putIm_eq : putIm i d ρ = if free ρ[i]? = true then .ok () (ρ.set i (some (.im d))) else .no := rfl
@[simp] theorem putOw_eq (ds : List D) : putOw i ds ρ = if free ρ[i]? = true then .ok () (ρ.set i (some (.ow ds))) else .no := rfl
@[simp] theorem dSl_eq (l u : En → R (Option Int)) : dSl f l u ρ = (f ρ).bind fun x ρ1 => (l ρ1).bind fun lo ρ2 => (u ρ2).bind fun hi ρ3 => lift (gSl x lo hi) ρ3 := rfl
@[simp] theorem oN_eq : oN ρ = .ok none ρ := rfl
@[simp] theorem oI_eq : oI f ρ = (f ρ).bind fun d ρ1 => lift ((asI d).map some) ρ1 := rfl
@[simp] theorem dPair_eq {α β : Type} (f : En → R α) (g : En → R β) : dPair f g ρ = (f ρ).bind fun a ρ1 => (g ρ1).bind fun b ρ2 => .ok (a, b) ρ2 := rfl
@[simp] theorem dPar_eq : dPar i j ga ρ = (dAll ga ρ).bind fun ds ρ1 => match ds with
  | [a, b] => (putIm i a ρ1).bind fun _ ρ2 => (putIm j b ρ2).bind fun _ ρ3 => .ok .nx ρ3
  | _ => .no := rfl
end
/-- a slot read -/
def rdSlot (c : Option (Option L)) (i : Nat) (ρ : En) : R D := match c with
  | some (some (.im d)) => .ok d ρ
  | some (some (.ow ds)) => .ok (.list ds) (frz i ds ρ)
  | _ => .no
@[simp] theorem dVar_eq (i : Nat) (ρ : En) : dVar i ρ = rdSlot ρ[i]? i ρ := by
  unfold dVar rdSlot
  split <;> simp_all
@[simp] theorem rdSlot_im (d : D) (i : Nat) (ρ : En) : rdSlot (some (some (.im d))) i ρ = .ok d ρ := rfl
@[simp] theorem rdSlot_ow (ds : List D) (i : Nat) (ρ : En) : rdSlot (some (some (.ow ds))) i ρ = .ok (.list ds) (frz i ds ρ) := rfl
/-- at a slot, what follows -/
def slotK {α : Type} (c : Option (Option L)) (k : L → R α) : R α := match c with
  | some (some l) => k l
  | _ => .no
@[simp] theorem slotK_some {α : Type} (l : L) (k : L → R α) : slotK (some (some l)) k = k l := rfl
@[simp] theorem atSlot_eq {α β : Type} (i : Nat) (f : En → R β) (g : L → β → En → R α) (ρ : En) : atSlot i f g ρ = slotK ρ[i]? fun _ => (f ρ).bind fun y ρ1 => slotK ρ1[i]? fun l => g l y ρ1 := by
  unfold atSlot slotK
  cases ρ[i]? with
  | none => rfl
  | some o =>
    cases o with
    | none => rfl
    | some l =>
      show (f ρ).bind _ = (f ρ).bind _
      cases f ρ with
      | ok y ρ1 =>
        show (match ρ1[i]? with | some (some l) => g l y ρ1 | _ => R.no) = _
        show _ = (match ρ1[i]? with | some (some l) => g l y ρ1 | _ => R.no)
        rfl
      | _ => rfl
@[simp] theorem toD_im (d : D) : (L.im d).toD = d := rfl
@[simp] theorem toD_ow (d : List D) : (L.ow d).toD = .list d := rfl
@[simp] theorem toD_bo (d : List D) : (L.bo d).toD = .list d := rfl
@[simp] theorem dIxN_eq (i : Nat) (f : En → R D) (ρ : En) : dIxN i f ρ = atSlot i f (fun l y ρ => lift (gIx l.toD y) ρ) ρ := rfl
@[simp] theorem dSlN_eq (i : Nat) (l u : En → R (Option Int)) (ρ : En) : dSlN i l u ρ = atSlot i (dPair l u) (fun x p ρ => lift (gSl x.toD p.1 p.2) ρ) ρ := rfl
@[simp] theorem dLenN_eq (i : Nat) (ρ : En) : dLenN i ρ = atSlot i (fun ρ => .ok () ρ) (fun l _ ρ => lift (gLen1 l.toD) ρ) ρ := rfl
/-! calls -/
def resD (as : List AV) (ρ : En) (r : R L) : R D := match r with
  | .ok (.im d) ls' => .ok d (giveB as ls' ρ)
  | .ok (.ow ds) ls' => .ok (.list ds) (giveB as ls' ρ)
  | .ok (.bo _) _ => .no
  | .ex c ls' => .ex c (giveB as ls' ρ)
  | .no => .no
@[simp] theorem resD_im (as : List AV) (ρ ls : En) (d : D) : resD as ρ (.ok (.im d) ls) = .ok d (giveB as ls ρ) := rfl
@[simp] theorem resD_ow (as : List AV) (ρ ls : En) (d : List D) : resD as ρ (.ok (.ow d) ls) = .ok (.list d) (giveB as ls ρ) := rfl
@[simp] theorem resD_ex (as : List AV) (ρ ls : En) (c : Exn) : resD as ρ (.ex c ls) = .ex c (giveB as ls ρ) := rfl
def lentK {α : Type} (o : Option En) (k : En → R α) : R α := match o with
  | some ls => k ls
  | none => .no
@[simp] theorem lentK_some {α : Type} (ls : En) (k : En → R α) : lentK (some ls) k = k ls := rfl
@[simp] theorem dFn_eq (n : Nat) (den : En → R L) (ga : En → R (List AV)) (ρ : En) : dFn n den ga ρ = (ga ρ).bind fun as ρ1 => if as.length = n then lentK (lend as ρ1) fun ls => resD as ρ1 (den ls) else .no := by
  unfold dFn
  congr 1
  funext as ρ1
  split
  · unfold lentK resD
    cases lend as ρ1 with
    | none => rfl
    | some ls =>
      cases den ls with
      | ok l ls' => cases l <;> rfl
      | _ => rfl
  · rfl
/-- arguments that are data -/
theorem lend_im : ∀ (ds : List D) (ρ : En), lend (ds.map AV.im) ρ = some (ds.map fun d => some (L.im d)) := fun ds ρ => by
  have h1 : ∀ ds : List D, slotsOf (ds.map AV.im) = [] := fun ds => by
    induction ds with
    | nil => rfl
    | cons d r ih => exact ih
  have h2 : ∀ ds : List D, lendL ρ (ds.map AV.im) = some (ds.map fun d => some (L.im d)) := fun ds => by
    induction ds with
    | nil => rfl
    | cons d r ih =>
      show (lendL ρ (r.map AV.im)).map _ = _
      rw [ih]; rfl
  unfold lend
  rw [h1, if_pos List.nodup_nil, h2]
@[simp] theorem lend1 (a : D) (ρ : En) : lend [.im a] ρ = some [some (.im a)] := lend_im [a] ρ
@[simp] theorem lend2 (a b : D) (ρ : En) : lend [.im a, .im b] ρ = some [some (.im a), some (.im b)] := lend_im [a, b] ρ
@[simp] theorem lend3 (a b c : D) (ρ : En) : lend [.im a, .im b, .im c] ρ = some [some (.im a), some (.im b), some (.im c)] := lend_im [a, b, c] ρ
@[simp] theorem lend4 (a b c d : D) (ρ : En) : lend [.im a, .im b, .im c, .im d] ρ = some [some (.im a), some (.im b), some (.im c), some (.im d)] := lend_im [a, b, c, d] ρ
@[simp] theorem lend5 (a b c d e : D) (ρ : En) : lend [.im a, .im b, .im c, .im d, .im e] ρ = some [some (.im a), some (.im b), some (.im c), some (.im d), some (.im e)] := lend_im [a, b, c, d, e] ρ
@[simp] theorem give_nil (ls ρ : En) : giveB [] ls ρ = ρ := by cases ls <;> rfl
@[simp] theorem give_im (d : D) (as : List AV) (c : Option L) (ls ρ : En) : giveB (.im d :: as) (c :: ls) ρ = giveB as ls ρ := rfl
@[simp] theorem give_e (as : List AV) (ρ : En) : giveB as [] ρ = ρ := by
  cases as with
  | nil => rfl
  | cons a as => cases a <;> rfl
@[simp] theorem backE_im (d : D) (ls : En) (c : Option L) (ρ : En) : backE (some (.im d) :: ls) (c :: ρ) = some (.im d) :: backE ls ρ := rfl
@[simp] theorem backE_bo' (d : List D) (ls : En) (c : Option L) (ρ : En) : backE (some (.bo d) :: ls) (c :: ρ) = c :: backE ls ρ := rfl
@[simp] theorem backE_nil (ρ : En) : backE [] ρ = [] := by cases ρ <;> rfl
@[simp] theorem allIm_nil : allIm [] = some [] := rfl
@[simp] theorem allIm_cons (d : D) (as : List AV) : allIm (.im d :: as) = (allIm as).map (d :: ·) := rfl
@[simp] theorem free_none : free (some none) = true := rfl
@[simp] theorem free_im (d : D) : free (some (some (.im d))) = true := rfl
@[simp] theorem free_ow (d : List D) : free (some (some (.ow d))) = true := rfl
/-! operators -/
section
variable (i j : Int) (a b : Str)
@[simp] theorem gAdd_int : gAdd (.int i) (.int j) = some (.int (i + j)) := rfl
@[simp] theorem gSub_int : gSub (.int i) (.int j) = some (.int (i - j)) := rfl
@[simp] theorem gNeg_int : gNeg (.int i) = some (.int (-i)) := rfl
@[simp] theorem gLt_int : gLt (.int i) (.int j) = some (decide (i < j)) := rfl
@[simp] theorem gLe_int : gLe (.int i) (.int j) = some (decide (i ≤ j)) := rfl
@[simp] theorem gGt_int : gGt (.int i) (.int j) = some (decide (j < i)) := rfl
@[simp] theorem gGe_int : gGe (.int i) (.int j) = some (decide (j ≤ i)) := rfl
@[simp] theorem gAbs_int : gAbs [.int i] = some (.int (if i < 0 then -i else i)) := rfl
@[simp] theorem gInt_int : gInt [.int i] = some (.int i) := rfl
@[simp] theorem gInt_bool (k : Bool) : gInt [.bool k] = some (.int (if k then 1 else 0)) := rfl
@[simp] theorem gMax2_int : gMax2 [.int i, .int j] = some (.int (if j > i then j else i)) := rfl
@[simp] theorem gMin2_int : gMin2 [.int i, .int j] = some (.int (if j < i then j else i)) := rfl
@[simp] theorem truD_bool (k : Bool) : truD (.bool k) = some k := rfl
@[simp] theorem truD_none : truD .none = some false := rfl
@[simp] theorem truD_int : truD (.int i) = some (i != 0) := rfl
@[simp] theorem truD_list (l : List D) : truD (.list l) = some (!l.isEmpty) := rfl
@[simp] theorem truD_tuple (l : List D) : truD (.tuple l) = some (!l.isEmpty) := rfl
@[simp] theorem asB_bool (k : Bool) : asB (.bool k) = some k := rfl
@[simp] theorem asI_int : asI (.int i) = some i := rfl
theorem shp_int : shp (.int i) = true := rfl
theorem shp_bool (k : Bool) : shp (.bool k) = true := rfl
theorem shp_none : shp .none = true := rfl
@[simp] theorem gEq_int : gEq (.int i) (.int j) = some (decide (i = j)) := by
  show some (PyData.eqv (.int i) (.int j)) = _
  simp [PyData.eqv, Bool.beq_eq_decide_eq]
@[simp] theorem gNe_int : gNe (.int i) (.int j) = some (!decide (i = j)) := by
  show (gEq (.int i) (.int j)).map _ = _
  rw [gEq_int]; rfl
@[simp] theorem gIs_none (d : D) : gIs d .none = some (match d with | .none => true | _ => false) := by cases d <;> rfl
@[simp] theorem gIsNot_none (d : D) : gIsNot d .none = some (match d with | .none => false | _ => true) := by cases d <;> rfl
@[simp] theorem gEq_bool (k l : Bool) : gEq (.bool k) (.bool l) = some (k == l) := by
  show some (PyData.eqv (.bool k) (.bool l)) = _
  simp only [PyData.eqv]
@[simp] theorem gNe_bool (k l : Bool) : gNe (.bool k) (.bool l) = some (!(k == l)) := by
  show (gEq (.bool k) (.bool l)).map _ = _
  rw [gEq_bool]; rfl
theorem eqv_ii (a b : Int) : PyData.eqv (.int a) (.int b) = decide (a = b) := by simp only [PyData.eqv, Bool.beq_eq_decide_eq]
theorem eqv_ss (a b : Str) : PyData.eqv (.str a) (.str b) = decide (a = b) := by simp only [PyData.eqv, Bool.beq_eq_decide_eq]
theorem eqv_bb (a b : Bool) : PyData.eqv (.bool a) (.bool b) = decide (a = b) := by simp only [PyData.eqv, Bool.beq_eq_decide_eq]
theorem eqv_tt (a b : List D) : PyData.eqv (.tuple a) (.tuple b) = PyData.eqvAll a b := by simp only [PyData.eqv]
theorem eqv_ll (a b : List D) : PyData.eqv (.list a) (.list b) = PyData.eqvAll a b := by simp only [PyData.eqv]
theorem eqv_cc (x y : D) (a b : List D) : PyData.eqvAll (x :: a) (y :: b) = (PyData.eqv x y && PyData.eqvAll a b) := by simp only [PyData.eqvAll]
theorem eqv_nn : PyData.eqvAll [] [] = true := by simp only [PyData.eqvAll]
theorem eqv_nc (y : D) (b : List D) : PyData.eqvAll [] (y :: b) = false := by simp only [PyData.eqvAll]
theorem eqv_cn (y : D) (b : List D) : PyData.eqvAll (y :: b) [] = false := by simp only [PyData.eqvAll]
theorem gEq_of {a b : D} (ha : shp a = true) (hb : shp b = true) : gEq a b = some (PyData.eqv a b) := if_pos ⟨ha, hb⟩
theorem gNe_of {a b : D} (ha : shp a = true) (hb : shp b = true) : gNe a b = some (!PyData.eqv a b) := by
  show (gEq a b).map _ = _
  rw [gEq_of ha hb]; rfl
theorem gMul_of {i j : Int} {m n : Nat} (hi : i.natAbs < 2 ^ m) (hj : j.natAbs < 2 ^ n) (hm : 0 < m) (hn : 0 < n) (h : m + n ≤ 1000000) : gMul (.int i) (.int j) = some (.int (i * j)) := by
  have h1 : i.natAbs.log2 + j.natAbs.log2 < 1000000 := wide_mul hi hj hm hn h
  exact if_pos (show i.natAbs.log2 + j.natAbs.log2 < 100000000 by omega)
theorem gMul_big {i j : Int} {m n : Nat} (hi : i.natAbs < 2 ^ m) (hj : j.natAbs < 2 ^ n) (hm : 0 < m) (hn : 0 < n) (h : m + n ≤ 100000000) : gMul (.int i) (.int j) = some (.int (i * j)) := by
  have h1 := PySem.Flt.log2_lt_of hm hi
  have h2 := PySem.Flt.log2_lt_of hn hj
  exact if_pos (show i.natAbs.log2 + j.natAbs.log2 < 100000000 by omega)
theorem gFdiv_of {i j : Int} {n : Nat} (h : j ≠ 0) (hj : j.natAbs < 2 ^ n) (hn : 0 < n) (h9 : n ≤ 9000) : gFdiv (.int i) (.int j) = some (.int (i.fdiv j)) := by
  have h1 : j ≠ 0 ∧ j.natAbs.log2 < 9000 := ⟨h, Nat.lt_of_lt_of_le (PySem.Flt.log2_lt_of hn hj) h9⟩
  exact if_pos h1
theorem gFdiv_pos {i j : Int} {n : Nat} (h : 0 < j) (hj : j.natAbs < 2 ^ n) (hn : 0 < n) (h9 : n ≤ 9000) : gFdiv (.int i) (.int j) = some (.int (i / j)) := by
  rw [gFdiv_of (by omega) hj hn h9, Int.fdiv_eq_ediv_of_nonneg i (by omega)]
theorem gMod_pos {i j : Int} (h : 0 < j) : gMod (.int i) (.int j) = some (.int (i % j)) := by
  rw [← Int.fmod_eq_emod_of_nonneg i (by omega : 0 ≤ j)]
  have h1 : j ≠ 0 := by omega
  exact if_pos h1
theorem gMod_of {i j : Int} (h : j ≠ 0) : gMod (.int i) (.int j) = some (.int (i.fmod j)) := by
  exact if_pos h
theorem gPow_of {i j : Int} (h0 : 0 ≤ j) (h1 : j ≤ 1000000) (h2 : i.natAbs < 2 ^ 64) : gPow (.int i) (.int j) = some (.int (i ^ j.toNat)) := by
  have h3 : 0 ≤ j ∧ j ≤ 1000000 ∧ i.natAbs < 2 ^ 64 := ⟨h0, h1, h2⟩
  exact if_pos h3
end
/-! places -/
@[simp] theorem gIx_tup (l : List D) (i : Int) : gIx (.tuple l) (.int i) = L2.atI l i := rfl
@[simp] theorem gIx_lst (l : List D) (i : Int) : gIx (.list l) (.int i) = L2.atI l i := rfl
@[simp] theorem atI_0 (a : D) (l : List D) : L2.atI (a :: l) 0 = some a := by
  unfold L2.atI L2.ixN
  rw [if_pos (by decide), if_pos (by rw [List.length_cons]; omega)]; rfl
@[simp] theorem atI_1 (a b : D) (l : List D) : L2.atI (a :: b :: l) 1 = some b := by
  unfold L2.atI L2.ixN
  rw [if_pos (by decide), if_pos (by rw [List.length_cons, List.length_cons]; omega)]; rfl
@[simp] theorem atI_2 (a b c : D) (l : List D) : L2.atI (a :: b :: c :: l) 2 = some c := by
  unfold L2.atI L2.ixN
  rw [if_pos (by decide), if_pos (by rw [List.length_cons, List.length_cons, List.length_cons]; omega)]; rfl
theorem atI_of {l : List D} {i : Nat} {d : D} (h : l[i]? = some d) : L2.atI l (i : Int) = some d := atI_nat h
@[simp] theorem sizeLine_ge (n : Nat) (h : n ≤ 1000) : n ≤ sizeLine := Nat.le_of_lt (small1000 h)
theorem gSl_take (ds : List D) (k : Nat) : gSl (.list ds) none (some (k : Int)) = some (.list (ds.take k)) := by
  show some (PyData.list _) = _
  rw [HT.sIx_none, HT.sIx_nat, List.drop_zero, Nat.sub_zero]
  congr 2
  by_cases h : k ≤ ds.length
  · rw [Nat.min_eq_left h]
  · rw [Nat.min_eq_right (by omega), List.take_of_length_le (by omega), List.take_of_length_le (by omega)]
theorem gSl_drop (ds : List D) (k : Nat) : gSl (.list ds) (some (k : Int)) none = some (.list (ds.drop k)) := by
  show some (PyData.list _) = _
  rw [HT.sIx_none, HT.sIx_nat]
  congr 2
  by_cases h : k ≤ ds.length
  · rw [Nat.min_eq_left h, List.take_of_length_le (by rw [List.length_drop]; omega)]
  · rw [Nat.min_eq_right (by omega), Nat.sub_self, List.take_zero, List.drop_eq_nil_of_le (by omega)]
theorem rgOk_up {i j c : Int} (hc : 0 < c) (hc2 : c < 1000000) (h1 : -1000000000000 < i) (h2 : i < 1000000000000) (h3 : -1000000000000 < j) (h4 : j < 1000000000000) : rgOk i j c = true := by
  have hr : 0 ≤ Builtin.Range.rangeSize i j c ∧ Builtin.Range.rangeSize i j c ≤ 2000000000001 := by
    unfold Builtin.Range.rangeSize
    rw [if_pos hc]
    split
    · have h5 : (j - i - 1) / c ≤ j - i - 1 := Int.ediv_le_self _ (by omega)
      have h6 : 0 ≤ (j - i - 1) / c := Int.ediv_nonneg (by omega) (by omega)
      omega
    · omega
  unfold rgOk Builtin.Range.small
  simp only [Builtin.Range.rangeFitsLong, Bool.and_eq_true, Bool.or_eq_true, decide_eq_true_eq, beq_iff_eq]
  refine ⟨⟨by omega, by omega, hr.1⟩, ?_⟩
  generalize Builtin.Range.rangeSize i j c = n at hr
  simp [hc]
  omega
noncomputable def rg1 (ds : List D) (ρ1 : En) : R (List D) := match ds with
  | [.int j] => if inR j then .ok (rngD 0 j.toNat) ρ1 else .no
  | _ => .no
noncomputable def rg2 (ds : List D) (ρ1 : En) : R (List D) := match ds with
  | [.int i, .int j] => if inR i ∧ inR j then .ok (rngD i (j - i).toNat) ρ1 else .no
  | _ => .no
@[simp] theorem iRg1_eq (ga : En → R (List AV)) (ρ : En) : iRg1 ga ρ = (dAll ga ρ).bind fun ds ρ1 => rg1 ds ρ1 := rfl
@[simp] theorem iRg2_eq (ga : En → R (List AV)) (ρ : En) : iRg2 ga ρ = (dAll ga ρ).bind fun ds ρ1 => rg2 ds ρ1 := rfl
@[simp] theorem rg1_ok {j : Int} {ρ : En} (h : inR j) : rg1 [.int j] ρ = .ok (rngD 0 j.toNat) ρ := if_pos h
@[simp] theorem rg2_ok {i j : Int} {ρ : En} (h : inR i) (h2 : inR j) : rg2 [.int i, .int j] ρ = .ok (rngD i (j - i).toNat) ρ := if_pos ⟨h, h2⟩
theorem inR_of {j : Int} (h : -1000000 ≤ j) (h2 : j ≤ 1000000) : inR j := ⟨by omega, by omega⟩
@[simp] theorem iRg3_eq (ga : En → R (List AV)) (ρ : En) : iRg3 ga ρ = (dAll ga ρ).bind fun ds ρ1 => match ds with
  | [.int i, .int j, .int c] => if rgOk i j c = true then .ok (rngC i c (rgN i j c)) ρ1 else .no
  | _ => .no := rfl
@[simp] theorem dFor_eq (f : En → R (List D)) (g : D → En → R Unit) (b : En → R Fl) (ρ : En) : dFor f g b ρ = (f ρ).bind fun ds ρ1 => dForL g b ds ρ1 := rfl
@[simp] theorem iD_eq (f : En → R D) (ρ : En) : iD f ρ = (f ρ).bind fun d ρ1 => match d with
  | .list ds => .ok ds ρ1
  | .tuple ds => .ok ds ρ1
  | .str s => .ok (strD s) ρ1
  | _ => .no := rfl
theorem mem_rngC {lo c : Int} {n : Nat} {d : D} (h : d ∈ rngC lo c n) : ∃ i : Nat, i < n ∧ d = .int (lo + i * c) := by
  unfold rngC at h
  obtain ⟨i, hi, rfl⟩ := List.mem_map.mp h
  exact ⟨i, by simpa using hi, rfl⟩
theorem mem_rngD {lo : Int} {n : Nat} {d : D} (h : d ∈ rngD lo n) : ∃ i : Nat, i < n ∧ d = .int (lo + i) := by
  unfold rngD at h
  obtain ⟨i, hi, rfl⟩ := List.mem_map.mp h
  exact ⟨i, by simpa using hi, rfl⟩
/-! loops -/
theorem forL_all {g : D → En → R Unit} {b : En → R Fl} {P : En → Prop} : ∀ {ds : List D}, (∀ d ∈ ds, ∀ ρ, P ρ → ∃ ρ1 ρ2, g d ρ = .ok () ρ1 ∧ (b ρ1 = .ok .nx ρ2 ∨ b ρ1 = .ok .ct ρ2) ∧ P ρ2) → ∀ ρ, P ρ → ∃ ρ', dForL g b ds ρ = .ok .nx ρ' ∧ P ρ'
  | [], _, ρ, hp => ⟨ρ, rfl, hp⟩
  | d :: ds, h, ρ, hp => by
    obtain ⟨ρ1, ρ2, e1, e2, p2⟩ := h d (List.mem_cons_self ..) ρ hp
    obtain ⟨ρ', e3, p3⟩ := forL_all (ds := ds) (fun d hd => h d (List.mem_cons_of_mem _ hd)) ρ2 p2
    refine ⟨ρ', ?_, p3⟩
    show (g d ρ).bind _ = _
    rw [e1]
    show (b ρ1).bind _ = _
    rcases e2 with e2 | e2
    · rw [e2]; exact e3
    · rw [e2]; exact e3
end Dn
namespace Dn
open PySem PySem.Spec PyProof.Rows L2
/-! ### raise and try -/
def noX {α : Type} : R α → R α
  | .ex _ _ => .no
  | r => r
def dRaise (c : String) : En → R Fl := fun ρ => .ex ⟨c, none⟩ ρ
/-- cat: whether the clause takes an exception of that class -/
def dTry (b : En → R Fl) (cat : String → Option Bool) (s : En → R Fl) : En → R Fl := fun ρ => match b ρ with
  | .ex e ρ1 => match cat e.cls with
    | some true => noX (s ρ1)
    | some false => .ex e ρ1
    | none => .no
  | r => r
section
variable {X : Cx} {w : Wh} {x : Str} {p p2 pos np pos' : Pos} {C : Addr} {B newId initId : String} {bmB : List Value}
theorem vs_raise {nm : String} {m : Str} {j : Nat} (hc : X.calm = true) (tk : Takes X w.W) (hca : w.ca nm = some (.ref C)) (F : ExcBaseFacts B newId initId bmB) (q : PySem.W.excIn X.K C bmB newId = true) (gC : X.mg x = some (.ref C)) (kC : PySem.W.keepIn X.K (.ref C) = true) (r : Raises X (.ref C)) (hg : Gl X x)
    (hdb : (x == ("__debug__" : Str)) = false := by decide) : VS X w (.Raise (some (.Call (.Name x p) [.Constant (.str m) j p2] [] pos)) none pos') (dRaise nm) :=
  PS.imp (ps_raise hc tk (pmk_own F q gC kC r hg hdb)) fun Z σ H ⟨G, ρ, rel, h⟩ => by
    have h' : FnS X.K w G H σ ρ (.ex ⟨nm, none⟩ ρ) Z := h
    exact h' G H σ _ none rel Stp.refl ⟨hca, fun _ => .inl rfl, fun f d e => nomatch e⟩
theorem FnS.noX {K : PySem.W.Frag} {w0 : Wh} {G H : Hp} {σ : L2.St} {ρ : En} {r : R Fl} {Z : Ends} (h : FnS K w G H σ ρ (Dn.noX r) Z) : FnS K w0 G H σ ρ r Z := by
  cases r with
  | no => exact h
  | ex c ρ' => exact h.elim
  | ok f ρ' => cases f <;> exact h
abbrev w0 (w : Wh) : Wh := ⟨w.ca, fun _ _ _ _ => False⟩
theorem vs_try {c : Value} {b₀ : Stmt} {body suite : List Stmt} {fb fs : En → R Fl} {cat : String → Option Bool} (hs : X.stack = X.env :: X.outer) (hf : X.env.frame = some X.env.locals) (hc : Names X x c) (tk : Takes X w.W) (hcalm : X.calm = true) {k : Nat} (hr : Room k X.A)
    (hcat : ∀ e b cls, cat e = some b → w.ca e = some cls → PySem.W.exmOne X.K cls c = some b)
    (hb : ∀ (W : WX) (pn : List (Addr × Obj)) (xe : Value → Shared → Prop), Gd (X.tr pn xe) ⟨w.ca, W⟩ k → VSs (X.tr pn xe) ⟨w.ca, W⟩ body fb)
    (hsu : ∀ (a : Addr) (oe : Obj) (pn : List (Addr × Obj)), VSs (X.suite a ((a, oe) :: pn)) (w0 w) (b₀ :: suite) fs) :
    VS X w (.Try body [.ExceptHandler (some (.Name x np)) none (b₀ :: suite) pos'] [] [] pos) (dTry fb cat fs) :=
  PS.imp (ps_try_only (tb := fun W => tsS X.K ⟨w.ca, W⟩ fb) (ts := fun _ _ _ => tsS X.K (w0 w) fs) hs hf hc tk (fun W pn xe t po => hb W pn xe ⟨hcalm, t, po, hr⟩) (fun a oe cls d pn _ _ => hsu a oe pn)) fun Z σ H ⟨G, ρ, rel, h⟩ => by
    refine ⟨G, ρ, rel, ?_⟩
    unfold dTry at h
    cases q : fb ρ with
    | no => rw [q] at h; exact h
    | ok f ρ1 => rw [q] at h; cases f <;> exact h
    | ex e ρ1 =>
      rw [q] at h
      have h2 : FnS X.K w G H σ ρ (match cat e.cls with | some true => noX (fs ρ1) | some false => .ex e ρ1 | none => .no) Z := h
      intro G' H' σ' cls dx r' s' x'
      cases q2 : cat e.cls with
      | none => rw [q2] at h2; exact h2.elim
      | some b =>
        rw [q2] at h2
        refine ⟨b, hcat e.cls b cls q2 x'.hc, fun hb a ha => ?_, fun hb => ?_⟩
        · subst hb
          exact ⟨G', ρ1, r', FnS.noX (FnS.after rel r' s' h2)⟩
        · subst hb
          exact h2 G' H' σ' cls dx r' s' (x'.to rfl)
@[simp] theorem dRaise_eq (c : String) (ρ : En) : dRaise c ρ = .ex ⟨c, none⟩ ρ := rfl
def tryK (r : R Fl) (cat : String → Option Bool) (s : En → R Fl) : R Fl := match r with
  | .ex e ρ1 => match cat e.cls with
    | some true => noX (s ρ1)
    | some false => .ex e ρ1
    | none => .no
  | r => r
@[simp] theorem dTry_eq (b : En → R Fl) (cat : String → Option Bool) (s : En → R Fl) (ρ : En) : dTry b cat s ρ = tryK (b ρ) cat s := rfl
@[simp] theorem tryK_ok (f : Fl) (ρ : En) (cat : String → Option Bool) (s : En → R Fl) : tryK (.ok f ρ) cat s = .ok f ρ := rfl
theorem tryK_ex {e : Exn} {ρ : En} {cat : String → Option Bool} {s : En → R Fl} (h : cat e.cls = some true) : tryK (.ex e ρ) cat s = noX (s ρ) := by
  show (match cat e.cls with | some true => noX (s ρ) | some false => R.ex e ρ | none => .no) = _
  rw [h]
@[simp] theorem noX_ok {α : Type} (a : α) (ρ : En) : noX (.ok a ρ) = .ok a ρ := rfl
end
end Dn
namespace Dn
open PySem PySem.Spec PyProof.Rows L2
/-! ### list comprehensions -/
def wipeE (ρ : En) : List Nat → En
  | [] => ρ
  | v :: vs => (wipeE ρ vs).set v none
def restE (ρ ρ2 : En) : List Nat → En
  | [] => ρ2
  | v :: vs => (restE ρ ρ2 vs).set v (ρ[v]?.getD none)
def immE (ρ : En) (vs : List Nat) : Bool := vs.all fun i => match ρ[i]? with
  | some (some (.im _)) => true
  | some none => true
  | _ => false
theorem wipeE_length (ρ : En) : ∀ vs, (wipeE ρ vs).length = ρ.length
  | [] => rfl
  | v :: vs => by unfold wipeE; rw [List.length_set, wipeE_length ρ vs]
theorem wipeE_some {ρ : En} {i : Nat} {x : L} : ∀ {vs : List Nat}, (wipeE ρ vs)[i]? = some (some x) → ρ[i]? = some (some x) ∧ i ∉ vs
  | [], h => ⟨h, by simp⟩
  | v :: vs, h => by
    unfold wipeE at h
    by_cases hi : v = i
    · subst hi
      by_cases hv : v < (wipeE ρ vs).length
      · rw [List.getElem?_set_self hv] at h; cases h
      · rw [List.getElem?_eq_none (by simpa using hv)] at h; cases h
    · rw [List.getElem?_set_ne hi] at h
      obtain ⟨h1, h2⟩ := wipeE_some h
      exact ⟨h1, by simp only [List.mem_cons, not_or]; exact ⟨fun e => hi e.symm, h2⟩⟩
theorem wipeE_out {ρ : En} {i : Nat} : ∀ {vs : List Nat}, i ∉ vs → (wipeE ρ vs)[i]? = ρ[i]?
  | [], _ => rfl
  | v :: vs, h => by
    simp only [List.mem_cons, not_or] at h
    unfold wipeE
    rw [List.getElem?_set_ne (fun e => h.1 e.symm)]
    exact wipeE_out h.2
theorem restE_length (ρ ρ2 : En) : ∀ vs, (restE ρ ρ2 vs).length = ρ2.length
  | [] => rfl
  | v :: vs => by unfold restE; rw [List.length_set, restE_length ρ ρ2 vs]
theorem restE_out {ρ ρ2 : En} {i : Nat} : ∀ {vs : List Nat}, i ∉ vs → (restE ρ ρ2 vs)[i]? = ρ2[i]?
  | [], _ => rfl
  | v :: vs, h => by
    simp only [List.mem_cons, not_or] at h
    unfold restE
    rw [List.getElem?_set_ne (fun e => h.1 e.symm)]
    exact restE_out h.2
theorem restE_in {ρ ρ2 : En} {i : Nat} (hl : ρ2.length = ρ.length) : ∀ {vs : List Nat}, i ∈ vs → (restE ρ ρ2 vs)[i]? = ρ[i]?
  | [], h => by simp at h
  | v :: vs, h => by
    unfold restE
    by_cases hi : v = i
    · subst hi
      by_cases hv : v < (restE ρ ρ2 vs).length
      · rw [List.getElem?_set_self hv]
        rw [restE_length, hl] at hv
        rw [List.getElem?_eq_getElem hv]; rfl
      · rw [List.getElem?_eq_none (by simpa using hv)]
        rw [restE_length, hl] at hv
        rw [List.getElem?_eq_none (by omega)]
    · rw [List.getElem?_set_ne hi]
      rcases List.mem_cons.mp h with e | e
      · exact absurd e.symm hi
      · exact restE_in hl e
theorem wipe_outS {σ : L2.St} {i : Nat} : ∀ {vs : List Nat}, i ∉ vs → (L2.wipe σ vs)[i]? = σ[i]?
  | [], _ => rfl
  | v :: vs, h => by
    simp only [List.mem_cons, not_or] at h
    unfold L2.wipe
    rw [List.getElem?_set_ne (fun e => h.1 e.symm)]
    exact wipe_outS h.2
theorem wipe_in {σ : L2.St} {i : Nat} : ∀ {vs : List Nat}, i ∈ vs → i < σ.length → (L2.wipe σ vs)[i]? = some none
  | [], h, _ => by simp at h
  | v :: vs, h, hl => by
    unfold L2.wipe
    by_cases hi : v = i
    · subst hi
      rw [List.getElem?_set_self (by rw [L2.wipe_length]; exact hl)]
    · rw [List.getElem?_set_ne hi]
      rcases List.mem_cons.mp h with e | e
      · exact absurd e.symm hi
      · exact wipe_in e hl
theorem wipe_ext {σ σ' : L2.St} {vs : List Nat} (hl : σ.length = σ'.length) (h : ∀ i, i ∉ vs → σ[i]? = σ'[i]?) : L2.wipe σ vs = L2.wipe σ' vs := by
  apply List.ext_getElem?
  intro i
  by_cases hi : i ∈ vs
  · by_cases hb : i < σ.length
    · rw [wipe_in hi hb, wipe_in hi (by omega)]
    · rw [List.getElem?_eq_none (by rw [L2.wipe_length]; omega), List.getElem?_eq_none (by rw [L2.wipe_length]; omega)]
  · rw [wipe_outS hi, wipe_outS hi, h i hi]
theorem wipe_wipe (σ : L2.St) (vs : List Nat) : L2.wipe (L2.wipe σ vs) vs = L2.wipe σ vs := wipe_ext (L2.wipe_length _ _) fun i hi => wipe_outS hi
theorem wipe_back {σ σ2 : L2.St} {vs : List Nat} {i : Nat} (h : L2.wipe σ2 vs = L2.wipe σ vs) (hi : i ∉ vs) : σ2[i]? = σ[i]? := by
  rw [← wipe_outS (σ := σ2) hi, h, wipe_outS hi]
section
variable {K : PySem.W.Frag} {G H G1 H1 G' H' : Hp} {σ σ2 : L2.St} {ρ ρ1 ρ2 : En} {vs : List Nat}
theorem immE_at (h : immE ρ vs = true) {i : Nat} (hi : i ∈ vs) : ρ[i]? = some none ∨ ∃ d, ρ[i]? = some (some (L.im d)) := by
  unfold immE at h
  have := List.all_eq_true.mp h i hi
  split at this
  · exact .inr ⟨_, by assumption⟩
  · exact .inl (by assumption)
  · cases this
theorem Rel.wipe (r : Rel K G H σ ρ) : Rel K G H (L2.wipe σ vs) (wipeE ρ vs) ∧ ∀ a, Own (L2.wipe σ vs) (wipeE ρ vs) a → Own σ ρ a := by
  refine ⟨⟨r.sub, by rw [L2.wipe_length, wipeE_length]; exact r.len, fun i l e => ?_, fun i j l m a ei ej li mj si sj => ?_⟩, fun a ⟨i, l, e, m, s⟩ => ?_⟩
  · obtain ⟨e', hi⟩ := wipeE_some e
    obtain ⟨v, s, c⟩ := r.cell i l e'
    exact ⟨v, by rw [wipe_outS hi]; exact s, c⟩
  · exact r.apart i j l m a (wipeE_some ei).1 (wipeE_some ej).1 li mj (L2.wipe_some si).1 (L2.wipe_some sj).1
  · exact ⟨i, l, (wipeE_some e).1, m, (L2.wipe_some s).1⟩
/-- at a turn's end -/
theorem Rel.unwipe (r : Rel K G H σ ρ) (im : immE ρ vs = true) (hw : L2.wipe σ2 vs = L2.wipe σ vs) (r2 : Rel K G' H' σ2 ρ2) (s : Stp G H (L2.wipe σ vs) (wipeE ρ vs) G' H' σ2 ρ2) :
    Rel K G' H' σ (restE ρ ρ2 vs) ∧ Stp G H σ ρ G' H' σ (restE ρ ρ2 vs) ∧ immE (restE ρ ρ2 vs) vs = true := by
  have hl : ρ2.length = ρ.length := by rw [s.ln, wipeE_length]
  obtain ⟨rw_, ow_⟩ := r.wipe (vs := vs)
  have own' : ∀ (i : Nat) (l : L), (restE ρ ρ2 vs)[i]? = some (some l) → l.mu = true → i ∉ vs ∧ ρ2[i]? = some (some l) := fun i l e m => by
    by_cases hi : i ∈ vs
    · rw [restE_in hl hi] at e
      rcases immE_at im hi with z | ⟨d, z⟩
      · rw [z] at e; cases e
      · rw [z] at e; cases e; cases m
    · rw [restE_out hi] at e; exact ⟨hi, e⟩
  refine ⟨⟨r2.sub, by rw [restE_length, hl]; exact r.len, fun i l e => ?_, fun i j l m a ei ej li mj si sj => ?_⟩, ⟨s.g, fun a o e n => s.h a o e fun z => n (ow_ a z), fun a e => ?_, fun a ⟨i, l, e, m, q⟩ => ?_, s.tr, by rw [restE_length]; exact hl, fun i ds e => ?_⟩, ?_⟩
  · by_cases hi : i ∈ vs
    · rw [restE_in hl hi] at e
      rcases immE_at im hi with z | ⟨d, z⟩
      · rw [z] at e; cases e
      · rw [z] at e; cases e
        obtain ⟨v, q, c⟩ := r.cell i _ z
        exact ⟨v, q, DR.mono s.g c⟩
    · rw [restE_out hi] at e
      obtain ⟨v, q, c⟩ := r2.cell i l e
      exact ⟨v, by rw [← wipe_back hw hi]; exact q, c⟩
  · obtain ⟨hi, ei'⟩ := own' i l ei li
    obtain ⟨hj, ej'⟩ := own' j m ej mj
    exact r2.apart i j l m a ei' ej' li mj (by rw [wipe_back hw hi]; exact si) (by rw [wipe_back hw hj]; exact sj)
  · rcases s.fr a e with z | z | z
    · exact .inl z
    · exact .inr (.inl z)
    · exact .inr (.inr (ow_ a z))
  · obtain ⟨hi, e'⟩ := own' i l e m
    rcases s.ow a ⟨i, l, e', m, by rw [wipe_back hw hi]; exact q⟩ with z | z
    · exact .inl (ow_ a z)
    · exact .inr z
  · have hi : i ∉ vs := fun hi => by
      rcases immE_at im hi with z | ⟨d, z⟩
      · rw [z] at e; cases e
      · rw [z] at e; cases e
    obtain ⟨_, ds', e2⟩ := s.bo i ds (by rw [wipeE_out hi]; exact e)
    exact ⟨rfl, ds', by rw [restE_out hi]; exact e2⟩
  · unfold immE
    rw [List.all_eq_true]
    intro i hi
    rw [restE_in hl hi]
    exact List.all_eq_true.mp im i hi
/-- a list that is nobody's yet -/
structure NewAt (K : PySem.W.Frag) (G H : Hp) (σ : L2.St) (ρ : En) (p : Addr) (ds : List D) : Prop where
  g : G p = none
  own : ¬ Own σ ρ p
  here : ∃ us, H p = some (.lst us) ∧ DRs K G us ds
theorem NewAt.step {p : Addr} {ds : List D} (n : NewAt K G H σ ρ p ds) (s : Stp G H σ ρ G' H' σ2 ρ2) : NewAt K G' H' σ2 ρ2 p ds := by
  obtain ⟨us, h1, h2⟩ := n.here
  refine ⟨?_, fun z => ?_, us, s.h p _ h1 n.own, h2.mono s.g⟩
  · cases q : G' p with
    | none => rfl
    | some o =>
      rcases s.fr p (by rw [q]; exact fun z => nomatch z) with z | z | z
      · exact absurd n.g z
      · rw [h1] at z; cases z
      · exact absurd z n.own
  · rcases s.ow p z with z | z
    · exact n.own z
    · rw [h1] at z; cases z
theorem Rel.updN (r : Rel K G H σ ρ) {p : Addr} {o : HO} (hg : G p = none) (ho : ¬ Own σ ρ p) : Rel K G (upd H p o) σ ρ := by
  refine ⟨fun b x e => ?_, r.len, fun i l e => ?_, r.apart⟩
  · by_cases hb : b = p
    · subst hb; rw [hg] at e; cases e
    · rw [upd_ne hb]; exact r.sub b x e
  · obtain ⟨v, s, c⟩ := r.cell i l e
    refine ⟨v, s, ?_⟩
    cases l with
    | im d => exact c
    | ow ds =>
      obtain ⟨q, us, e', g, hq, hd⟩ := c
      subst e'
      have hne : q ≠ p := fun z => by subst z; exact ho ⟨i, _, e, rfl, s⟩
      exact ⟨q, us, rfl, g, by rw [upd_ne hne]; exact hq, hd⟩
    | bo ds =>
      obtain ⟨q, us, e', g, hq, hd⟩ := c
      subst e'
      have hne : q ≠ p := fun z => by subst z; exact ho ⟨i, _, e, rfl, s⟩
      exact ⟨q, us, rfl, g, by rw [upd_ne hne]; exact hq, hd⟩
theorem Stp.updN (s : Stp G1 H1 σ ρ1 G H σ ρ) {p : Addr} {o : HO} (hp : H1 p = none) : Stp G1 H1 σ ρ1 G (upd H p o) σ ρ :=
  ⟨s.g, fun a x e n => by rw [upd_ne fun z => by subst z; rw [hp] at e; cases e]; exact s.h a x e n, s.fr, s.ow, fun a h => tracked_upd a (s.tr a h), s.ln, s.bo⟩
end
/-! targets that stay within the block's own names -/
def FnGC (vs : List Nat) (K : PySem.W.Frag) (G H : Hp) (σ : L2.St) (ρ : En) (r : R Unit) (Q : L2.St → Hp → Prop) : Prop :=
  match r with
  | .ok _ ρ' => ∀ G' H' σ', Rel K G' H' σ' ρ' → Stp G H σ ρ G' H' σ' ρ' → L2.wipe σ' vs = L2.wipe σ vs → Q σ' H'
  | _ => False
abbrev VGc (X : Cx) (vs : List Nat) (tg : Expr) (g : D → En → R Unit) : Prop := PG X tg (fun v σ H Q => ∃ G ρ d, Rel X.K G H σ ρ ∧ DR X.K G v d ∧ FnGC vs X.K G H σ ρ (g d ρ) Q)
abbrev VGcs (X : Cx) (vs : List Nat) (tgs : List Expr) (g : List D → En → R Unit) : Prop := PGs X tgs (fun us σ H Q => ∃ G ρ ds, Rel X.K G H σ ρ ∧ DRs X.K G us ds ∧ FnGC vs X.K G H σ ρ (g ds ρ) Q)
section
variable {X : Cx} {w : Wh} {x : Str} {pos : Pos} {e : Expr} {es : List Expr} {g : D → En → R Unit} {h : List D → En → R Unit} {vs : List Nat}
theorem wipe_set {σ : L2.St} {i : Nat} {v : Option V} (hi : i ∈ vs) : L2.wipe (σ.set i v) vs = L2.wipe σ vs := wipe_ext (by simp) fun j hj => List.getElem?_set_ne (fun z => by subst z; exact hj hi)
theorem vgc_name (i : Nat) (hv : i ∈ vs) (hN : X.N.Nodup) (hi : X.N[i]? = some x := by rfl) (hx : Loc X.env.scope x := by first | exact Or.inl rfl | exact Or.inr rfl) (hf : X.fn x = true ∨ X.env.scope.names.lookup x = some .local := by first | exact .inl rfl | exact .inr rfl | assumption) : VGc X vs (.Name x pos) (putIm i) :=
  PG.imp (pg_name hN hi hx hf) fun v σ H Q ⟨G, ρ, d, rel, hvd, q⟩ => by
    unfold putIm at q
    split at q
    · rename_i hf
      obtain ⟨c, hc, hb⟩ := free_ok hf
      obtain ⟨r1, s1⟩ := rel.put hc hb hvd
      exact q _ _ _ r1 s1 (wipe_set hv)
    · exact q.elim
theorem vgcs_nil : VGcs X vs [] gsNil := PGs.imp pgs_nil fun us σ H Q ⟨G, ρ, ds, rel, hv, q⟩ => by
  cases hv with
  | nil => exact ⟨rfl, q _ _ _ rel Stp.refl rfl⟩
  | cons _ _ => exact q.elim
theorem vgcs_cons (h1 : VGc X vs e g) (h2 : VGcs X vs es h) (hs : (assignEach (e :: es) X.env).map (·.2) = assign e X.env :: (assignEach es X.env).map (·.2) := by rfl) : VGcs X vs (e :: es) (gsCons g h) :=
  PGs.imp (pgs_cons h1 h2 hs) fun us σ H Q ⟨G, ρ, ds, rel, hv, q⟩ => by
    cases hv with
    | nil => exact q.elim
    | @cons v us d ds hv1 hvs =>
      have q' : FnGC vs X.K G H σ ρ ((g d ρ).bind fun _ ρ1 => h ds ρ1) Q := q
      refine ⟨v, us, rfl, G, ρ, d, rel, hv1, ?_⟩
      cases e1 : g d ρ with
      | no => rw [e1] at q'; exact q'
      | ex c ρ' => rw [e1] at q'; exact q'
      | ok u ρ' =>
        rw [e1] at q'
        intro G1 H1 σ1 r1 s1 w1
        refine ⟨G1, ρ', ds, r1, hvs.mono s1.g, ?_⟩
        have q2 : FnGC vs X.K G H σ ρ (h ds ρ') Q := q'
        cases e2 : h ds ρ' with
        | no => rw [e2] at q2; exact q2
        | ex c ρ'' => rw [e2] at q2; exact q2
        | ok u' ρ'' => rw [e2] at q2; exact fun G2 H2 σ2 r2 s2 w2 => q2 G2 H2 σ2 r2 (s1.trans rel s2) (w2.trans w1)
theorem vgc_tup {k : Nat} {n : Nat} (hc : X.calm = true) (hs : VGcs X vs es h) (hn : (assignEach es X.env).length = n := by rfl) (hst : (assignEach es X.env).findIdx? (·.1) = none := by rfl) : VGc X vs (.Tuple es k pos) (gTupD n h) :=
  PG.imp (pgOr (pg_tup hc hs hn hst) (pg_unl hc hs hn hst)) fun v σ H Q ⟨G, ρ, d, rel, hv, q⟩ => by
    cases hv with
    | @lst a xs ds hq hds =>
      have q' : FnGC vs X.K G H σ ρ (if ds.length = n then h ds ρ else .no) Q := q
      split at q'
      · rename_i hl
        exact .inr ⟨a, xs, rfl, rel.sub.seq hq, by rw [hds.length]; exact hl, G, ρ, ds, rel, hds, q'⟩
      · exact q'.elim
    | @tup a xs ds hq hds =>
      have q' : FnGC vs X.K G H σ ρ (if ds.length = n then h ds ρ else .no) Q := q
      split at q'
      · rename_i hl
        exact .inl ⟨a, xs, rfl, Same.tup rel.sub hq, by rw [hds.length]; exact hl, G, ρ, ds, rel, hds, q'⟩
      · exact q'.elim
    | _ => exact q.elim
/-- one turn -/
def lcT (g : D → En → R Unit) (ft : En → R Bool) (fe : En → R D) : D → En → R (Option D) := fun d ρ =>
  (g d ρ).bind fun _ ρ1 => (ft ρ1).bind fun b ρ2 => if b = true then (fe ρ2).bind fun y ρ3 => .ok (some y) ρ3 else .ok none ρ2
def lcL (t : D → En → R (Option D)) (vs : List Nat) : List D → List D → En → R (List D)
  | [], acc, ρ => .ok acc ρ
  | d :: ds, acc, ρ => match t d (wipeE ρ vs) with
    | .ok (some y) ρ3 => if acc.length < sizeLine then lcL t vs ds (acc ++ [y]) (restE ρ ρ3 vs) else .no
    | .ok none ρ3 => lcL t vs ds acc (restE ρ ρ3 vs)
    | _ => .no
def nLc (fi : En → R (List D)) (t : D → En → R (Option D)) (vs : List Nat) : En → R (List D) := fun ρ => (fi ρ).bind fun ds ρ1 => if immE ρ1 vs = true then lcL t vs ds [] ρ1 else .no
def tT : En → R Bool := fun ρ => .ok true ρ
theorem PTs.imp {X : Cx} {e : List Expr} {t t' : TT} (h : PTs X e t) (i : ∀ σ H Q, t' σ H Q → t σ H Q) : PTs X e t' := ⟨fun pins s σ H Q I q => h.run pins s σ H Q I (i _ _ _ q)⟩
theorem vts_nil : PTs X [] (teB X.K w tT) := PTs.imp pts_nil fun σ H Q ⟨G, ρ, rel, h⟩ => h G H rel Stp.refl
theorem vts_one {c : Expr} {f : En → R Bool} (h : VT X w c f) : PTs X [c] (teB X.K w f) := pts_one h
/-- the rule's main step -/
theorem lc_go {fi : En → R (List D)} {g : D → En → R Unit} {ft : En → R Bool} {fe : En → R D} {Kf : PySem.W.Frag} {σ : L2.St} {H0 G1 H1 : Hp} {ρ1 : En} {ds : List D} {J : It} {Q : VK} (hJ : ItS Kf G1 J ds) (r1 : Rel Kf G1 H1 σ ρ1) (hH : ∀ p, H1 p = none → H0 p = none)
    (h1 : Fn Kf w G1 H1 σ ρ1 (if immE ρ1 vs = true then lcL (lcT g ft fe) vs ds [] ρ1 else .no) (QN Kf H0 σ Q)) (D0 : Addr) (hD : H1 D0 = none) :
    ∃ W : Nat → Nat → Hp → Prop, (∃ m, W 0 m (upd H1 D0 (.lst []))) ∧ ∀ i m H, W i m H →
      (J.stop i H ∧ Q (.ref D0) H) ∨ (J.go i H ∧ ∃ Nx : Hp → Prop, (∀ H', Nx H' → ∃ m', m' < m ∧ W (i + 1) m' H') ∧ ∀ x H', J.yld i H x H' →
        (fun v σ H Q => ∃ G ρ d, Rel Kf G H σ ρ ∧ DR Kf G v d ∧ FnGC vs Kf G H σ ρ (g d ρ) Q) x (L2.wipe σ vs) H' fun σ2 H2 => L2.wipe σ2 vs = L2.wipe σ vs ∧ teB Kf (w0 w) ft σ2 H2 fun b H3 =>
        if b = true then teD Kf (w0 w) fe σ2 H3 fun y H4 => ∃ acc, H4 D0 = some (.lst acc) ∧ acc.length < sizeLine ∧ Nx (upd H4 D0 (.lst (acc ++ [y]))) else Nx H3) := by
  have im : immE ρ1 vs = true := by
    cases q : immE ρ1 vs with
    | true => rfl
    | false => rw [q, if_neg (by decide)] at h1; exact h1.elim
  rw [if_pos im] at h1
  have gD : G1 D0 = none := Same.free r1.sub hD
  have oD : ¬ Own σ ρ1 D0 := fun z => by obtain ⟨_, us, e⟩ := r1.own z; rw [hD] at e; cases e
  refine ⟨fun i m H => m = ds.length - i ∧ i ≤ ds.length ∧ ∃ G ρ acc, Rel Kf G H σ ρ ∧ Stp G1 H1 σ ρ1 G H σ ρ ∧ immE ρ vs = true ∧ NewAt Kf G H σ ρ D0 acc ∧ Fn Kf w G1 H1 σ ρ1 (lcL (lcT g ft fe) vs (ds.drop i) acc ρ) (QN Kf H0 σ Q),
    ⟨ds.length, rfl, Nat.zero_le _, G1, ρ1, [], r1.updN gD oD, Stp.refl.updN hD, im, ⟨gD, oD, [], upd_same, .nil⟩, by rw [List.drop_zero]; exact h1⟩, ?_⟩
  rintro i m H ⟨rfl, hi, G, ρ, acc, r, s, im, na, h⟩
  have sH : Same G1 H := s.g.trans r.sub
  by_cases hlt : i < ds.length
  · obtain ⟨d, hd⟩ : ∃ d, ds[i]? = some d := ⟨ds[i], List.getElem?_eq_getElem hlt⟩
    have hdrop : ds.drop i = d :: ds.drop (i + 1) := by
      rw [List.drop_eq_getElem_cons hlt]
      rw [List.getElem?_eq_getElem hlt] at hd; cases hd; rfl
    rw [hdrop] at h
    refine .inr ⟨hJ.go i H hlt sH, fun H' => ∃ G ρ acc, Rel Kf G H' σ ρ ∧ Stp G1 H1 σ ρ1 G H' σ ρ ∧ immE ρ vs = true ∧ NewAt Kf G H' σ ρ D0 acc ∧ Fn Kf w G1 H1 σ ρ1 (lcL (lcT g ft fe) vs (ds.drop (i + 1)) acc ρ) (QN Kf H0 σ Q), fun H' q => ⟨_, by omega, rfl, hlt, q⟩, fun x H' hy => ?_⟩
    obtain ⟨G', r', s', hx'⟩ := hJ.yld i H x H' d hd hy G σ ρ s.g r
    have na' := na.step s'
    obtain ⟨rw_, ow_⟩ := r'.wipe (vs := vs)
    have naw : NewAt Kf G' H' (L2.wipe σ vs) (wipeE ρ vs) D0 acc := ⟨na'.g, fun z => na'.own (ow_ _ z), na'.here⟩
    have h' : Fn Kf w G1 H1 σ ρ1 (match lcT g ft fe d (wipeE ρ vs) with
      | .ok (some y) ρ3 => if acc.length < sizeLine then lcL (lcT g ft fe) vs (ds.drop (i + 1)) (acc ++ [y]) (restE ρ ρ3 vs) else .no
      | .ok none ρ3 => lcL (lcT g ft fe) vs (ds.drop (i + 1)) acc (restE ρ ρ3 vs)
      | _ => .no) (QN Kf H0 σ Q) := h
    refine ⟨G', wipeE ρ vs, d, rw_, hx', ?_⟩
    unfold lcT at h'
    cases q1 : g d (wipeE ρ vs) with
    | no => rw [q1] at h'; exact h'.elim
    | ex c ρ' => rw [q1] at h'; exact h'.elim
    | ok u ρa =>
      rw [q1] at h'
      intro G2 H2 σ2 r2 s2 w2
      have w2' : L2.wipe σ2 vs = L2.wipe σ vs := w2.trans (wipe_wipe _ _)
      refine ⟨w2', G2, ρa, r2, ?_⟩
      have h2 : Fn Kf w G1 H1 σ ρ1 (match (ft ρa).bind fun b ρ2 => if b = true then (fe ρ2).bind fun y ρ3 => R.ok (some y) ρ3 else R.ok none ρ2 with
        | .ok (some y) ρ3 => if acc.length < sizeLine then lcL (lcT g ft fe) vs (ds.drop (i + 1)) (acc ++ [y]) (restE ρ ρ3 vs) else .no
        | .ok none ρ3 => lcL (lcT g ft fe) vs (ds.drop (i + 1)) acc (restE ρ ρ3 vs)
        | _ => .no) (QN Kf H0 σ Q) := h'
      cases q2 : ft ρa with
      | no => rw [q2] at h2; exact h2.elim
      | ex c ρ' => rw [q2] at h2; exact h2.elim
      | ok b ρb =>
        rw [q2] at h2
        intro G3 H3 r3 s3
        cases b with
        | false =>
          have S := s2.trans rw_ s3
          obtain ⟨rb, sb, ib⟩ := Rel.unwipe r' im w2' r3 S
          exact iteF ⟨G3, restE ρ ρb vs, acc, rb, (s.trans r1 s').trans r1 sb, ib, na'.step sb, h2⟩
        | true =>
          refine iteT ⟨G3, ρb, r3, ?_⟩
          have h3 : Fn Kf w G1 H1 σ ρ1 (match (fe ρb).bind fun y ρ3 => R.ok (some y) ρ3 with
            | .ok (some y) ρ3 => if acc.length < sizeLine then lcL (lcT g ft fe) vs (ds.drop (i + 1)) (acc ++ [y]) (restE ρ ρ3 vs) else .no
            | .ok none ρ3 => lcL (lcT g ft fe) vs (ds.drop (i + 1)) acc (restE ρ ρ3 vs)
            | _ => .no) (QN Kf H0 σ Q) := h2
          cases q3 : fe ρb with
          | no => rw [q3] at h3; exact h3.elim
          | ex c ρ' => rw [q3] at h3; exact h3.elim
          | ok y ρc =>
            rw [q3] at h3
            intro G4 H4 r4 s4 v hv
            have h4 : Fn Kf w G1 H1 σ ρ1 (if acc.length < sizeLine then lcL (lcT g ft fe) vs (ds.drop (i + 1)) (acc ++ [y]) (restE ρ ρc vs) else .no) (QN Kf H0 σ Q) := h3
            by_cases hz : acc.length < sizeLine
            · rw [if_pos hz] at h4
              have S := s2.trans rw_ (s3.trans r2 s4)
              obtain ⟨rb, sb, ib⟩ := Rel.unwipe r' im w2' r4 S
              have nb := na'.step sb
              obtain ⟨us, hu, hds⟩ := nb.here
              have sN : Stp G1 H1 σ ρ1 G4 H4 σ (restE ρ ρc vs) := (s.trans r1 s').trans r1 sb
              exact ⟨us, hu, by rw [hds.length]; exact hz, G4, restE ρ ρc vs, acc ++ [y], rb.updN nb.g nb.own, sN.updN hD, ib, ⟨nb.g, nb.own, us ++ [v], upd_same, hds.append (.cons hv .nil)⟩, h4⟩
            · rw [if_neg hz] at h4; exact h4.elim
  · have e : i = ds.length := by omega
    subst e
    refine .inl ⟨hJ.stop H sH, ?_⟩
    rw [List.drop_length] at h
    exact h G H r s D0 ⟨na.g, na.own, na.here, hH D0 hD⟩
theorem lc_imp {fi : En → R (List D)} {g : D → En → R Unit} {ft : En → R Bool} {fe : En → R D} {K : PySem.W.Frag} {σ : L2.St} {H : Hp} {Q : VK} (h : teN K w (nLc fi (lcT g ft fe) vs) σ H Q) :
    tLc (fun σ H R => ∃ G ρ, Rel K G H σ ρ ∧ Fn K w G H σ ρ (fi ρ) (fun G1 H1 _ ds => ∀ J, ItS K G1 J ds → R J H1)) (fun v σ H Q => ∃ G ρ d, Rel K G H σ ρ ∧ DR K G v d ∧ FnGC vs K G H σ ρ (g d ρ) Q) (teB K (w0 w) ft) (teD K (w0 w) fe) vs σ H Q := by
  obtain ⟨G, ρ, rel, h⟩ := h
  exact ⟨G, ρ, rel, (Fn.bind rel h).imp fun G1 H1 ρ1 ds ⟨r1, s1, h1⟩ J hJ D0 hD =>
    lc_go (fi := fi) hJ r1 (fun p hp => by cases q : H p with | none => rfl | some o => exact absurd hp (s1.tr p (by rw [q]; exact fun z => nomatch z))) h1 D0 hD⟩
theorem vn_lc {tg iter elt : Expr} {ifs : List Expr} {scope : Scope} {own : List (Str × Nat)} {fi : En → R (List D)} {g : D → En → R Unit} {ft : En → R Bool} {fe : En → R D} (hc : X.calm = true) (hN : X.N.Nodup) (hi : VI X w tg iter fi) (ok : blkC X.N X.env.scope scope own = true)
    (hg : ∀ (s : Shared) (H : Hp) (C : Addr) (cl : List (Str × Addr)) (fp : List Addr), VGc (X.blk s H scope (compEnvC scope cl C X.env) fp) (own.map (·.2)) tg g) (ht : ∀ (s : Shared) (H : Hp) (C : Addr) (cl : List (Str × Addr)) (fp : List Addr), PTs (X.blk s H scope (compEnvC scope cl C X.env) fp) ifs (teB X.K (w0 w) ft))
    (he : ∀ (s : Shared) (H : Hp) (C : Addr) (cl : List (Str × Addr)) (fp : List Addr), VE (X.blk s H scope (compEnvC scope cl C X.env) fp) (w0 w) elt fe) (hs : ∀ x, foldedSetIterable iter X.env x = pure x := by intro _; rfl) :
    VN X w (.ListComp elt [⟨tg, iter, ifs, 0⟩] scope pos) (nLc fi (lcT g ft fe) (own.map (·.2))) :=
  PE.imp (pe_lc hc hN hi (blkOk_by ok) hg ht he hs) fun σ H Q h => lc_imp h
theorem setL_fn {K : PySem.W.Frag} {G H : Hp} {σ : L2.St} {ρ : En} {fl : En → R (List D)} {i : Nat} {Z : Ends} (rel : Rel K G H σ ρ) (h : FnS K w G H σ ρ (dAsgL i fl ρ) Z) : Fn K w G H σ ρ (fl ρ) (QN K H σ fun x H1 => gName i x σ H1 Z.nx) := by
  unfold dAsgL at h
  cases q : fl ρ with
  | no => rw [q] at h; exact h
  | ex c ρ' => rw [q] at h; exact fun G' H' cls dx r1 s1 x => h G' H' σ cls dx r1 s1 x
  | ok ds ρ' =>
    rw [q] at h
    intro G1 H1 r1 s1 p n
    have h' : FnS K w G H σ ρ ((putOw i ds ρ').bind fun _ ρ2 => .ok .nx ρ2) Z := h
    unfold putOw at h'
    split at h'
    · rename_i hf
      obtain ⟨c, hc, hb⟩ := free_ok hf
      exact FnS.nx (show FnS K w G H σ ρ (.ok .nx (ρ'.set i (some (.ow ds)))) Z from h') (r1.putL hc hb n.g n.own n.here) (s1.putL hc hb n.new)
    · exact h'.elim
def dFz (f : En → R (List D)) : En → R D := fun ρ => (f ρ).bind fun ds ρ1 => .ok (.list ds) ρ1
theorem Rel.fixN {K : PySem.W.Frag} {G0 H0 G H : Hp} {σ : L2.St} {ρ0 ρ : En} {p : Addr} {us : List V} {ds : List D} (r : Rel K G H σ ρ) (s : Stp G0 H0 σ ρ0 G H σ ρ) (hg : G p = none) (ho : ¬ Own σ ρ p) (hu : H p = some (.lst us)) (hd : DRs K G us ds) (hp : H0 p = none) :
    Rel K (upd G p (.lst us)) H σ ρ ∧ Stp G0 H0 σ ρ0 (upd G p (.lst us)) H σ ρ ∧ DR K (upd G p (.lst us)) (.ref p) (.list ds) := by
  have sg : Same G (upd G p (.lst us)) := fun b x e => by rw [upd_ne (ne_of_none e hg)]; exact e
  refine ⟨⟨fun b x e => ?_, r.len, fun i l e => ?_, r.apart⟩, ⟨s.g.trans sg, s.h, fun a e => ?_, s.ow, s.tr, s.ln, s.bo⟩, .lst (.inl (.inl upd_same)) (hd.mono sg)⟩
  · by_cases hb : b = p
    · subst hb; rw [upd_same] at e; cases e; exact hu
    · rw [upd_ne hb] at e; exact r.sub b x e
  · obtain ⟨v, q, c⟩ := r.cell i l e
    refine ⟨v, q, ?_⟩
    cases l with
    | im d => exact DR.mono sg c
    | ow es =>
      obtain ⟨o, ws, e', g, hq, hd'⟩ := c
      subst e'
      have hne : o ≠ p := fun z => by subst z; exact ho ⟨i, _, e, rfl, q⟩
      exact ⟨o, ws, rfl, by rw [upd_ne hne]; exact g, hq, DRs.mono sg hd'⟩
    | bo es =>
      obtain ⟨o, ws, e', g, hq, hd'⟩ := c
      subst e'
      have hne : o ≠ p := fun z => by subst z; exact ho ⟨i, _, e, rfl, q⟩
      exact ⟨o, ws, rfl, by rw [upd_ne hne]; exact g, hq, DRs.mono sg hd'⟩
  · by_cases hb : a = p
    · subst hb; exact .inr (.inl hp)
    · rw [upd_ne hb] at e; exact s.fr a e
theorem ve_fz {f : En → R (List D)} (h : VN X w e f) : VE X w e (dFz f) := PE.imp h fun σ H Q ⟨G, ρ, rel, h⟩ => ⟨G, ρ, rel, by
  unfold dFz at h
  cases q : f ρ with
  | no => rw [q] at h; exact h
  | ex c ρ' => rw [q] at h; exact h
  | ok ds ρ' =>
    rw [q] at h
    have h' : Fn X.K w G H σ ρ (.ok (.list ds) ρ') (QD X.K Q) := h
    intro G1 H1 r1 s1 p n
    obtain ⟨us, hu, hd⟩ := n.here
    obtain ⟨r2, s2, hv⟩ := r1.fixN s1 n.g n.own hu hd n.new
    exact h' _ _ r2 s2 _ hv⟩
/-- a new list, a datum at once -/
theorem setI_fn {K : PySem.W.Frag} {G H : Hp} {σ : L2.St} {ρ : En} {fl : En → R (List D)} {i : Nat} {Z : Ends} (rel : Rel K G H σ ρ) (h : FnS K w G H σ ρ (dAsg (putIm i) (dFz fl) ρ) Z) : Fn K w G H σ ρ (fl ρ) (QN K H σ fun x H1 => gName i x σ H1 Z.nx) := by
  unfold dAsg dFz at h
  cases q : fl ρ with
  | no => rw [q] at h; exact h
  | ex c ρ' => rw [q] at h; exact fun G' H' cls dx r1 s1 x => h G' H' σ cls dx r1 s1 x
  | ok ds ρ' =>
    rw [q] at h
    intro G1 H1 r1 s1 p n
    have h' : FnS K w G H σ ρ ((putIm i (.list ds) ρ').bind fun _ ρ2 => .ok .nx ρ2) Z := h
    unfold putIm at h'
    split at h'
    · rename_i hf
      obtain ⟨c, hc, hb⟩ := free_ok hf
      have hi : i < ρ'.length := (List.getElem?_eq_some_iff.mp hc).1
      have r2 := r1.putL hc hb n.g n.own n.here
      have s2 := s1.putL (ds := ds) hc hb n.new
      obtain ⟨G3, o, sv, r3, s3, _⟩ := r2.freeze (i := i) (ds := ds) (List.getElem?_set_self hi)
      have e : frz i ds (ρ'.set i (some (.ow ds))) = ρ'.set i (some (.im (.list ds))) := by unfold frz; rw [List.set_set]
      rw [e] at r3 s3
      exact FnS.nx (show FnS K w G H σ ρ (.ok .nx (ρ'.set i (some (.im (.list ds))))) Z from h') r3 (s2.trans rel s3)
    · exact h'.elim
section
variable {tg iter elt : Expr} {ifs : List Expr} {scope : Scope} {own : List (Str × Nat)} {fi : En → R (List D)} {gt : D → En → R Unit} {ft : En → R Bool} {fe : En → R D} {py spos : Pos}
/-- name = [..] on one line -/
theorem vs_setLc (i : Nat) (hc : X.calm = true) (hN : X.N.Nodup) (hsw : swapsWith (.ListComp elt [⟨tg, iter, ifs, 0⟩] scope pos) (some (.Name x py)) spos.line X.env = pure true) (hi : VI X w tg iter fi) (ok : blkC X.N X.env.scope scope own = true)
    (hg : ∀ (s : Shared) (H : Hp) (C : Addr) (cl : List (Str × Addr)) (fp : List Addr), VGc (X.blk s H scope (compEnvC scope cl C X.env) fp) (own.map (·.2)) tg gt) (ht : ∀ (s : Shared) (H : Hp) (C : Addr) (cl : List (Str × Addr)) (fp : List Addr), PTs (X.blk s H scope (compEnvC scope cl C X.env) fp) ifs (teB X.K (w0 w) ft))
    (he : ∀ (s : Shared) (H : Hp) (C : Addr) (cl : List (Str × Addr)) (fp : List Addr), VE (X.blk s H scope (compEnvC scope cl C X.env) fp) (w0 w) elt fe) (hy : X.N[i]? = some x := by rfl) (hyl : X.env.scope.names.lookup x = some .local := by rfl) (hs : ∀ x, foldedSetIterable iter X.env x = pure x := by intro _; rfl) :
    VS X w (.Assign [.Name x py] (.ListComp elt [⟨tg, iter, ifs, 0⟩] scope pos) spos) (dAsgL i (nLc fi (lcT gt ft fe) (own.map (·.2)))) :=
  PS.imp (ps_setLc hc hN hy hyl hsw hi (blkOk_by ok) hg ht he hs) fun Z σ H ⟨G, ρ, rel, h⟩ => lc_imp ⟨G, ρ, rel, setL_fn rel h⟩
theorem vs_setLi (i : Nat) (hc : X.calm = true) (hN : X.N.Nodup) (hsw : swapsWith (.ListComp elt [⟨tg, iter, ifs, 0⟩] scope pos) (some (.Name x py)) spos.line X.env = pure true) (hi : VI X w tg iter fi) (ok : blkC X.N X.env.scope scope own = true)
    (hg : ∀ (s : Shared) (H : Hp) (C : Addr) (cl : List (Str × Addr)) (fp : List Addr), VGc (X.blk s H scope (compEnvC scope cl C X.env) fp) (own.map (·.2)) tg gt) (ht : ∀ (s : Shared) (H : Hp) (C : Addr) (cl : List (Str × Addr)) (fp : List Addr), PTs (X.blk s H scope (compEnvC scope cl C X.env) fp) ifs (teB X.K (w0 w) ft))
    (he : ∀ (s : Shared) (H : Hp) (C : Addr) (cl : List (Str × Addr)) (fp : List Addr), VE (X.blk s H scope (compEnvC scope cl C X.env) fp) (w0 w) elt fe) (hy : X.N[i]? = some x := by rfl) (hyl : X.env.scope.names.lookup x = some .local := by rfl) (hs : ∀ x, foldedSetIterable iter X.env x = pure x := by intro _; rfl) :
    VS X w (.Assign [.Name x py] (.ListComp elt [⟨tg, iter, ifs, 0⟩] scope pos) spos) (dAsg (putIm i) (dFz (nLc fi (lcT gt ft fe) (own.map (·.2))))) :=
  PS.imp (ps_setLc hc hN hy hyl hsw hi (blkOk_by ok) hg ht he hs) fun Z σ H ⟨G, ρ, rel, h⟩ => lc_imp ⟨G, ρ, rel, setI_fn rel h⟩
end
/-! reckoning -/
theorem lcL_fm {t : D → En → R (Option D)} {vs : List Nat} {f : D → Option D} {ρ : En} : ∀ {ds acc : List D}, (∀ d ∈ ds, ∃ ρ3, t d (wipeE ρ vs) = .ok (f d) ρ3 ∧ restE ρ ρ3 vs = ρ) → acc.length + ds.length ≤ sizeLine → lcL t vs ds acc ρ = .ok (acc ++ ds.filterMap f) ρ
  | [], acc, _, _ => by rw [lcL, List.filterMap_nil, List.append_nil]
  | d :: ds, acc, h, hl => by
    obtain ⟨ρ3, e1, e2⟩ := h d List.mem_cons_self
    rw [lcL, e1]
    have hl' : acc.length + (ds.length + 1) ≤ sizeLine := hl
    cases q : f d with
    | none =>
      show lcL t vs ds acc (restE ρ ρ3 vs) = _
      rw [e2, lcL_fm (fun d hd => h d (List.mem_cons_of_mem _ hd)) (by omega), List.filterMap_cons, q]
    | some y =>
      show (if acc.length < sizeLine then lcL t vs ds (acc ++ [y]) (restE ρ ρ3 vs) else .no) = _
      rw [if_pos (by omega), e2, lcL_fm (fun d hd => h d (List.mem_cons_of_mem _ hd)) (by rw [List.length_append]; simp; omega), List.filterMap_cons, q]
      simp
theorem lcL_map {t : D → En → R (Option D)} {vs : List Nat} {f : D → D} {ρ : En} {ds : List D} (h : ∀ d ∈ ds, ∃ ρ3, t d (wipeE ρ vs) = .ok (some (f d)) ρ3 ∧ restE ρ ρ3 vs = ρ) (hl : ds.length ≤ sizeLine) : lcL t vs ds [] ρ = .ok (ds.map f) ρ := by
  rw [lcL_fm (f := fun d => some (f d)) h (by simpa using hl), List.nil_append, List.filterMap_eq_map']
@[simp] theorem nLc_eq (fi : En → R (List D)) (t : D → En → R (Option D)) (vs : List Nat) (ρ : En) : nLc fi t vs ρ = (fi ρ).bind fun ds ρ1 => if immE ρ1 vs = true then lcL t vs ds [] ρ1 else .no := rfl
@[simp] theorem dFz_eq (f : En → R (List D)) (ρ : En) : dFz f ρ = (f ρ).bind fun ds ρ1 => .ok (.list ds) ρ1 := rfl
@[simp] theorem lcT_eq (g : D → En → R Unit) (ft : En → R Bool) (fe : En → R D) (d : D) (ρ : En) : lcT g ft fe d ρ = (g d ρ).bind fun _ ρ1 => (ft ρ1).bind fun b ρ2 => if b = true then (fe ρ2).bind fun y ρ3 => .ok (some y) ρ3 else .ok none ρ2 := rfl
@[simp] theorem tT_eq (ρ : En) : tT ρ = .ok true ρ := rfl
end
end Dn
namespace Dn
open PySem PySem.Spec PyProof.Rows L2
/-! ### calls over lists -/
def asInt : D → Option Int
  | .int i => some i
  | _ => none
def asBool : D → Option Bool
  | .bool i => some i
  | _ => none
def asStr : D → Option Str
  | .str i => some i
  | _ => none
def allOf {α : Type} (f : D → Option α) : List D → Option (List α)
  | [] => some []
  | d :: r => (f d).bind fun a => (allOf f r).map (a :: ·)
theorem allOf_eq {α : Type} {f : D → Option α} {g : α → D} (hg : ∀ d a, f d = some a → d = g a) : ∀ {ds : List D} {ns : List α}, allOf f ds = some ns → ds = ns.map g
  | [], ns, h => by cases h; rfl
  | d :: ds, ns, h => by
    simp only [allOf, Option.bind_eq_some_iff, Option.map_eq_some_iff] at h
    obtain ⟨a, h1, r, h2, rfl⟩ := h
    rw [hg d a h1, allOf_eq hg h2]; rfl
theorem allOf_map {α : Type} {f : D → Option α} {g : α → D} (hg : ∀ a, f (g a) = some a) : ∀ l : List α, allOf f (l.map g) = some l
  | [] => rfl
  | a :: l => by rw [List.map_cons, allOf, hg, allOf_map hg l]; rfl
theorem mapM_ints {ds : List D} {ns : List Int} (h : allOf asInt ds = some ns) : ds = ns.map .int := allOf_eq (fun d a e => by cases d <;> cases e; rfl) h
theorem mapM_bools {ds : List D} {ns : List Bool} (h : allOf asBool ds = some ns) : ds = ns.map .bool := allOf_eq (fun d a e => by cases d <;> cases e; rfl) h
theorem mapM_strs {ds : List D} {ns : List Str} (h : allOf asStr ds = some ns) : ds = ns.map .str := allOf_eq (fun d a e => by cases d <;> cases e; rfl) h
@[simp] theorem ints_map (l : List Int) : allOf asInt (l.map PyData.int) = some l := allOf_map (g := PyData.int) (fun _ => rfl) l
@[simp] theorem ints_map' {α : Type} (f : α → Int) (l : List α) : allOf asInt (l.map fun x => PyData.int (f x)) = some (l.map f) := by
  have : (l.map fun x => PyData.int (f x)) = (l.map f).map PyData.int := by rw [List.map_map]; rfl
  rw [this, ints_map]
@[simp] theorem bools_map (l : List Bool) : allOf asBool (l.map PyData.bool) = some l := allOf_map (g := PyData.bool) (fun _ => rfl) l
@[simp] theorem bools_map' {α : Type} (f : α → Bool) (l : List α) : allOf asBool (l.map fun x => PyData.bool (f x)) = some (l.map f) := by
  have : (l.map fun x => PyData.bool (f x)) = (l.map f).map PyData.bool := by rw [List.map_map]; rfl
  rw [this, bools_map]
@[simp] theorem strs_map (l : List Str) : allOf asStr (l.map PyData.str) = some l := allOf_map (g := PyData.str) (fun _ => rfl) l
@[simp] theorem strs_map' {α : Type} (f : α → Str) (l : List α) : allOf asStr (l.map fun x => PyData.str (f x)) = some (l.map f) := by
  have : (l.map fun x => PyData.str (f x)) = (l.map f).map PyData.str := by rw [List.map_map]; rfl
  rw [this, strs_map]
@[simp] theorem ints_comp {α : Type} (f : α → Int) (l : List α) : allOf asInt (l.map (PyData.int ∘ f)) = some (l.map f) := ints_map' f l
@[simp] theorem bools_comp {α : Type} (f : α → Bool) (l : List α) : allOf asBool (l.map (PyData.bool ∘ f)) = some (l.map f) := bools_map' f l
@[simp] theorem strs_comp {α : Type} (f : α → Str) (l : List α) : allOf asStr (l.map (PyData.str ∘ f)) = some (l.map f) := strs_map' f l
def gSum : List D → Option D
  | [.list ds] => (allOf asInt ds).map fun ns => .int ns.sum
  | _ => none
def gMaxL : List D → Option D
  | [.list ds] => (allOf asInt ds).bind fun ns => ns.max?.map .int
  | _ => none
def gMinL : List D → Option D
  | [.list ds] => (allOf asInt ds).bind fun ns => ns.min?.map .int
  | _ => none
def gAll : List D → Option D
  | [.list ds] => (allOf asBool ds).map fun bs => .bool (bs.all id)
  | _ => none
def gAny : List D → Option D
  | [.list ds] => (allOf asBool ds).map fun bs => .bool (bs.any id)
  | _ => none
def gList : List D → Option D
  | [.list ds] => some (.list ds)
  | [.tuple ds] => some (.list ds)
  | _ => none
def gTuple : List D → Option D
  | [.list ds] => some (.tuple ds)
  | [.tuple ds] => some (.tuple ds)
  | _ => none
section
variable {K : PySem.W.Frag}
theorem DR.lst' {G : Hp} {v : V} {ds : List D} (h : DR K G v (.list ds)) : ∃ a vs, v = .ref a ∧ SqL K G a vs ∧ DRs K G vs ds := by
  cases h with
  | lst h hs => exact ⟨_, _, rfl, h, hs⟩
theorem DR.tup' {G : Hp} {v : V} {ds : List D} (h : DR K G v (.tuple ds)) : ∃ a vs, v = .ref a ∧ SqT K G a vs ∧ DRs K G vs ds := by
  cases h with
  | tup h hs => exact ⟨_, _, rfl, h, hs⟩
theorem one_of {α : Type} {g : List D → Option α} {ds : List D} {d : α} (h : ∀ a b t, g (a :: b :: t) = none) (h0 : g [] = none) (e : g ds = some d) : ∃ x, ds = [x] := by
  rcases ds with _ | ⟨x, _ | ⟨y, t⟩⟩
  · rw [h0] at e; cases e
  · exact ⟨x, rfl⟩
  · rw [h] at e; cases e
theorem cs_sum : CallS K (rSum K) gSum := cs1 (fun ds d e => one_of (fun a b t => by cases a <;> rfl) rfl e) fun v x d G H σ ρ Q rel h e q => by
  cases x with
  | list ds =>
    simp only [gSum, Option.map_eq_some_iff] at e
    obtain ⟨ns, e, rfl⟩ := e
    obtain ⟨a, vs, rfl, h, hs⟩ := h.lst'
    rw [mapM_ints e] at hs
    rw [hs.ints] at h
    exact ⟨a, ns, rfl, rel.sub.seq h, q _ (.int _)⟩
  | _ => cases e
theorem cs_maxL : CallS K (rMax K) gMaxL := cs1 (fun ds d e => one_of (fun a b t => by cases a <;> rfl) rfl e) fun v x d G H σ ρ Q rel h e q => by
  cases x with
  | list ds =>
    simp only [gMaxL, Option.bind_eq_some_iff, Option.map_eq_some_iff] at e
    obtain ⟨ns, e, m, hm, rfl⟩ := e
    obtain ⟨a, vs, rfl, h, hs⟩ := h.lst'
    rw [mapM_ints e] at hs
    rw [hs.ints] at h
    have hne : ns ≠ [] := by intro z; subst z; cases hm
    refine ⟨a, ns, rfl, rel.sub.seq h, List.length_pos_iff.mpr hne, fun k hk hle => ?_⟩
    have : k = m := by
      rw [List.max?_eq_some_iff] at hm
      have h1 := hle m hm.1
      have h2 := hm.2 k hk
      omega
    subst this
    exact q _ (.int _)
  | _ => cases e
theorem cs_minL : CallS K (rMin K) gMinL := cs1 (fun ds d e => one_of (fun a b t => by cases a <;> rfl) rfl e) fun v x d G H σ ρ Q rel h e q => by
  cases x with
  | list ds =>
    simp only [gMinL, Option.bind_eq_some_iff, Option.map_eq_some_iff] at e
    obtain ⟨ns, e, m, hm, rfl⟩ := e
    obtain ⟨a, vs, rfl, h, hs⟩ := h.lst'
    rw [mapM_ints e] at hs
    rw [hs.ints] at h
    have hne : ns ≠ [] := by intro z; subst z; cases hm
    refine ⟨a, ns, rfl, rel.sub.seq h, List.length_pos_iff.mpr hne, fun k hk hle => ?_⟩
    have : k = m := by
      rw [List.min?_eq_some_iff] at hm
      have h1 := hle m hm.1
      have h2 := hm.2 k hk
      omega
    subst this
    exact q _ (.int _)
  | _ => cases e
theorem cs_all : CallS K (rAll K) gAll := cs1 (fun ds d e => one_of (fun a b t => by cases a <;> rfl) rfl e) fun v x d G H σ ρ Q rel h e q => by
  cases x with
  | list ds =>
    simp only [gAll, Option.map_eq_some_iff] at e
    obtain ⟨ns, e, rfl⟩ := e
    obtain ⟨a, vs, rfl, h, hs⟩ := h.lst'
    rw [mapM_bools e] at hs
    rw [hs.bools] at h
    exact ⟨a, ns, rfl, rel.sub.seq h, q _ (.bl _)⟩
  | _ => cases e
theorem cs_any : CallS K (rAny K) gAny := cs1 (fun ds d e => one_of (fun a b t => by cases a <;> rfl) rfl e) fun v x d G H σ ρ Q rel h e q => by
  cases x with
  | list ds =>
    simp only [gAny, Option.map_eq_some_iff] at e
    obtain ⟨ns, e, rfl⟩ := e
    obtain ⟨a, vs, rfl, h, hs⟩ := h.lst'
    rw [mapM_bools e] at hs
    rw [hs.bools] at h
    exact ⟨a, ns, rfl, rel.sub.seq h, q _ (.bl _)⟩
  | _ => cases e
abbrev rListOf (K : PySem.W.Frag) : List V → Hp → VK → Prop := fun xs H Q => ∃ p ys, xs = [.ref p] ∧ (SqL K H p ys ∨ SqT K H p ys) ∧ ∀ l, H l = none → Q (.ref l) (upd H l (.lst ys))
theorem cs_list : CallS K (rListOf K) gList := fun vs ds d G H σ ρ Q rel h e q => by
  obtain ⟨x, rfl⟩ := one_of (fun a b t => by cases a <;> rfl) rfl e
  cases h with
  | cons h t =>
    cases t
    cases x with
    | list ds =>
      cases e
      obtain ⟨a, vs, rfl, h, hs⟩ := h.lst'
      exact ⟨a, vs, rfl, .inl (rel.sub.seq h), hand_new rel q (DR.newL rel hs)⟩
    | tuple ds =>
      cases e
      obtain ⟨a, vs, rfl, h, hs⟩ := h.tup'
      exact ⟨a, vs, rfl, .inr (Same.tup rel.sub h), hand_new rel q (DR.newL rel hs)⟩
    | _ => cases e
abbrev rTupleOf (K : PySem.W.Frag) : List V → Hp → VK → Prop := fun xs H Q => ∃ p ys, xs = [.ref p] ∧ ((SqL K H p ys ∧ ∀ l, H l = none → Q (.ref l) (upd H l (.tup ys))) ∨ (SqT K H p ys ∧ Q (.ref p) H))
theorem cs_tuple : CallS K (rTupleOf K) gTuple := fun vs ds d G H σ ρ Q rel h e q => by
  obtain ⟨x, rfl⟩ := one_of (fun a b t => by cases a <;> rfl) rfl e
  cases h with
  | cons h t =>
    cases t
    cases x with
    | list ds =>
      cases e
      obtain ⟨a, vs, rfl, h, hs⟩ := h.lst'
      exact ⟨a, vs, rfl, .inl ⟨rel.sub.seq h, hand_new rel q (DR.newT rel hs)⟩⟩
    | tuple ds =>
      cases e
      obtain ⟨a, vs, rfl, h, hs⟩ := h.tup'
      exact ⟨a, vs, rfl, .inr ⟨Same.tup rel.sub h, q _ _ rel Stp.refl _ (.tup h hs)⟩⟩
    | _ => cases e
end
/-! list(..) as a new list of one's own -/
def asL : D → Option (List D)
  | .list ds => some ds
  | .tuple ds => some ds
  | _ => none
def nList (f : En → R D) : En → R (List D) := fun ρ => (f ρ).bind fun d ρ1 => lift (asL d) ρ1
section
variable {X : Cx} {w : Wh} {p pos : Pos} {e o : Expr} {fe fo : En → R D}
theorem vn_list (hg : Gl X "list") (hm : X.mg "list" = none) (ha : VE X w e fe) (he : starEach [e] X.env = (false, eval e X.env) :: starEach [] X.env := by rfl) (hpl : (backTo pos (starEach [] X.env)).any (·.1) = false := by rfl) : VN X w (.Call (.Name "list" p) [e] [] pos) (nList fe) :=
  PE.imp (pe_callTy call_list_of hg hm boot_ty_list (pa_cons ha pa_nil he) (by decide) (by decide) he hpl) fun σ H Q ⟨G, ρ, rel, h⟩ => ⟨G, ρ, rel, (Fn.bind rel h).imp fun G1 H1 ρ1 d ⟨r1, s1, h1⟩ v hv => by
    obtain ⟨ds, e, q⟩ := Fn.lift h1
    have fin : ∀ us, DRs X.K G1 us ds → ∀ l, H1 l = none → Q (.ref l) (upd H1 l (.lst us)) := fun us hd l hl => by
      obtain ⟨r2, s2⟩ := r1.laidM (o := .lst us) hl
      exact q _ _ r2 s2 l (NewL.of rel r1 s1 hl hd)
    cases d with
    | list ds' =>
      cases e
      obtain ⟨a, vs, rfl, h, hs⟩ := hv.lst'
      exact ⟨a, vs, rfl, .inl (r1.sub.seq h), fin _ hs⟩
    | tuple ds' =>
      cases e
      obtain ⟨a, vs, rfl, h, hs⟩ := hv.tup'
      exact ⟨a, vs, rfl, .inr (Same.tup r1.sub h), fin _ hs⟩
    | _ => cases e⟩
/-! ### a text's methods -/
def MS0 (K : PySem.W.Frag) (r : V → List V → Hp → VK → Prop) (g : Str → Option D) : Prop :=
  ∀ (a : Str) (d : D) (G H : Hp) (σ : L2.St) (ρ : En) (Q : VK), Rel K G H σ ρ → g a = some d → (∀ G' H', Rel K G' H' σ ρ → Stp G H σ ρ G' H' σ ρ → ∀ v, DR K G' v d → Q v H') → r (.str a) [] H Q
def MS1 (K : PySem.W.Frag) (r : V → List V → Hp → VK → Prop) (g : Str → D → Option D) : Prop :=
  ∀ (a : Str) (v : V) (y d : D) (G H : Hp) (σ : L2.St) (ρ : En) (Q : VK), Rel K G H σ ρ → DR K G v y → g a y = some d → (∀ G' H', Rel K G' H' σ ρ → Stp G H σ ρ G' H' σ ρ → ∀ v, DR K G' v d → Q v H') → r (.str a) [v] H Q
def dM0 (g : Str → Option D) (fo : En → R D) : En → R D := fun ρ => (fo ρ).bind fun x ρ1 => (lift (asStr x) ρ1).bind fun a ρ2 => lift (g a) ρ2
def dM1 (g : Str → D → Option D) (fo fe : En → R D) : En → R D := fun ρ => (fo ρ).bind fun x ρ1 => (lift (asStr x) ρ1).bind fun a ρ2 => (fe ρ2).bind fun y ρ3 => lift (g a y) ρ3
theorem DR.str' {K : PySem.W.Frag} {G : Hp} {v : V} {d : D} {a : Str} (h : DR K G v d) (e : asStr d = some a) : v = .str a := by
  cases h with
  | str x => cases e; rfl
  | _ => cases e
theorem ve_m0 {id : String} {name : Str} {apos : Pos} {r : V → List V → Hp → VK → Prop} {g : Str → Option D} (slot : Slot "str" name id) (ty : typeOf (.builtin id) = pure (.type "method_descriptor")) (rule : MtR X id r) (sp : MS0 X.K r g) (ho : VE X w o fo)
    (hbase : attributeBase o name X.env (eval o X.env) = eval o X.env := by rfl) (hline : (apos.endLine == pos.line) = true := by rfl) : VE X w (.Call (.Attribute o name apos) [] [] pos) (dM0 g fo) :=
  PE.imp (pe_m0 slot ty rule ho hbase hline) fun σ H Q ⟨G, ρ, rel, h⟩ => ⟨G, ρ, rel, (Fn.bind rel h).imp fun G1 H1 ρ1 x ⟨r1, s1, h1⟩ v hv => by
    obtain ⟨a, e1, h3⟩ : ∃ a, asStr x = some a ∧ Fn X.K w G1 H1 σ ρ1 (lift (g a) ρ1) (QD X.K Q) := by
      cases q : asStr x with
      | none => rw [q] at h1; exact h1.elim
      | some a => rw [q] at h1; exact ⟨a, rfl, h1⟩

    have := hv.str' e1
    subst this
    obtain ⟨d, e, q⟩ := Fn.lift h3
    exact ⟨⟨_, rfl⟩, sp _ d G1 H1 σ ρ1 Q r1 e q⟩⟩
theorem ve_m1 {id : String} {name : Str} {apos : Pos} {r : V → List V → Hp → VK → Prop} {g : Str → D → Option D} (slot : Slot "str" name id) (ty : typeOf (.builtin id) = pure (.type "method_descriptor")) (rule : MtR X id r) (sp : MS1 X.K r g) (ho : VE X w o fo) (he : VE X w e fe)
    (hs : starEach [e] X.env = [(false, eval e X.env)] := by rfl) (hbase : attributeBase o name X.env (eval o X.env) = eval o X.env := by rfl) (hline : (apos.endLine == pos.line) = true := by rfl) : VE X w (.Call (.Attribute o name apos) [e] [] pos) (dM1 g fo fe) :=
  PE.imp (pe_m1 slot ty rule ho he hs hbase hline) fun σ H Q ⟨G, ρ, rel, h⟩ => ⟨G, ρ, rel, (Fn.bind rel h).imp fun G1 H1 ρ1 x ⟨r1, s1, h1⟩ v hv => by
    obtain ⟨a, e1, h2⟩ : ∃ a, asStr x = some a ∧ Fn X.K w G1 H1 σ ρ1 ((fe ρ1).bind fun y ρ3 => lift (g a y) ρ3) (QD X.K Q) := by
      cases q : asStr x with
      | none => rw [q] at h1; exact h1.elim
      | some a => rw [q] at h1; exact ⟨a, rfl, h1⟩
    have := hv.str' e1
    subst this
    refine ⟨⟨_, rfl⟩, G1, ρ1, r1, (Fn.bind r1 h2).imp fun G2 H2 ρ2 y ⟨r2, s2, h3⟩ u hu => ?_⟩
    obtain ⟨d, e, q⟩ := Fn.lift h3
    exact sp a u y d G2 H2 σ ρ2 Q r2 hu e q⟩
end
section
variable {K : PySem.W.Frag}
theorem newStrs {G H : Hp} {σ : L2.St} {ρ : En} {Q : VK} {ys : List Str} (rel : Rel K G H σ ρ) (q : ∀ G' H', Rel K G' H' σ ρ → Stp G H σ ρ G' H' σ ρ → ∀ v, DR K G' v (.list (ys.map .str)) → Q v H') : rNewStrs ys H Q := hand_new rel q (DR.newL rel (DRs.ofStrs ys))
def gPart (a : Str) : D → Option D
  | .str b => if (b.length == 0) = false ∧ a.length ≤ sizeLine then some (.tuple [.str (Txt.partition a b).1, .str (Txt.partition a b).2.1, .str (Txt.partition a b).2.2]) else none
  | _ => none
theorem ms_part : MS1 K (fun x xs H Q => ∃ a b, x = .str a ∧ xs = [.str b] ∧ (b.length == 0) = false ∧ a.length ≤ sizeLine ∧
    ∀ p, H p = none → Q (.ref p) (upd H p (.tup [.str (Txt.partition a b).1, .str (Txt.partition a b).2.1, .str (Txt.partition a b).2.2]))) gPart := fun a v y d G H σ ρ Q rel hv e q => by
  cases hv with
  | str b =>
    simp only [gPart] at e
    split at e
    · rename_i h; cases e
      exact ⟨a, b, rfl, rfl, h.1, h.2, hand_new rel q (DR.newT rel (.cons (.str _) (.cons (.str _) (.cons (.str _) .nil))))⟩
    · cases e
  | _ => cases e
def gJoinL (a : Str) (ds : List D) : Option D := (allOf asStr ds).bind fun ys => if (ys.map (·.length)).sum + ys.length * a.length ≤ 16777216 then some (.str (Txt.join a ys)) else none
def gJoin (a : Str) : D → Option D
  | .list ds => gJoinL a ds
  | .tuple ds => gJoinL a ds
  | _ => none
theorem gJoinL_ok {a : Str} {ds : List D} {d : D} (e : gJoinL a ds = some d) : ∃ ys : List Str, ds = ys.map .str ∧ (ys.map (·.length)).sum + ys.length * a.length ≤ 16777216 ∧ d = .str (Txt.join a ys) := by
  simp only [gJoinL, Option.bind_eq_some_iff] at e
  obtain ⟨ys, e1, e⟩ := e
  split at e
  · cases e; exact ⟨ys, mapM_strs e1, ‹_›, rfl⟩
  · cases e
theorem ms_join : MS1 K (fun x xs H Q => ∃ a p, ∃ ys : List Str, x = .str a ∧ xs = [.ref p] ∧ (SqL K H p (ys.map V.str) ∨ SqT K H p (ys.map V.str)) ∧
    (ys.map (·.length)).sum + ys.length * a.length ≤ 16777216 ∧ Q (.str (Txt.join a ys)) H) gJoin := fun a v y d G H σ ρ Q rel hv e q => by
  cases y with
  | list ds =>
    obtain ⟨ys, rfl, hz, rfl⟩ := gJoinL_ok e
    obtain ⟨p, vs, rfl, h, hs⟩ := hv.lst'
    rw [hs.strs] at h
    exact ⟨a, p, ys, rfl, rfl, .inl (rel.sub.seq h), hz, q _ _ rel Stp.refl _ (.str _)⟩
  | tuple ds =>
    obtain ⟨ys, rfl, hz, rfl⟩ := gJoinL_ok e
    obtain ⟨p, vs, rfl, h, hs⟩ := hv.tup'
    rw [hs.strs] at h
    exact ⟨a, p, ys, rfl, rfl, .inr (Same.tup rel.sub h), hz, q _ _ rel Stp.refl _ (.str _)⟩
  | _ => cases e
def gZfill (a : Str) : D → Option D
  | .int i => if PadOk i = true then some (.str (Txt.zfill a i)) else none
  | _ => none
theorem ms_zfill : MS1 K (fun x xs H Q => ∃ (a : Str) (i : Int), x = .str a ∧ xs = [.int i] ∧ PadOk i = true ∧ Q (.str (Txt.zfill a i)) H) gZfill := fun a v y d G H σ ρ Q rel hv e q => by
  cases hv with
  | int i =>
    simp only [gZfill] at e
    split at e
    · cases e; exact ⟨a, i, rfl, rfl, ‹_›, q _ _ rel Stp.refl _ (.str _)⟩
    · cases e
  | _ => cases e
def gSplit (a : Str) : D → Option D
  | .str b => if (b.length == 0) = false ∧ a.length + 2 ≤ sizeLine then some (.list ((Txt.split a b).map .str)) else none
  | _ => none
theorem ms_split : MS1 K (fun x xs H Q => ∃ a b, x = .str a ∧ xs = [.str b] ∧ (b.length == 0) = false ∧ a.length + 2 ≤ sizeLine ∧ rNewStrs (Txt.split a b) H Q) gSplit := fun a v y d G H σ ρ Q rel hv e q => by
  cases hv with
  | str b =>
    simp only [gSplit] at e
    split at e
    · rename_i h; cases e
      exact ⟨a, b, rfl, rfl, h.1, h.2, newStrs rel q⟩
    · cases e
  | _ => cases e
def gCountS (a : Str) : D → Option D
  | .str b => some (.int (Txt.count a b))
  | _ => none
theorem ms_count : MS1 K (fun x xs H Q => ∃ a b, x = .str a ∧ xs = [.str b] ∧ Q (.int (Txt.count a b)) H) gCountS := fun a v y d G H σ ρ Q rel hv e q => by
  cases hv with
  | str b => cases e; exact ⟨a, b, rfl, rfl, q _ _ rel Stp.refl _ (.int _)⟩
  | _ => cases e
def gStarts (a : Str) : D → Option D
  | .str b => some (.bool (Txt.startswith a b))
  | _ => none
theorem ms_starts : MS1 K (fun x xs H Q => ∃ a b, x = .str a ∧ xs = [.str b] ∧ Q (.bl (Txt.startswith a b)) H) gStarts := fun a v y d G H σ ρ Q rel hv e q => by
  cases hv with
  | str b => cases e; exact ⟨a, b, rfl, rfl, q _ _ rel Stp.refl _ (.bl _)⟩
  | _ => cases e
def gUpper (a : Str) : Option D := if a.length ≤ 5592405 then some (.str (Txt.upper a)) else none
theorem ms_upper : MS0 K (fun x xs H Q => ∃ a, x = .str a ∧ xs = [] ∧ a.length ≤ 5592405 ∧ Q (.str (Txt.upper a)) H) gUpper := fun a d G H σ ρ Q rel e q => by
  simp only [gUpper] at e
  split at e
  · cases e; exact ⟨a, rfl, rfl, ‹_›, q _ _ rel Stp.refl _ (.str _)⟩
  · cases e
end
@[simp] theorem dM0_eq (g : Str → Option D) (fo : En → R D) (ρ : En) : dM0 g fo ρ = (fo ρ).bind fun x ρ1 => (lift (asStr x) ρ1).bind fun a ρ2 => lift (g a) ρ2 := rfl
@[simp] theorem dM1_eq (g : Str → D → Option D) (fo fe : En → R D) (ρ : En) : dM1 g fo fe ρ = (fo ρ).bind fun x ρ1 => (lift (asStr x) ρ1).bind fun a ρ2 => (fe ρ2).bind fun y ρ3 => lift (g a y) ρ3 := rfl
@[simp] theorem asStr_str (a : Str) : asStr (.str a) = some a := rfl
@[simp] theorem nList_eq (f : En → R D) (ρ : En) : nList f ρ = (f ρ).bind fun d ρ1 => lift (asL d) ρ1 := rfl
@[simp] theorem asL_list (ds : List D) : asL (.list ds) = some ds := rfl
@[simp] theorem asL_tuple (ds : List D) : asL (.tuple ds) = some ds := rfl
@[simp] theorem gSum_list (ds : List D) : gSum [.list ds] = (allOf asInt ds).map fun ns => .int ns.sum := rfl
@[simp] theorem gMaxL_list (ds : List D) : gMaxL [.list ds] = (allOf asInt ds).bind fun ns => ns.max?.map .int := rfl
@[simp] theorem gMinL_list (ds : List D) : gMinL [.list ds] = (allOf asInt ds).bind fun ns => ns.min?.map .int := rfl
@[simp] theorem gAll_list (ds : List D) : gAll [.list ds] = (allOf asBool ds).map fun bs => .bool (bs.all id) := rfl
@[simp] theorem gAny_list (ds : List D) : gAny [.list ds] = (allOf asBool ds).map fun bs => .bool (bs.any id) := rfl
@[simp] theorem gList_list (ds : List D) : gList [.list ds] = some (.list ds) := rfl
@[simp] theorem gList_tuple (ds : List D) : gList [.tuple ds] = some (.list ds) := rfl
@[simp] theorem gTuple_list (ds : List D) : gTuple [.list ds] = some (.tuple ds) := rfl
@[simp] theorem gTuple_tuple (ds : List D) : gTuple [.tuple ds] = some (.tuple ds) := rfl
end Dn
namespace Dn
open PySem PySem.Spec PyProof.Rows L2
section
variable {X : Cx} {w : Wh} {x : Str} {pos py spos : Pos} {k : Nat} {tg iter elt : Expr} {ifs : List Expr} {scope : Scope} {own : List (Str × Nat)} {fi : En → R (List D)} {gt : D → En → R Unit} {ft : En → R Bool} {fe : En → R D}
theorem Gd.blk (g : Gd X w k) {s : Shared} {H : Hp} {C : Addr} {cl : List (Str × Addr)} {fp : List Addr} : Gd (X.blk s H scope (compEnvC scope cl C X.env) fp) (w0 w) k :=
  ⟨g.calm, fun u s' x => by obtain ⟨a, B, sI, pins, σ, H, cls, d, e, I, nb, up, sky, na, os, ag, w⟩ := x; exact w.elim, PassesOwn.never, g.hr⟩
theorem vn_lcG (own : List (Str × Nat)) (g : Gd X w k) (hN : X.N.Nodup) (hi : VI X w tg iter fi) (ok : blkC X.N X.env.scope scope own = true)
    (hg : ∀ (s : Shared) (H : Hp) (C : Addr) (cl : List (Str × Addr)) (fp : List Addr), Gd (X.blk s H scope (compEnvC scope cl C X.env) fp) (w0 w) k → VGc (X.blk s H scope (compEnvC scope cl C X.env) fp) (own.map (·.2)) tg gt)
    (ht : ∀ (s : Shared) (H : Hp) (C : Addr) (cl : List (Str × Addr)) (fp : List Addr), Gd (X.blk s H scope (compEnvC scope cl C X.env) fp) (w0 w) k → PTs (X.blk s H scope (compEnvC scope cl C X.env) fp) ifs (teB X.K (w0 w) ft))
    (he : ∀ (s : Shared) (H : Hp) (C : Addr) (cl : List (Str × Addr)) (fp : List Addr), Gd (X.blk s H scope (compEnvC scope cl C X.env) fp) (w0 w) k → VE (X.blk s H scope (compEnvC scope cl C X.env) fp) (w0 w) elt fe) (hs : ∀ x, foldedSetIterable iter X.env x = pure x := by intro _; rfl) :
    VN X w (.ListComp elt [⟨tg, iter, ifs, 0⟩] scope pos) (nLc fi (lcT gt ft fe) (own.map (·.2))) :=
  vn_lc g.calm hN hi ok (fun s H C cl fp => hg s H C cl fp g.blk) (fun s H C cl fp => ht s H C cl fp g.blk) (fun s H C cl fp => he s H C cl fp g.blk) hs
theorem vs_setLcG (i : Nat) (own : List (Str × Nat)) (g : Gd X w k) (hN : X.N.Nodup) (hi : VI X w tg iter fi) (ok : blkC X.N X.env.scope scope own = true)
    (hg : ∀ (s : Shared) (H : Hp) (C : Addr) (cl : List (Str × Addr)) (fp : List Addr), Gd (X.blk s H scope (compEnvC scope cl C X.env) fp) (w0 w) k → VGc (X.blk s H scope (compEnvC scope cl C X.env) fp) (own.map (·.2)) tg gt)
    (ht : ∀ (s : Shared) (H : Hp) (C : Addr) (cl : List (Str × Addr)) (fp : List Addr), Gd (X.blk s H scope (compEnvC scope cl C X.env) fp) (w0 w) k → PTs (X.blk s H scope (compEnvC scope cl C X.env) fp) ifs (teB X.K (w0 w) ft))
    (he : ∀ (s : Shared) (H : Hp) (C : Addr) (cl : List (Str × Addr)) (fp : List Addr), Gd (X.blk s H scope (compEnvC scope cl C X.env) fp) (w0 w) k → VE (X.blk s H scope (compEnvC scope cl C X.env) fp) (w0 w) elt fe)
    (hsw : swapsWith (.ListComp elt [⟨tg, iter, ifs, 0⟩] scope pos) (some (.Name x py)) spos.line X.env = pure true := by exact sw_true (by rfl) (by rfl) (by rfl) (by rfl))
    (hy : X.N[i]? = some x := by rfl) (hyl : X.env.scope.names.lookup x = some .local := by rfl) (hs : ∀ x, foldedSetIterable iter X.env x = pure x := by intro _; rfl) :
    VS X w (.Assign [.Name x py] (.ListComp elt [⟨tg, iter, ifs, 0⟩] scope pos) spos) (dAsgL i (nLc fi (lcT gt ft fe) (own.map (·.2)))) :=
  vs_setLc i g.calm hN hsw hi ok (fun s H C cl fp => hg s H C cl fp g.blk) (fun s H C cl fp => ht s H C cl fp g.blk) (fun s H C cl fp => he s H C cl fp g.blk) hy hyl hs
theorem vs_setLiG (i : Nat) (own : List (Str × Nat)) (g : Gd X w k) (hN : X.N.Nodup) (hi : VI X w tg iter fi) (ok : blkC X.N X.env.scope scope own = true)
    (hg : ∀ (s : Shared) (H : Hp) (C : Addr) (cl : List (Str × Addr)) (fp : List Addr), Gd (X.blk s H scope (compEnvC scope cl C X.env) fp) (w0 w) k → VGc (X.blk s H scope (compEnvC scope cl C X.env) fp) (own.map (·.2)) tg gt)
    (ht : ∀ (s : Shared) (H : Hp) (C : Addr) (cl : List (Str × Addr)) (fp : List Addr), Gd (X.blk s H scope (compEnvC scope cl C X.env) fp) (w0 w) k → PTs (X.blk s H scope (compEnvC scope cl C X.env) fp) ifs (teB X.K (w0 w) ft))
    (he : ∀ (s : Shared) (H : Hp) (C : Addr) (cl : List (Str × Addr)) (fp : List Addr), Gd (X.blk s H scope (compEnvC scope cl C X.env) fp) (w0 w) k → VE (X.blk s H scope (compEnvC scope cl C X.env) fp) (w0 w) elt fe)
    (hsw : swapsWith (.ListComp elt [⟨tg, iter, ifs, 0⟩] scope pos) (some (.Name x py)) spos.line X.env = pure true := by exact sw_true (by rfl) (by rfl) (by rfl) (by rfl))
    (hy : X.N[i]? = some x := by rfl) (hyl : X.env.scope.names.lookup x = some .local := by rfl) (hs : ∀ x, foldedSetIterable iter X.env x = pure x := by intro _; rfl) :
    VS X w (.Assign [.Name x py] (.ListComp elt [⟨tg, iter, ifs, 0⟩] scope pos) spos) (dAsg (putIm i) (dFz (nLc fi (lcT gt ft fe) (own.map (·.2))))) :=
  vs_setLi i g.calm hN hsw hi ok (fun s H C cl fp => hg s H C cl fp g.blk) (fun s H C cl fp => ht s H C cl fp g.blk) (fun s H C cl fp => he s H C cl fp g.blk) hy hyl hs
end
end Dn
namespace Dn
open PySem PySem.Spec PyProof.Rows L2
def asLi : D → Option (List D)
  | .list ds => some ds
  | _ => none
/-- l.index(x) -/
def gIndex (ds : List D) (d : D) : Option D := if shp (.list ds) = true ∧ shp d = true then (ds.findIdx? fun z => PyData.eqv z d).map fun (j : Nat) => .int j else none
def dLM1 (g : List D → D → Option D) (fo fe : En → R D) : En → R D := fun ρ => (fo ρ).bind fun x ρ1 => (lift (asLi x) ρ1).bind fun ds ρ2 => (fe ρ2).bind fun y ρ3 => lift (g ds y) ρ3
@[simp] theorem dLM1_eq (g : List D → D → Option D) (fo fe : En → R D) (ρ : En) : dLM1 g fo fe ρ = (fo ρ).bind fun x ρ1 => (lift (asLi x) ρ1).bind fun ds ρ2 => (fe ρ2).bind fun y ρ3 => lift (g ds y) ρ3 := rfl
@[simp] theorem asLi_list (ds : List D) : asLi (.list ds) = some ds := rfl
section
variable {X : Cx} {w : Wh} {pos : Pos} {e o : Expr} {fe fo : En → R D}
theorem ve_index {apos : Pos} (hu : X.A.units + 65 < cLine) (ho : VE X w o fo) (he : VE X w e fe)
    (hbase : attributeBase o "index" X.env (eval o X.env) = eval o X.env := by rfl)
    (hfew : ((backTo pos (starEach [e] X.env)).all (fun x => !x.1) && (backToKw pos (keywordEach [] X.env)).all (fun x => x.1.isSome) && decide (([e] : List Expr).length + ([] : List Keyword).length + (if ([] : List Keyword).isEmpty then 0 else 1) < 30)) = true := by rfl)
    (hline : (apos.endLine == pos.line) = true := by rfl) (hs : starEach [e] X.env = (false, eval e X.env) :: starEach [] X.env := by rfl) (hplain : (backTo pos (starEach [] X.env)).any (·.1) = false := by rfl) :
    VE X w (.Call (.Attribute o "index" apos) [e] [] pos) (dLM1 gIndex fo fe) :=
  PE.imp (pe_bm PySem.F.plainAttrs_list PySem.F.slot_list_index PySem.F.type_list_index (mt_indexD hu) ho (pa_cons he pa_nil hs) hbase hfew hline hs hplain) fun σ H Q ⟨G, ρ, rel, h⟩ => ⟨G, ρ, rel, (Fn.bind rel h).imp fun G1 H1 ρ1 x ⟨r1, s1, h1⟩ v hv => by
    cases x with
    | list ds =>
      have h2 : Fn X.K w G1 H1 σ ρ1 ((fe ρ1).bind fun y ρ3 => lift (gIndex ds y) ρ3) (QD X.K Q) := h1
      obtain ⟨a, vs, rfl, hl, hds⟩ := hv.lst'
      refine ⟨.inl ⟨rfl, vs, r1.sub.seq hl⟩, G1, ρ1, r1, (Fn.bind r1 h2).imp fun G2 H2 ρ2 y ⟨r2, s2, h3⟩ u hu2 => ?_⟩
      obtain ⟨d, e, q⟩ := Fn.lift h3
      simp only [gIndex] at e
      split at e
      · rename_i hsh
        simp only [Option.map_eq_some_iff] at e
        obtain ⟨j, ej, rfl⟩ := e
        rw [List.findIdx?_eq_some_iff_getElem] at ej
        obtain ⟨hj, e1, e2⟩ := ej
        have D1 : DR X.K H2 (.ref a) (.list ds) := ((DR.lst hl hds).mono s2.g).mono r2.sub
        refine ⟨a, u, y, ds, j, ds[j], rfl, rfl, D1.dp (SeqAt.canLay_of_shaped hsh.1), (hu2.mono r2.sub).dp (SeqAt.canLay_of_shaped hsh.2), hsh.1, hsh.2, List.getElem?_eq_getElem hj, e1, fun m z hm hz => ?_, q _ _ r2 Stp.refl _ (.int _)⟩
        have hml : m < ds.length := by omega
        rw [List.getElem?_eq_getElem hml] at hz
        cases hz
        have := e2 m hm
        simpa using this
      · cases e
    | _ => exact h1.elim⟩
end
end Dn
namespace Dn
open PySem PySem.Spec PyProof.Rows L2
/-! ### one's own lists, looked at for a while -/
section
variable {K : PySem.W.Frag} {G H G' H' : Hp} {σ : L2.St} {ρ : En}
theorem DV.dr (r : Rel K G H σ ρ) {v : V} {d : D} (h : DV K G H v d) : DR K H v d := by
  cases h with
  | im h => exact h.mono r.sub
  | mu e h => exact .lst (.inl (.inl e)) (h.mono r.sub)
end
/-- compared: the left one a name -/
def dCmpL (g : D → D → Option Bool) (i : Nat) (fb : En → R D) : En → R Bool := atSlot i fb fun l y ρ => lift (g l.toD y) ρ
/-- compared: the right one a name -/
def dCmpR (g : D → D → Option Bool) (fa : En → R D) (i : Nat) : En → R Bool := fun ρ => (fa ρ).bind fun x ρ1 => atSlot i (fun ρ => .ok () ρ) (fun l _ ρ => lift (g x l.toD) ρ) ρ1
@[simp] theorem dCmpL_eq (g : D → D → Option Bool) (i : Nat) (fb : En → R D) (ρ : En) : dCmpL g i fb ρ = slotK ρ[i]? fun _ => (fb ρ).bind fun y ρ1 => slotK ρ1[i]? fun l => lift (g l.toD y) ρ1 := by unfold dCmpL; rw [atSlot_eq]
@[simp] theorem dCmpR_eq (g : D → D → Option Bool) (fa : En → R D) (i : Nat) (ρ : En) : dCmpR g fa i ρ = (fa ρ).bind fun x ρ1 => slotK ρ1[i]? fun l => lift (g x l.toD) ρ1 := by
  unfold dCmpR
  cases fa ρ with
  | ok x ρ1 =>
    show atSlot i _ _ ρ1 = slotK ρ1[i]? _
    rw [atSlot_eq]
    show (slotK ρ1[i]? fun _ => slotK ρ1[i]? fun l => lift (g x l.toD) ρ1) = _
    generalize ρ1[i]? = o
    cases o with
    | none => rfl
    | some o => cases o <;> rfl
  | _ => rfl
section
variable {X : Cx} {w : Wh} {op : CmpOp} {r : R2} {g : D → D → Option Bool} {a b : Expr} {fa fb : En → R D} {pos p : Pos} {x : Str}
theorem vt_cmpL (i : Nat) (ho : OpR X (compareOp op) r) (hs : OpB X.K r g) (hb : VE X w b fb) (hm : behindInMarks op b = false) (hN : X.N[i]? = some x := by rfl) (hv : Vis X.env.scope x := by first | exact Or.inl rfl | exact Or.inr (Or.inl rfl) | exact Or.inr (Or.inr rfl))
    (hd : (x == ("__debug__" : Str)) = false := by decide) (hcd : (x == ("__classdict__" : Str)) = false := by decide) : VT X w (.Compare (.Name x p) [op] [b] pos) (dCmpL g i fb) :=
  PT.imp (pt_cmpR ho (pe_var hN hv hd hcd) hb hm) fun σ H Q ⟨G, ρ, rel, h⟩ => by
    obtain ⟨v, s, h⟩ := Fn.slot rel h
    refine ⟨v, s, G, ρ, rel, h.imp fun G1 H1 ρ1 y ⟨l, e, dv, r1, s1, h1⟩ u hu => ?_⟩
    obtain ⟨d, e', q⟩ := Fn.lift h1
    exact hs v u l.toD y d H1 _ (dv.dr r1) (hu.mono r1.sub) e' ⟨d, rfl, q _ _ r1 Stp.refl⟩
theorem vt_cmpRN (i : Nat) (ho : OpR X (compareOp op) r) (hs : OpB X.K r g) (ha : VE X w a fa) (hm : behindInMarks op (.Name x p) = false) (hN : X.N[i]? = some x := by rfl) (hv : Vis X.env.scope x := by first | exact Or.inl rfl | exact Or.inr (Or.inl rfl) | exact Or.inr (Or.inr rfl))
    (hd : (x == ("__debug__" : Str)) = false := by decide) (hcd : (x == ("__classdict__" : Str)) = false := by decide) : VT X w (.Compare a [op] [.Name x p] pos) (dCmpR g fa i) :=
  PT.imp (pt_cmpR ho ha (pe_var hN hv hd hcd) hm) fun σ H Q ⟨G, ρ, rel, h⟩ => ⟨G, ρ, rel, (Fn.bind rel h).imp fun G1 H1 ρ1 dx ⟨r1, s1, h1⟩ u hu => by
    obtain ⟨v, s, h⟩ := Fn.slot r1 h1
    obtain ⟨l, e, dv, r2, s2, h2⟩ := h.ok r1
    obtain ⟨d, e', q⟩ := Fn.lift h2
    exact ⟨v, s, hs u v dx l.toD d H1 _ (hu.mono r1.sub) (dv.dr r2) e' ⟨d, rfl, q _ _ r2 Stp.refl⟩⟩⟩
theorem ve_cmpL (i : Nat) (ho : OpR X (compareOp op) r) (hs : OpB X.K r g) (hb : VE X w b fb) (hm : behindInMarks op b = false) (hN : X.N[i]? = some x := by rfl) (hv : Vis X.env.scope x := by first | exact Or.inl rfl | exact Or.inr (Or.inl rfl) | exact Or.inr (Or.inr rfl))
    (hd : (x == ("__debug__" : Str)) = false := by decide) (hcd : (x == ("__classdict__" : Str)) = false := by decide) : VE X w (.Compare (.Name x p) [op] [b] pos) (dB (dCmpL g i fb)) :=
  PE.imp (pe_cmpR ho (pe_var hN hv hd hcd) hb hm) fun σ H Q ⟨G, ρ, rel, h⟩ => by
    obtain ⟨v, s, h⟩ := Fn.slot rel (Fn.dB rel h)
    refine ⟨v, s, G, ρ, rel, h.imp fun G1 H1 ρ1 y ⟨l, e, dv, r1, s1, h1⟩ u hu => ?_⟩
    obtain ⟨d, e', q⟩ := Fn.lift h1
    exact hs v u l.toD y d H1 _ (dv.dr r1) (hu.mono r1.sub) e' (q _ _ r1 Stp.refl).2.2
theorem ve_cmpRN (i : Nat) (ho : OpR X (compareOp op) r) (hs : OpB X.K r g) (ha : VE X w a fa) (hm : behindInMarks op (.Name x p) = false) (hN : X.N[i]? = some x := by rfl) (hv : Vis X.env.scope x := by first | exact Or.inl rfl | exact Or.inr (Or.inl rfl) | exact Or.inr (Or.inr rfl))
    (hd : (x == ("__debug__" : Str)) = false := by decide) (hcd : (x == ("__classdict__" : Str)) = false := by decide) : VE X w (.Compare a [op] [.Name x p] pos) (dB (dCmpR g fa i)) :=
  PE.imp (pe_cmpR ho ha (pe_var hN hv hd hcd) hm) fun σ H Q ⟨G, ρ, rel, h⟩ => ⟨G, ρ, rel, (Fn.bind rel (Fn.dB rel h)).imp fun G1 H1 ρ1 dx ⟨r1, s1, h1⟩ u hu => by
    obtain ⟨v, s, h⟩ := Fn.slot r1 h1
    obtain ⟨l, e, dv, r2, s2, h2⟩ := h.ok r1
    obtain ⟨d, e', q⟩ := Fn.lift h2
    exact ⟨v, s, hs u v dx l.toD d H1 _ (hu.mono r1.sub) (dv.dr r2) e' (q _ _ r2 Stp.refl).2.2⟩⟩
end
/-! #### a call that only looks -/
def lendT (ρ : En) : List AV → Option En
  | [] => some []
  | .im d :: as => (lendT ρ as).map (some (.im d) :: ·)
  | .sl i :: as => match ρ[i]? with
    | some (some l) => (lendT ρ as).map (some (.im l.toD) :: ·)
    | _ => none
def flat : D → Bool
  | .none => true
  | .bool _ => true
  | .int _ => true
  | .str _ => true
  | _ => false
/-- the callee's view, then the caller as ahead -/
def dFnT (n : Nat) (den : En → R L) (ga : En → R (List AV)) : En → R D := fun ρ => (ga ρ).bind fun as ρ1 => if as.length = n then match lendT ρ1 as with
  | none => .no
  | some ls => match den ls with
    | .ok (.im d) _ => if flat d = true then .ok d ρ1 else .no
    | .ex c _ => if c.arg.isNone = true then .ex c ρ1 else .no
    | _ => .no
  else .no
open Classical in
noncomputable def Gt (G H : Hp) (σ : L2.St) (ρ : En) : Hp := fun a => if G a = none ∧ Own σ ρ a then H a else G a
section
variable {K : PySem.W.Frag} {G H G' H' : Hp} {σ : L2.St} {ρ : En}
theorem Gt_g : Same G (Gt G H σ ρ) := fun a x e => by
  unfold Gt
  rw [if_neg (fun z => by rw [e] at z; cases z.1)]; exact e
theorem Gt_h (r : Rel K G H σ ρ) : Same (Gt G H σ ρ) H := fun a x e => by
  unfold Gt at e
  split at e
  · exact e
  · exact r.sub a x e
theorem lendT_ok (r : Rel K G H σ ρ) : ∀ {vs : List V} {as : List AV} {ls : En}, AVs K G σ vs as → lendT ρ as = some ls → ls.length = vs.length ∧ ∀ (k : Nat) (l : L), ls[k]? = some (some l) → ∃ d v, l = .im d ∧ (vs.map some)[k]? = some (some v) ∧ DR K (Gt G H σ ρ) v d
  | _, _, _, .nil, e => by cases e; exact ⟨rfl, fun k l h => by simp at h⟩
  | _, _, _, .im h t, e => by
    simp only [lendT, Option.map_eq_some_iff] at e
    obtain ⟨ls, e, rfl⟩ := e
    obtain ⟨h1, h2⟩ := lendT_ok r t e
    refine ⟨by simp [h1], fun k l hk => ?_⟩
    cases k with
    | zero => simp at hk; subst hk; exact ⟨_, _, rfl, rfl, h.mono Gt_g⟩
    | succ k => simpa using h2 k l (by simpa using hk)
  | _, _, _, .sl (v := v) (i := i) h t, e => by
    simp only [lendT] at e
    split at e
    · rename_i l0 e0
      simp only [Option.map_eq_some_iff] at e
      obtain ⟨ls, e, rfl⟩ := e
      obtain ⟨h1, h2⟩ := lendT_ok r t e
      refine ⟨by simp [h1], fun k l hk => ?_⟩
      cases k with
      | zero =>
        simp at hk; subst hk
        obtain ⟨v', s, c⟩ := r.cell i l0 e0
        rw [h] at s; cases s
        refine ⟨_, v, rfl, rfl, ?_⟩
        have here : ∀ o us ds, l0.mu = true → v = V.ref o → G o = none → H o = some (.lst us) → DRs K G us ds → DR K (Gt G H σ ρ) v (.list ds) := fun o us ds m ev g hq hd => by
          subst ev
          refine .lst (.inl (.inl ?_)) (hd.mono Gt_g)
          unfold Gt
          rw [if_pos ⟨g, i, l0, e0, m, h⟩]; exact hq
        cases l0 with
        | im d => exact DR.mono Gt_g c
        | ow ds => obtain ⟨o, us, ev, g, hq, hd⟩ := c; exact here o us ds rfl ev g hq hd
        | bo ds => obtain ⟨o, us, ev, g, hq, hd⟩ := c; exact here o us ds rfl ev g hq hd
      | succ k => simpa using h2 k l (by simpa using hk)
    · cases e
theorem flat_dr {v : V} {d : D} (h : DR K G v d) (hf : flat d = true) : DR K G' v d := by
  cases h with
  | non => exact .non
  | bl b => exact .bl b
  | int i => exact .int i
  | str s => exact .str s
  | _ => cases hf
/-- nothing old was changed -/
theorem Rel.still (r : Rel K G H σ ρ) (h : Same H H') : Rel K G H' σ ρ ∧ Stp G H σ ρ G H' σ ρ := by
  refine ⟨⟨r.sub.trans h, r.len, fun i l e => ?_, r.apart⟩, ⟨Same.refl _, fun a x e _ => h a x e, fun a z => .inl z, fun a z => .inl z, fun a z => ?_, rfl, fun i ds e => ⟨rfl, ds, e⟩⟩⟩
  · obtain ⟨v, s, c⟩ := r.cell i l e
    refine ⟨v, s, ?_⟩
    cases l with
    | im d => exact c
    | ow ds => obtain ⟨o, us, ev, g, hq, hd⟩ := c; exact ⟨o, us, ev, g, h _ _ hq, hd⟩
    | bo ds => obtain ⟨o, us, ev, g, hq, hd⟩ := c; exact ⟨o, us, ev, g, h _ _ hq, hd⟩
  · cases q : H a with
    | none => exact absurd q z
    | some x => rw [h a x q]; exact fun z => nomatch z
end
section
variable {X : Cx} {w : Wh} {k n : Nat} {f : Addr} {fd : FuncData} {ps : List Str} {den : En → R L} {ca : String → Option Value} {x : Str} {p pos : Pos} {e : Expr} {es : List Expr} {ga : En → R (List AV)}
theorem ve_callT (F : FnOk X.prog X.w X.K X.mg X.base (L2.CX X.prog X.w) k f fd ps (spD X.K ca n den)) (hr : Room k X.A) (tk : Takes X w.W) (hca : w.ca = ca) (hg : Gl X x) (hm : X.mg x = some (.ref f)) (hk : PySem.W.keepIn X.K (.ref f) = true) (hb : Binds X.K fd ps [])
    (ha : VA X w (e :: es) ga) (hdb : (x == ("__debug__" : Str)) = false := by decide) (he : starEach (e :: es) X.env = (false, eval e X.env) :: starEach es X.env := by rfl) (hpl : (backTo pos (starEach es X.env)).any (·.1) = false := by rfl) :
    VE X w (.Call (.Name x p) (e :: es) [] pos) (dFnT n den ga) :=
  PE.imp (pe_callS F hr hg hm hk hb (passAt tk) ha hdb he hpl) fun σ H Q ⟨G, ρ, rel, h⟩ => ⟨G, ρ, rel, (Fn.bind rel h).imp fun G1 H1 ρ1 as ⟨r1, s1, h1⟩ vs hvs => by
    split at h1
    · rename_i hl
      cases q : lendT ρ1 as with
      | none => rw [q] at h1; exact h1.elim
      | some ls =>
        rw [q] at h1
        have h1' : Fn X.K w G1 H1 σ ρ1 (match den ls with | .ok (.im d) _ => if flat d = true then R.ok d ρ1 else .no | .ex c _ => if c.arg.isNone = true then .ex c ρ1 else .no | _ => .no) (QD X.K Q) := h1
        obtain ⟨l1, l2⟩ := lendT_ok r1 hvs q
        have r0 : Rel X.K (Gt G1 H1 σ ρ1) H1 (vs.map some) ls := ⟨Gt_h r1, by simp [l1], fun i l ei => by
          obtain ⟨d, v, rfl, hv, hd⟩ := l2 i l ei
          exact ⟨v, hv, hd⟩, fun i j l m a ei ej li mj si sj => by
          obtain ⟨d, v, rfl, _⟩ := l2 i l ei; cases li⟩
        have no : ∀ a, ¬ Own (vs.map some) ls a := fun a ⟨i, l, ei, m, _⟩ => by
          obtain ⟨d, v, rfl, _⟩ := l2 i l ei; cases m
        refine ⟨Gt G1 H1 σ ρ1, ls, r0, fun i ds ei => (by obtain ⟨d, v, ed, _⟩ := l2 i _ ei; cases ed), hvs.length.trans hl, ?_⟩
        cases q2 : den ls with
        | no => rw [q2] at h1'; exact h1'.elim
        | ex c ls' =>
          rw [q2] at h1'
          intro G' H' cls dx r' s' x'
          have sH : Same H1 H' := fun a o ea => s'.h a o ea (no a)
          obtain ⟨r2, s2⟩ := r1.still sH
          have h2 : Fn X.K w G1 H1 σ ρ1 (if c.arg.isNone = true then .ex c ρ1 else .no) (QD X.K Q) := h1'
          split at h2
          · rename_i hn
            exact h2 G1 H' cls dx r2 s2 ⟨by rw [hca]; exact x'.hc, x'.hn, fun f d ea => by rw [ea] at hn; cases hn⟩
          · exact h2.elim
        | ok l ls' =>
          rw [q2] at h1'
          cases l with
          | bo ds => exact h1'.elim
          | ow ds => exact h1'.elim
          | im d =>
            intro G' H' v r' s' hv
            have sH : Same H1 H' := fun a o ea => s'.h a o ea (no a)
            obtain ⟨r2, s2⟩ := r1.still sH
            have h2 : Fn X.K w G1 H1 σ ρ1 (if flat d = true then R.ok d ρ1 else .no) (QD X.K Q) := h1'
            split at h2
            · rename_i hf
              exact h2 G1 H' r2 s2 v (flat_dr hv hf)
            · exact h2.elim
    · exact h1.elim⟩
end
/-! reckoning -/
def lookK (o : Option En) (k : En → R D) : R D := match o with
  | some ls => k ls
  | none => .no
def resT (r : R L) (ρ : En) : R D := match r with
  | .ok (.im d) _ => if flat d = true then .ok d ρ else .no
  | .ex c _ => if c.arg.isNone = true then .ex c ρ else .no
  | _ => .no
@[simp] theorem dFnT_eq (n : Nat) (den : En → R L) (ga : En → R (List AV)) (ρ : En) : dFnT n den ga ρ = (ga ρ).bind fun as ρ1 => if as.length = n then lookK (lendT ρ1 as) fun ls => resT (den ls) ρ1 else .no := by
  unfold dFnT
  cases ga ρ with
  | ok as ρ1 =>
    show (if as.length = n then _ else _) = (if as.length = n then _ else _)
    split
    · cases lendT ρ1 as with
      | none => rfl
      | some ls => rfl
    · rfl
  | _ => rfl
@[simp] theorem lookK_some (ls : En) (k : En → R D) : lookK (some ls) k = k ls := rfl
@[simp] theorem resT_im (d : D) (ls ρ : En) (h : flat d = true) : resT (.ok (.im d) ls) ρ = .ok d ρ := if_pos h
@[simp] theorem resT_ex (c : String) (ls ρ : En) : resT (.ex ⟨c, none⟩ ls) ρ = .ex ⟨c, none⟩ ρ := rfl
@[simp] theorem lendT_nil (ρ : En) : lendT ρ [] = some [] := rfl
@[simp] theorem lendT_im (ρ : En) (d : D) (as : List AV) : lendT ρ (.im d :: as) = (lendT ρ as).map (some (.im d) :: ·) := rfl
theorem lendT_sl {ρ : En} {i : Nat} {as : List AV} {l : L} (h : ρ[i]? = some (some l)) : lendT ρ (.sl i :: as) = (lendT ρ as).map (some (.im l.toD) :: ·) := by
  simp only [lendT, h]
@[simp] theorem flat_bool (b : Bool) : flat (.bool b) = true := rfl
@[simp] theorem flat_int (b : Int) : flat (.int b) = true := rfl
@[simp] theorem flat_str (b : Str) : flat (.str b) = true := rfl
@[simp] theorem flat_none : flat .none = true := rfl
/-- at one's own list -/
def mineK {α : Type} (c : Option (Option L)) (k : L → List D → R α) : R α := match c with
  | some (some (.ow ds)) => k (.ow ds) ds
  | some (some (.bo ds)) => k (.bo ds) ds
  | _ => .no
@[simp] theorem mineK_ow {α : Type} (ds : List D) (k : L → List D → R α) : mineK (some (some (.ow ds))) k = k (.ow ds) ds := rfl
@[simp] theorem mineK_bo {α : Type} (ds : List D) (k : L → List D → R α) : mineK (some (some (.bo ds))) k = k (.bo ds) ds := rfl
@[simp] theorem put_ow (ds es : List D) : (L.ow ds).put es = .ow es := rfl
@[simp] theorem put_bo (ds es : List D) : (L.bo ds).put es = .bo es := rfl
theorem atMine_eq {α β : Type} (i : Nat) (f : En → R β) (g : L → List D → β → En → R α) (ρ : En) : atMine i f g ρ = mineK ρ[i]? fun _ _ => (f ρ).bind fun y ρ1 => mineK ρ1[i]? fun l ds => g l ds y ρ1 := by
  unfold atMine
  have inner : ∀ (y : β) (ρ1 : En), (match ρ1[i]? with
      | some (some l) => match l.mine with
        | some ds => g l ds y ρ1
        | none => .no
      | _ => .no) = mineK ρ1[i]? fun l ds => g l ds y ρ1 := fun y ρ1 => by
    generalize ρ1[i]? = o
    cases o with
    | none => rfl
    | some o => cases o with
      | none => rfl
      | some l => cases l <;> rfl
  generalize ρ[i]? = o
  cases o with
  | none => rfl
  | some o => cases o with
    | none => rfl
    | some l =>
      cases l with
      | im d => rfl
      | ow ds => exact congrArg ((f ρ).bind) (funext fun y => funext fun ρ1 => inner y ρ1)
      | bo ds => exact congrArg ((f ρ).bind) (funext fun y => funext fun ρ1 => inner y ρ1)
@[simp] theorem dApp_eq (i : Nat) (f : En → R D) (ρ : En) : dApp i f ρ = mineK ρ[i]? fun _ _ => (f ρ).bind fun d ρ1 => mineK ρ1[i]? fun l ds => if ds.length < sizeLine then .ok .nx (ρ1.set i (some (l.put (ds ++ [d])))) else .no := atMine_eq i f _ ρ
def setK (z : Option Int) (l : L) (ds : List D) (d : D) (i : Nat) (ρ : En) : R Fl := match z with
  | some z => match ixN ds.length z with
    | some j => .ok .nx (ρ.set i (some (l.put (ds.set j d))))
    | none => .no
  | none => .no
@[simp] theorem dSetI_eq (i : Nat) (f k : En → R D) (ρ : En) : dSetI i f k ρ = (f ρ).bind fun d ρ0 => mineK ρ0[i]? fun _ _ => (k ρ0).bind fun y ρ1 => mineK ρ1[i]? fun l ds => setK (asI y) l ds d i ρ1 := by
  unfold dSetI
  cases f ρ with
  | ok d ρ0 => exact atMine_eq i k _ ρ0
  | _ => rfl
@[simp] theorem dAsgL_eq (i : Nat) (f : En → R (List D)) (ρ : En) : dAsgL i f ρ = (f ρ).bind fun ds ρ1 => (putOw i ds ρ1).bind fun _ ρ2 => .ok .nx ρ2 := rfl
@[simp] theorem dRetL_eq (f : En → R (List D)) (ρ : En) : dRetL f ρ = (f ρ).bind fun d ρ1 => .ok (.rl d) ρ1 := rfl
def retK (c : Option (Option L)) (i : Nat) (ρ : En) : R Fl := match c with
  | some (some (.ow ds)) => .ok (.rl ds) (ρ.set i none)
  | some (some (.im d)) => .ok (.rt d) ρ
  | _ => .no
@[simp] theorem dRetV_eq (i : Nat) (ρ : En) : dRetV i ρ = retK ρ[i]? i ρ := by
  unfold dRetV retK
  generalize ρ[i]? = o
  cases o with
  | none => rfl
  | some o => cases o with
    | none => rfl
    | some l => cases l <;> rfl
@[simp] theorem retK_ow (ds : List D) (i : Nat) (ρ : En) : retK (some (some (.ow ds))) i ρ = .ok (.rl ds) (ρ.set i none) := rfl
@[simp] theorem retK_im (d : D) (i : Nat) (ρ : En) : retK (some (some (.im d))) i ρ = .ok (.rt d) ρ := rfl
def resN (as : List AV) (ρ : En) (r : R L) : R (List D) := match r with
  | .ok (.ow ds) ls' => .ok ds (giveB as ls' ρ)
  | .ex c ls' => .ex c (giveB as ls' ρ)
  | _ => .no
@[simp] theorem resN_ow (as : List AV) (ρ ls : En) (d : List D) : resN as ρ (.ok (.ow d) ls) = .ok d (giveB as ls ρ) := rfl
@[simp] theorem resN_ex (as : List AV) (ρ ls : En) (c : Exn) : resN as ρ (.ex c ls) = .ex c (giveB as ls ρ) := rfl
@[simp] theorem nFn_eq (n : Nat) (den : En → R L) (ga : En → R (List AV)) (ρ : En) : nFn n den ga ρ = (ga ρ).bind fun as ρ1 => if as.length = n then lentK (lend as ρ1) fun ls => resN as ρ1 (den ls) else .no := by
  unfold nFn
  congr 1
  funext as ρ1
  split
  · unfold lentK resN
    cases lend as ρ1 with
    | none => rfl
    | some ls =>
      cases den ls with
      | ok l ls' => cases l <;> rfl
      | _ => rfl
  · rfl
def slA (c : Option (Option L)) (i : Nat) (r : R (List AV)) : R (List AV) := match c with
  | some (some _) => r.bind fun as ρ2 => .ok (.sl i :: as) ρ2
  | _ => .no
@[simp] theorem aSl_eq (i : Nat) (g : En → R (List AV)) (ρ : En) : aSl i g ρ = slA ρ[i]? i (g ρ) := by
  unfold aSl slA
  generalize ρ[i]? = o
  cases o with
  | none => rfl
  | some o => cases o <;> rfl
@[simp] theorem slA_some (l : L) (i : Nat) (r : R (List AV)) : slA (some (some l)) i r = r.bind fun as ρ2 => .ok (.sl i :: as) ρ2 := rfl
def lookL (c : Option (Option L)) (r : Option En) : Option En := match c with
  | some (some l) => r.map (some (.im l.toD) :: ·)
  | _ => none
@[simp] theorem lendT_slK (ρ : En) (i : Nat) (as : List AV) : lendT ρ (.sl i :: as) = lookL ρ[i]? (lendT ρ as) := by
  simp only [lendT, lookL]
@[simp] theorem lookL_some (l : L) (r : Option En) : lookL (some (some l)) r = r.map (some (.im l.toD) :: ·) := rfl
@[simp] theorem resT_bool (b : Bool) (ls ρ : En) : resT (.ok (.im (.bool b)) ls) ρ = .ok (.bool b) ρ := rfl
@[simp] theorem resT_int (b : Int) (ls ρ : En) : resT (.ok (.im (.int b)) ls) ρ = .ok (.int b) ρ := rfl
@[simp] theorem resT_str (b : Str) (ls ρ : En) : resT (.ok (.im (.str b)) ls) ρ = .ok (.str b) ρ := rfl
@[simp] theorem resT_non (ls ρ : En) : resT (.ok (.im .none) ls) ρ = .ok .none ρ := rfl
end Dn
namespace Dn
open PySem PySem.Spec PyProof.Rows L2
/-! ### more of lists of one's own -/
section
variable {X : Cx} {w : Wh} {x : Str} {p pos : Pos} {e e2 : Expr} {fe fi : En → R D} {apos pos2 : Pos}
/-- x.insert(i, e) -/
def dIns (i : Nat) (fi fe : En → R D) : En → R Fl := atMine i (fun ρ => (fi ρ).bind fun a ρ1 => (fe ρ1).bind fun b ρ2 => .ok (a, b) ρ2) fun l ds y ρ => match y.1 with
  | .int k => if ds.length < sizeLine ∧ 0 ≤ k ∧ k < 2 ^ 62 then .ok .nx (ρ.set i (some (l.put (ds.take k.toNat ++ [y.2] ++ ds.drop k.toNat)))) else .no
  | _ => .no
theorem vs_insert (i : Nat) (hi : VE X w e2 fi) (he : VE X w e fe) (hN : X.N[i]? = some x := by rfl) (hv : Vis X.env.scope x := by first | exact Or.inl rfl | exact Or.inr (Or.inl rfl) | exact Or.inr (Or.inr rfl)) (hd : (x == ("__debug__" : Str)) = false := by decide) (hcd : (x == ("__classdict__" : Str)) = false := by decide)
    (hbase : attributeBase (.Name x p) "insert" X.env (eval (.Name x p) X.env) = eval (.Name x p) X.env := by rfl) (hline : (apos.endLine == pos.line) = true := by rfl)
    (hfew : ((backTo pos (starEach [e2, e] X.env)).all (fun x => !x.1) && (backToKw pos (keywordEach [] X.env)).all (fun x => x.1.isSome) && decide (([e2, e] : List Expr).length + ([] : List Keyword).length + (if ([] : List Keyword).isEmpty then 0 else 1) < 30)) = true := by rfl)
    (hs : starEach [e2, e] X.env = (false, eval e2 X.env) :: starEach [e] X.env := by rfl) (hs2 : starEach [e] X.env = (false, eval e X.env) :: starEach [] X.env := by rfl) (hpl : (backTo pos (starEach [e] X.env)).any (·.1) = false := by rfl)
    (hsw : swapsWith (.Call (.Attribute (.Name x p) "insert" apos) [e2, e] [] pos) none pos2.line X.env = pure false := by rfl) :
    VS X w (.Expr (.Call (.Attribute (.Name x p) "insert" apos) [e2, e] [] pos) pos2) (dIns i fi fe) :=
  PS.imp (ps_expr (pe_bm PySem.F.plainAttrs_list PySem.F.slot_list_insert PySem.F.type_list_insert mt_insert (pe_var hN hv hd hcd) (pa_cons hi (pa_cons he pa_nil hs2) hs) hbase hfew hline hs hpl) hsw) fun Z σ H ⟨G, ρ, rel, h⟩ => by
    obtain ⟨o, s, ⟨vs, ho⟩, h⟩ := FnS.mine rel h
    refine ⟨.ref o, s, .inl ⟨rfl, vs, .inl (.inl ho)⟩, G, ρ, rel, (Fn.bind rel h).imp fun G1 H1 ρ1 a ⟨r1, s1, h1⟩ va hva => ⟨G1, ρ1, r1, (Fn.bind r1 h1).imp fun G2 H2 ρ2 b ⟨r2, s2, h2⟩ vb hvb => ?_⟩⟩
    obtain ⟨l, ds, e1, m, r3, s3, h3⟩ := h2.ok r2
    obtain ⟨o', ws, s', go, hw, hd⟩ := r3.mine e1 m
    rw [s] at s'; cases s'
    cases hva with
    | int k =>
      have h4 : FnS X.K w G2 H2 σ ρ2 (if ds.length < sizeLine ∧ 0 ≤ k ∧ k < 2 ^ 62 then .ok .nx (ρ2.set i (some (l.put (ds.take k.toNat ++ [b] ++ ds.drop k.toNat)))) else .no) Z := h3
      split at h4
      · rename_i hc
        obtain ⟨r4, s4⟩ := r3.change e1 m s (((hd.take k.toNat).append (.cons hvb .nil)).append (hd.drop k.toNat))
        exact ⟨o, ws, k, vb, rfl, rfl, hw, by rw [hd.length]; exact hc.1, hc.2.1, by omega, FnS.nx h4 r4 s4⟩
      · exact h4.elim
    | _ => exact h3.elim
/-- x.pop() -/
def dPop (i : Nat) : En → R D := atMine i (fun ρ => .ok () ρ) fun l ds _ ρ => match ds[ds.length - 1]? with
  | some d => .ok d (ρ.set i (some (l.put ds.dropLast)))
  | none => .no
theorem ve_pop (i : Nat) (hN : X.N[i]? = some x := by rfl) (hv : Vis X.env.scope x := by first | exact Or.inl rfl | exact Or.inr (Or.inl rfl) | exact Or.inr (Or.inr rfl)) (hd : (x == ("__debug__" : Str)) = false := by decide) (hcd : (x == ("__classdict__" : Str)) = false := by decide)
    (hbase : attributeBase (.Name x p) "pop" X.env (eval (.Name x p) X.env) = eval (.Name x p) X.env := by rfl) (hline : (apos.endLine == pos.line) = true := by rfl) :
    VE X w (.Call (.Attribute (.Name x p) "pop" apos) [] [] pos) (dPop i) :=
  PE.imp (pe_bm0 PySem.F.plainAttrs_list PySem.F.slot_list_pop PySem.F.type_list_pop mt_pop (pe_var hN hv hd hcd) hbase hline) fun σ H Q ⟨G, ρ, rel, h⟩ => by
    obtain ⟨o, s, ⟨vs, ho⟩, h⟩ := Fn.mine rel h
    obtain ⟨l, ds, e1, m, r3, s3, h3⟩ := h.ok rel
    obtain ⟨o', ws, s', go, hw, hd⟩ := r3.mine e1 m
    rw [s] at s'; cases s'
    refine ⟨.ref o, s, .inl ⟨rfl, vs, .inl (.inl ho)⟩, ?_⟩
    have h4 : Fn X.K w G H σ ρ (match ds[ds.length - 1]? with | some d => R.ok d (ρ.set i (some (l.put ds.dropLast))) | none => .no) (QD X.K Q) := h3
    cases q : ds[ds.length - 1]? with
    | none => rw [q] at h4; exact h4.elim
    | some d =>
      rw [q] at h4
      obtain ⟨y, ey, hy⟩ := hd.get q
      obtain ⟨r4, s4⟩ := r3.change e1 m s hd.dropLast
      exact ⟨o, ws, y, rfl, rfl, hw, by rw [hd.length]; exact ey, h4 _ _ r4 s4 y hy⟩
/-- x.pop(k) -/
def dPopAt (i : Nat) (fk : En → R D) : En → R D := atMine i fk fun l ds y ρ => match y with
  | .int k => if -(2 ^ 62) ≤ k ∧ k < 2 ^ 62 then match ixN ds.length k with
    | some j => match ds[j]? with
      | some d => .ok d (ρ.set i (some (l.put (ds.eraseIdx j))))
      | none => .no
    | none => .no
    else .no
  | _ => .no
theorem ve_popAt (i : Nat) (hk : VE X w e fi) (hN : X.N[i]? = some x := by rfl) (hv : Vis X.env.scope x := by first | exact Or.inl rfl | exact Or.inr (Or.inl rfl) | exact Or.inr (Or.inr rfl)) (hd : (x == ("__debug__" : Str)) = false := by decide) (hcd : (x == ("__classdict__" : Str)) = false := by decide)
    (hbase : attributeBase (.Name x p) "pop" X.env (eval (.Name x p) X.env) = eval (.Name x p) X.env := by rfl) (hline : (apos.endLine == pos.line) = true := by rfl)
    (hfew : ((backTo pos (starEach [e] X.env)).all (fun x => !x.1) && (backToKw pos (keywordEach [] X.env)).all (fun x => x.1.isSome) && decide (([e] : List Expr).length + ([] : List Keyword).length + (if ([] : List Keyword).isEmpty then 0 else 1) < 30)) = true := by rfl)
    (hs : starEach [e] X.env = (false, eval e X.env) :: starEach [] X.env := by rfl) :
    VE X w (.Call (.Attribute (.Name x p) "pop" apos) [e] [] pos) (dPopAt i fi) :=
  PE.imp (pe_bm PySem.F.plainAttrs_list PySem.F.slot_list_pop PySem.F.type_list_pop mt_popAt (pe_var hN hv hd hcd) (pa_cons hk pa_nil hs) hbase hfew hline hs (by rfl)) fun σ H Q ⟨G, ρ, rel, h⟩ => by
    obtain ⟨o, s, ⟨vs, ho⟩, h⟩ := Fn.mine rel h
    refine ⟨.ref o, s, .inl ⟨rfl, vs, .inl (.inl ho)⟩, G, ρ, rel, h.imp fun G1 H1 ρ1 y ⟨l, ds, e1, m, r3, s3, h3⟩ v hv => ?_⟩
    obtain ⟨o', ws, s', go, hw, hd⟩ := r3.mine e1 m
    rw [s] at s'; cases s'
    cases hv with
    | int k =>
      have h4 : Fn X.K w G1 H1 σ ρ1 (if -(2 ^ 62) ≤ k ∧ k < 2 ^ 62 then match ixN ds.length k with
        | some j => match ds[j]? with
          | some d => R.ok d (ρ1.set i (some (l.put (ds.eraseIdx j))))
          | none => .no
        | none => .no
        else .no) (QD X.K Q) := h3
      split at h4
      · rename_i hc
        cases q : ixN ds.length k with
        | none => rw [q] at h4; exact h4.elim
        | some j =>
          rw [q] at h4
          have h5 : Fn X.K w G1 H1 σ ρ1 (match ds[j]? with | some d => R.ok d (ρ1.set i (some (l.put (ds.eraseIdx j)))) | none => .no) (QD X.K Q) := h4
          cases q2 : ds[j]? with
          | none => rw [q2] at h5; exact h5.elim
          | some d =>
            rw [q2] at h5
            obtain ⟨z, ez, hz⟩ := hd.get q2
            obtain ⟨r4, s4⟩ := r3.change e1 m s (hd.erase j)
            have hq := (ixN_seq q).1
            exact ⟨o, ws, k, j, z, rfl, rfl, hw, by omega, by omega, by rw [hd.length]; exact hq, ez, h5 _ _ r4 s4 z hz⟩
      · exact h4.elim
    | _ => exact h3.elim
/-- x.clear() -/
def dClear (i : Nat) : En → R Fl := atMine i (fun ρ => .ok () ρ) fun l _ _ ρ => .ok .nx (ρ.set i (some (l.put [])))
theorem vs_clear (i : Nat) (hN : X.N[i]? = some x := by rfl) (hv : Vis X.env.scope x := by first | exact Or.inl rfl | exact Or.inr (Or.inl rfl) | exact Or.inr (Or.inr rfl)) (hd : (x == ("__debug__" : Str)) = false := by decide) (hcd : (x == ("__classdict__" : Str)) = false := by decide)
    (hbase : attributeBase (.Name x p) "clear" X.env (eval (.Name x p) X.env) = eval (.Name x p) X.env := by rfl) (hline : (apos.endLine == pos.line) = true := by rfl)
    (hsw : swapsWith (.Call (.Attribute (.Name x p) "clear" apos) [] [] pos) none pos2.line X.env = pure false := by rfl) :
    VS X w (.Expr (.Call (.Attribute (.Name x p) "clear" apos) [] [] pos) pos2) (dClear i) :=
  PS.imp (ps_expr (pe_bm0 PySem.F.plainAttrs_list PySem.F.slot_list_clear PySem.F.type_list_clear mt_clear (pe_var hN hv hd hcd) hbase hline) hsw) fun Z σ H ⟨G, ρ, rel, h⟩ => by
    obtain ⟨o, s, ⟨vs, ho⟩, h⟩ := FnS.mine rel h
    obtain ⟨l, ds, e1, m, r3, s3, h3⟩ := h.ok rel
    obtain ⟨o', ws, s', go, hw, hd⟩ := r3.mine e1 m
    rw [s] at s'; cases s'
    obtain ⟨r4, s4⟩ := r3.change (es := []) e1 m s (vs := []) .nil
    exact ⟨.ref o, s, .inl ⟨rfl, vs, .inl (.inl ho)⟩, o, ws, rfl, rfl, hw, FnS.nx (show FnS X.K w G H σ ρ (.ok .nx (ρ.set i (some (l.put [])))) Z from h3) r4 s4⟩
end
/-! reckoning -/
def insK (k : D) (l : L) (ds : List D) (d : D) (i : Nat) (ρ : En) : R Fl := match k with
  | .int k => if ds.length < sizeLine ∧ 0 ≤ k ∧ k < 2 ^ 62 then .ok .nx (ρ.set i (some (l.put (ds.take k.toNat ++ [d] ++ ds.drop k.toNat)))) else .no
  | _ => .no
theorem insK_of {k : Nat} {l : L} {ds : List D} {d : D} {i : Nat} {ρ : En} (h : ds.length < sizeLine) (hk : k ≤ 1000000) : insK (.int (k : Int)) l ds d i ρ = .ok .nx (ρ.set i (some (l.put (ds.take k ++ [d] ++ ds.drop k)))) := by
  unfold insK
  show (if _ then _ else _) = _
  rw [if_pos ⟨h, by omega, by omega⟩, Int.toNat_natCast]
@[simp] theorem dIns_eq (i : Nat) (fi fe : En → R D) (ρ : En) : dIns i fi fe ρ = mineK ρ[i]? fun _ _ => (fi ρ).bind fun a ρ1 => (fe ρ1).bind fun b ρ2 => mineK ρ2[i]? fun l ds => insK a l ds b i ρ2 := by
  unfold dIns
  rw [atMine_eq]
  congr 1
  funext _ _
  cases fi ρ with
  | ok a ρ1 =>
    show ((fe ρ1).bind fun b ρ2 => R.ok (a, b) ρ2).bind _ = (fe ρ1).bind _
    cases fe ρ1 with
    | ok b ρ2 => rfl
    | _ => rfl
  | _ => rfl
def popK (o : Option D) (l : L) (es : List D) (i : Nat) (ρ : En) : R D := match o with
  | some d => .ok d (ρ.set i (some (l.put es)))
  | none => .no
@[simp] theorem popK_some (d : D) (l : L) (es : List D) (i : Nat) (ρ : En) : popK (some d) l es i ρ = .ok d (ρ.set i (some (l.put es))) := rfl
@[simp] theorem dPop_eq (i : Nat) (ρ : En) : dPop i ρ = mineK ρ[i]? fun _ _ => mineK ρ[i]? fun l ds => popK ds[ds.length - 1]? l ds.dropLast i ρ := by
  unfold dPop
  rw [atMine_eq]
  rfl
@[simp] theorem dClear_eq (i : Nat) (ρ : En) : dClear i ρ = mineK ρ[i]? fun _ _ => mineK ρ[i]? fun l _ => .ok .nx (ρ.set i (some (l.put []))) := by
  unfold dClear
  rw [atMine_eq]
  rfl
end Dn
/-! max(xs, default=d): the kit's walk of max, turned to the call with that keyword -/
namespace DnMax
open PySem PySem.Spec
open Sem (wp)
section
variable {prog : Program} {w : World} {A : Around} {R : Result → Shared → Prop} {I : Addr} {fp wr : List Addr} {n : Nat} {P : Nat → Value → Prop} {St : Nat → Heap → Prop} {dv : Value}
abbrev kwD (dv : Value) : List (Str × Value) := [(Str.ofString "default", dv)]
theorem loop (W : Walks prog w A.in1 I fp wr n P St) (bt : Nat → Nat → Bool) (hcmp : CmpOf prog w A.in1 .Gt P bt) (S : Addr) (hSf : S ∉ fp) :
    ∀ (k j : Nat) (s : Shared) (vb : Value) (c : Nat), n - (j + 1) = k → j + 1 ≤ n → St (j + 1) s.heap → P (argBest bt j) vb →
    s.heap.get? S = some { cls := .type "list", dict := none, data := .seq #[vb, vb] c, slots := #[] } →
    (∀ v h' tk, P (argBest bt (n - 1)) v → (∀ b o, b ∉ wr → b ≠ S → s.heap.get? b = some o → h'.get? b = some o) → R (.ok (.ret v)) { s with heap := h', toks := tk }) →
    codeAny (model prog w) A (.builtin "max.loop" ⟨[.ref I, .none, .ref S], kwD dv⟩) R s := by
  have hSw : S ∉ wr := fun h => hSf (W.sub _ h)
  have hname : (toString "max" ++ toString ".loop" : String) = "max.loop" := by decide
  intro k
  induction k with
  | zero =>
    intro j s vb c hk hj hst hPb hS hR
    have hin : j + 1 = n := by omega
    refine codeAny_builtin F.entry_max_loop ?_
    rw [Around.under_plainId F.plain_max_loop _]
    show wpAny _ A.in1 (seqItems? (.ref S) >>= _) _ _ s
    refine wpAny_bind (wpAny_seqItems hS rfl ?_)
    show wpAny _ A.in1 (tryCatch (pyNext (.ref I)) _ >>= _) _ _ s
    refine wpAny_bind (wpAny_tryCatch (W.done s _ _ (hin ▸ hst) fun h' tk hk' => ?_))
    have hS' := hk' S _ hSw hS
    show wpAny _ A.in1 (updateSeq S (fun _ => #[]) >>= _) _ _ _
    refine wpAny_bind ?_
    refine wpAny_updateSeq hS' rfl (wpAny_bind (wpAny_letGo (wpAny_pure ?_)))
    refine hR vb _ tk (by rw [← hin]; exact hPb) fun b o hbw hbS e => (Heap.get?_update_other _ _ (Ne.symm hbS)).trans (hk' b o hbw e)
  | succ k ih =>
    intro j s vb c hk hj hst hPb hS hR
    have hlt : j + 1 < n := by omega
    refine codeAny_builtin F.entry_max_loop ?_
    rw [Around.under_plainId F.plain_max_loop _]
    show wpAny _ A.in1 (seqItems? (.ref S) >>= _) _ _ s
    refine wpAny_bind (wpAny_seqItems hS rfl ?_)
    show wpAny _ A.in1 (tryCatch (pyNext (.ref I)) _ >>= _) _ _ s
    refine wpAny_bind (wpAny_tryCatch (W.item (j + 1) s _ _ hlt hst fun v h' tk hP hst' hk' => ?_))
    have hS' := hk' S _ hSw hS
    show wpAny _ A.in1 (tryCatch (holding [v, v] (richCompare .Gt v vb >>= _)) _ >>= _) _ _ _
    refine wpAny_bind (wpAny_tryCatch (wpAny_holding (wpAny_bind (hcmp (j + 1) (argBest bt j) v vb _ _ _ hP hPb ?_))))
    refine wpAny_bind (wpAny_holding (wpAny_truthy_bool ?_))
    refine wpAny_bind (wpAny_letGo (wpAny_pure ?_))
    cases hb : bt (j + 1) (argBest bt j) with
    | true =>
      simp only [if_true]
      refine wpAny_bind ?_
      refine wpAny_updateSeq hS' rfl (wpAny_bind (wpAny_letGo ?_))
      rw [hname]
      refine wpAny_pure ⟨plainId_quiet F.plain_max_loop _, ih (j + 1) _ v _ (by omega) hlt (W.frame _ _ _ hst' fun b hbf o e => ?_) (by simp only [argBest, hb, if_true]; exact hP) (Heap.get?_update_self _ hS' rfl)
        fun v' h'' tk'' hP' hk'' => ?_⟩
      · exact (Heap.get?_update_other _ _ (fun h : S = b => hSf (by rw [h]; exact hbf))).trans e
      · exact hR v' h'' tk'' hP' fun b o hbw hbS e => hk'' b o hbw hbS ((Heap.get?_update_other _ _ (Ne.symm hbS)).trans (hk' b o hbw e))
    | false =>
      simp only [Bool.false_eq_true, if_false]
      refine wpAny_bind (wpAny_letGo ?_)
      rw [hname]
      refine wpAny_pure ⟨plainId_quiet F.plain_max_loop _, ih (j + 1) _ vb c (by omega) hlt hst' (by simp only [argBest, hb, Bool.false_eq_true, if_false]; exact hPb) hS' fun v' h'' tk'' hP' hk'' => ?_⟩
      exact hR v' h'' tk'' hP' fun b o hbw hbS e => hk'' b o hbw hbS (hk' b o hbw e)
theorem first (W : Walks prog w A.in1 I fp wr n P St) (bt : Nat → Nat → Bool) (hcmp : CmpOf prog w A.in1 .Gt P bt) (S : Addr) (hSf : S ∉ fp) {s : Shared} {c : Nat} (hst : St 0 s.heap)
    (hS : s.heap.get? S = some { cls := .type "list", dict := none, data := .seq #[] c, slots := #[] })
    (h0 : n = 0 → ∀ h' tk, (∀ b o, b ∉ wr → b ≠ S → s.heap.get? b = some o → h'.get? b = some o) → R (.ok (.ret dv)) { s with heap := h', toks := tk })
    (hR : 0 < n → ∀ v h' tk, P (argBest bt (n - 1)) v → (∀ b o, b ∉ wr → b ≠ S → s.heap.get? b = some o → h'.get? b = some o) → R (.ok (.ret v)) { s with heap := h', toks := tk }) :
    codeAny (model prog w) A (.builtin "max.loop" ⟨[.ref I, .none, .ref S], kwD dv⟩) R s := by
  have hSw : S ∉ wr := fun h => hSf (W.sub _ h)
  have hname : (toString "max" ++ toString ".loop" : String) = "max.loop" := by decide
  refine codeAny_builtin F.entry_max_loop ?_
  rw [Around.under_plainId F.plain_max_loop _]
  show wpAny _ A.in1 (seqItems? (.ref S) >>= _) _ _ s
  refine wpAny_bind (wpAny_seqItems hS rfl ?_)
  show wpAny _ A.in1 (tryCatch (pyNext (.ref I)) _ >>= _) _ _ s
  by_cases hn : 0 < n
  · refine wpAny_bind (wpAny_tryCatch (W.item 0 s _ _ hn hst fun v h' tk hP hst' hk' => ?_))
    have hS' := hk' S _ hSw hS
    show wpAny _ A.in1 (updateSeq S (fun _ => #[v, v]) >>= _) _ _ _
    refine wpAny_bind ?_
    refine wpAny_updateSeq hS' rfl ?_
    rw [hname]
    refine wpAny_pure ⟨plainId_quiet F.plain_max_loop _, loop W bt hcmp S hSf _ 0 _ v _ rfl hn (W.frame _ _ _ hst' fun b hbf o e => ?_) hP (Heap.get?_update_self _ hS' rfl) fun v' h'' tk'' hP' hk'' => ?_⟩
    · exact (Heap.get?_update_other _ _ (fun h : S = b => hSf (by rw [h]; exact hbf))).trans e
    · exact hR hn v' h'' tk'' hP' fun b o hbw hbS e => hk'' b o hbw hbS ((Heap.get?_update_other _ _ (Ne.symm hbS)).trans (hk' b o hbw e))
  · have hz : 0 = n := by omega
    refine wpAny_bind (wpAny_tryCatch (W.done s _ _ (hz ▸ hst) fun h' tk hk' => ?_))
    show wpAny _ A.in1 (rule _ >>= _) _ _ _
    refine wpAny_bind (wpAny_rule (wpAny_pure ?_))
    exact h0 hz.symm h' tk fun b o hbw _ e => hk' b o hbw e
end
end DnMax
namespace DnMax
open PySem PySem.Spec
open Sem (wp)
theorem args_maxD (a d : Value) : argsOk "max" ⟨[a], kwD d⟩ := by unfold argsOk; kernel_rfl
section
variable {prog : Program} {w : World} {A : Around} {E : Value → Shared → Prop} {s : Shared} {dv : Value}
theorem call_walk {x : Value} {Q : Value → Shared → Prop}
    (h : wpAny (model prog w) A.in1 (pyIter x) (fun it s₂ => ∃ I fp wr n P St bt, it = .ref I ∧ Walks prog w A.in1 I fp wr n P St ∧ St 0 s₂.heap ∧ (∀ b ∈ fp, b < s₂.heap.objs.size) ∧ CmpOf prog w A.in1 .Gt P bt ∧
      (n = 0 → ∀ h' tk, (∀ b o, b ∉ wr → s₂.heap.get? b = some o → h'.get? b = some o) → Q dv { s₂ with heap := h', toks := tk }) ∧
      (0 < n → ∀ v h' tk, P (argBest bt (n - 1)) v → (∀ b o, b ∉ wr → s₂.heap.get? b = some o → h'.get? b = some o) → Q v { s₂ with heap := h', toks := tk })) E s) :
    wpAny (model prog w) A (call (.builtin "max") [x] (kwD dv)) Q E s := by
  have hname : (toString "max" ++ toString ".loop" : String) = "max.loop" := by decide
  have hc : wpAny (model prog w) A.in1 (Builtin.«max» ⟨[x], kwD dv⟩) (fun fin s' => match fin with
      | .done f => (match (Except.ok f : Result) with | .ok (.ret v) => Q v s' | .ok _ => False | .error e => E e s')
      | .again c' => c'.quiet = true ∧ codeAny (model prog w) A c' (fun r s' => match r with | .ok (.ret v) => Q v s' | .ok _ => False | .error e => E e s') s') E s := by
    show wpAny _ A.in1 (Builtin.Builtins.bindParams "max" ["key", "default"] 0 ⟨[], kwD dv⟩ >>= _) _ _ s
    refine wpAny_bind (wpAny_of_eq (show Builtin.Builtins.bindParams "max" ["key", "default"] 0 ⟨[], kwD dv⟩ = pure [none, some dv] from rfl) ?_)
    refine wpAny_bind (wpAny_pure ?_)
    refine wpAny_bind (wpAny_mono h (fun it s₂ h₂ => ?_) fun _ _ e => e)
    obtain ⟨I, fp, wr, n, P, St, bt, rfl, W, hst, hfp, hcmp, hQ0, hQ⟩ := h₂
    refine wpAny_bind (wpAny_newObj_type ?_)
    have hSf : s₂.heap.objs.size ∉ fp := fun hm => Nat.lt_irrefl _ (hfp _ hm)
    rw [hname]
    refine wpAny_pure ⟨plainId_quiet F.plain_max_loop _, first W bt hcmp s₂.heap.objs.size hSf (W.frame _ _ _ hst fun b _ o e => Heap.get?_push_of_some _ e) (Heap.get?_push_size _ rfl) (fun hn h' tk hk => ?_) (fun hn v h' tk hP hk => ?_)⟩
    · exact hQ0 hn h' tk fun b o hbw e => hk b o hbw (Nat.ne_of_lt (Heap.lt_size e)) (Heap.get?_push_of_some _ e)
    · exact hQ hn v h' tk hP fun b o hbw e => hk b o hbw (Nat.ne_of_lt (Heap.lt_size e)) (Heap.get?_push_of_some _ e)
  have ha := args_maxD x dv
  refine wpAny_call (codeAny_call_builtin F.plain_max F.entry_max ?_)
  simp only [checkBuiltinCall, F.kind_max]
  cases hsig : Manifest.signature? "max" with
  | none => exact wpAny_pure hc
  | some sig =>
    simp only [argsOk, hsig] at ha
    have h2 : Bind.checkArgs "max" sig ⟨[x], kwD dv⟩ = pure () := ha
    show wpAny _ A.in1 (Bind.checkArgs "max" sig ⟨[x], kwD dv⟩) _ _ s
    rw [h2]; exact wpAny_pure hc
end
end DnMax
namespace Dn
open PySem PySem.Spec PyProof.Rows L2
/-- max(xs, default=d) of a list of ints -/
def rMaxDf (K : PySem.W.Frag) : List V → List V → Hp → VK → Prop := fun vs zs H Q => ∃ (a : Addr) (ns : List Int) (z : V), vs = [V.ref a] ∧ zs = [z] ∧ SqL K H a (ns.map V.int) ∧ (ns = [] → Q z H) ∧ ∀ m, m ∈ ns → (∀ y, y ∈ ns → y ≤ m) → Q (.int m) H
theorem cr_maxDf {X : Cx} (hc : X.calm = true) : CallRK X (.builtin "max") [Str.ofString "default"] (rMaxDf X.K) := by
  intro pins s σ H vs zs us ws Q I r rz h
  obtain ⟨a, ns, z, rfl, rfl, hs, q0, q⟩ := h
  obtain ⟨its, rv, hl, _⟩ := I.list hs
  rw [Vals.ref1 r]
  obtain ⟨dv, rfl, rd⟩ := vals1 rz
  have hi := rv.ints
  obtain ⟨xs, e⟩ := hi.allInts.items
  have hn : numsOf (intItems xs).toList = ns := by rw [← e]; exact hi.numsOf
  rw [nums_intItems] at hn
  subst hn
  have hl' := hl.isList
  rw [e] at hl'
  show wpAny _ _ (call (.builtin "max") [.ref a] (DnMax.kwD dv)) _ _ s
  refine DnMax.call_walk (iter_intList hl' fun s₂ e2 st hfp hlI => ?_)
  subst e2
  refine ⟨_, _, _, _, _, _, _, rfl, Walks.list (A := X.A.in1) (I.ok.hd hc) _ a hlI (intItems xs), st, hfp, CmpOf.ints_gt (numAt xs) (fun _ _ => intItems_at), fun h0 h' tk hk => ?_, fun hn0 v h' tk hP hk => ?_⟩
  · have hz : xs.size = 0 := by simpa [intItems] using h0
    refine ⟨z, H, I.kept (old_kept hk), rd, q0 ?_⟩
    apply List.eq_nil_of_length_eq_zero
    rw [List.length_map, Array.length_toList, hz]
  · have hz : 0 < xs.size := by simpa [intItems] using hn0
    have hP' : (intItems xs)[argBest (fun i j => decide (numAt xs i > numAt xs j)) (xs.size - 1)]? = some v := by simpa [intItems] using hP
    obtain ⟨t, rfl⟩ := intItems_at hP'
    obtain ⟨h1, h2⟩ := argBest_gt (numAt xs) (xs.size - 1)
    refine ⟨.int _, H, I.kept (old_kept hk), ⟨_, rfl⟩, q _ ?_ fun y hy => ?_⟩
    · rw [numAt_eq]; exact PySem.getD_mem (by rw [List.length_map, Array.length_toList]; omega)
    · obtain ⟨j, hj, rfl⟩ := mem_getD hy
      rw [List.length_map, Array.length_toList] at hj
      rw [← numAt_eq]; exact h2 j (by omega)
def gMaxDf : D → D → Option D
  | .list ds, z => (allOf asInt ds).bind fun ns => some (match ns.max? with | some m => .int m | none => z)
  | _, _ => none
section
variable {X : Cx} {w : Wh} {p pos kpos : Pos} {e d : Expr} {fe fd : En → R D}
theorem ve_maxDf (hc : X.calm = true) (hg : Gl X "max") (hm : X.mg "max" = none) (he : VE X w e fe) (hd : VE X w d fd)
    (hs : starEach [e] X.env = (false, eval e X.env) :: starEach [] X.env := by rfl) (hpl : (backTo pos (starEach [e] X.env)).any (·.1) = false := by rfl) (hb : backTo pos (starEach [e] X.env) = (false, eval e X.env) :: backTo pos (starEach [] X.env) := by rfl)
    (hall : (backToKw pos (keywordEach [⟨some (Str.ofString "default"), d, kpos⟩] X.env)).all (·.1.isSome) = true := by rfl) (hnone : (backToKw pos (keywordEach [⟨some (Str.ofString "default"), d, kpos⟩] X.env)).any (·.1.isNone) = false := by rfl) (hks : (backToKw pos (keywordEach [⟨some (Str.ofString "default"), d, kpos⟩] X.env)).filterMap (·.1) = [Str.ofString "default"] := by rfl) :
    VE X w (.Call (.Name "max" p) [e] [⟨some (Str.ofString "default"), d, kpos⟩] pos) (dOp gMaxDf fe fd) :=
  PE.imp (pe_callBK (cr_maxDf hc) hg hm boot_B_max (pa_cons he pa_nil hs) (pk_cons hd pk_nil) (by decide) (by decide) hb hpl hall hnone hks) fun σ H Q ⟨G, ρ, rel, h⟩ => ⟨G, ρ, rel, (Fn.bind rel h).imp fun G1 H1 ρ1 dx ⟨r1, s1, h1⟩ x hx => ⟨G1, ρ1, r1, (Fn.bind r1 h1).imp fun G2 H2 ρ2 dz ⟨r2, s2, h2⟩ z hz => by
    obtain ⟨dd, e1, q⟩ := Fn.lift h2
    cases dx with
    | list ds =>
      simp only [gMaxDf, Option.bind_eq_some_iff] at e1
      obtain ⟨ns, e1, e2⟩ := e1
      cases e2
      obtain ⟨a, vs, rfl, hl, hds⟩ := (hx.mono s2.g).lst'
      rw [mapM_ints e1] at hds
      rw [hds.ints] at hl
      refine ⟨a, ns, z, rfl, rfl, r2.sub.seq hl, fun hn => ?_, fun k hk hle => ?_⟩
      · subst hn
        exact q _ _ r2 Stp.refl _ hz
      · have hm : ns.max? = some k := by
          rw [List.max?_eq_some_iff]
          exact ⟨hk, fun b hb => hle b hb⟩
        rw [hm] at q
        exact q _ _ r2 Stp.refl _ (.int _)
    | _ => cases e1⟩⟩
end
@[simp] theorem gMaxDf_list (ds : List D) (z : D) : gMaxDf (.list ds) z = (allOf asInt ds).bind fun ns => some (match ns.max? with | some m => .int m | none => z) := rfl
end Dn
namespace Dn
open PySem PySem.Spec PyProof.Rows L2
section
variable {X : Cx} {w : Wh} {pos p p2 : Pos} {e a b : Expr} {fe fa fb : En → R D}
/-! {} -/
theorem ve_dict0 : VE X w (.Dict [] [] pos) (dC (.dict [])) := PE.imp pe_dnewK fun σ H Q ⟨G, ρ, rel, h⟩ =>
  hand_new rel (fun G' H' r s v hv => h G' H' r s v hv) fun q hq => by
    have := DR.dic (K := X.K) (H := upd G q (.dK [])) (a := q) (kvs := []) (ds := []) upd_same .nil
    exact this
/-! == () of a tuple of any things -/
def gEqT (a b : D) : Option Bool := match gEq a b with
  | some r => some r
  | none => match a, b with
    | .tuple xs, .tuple [] => some xs.isEmpty
    | _, _ => none
def gNeT (a b : D) : Option Bool := (gEqT a b).map (!·)
def rEqT0 (K : PySem.W.Frag) : R2 := fun x y H Q => ∃ l m xs, x = .ref l ∧ y = .ref m ∧ SqT K H l xs ∧ SqT K H m [] ∧ Q (.bl xs.isEmpty) H
theorem op_eqT0 (hu : X.A.units + 64 < cLine) : OpR X (compareOp .Eq) (rEqT0 X.K) := by
  intro pins s σ H x y v u Q I rx ry h
  obtain ⟨l, m, xs, rfl, rfl, h1, h2, q⟩ := h
  cases rx
  cases ry
  obtain ⟨its, r, pl, _⟩ := I.tuple h1
  obtain ⟨its2, r2, pl2, _⟩ := I.tuple h2
  cases r2
  refine SeqAt.eq_tupleAt (e := fun _ => true) pl pl2 (by omega) (fun j _ h2 => by simp at h2) ⟨.bl xs.isEmpty, H, I, ?_, q⟩
  have : xs.length = its.length := r.length
  show Value.bool _ = Value.bool _
  congr 1
  cases xs with
  | nil => cases its with
    | nil => rfl
    | cons _ _ => cases this
  | cons _ _ => cases its with
    | nil => cases this
    | cons _ _ => rfl
theorem op_eqT (hu : X.A.units + 64 < cLine) : OpR X (compareOp .Eq) (fun x y H Q => rEqD X.K x y H Q ∨ rEqT0 X.K x y H Q) := (op_eqD hu).or (op_eqT0 hu)
theorem ob_eqT : OpB X.K (fun x y H Q => rEqD X.K x y H Q ∨ rEqT0 X.K x y H Q) gEqT := fun x y dx dy b H Q hx hy e q => by
  unfold gEqT at e
  cases q1 : gEq dx dy with
  | some r =>
    rw [q1] at e; cases e
    exact .inl (ob_eq x y dx dy b H Q hx hy q1 q)
  | none =>
    rw [q1] at e
    cases dx with
    | tuple xs =>
      cases dy with
      | tuple ys =>
        cases ys with
        | nil =>
          cases e
          cases hx with
          | tup hq hs =>
            cases hy with
            | tup hq2 hs2 =>
              cases hs2
              refine .inr ⟨_, _, _, rfl, rfl, hq, hq2, ?_⟩
              rw [hs.emp]; exact q
        | cons _ _ => cases e
      | _ => cases e
    | _ => cases dy <;> cases e
@[simp] theorem gEqT_nil (xs : List D) : gEqT (.tuple xs) (.tuple []) = some xs.isEmpty := by
  unfold gEqT
  cases q : gEq (.tuple xs) (.tuple []) with
  | none => rfl
  | some r =>
    unfold gEq at q
    split at q
    · cases q
      cases xs <;> simp [PyData.eqv, PyData.eqvAll]
    · cases q
/-! xs[::-1] -/
def gRev : D → Option D
  | .list ds => some (.list ds.reverse)
  | _ => none
theorem ve_rev {k : Nat} {p1 p2 p3 : Pos} (he : VE X w e fe) : VE X w (.Subscript e (.Slice none none (some (.UnaryOp .USub (.Constant (.int 1) k p1) p2)) p3) pos) (d1 gRev fe) :=
  PE.imp (pe_revL he) fun σ H Q ⟨G, ρ, rel, h⟩ => ⟨G, ρ, rel, (Fn.bind rel h).imp fun G1 H1 ρ1 dx ⟨r1, s1, h1⟩ x hx => by
    obtain ⟨d, e, q⟩ := Fn.lift h1
    cases hx with
    | @lst a xs ds hq hds =>
      cases e
      exact ⟨a, xs, rfl, r1.sub.seq hq, hand_new r1 q (DR.newL r1 hds.reverse)⟩
    | _ => cases e⟩
/-! text * int -/
def repS (a : Str) (n : Int) : Str := if n < 1 then Str.empty else if (n == 1 || a.length == 0) = true then a else ⟨(List.replicate n.toNat a.cps).foldl (· ++ ·) #[]⟩
def gMulS : D → D → Option D
  | .str a, .int n => if 0 ≤ n ∧ n ≤ 10000 ∧ a.length ≤ 1000 then some (.str (repS a n)) else none
  | _, _ => none
def rMulS : R2 := fun x y H Q => ∃ a n, x = .str a ∧ y = .int n ∧ (0 ≤ n ∧ n ≤ 10000 ∧ a.length ≤ 1000) ∧ Q (.str (repS a n)) H
theorem rep_fold {α : Type} (c : Array α) : ∀ (k : Nat) (z : Array α), (List.replicate k c).foldl (· ++ ·) z = z ++ (List.replicate k c.toList).flatten.toArray
  | 0, z => by simp
  | k + 1, z => by
    rw [List.replicate_succ, List.foldl_cons, rep_fold c k, List.replicate_succ, List.flatten_cons]
    apply Array.ext'
    simp
theorem rep_size {α : Type} (c : Array α) (k : Nat) : ((List.replicate k c).foldl (· ++ ·) #[]).size = k * c.size := by
  rw [rep_fold]
  simp
theorem op_mulS : OpR X (binaryOp .Mult) rMulS := by
  intro pins s σ H x y v u Q I rx ry h
  obtain ⟨a, n, rfl, rfl, ⟨h0, h1, h2⟩, q⟩ := h
  obtain ⟨t, rfl⟩ := rx
  obtain ⟨t', rfl⟩ := ry
  have hm : a.length * n.toNat ≤ 10000000 := by
    have : a.length * n.toNat ≤ 1000 * 10000 := Nat.mul_le_mul h2 (by omega)
    omega
  have tl : ∀ m : Nat, m ≤ 10000000 → Builtin.Str.tooLong m = false := fun m hm => by
    unfold Builtin.Str.tooLong
    exact decide_eq_false (by have := PySem.sizeLine_eq; omega)
  refine P.mul_str (by simp; omega) (fun h3 _ => ?_) (fun _ _ => tl _ hm) ?_
  · have : (a.length : Int) ≤ (2 ^ 63 - 1) / n := by
      rw [Int.le_ediv_iff_mul_le (by omega)]
      have : (a.length : Int) * n ≤ 1000 * 10000 := Int.mul_le_mul (by omega) h1 h0 (by decide)
      omega
    omega
  · unfold repS at q
    split
    · rw [if_pos (by assumption)] at q
      exact ⟨Nat.zero_le _, .str Str.empty, H, I.tok _, ⟨_, rfl⟩, q⟩
    · rw [if_neg (by assumption)] at q
      split
      · rw [if_pos (by assumption)] at q
        exact ⟨.str a, H, I, ⟨_, rfl⟩, q⟩
      · rw [if_neg (by assumption)] at q
        refine ⟨?_, .str _, H, I.tok _, ⟨_, rfl⟩, q⟩
        have := PySem.sizeLine_eq
        show Array.size _ ≤ _
        rw [rep_size]
        have e : a.cps.size = a.length := rfl
        rw [e, Nat.mul_comm]
        simp
        omega
theorem gMulS_S {a : List Nat} {n : Nat} (h : n ≤ 10000) (h2 : a.length ≤ 1000) : gMulS (.str (SX.S a)) (.int (n : Int)) = some (.str (SX.S (List.replicate n a).flatten)) := by
  show (if _ then _ else _) = _
  rw [if_pos ⟨by omega, by omega, by rw [SX.S_len]; exact h2⟩]
  congr 2
  unfold repS
  by_cases h0 : n = 0
  · subst h0; rfl
  · rw [if_neg (by omega)]
    split
    · rename_i h1
      simp only [Bool.or_eq_true, beq_iff_eq] at h1
      rcases h1 with h1 | h1
      · have : n = 1 := by omega
        subst this; simp
      · rw [SX.S_len] at h1
        have : a = [] := List.length_eq_zero_iff.mp h1
        subst this
        congr 1
        induction n with
        | zero => rfl
        | succ n ih => simp
    · rw [Int.toNat_natCast]
      show (⟨_⟩ : Str) = _
      rw [rep_fold]
      apply congrArg Str.mk
      apply Array.ext'
      simp [SX.S]
theorem os_mulS {K : PySem.W.Frag} : OpS K rMulS gMulS := by
  intro w x y dx dy d G H σ ρ Q r hx hy e q
  cases dx with
  | str a =>
    cases dy with
    | int n =>
      simp only [gMulS] at e
      split at e
      · cases e; cases hx; cases hy
        exact ⟨a, n, rfl, rfl, by assumption, q _ _ r Stp.refl _ (.str _)⟩
      · cases e
    | _ => cases e
  | _ => cases dy <;> cases e
theorem ve_mulS (ha : VE X w a fa) (hb : VE X w b fb) : VE X w (.BinOp a .Mult b pos) (dOp gMulS fa fb) := ve_op op_mulS os_mulS ha hb
end
end Dn
/-! len(set(texts)), any number of texts -/
namespace DnSet
open PySem PySem.Spec PyProof.Rows
def add1 (σ : List Str) (v : Str) : List Str := if σ.any (· == v) = true then σ else σ ++ [v]
def met (xs : List Str) (i : Nat) : List Str := (xs.take i).foldl add1 []
theorem met_succ {xs : List Str} {i : Nat} (h : i < xs.length) : met xs (i + 1) = add1 (met xs i) (xs.getD i Str.empty) := by
  unfold met
  rw [List.take_succ, List.foldl_append, List.getElem?_eq_getElem h]
  rw [show xs.getD i Str.empty = xs[i] by simp [h]]
  rfl
theorem add1_any (σ : List Str) (v k : Str) : (add1 σ v).any (· == k) = (σ.any (· == k) || decide (k = v)) := by
  unfold add1
  by_cases h : σ.any (· == v) = true
  · rw [if_pos h]
    by_cases e : k = v
    · subst e; rw [h]; simp
    · simp [e]
  · rw [if_neg h, List.any_append]
    by_cases e : k = v
    · subst e; simp
    · have hb : (v == k) = false := by simpa [beq_iff_eq] using (fun h' : v = k => e h'.symm)
      simp [hb, e]
theorem add1_len (σ : List Str) (v : Str) : (add1 σ v).length = if σ.any (· == v) = true then σ.length else σ.length + 1 := by
  unfold add1; split <;> simp
theorem met_le (xs : List Str) : ∀ i, i ≤ xs.length → (met xs i).length ≤ i
  | 0, _ => by simp [met]
  | i + 1, h => by
    have ih := met_le xs i (by omega)
    rw [met_succ (by omega), add1_len]
    split <;> omega
section
variable {prog : Program} {w : World} {A : Around} {R : Result → Shared → Prop} {I : Addr} {fp wr : List Addr} {G : Array GenState → Array GenState → Prop} {n : Nat} {P : Nat → Value → Prop} {St : Nat → Shared → Prop}
theorem fill (W : WalksS prog w A.in1 I fp wr G n P St) (S : Addr) (hSf : S ∉ fp) (xs : List Str) (hsz : xs.length = n) (hn : n + 1 < scanBound) (hval : ∀ i v, P i v → ∃ t, v = .str (xs.getD i Str.empty) t) :
    ∀ (k i : Nat) (s : Shared), n - i = k → i ≤ n → St i s → s.heap.SetOf (PySem.strKind prog w) S (fun k' => (met xs i).any (· == k')) (met xs i).length →
      (∀ s', Moved (S :: wr) G s s' → s'.heap.SetOf (PySem.strKind prog w) S (fun k' => (met xs n).any (· == k')) (met xs n).length → R (.ok (.ret .none)) s') →
      codeAny (model prog w) A (.builtin "set.update.loop" ⟨[.ref S, .ref I], []⟩) R s := by
  have hSw : S ∉ wr := fun h => hSf (W.sub _ h)
  have hsub : ∀ b ∈ wr, b ∈ S :: wr := fun b hb => List.mem_cons_of_mem _ hb
  intro k
  induction k with
  | zero =>
    intro i s hk hi hst hS hR
    obtain rfl : i = n := by omega
    refine codeAny_builtin PyProof.Rows.F.entry_set_update_loop ?_
    rw [Around.under_plainId PyProof.Rows.F.plain_set_update_loop _]
    show wpAny _ A.in1 (pyNext (.ref I) >>= _) _ _ s
    refine wpAny_bind (W.done s _ _ hst fun s' hm => ?_)
    show wpAny _ A.in1 (ret Value.none) _ _ s'
    obtain ⟨o, es, ep, t, ho, rest⟩ := hS
    exact wpAny_pure (hR s' (hm.mono hsub) ⟨o, es, ep, t, hm.heap S _ hSw ho, rest⟩)
  | succ k ih =>
    intro i s hk hi hst hS hR
    have hlt : i < n := by omega
    refine codeAny_builtin PyProof.Rows.F.entry_set_update_loop ?_
    rw [Around.under_plainId PyProof.Rows.F.plain_set_update_loop _]
    show wpAny _ A.in1 (pyNext (.ref I) >>= _) _ _ s
    refine wpAny_bind (W.item i s _ _ hlt hst fun v s' hP hst' hm => ?_)
    obtain ⟨t, rfl⟩ := hval i v hP
    have hS' : s'.heap.SetOf (PySem.strKind prog w) S (fun k' => (met xs i).any (· == k')) (met xs i).length := by
      obtain ⟨o, es, ep, tb, ho, rest⟩ := hS
      exact ⟨o, es, ep, tb, hm.heap S _ hSw ho, rest⟩
    show wpAny _ A.in1 (holding [Value.str (xs.getD i Str.empty) t] (setAdd S (.str (xs.getD i Str.empty) t)) >>= _) _ _ s'
    refine wpAny_bind (wpAny_holding ?_)
    unfold setAdd
    refine wpAny_holding ?_
    refine wpAny_bind ((PySem.strKind prog w).pyHash (k := xs.getD i Str.empty) (strKind_is _ _ _ _) ?_)
    have hroom : (met xs i).length + 1 < scanBound := by have := met_le xs i (by omega); omega
    refine wpAny_setAddHashed_of (knd := PySem.strKind prog w) (s := { s' with toks := s'.toks + 1 }) (strKind_is _ _ _ _) rfl hS' hroom fun h' hsb hS2 => ?_
    have hSi : h'.SetOf (PySem.strKind prog w) S (fun k' => (met xs (i + 1)).any (· == k')) (met xs (i + 1)).length :=
      SetOf_congr hS2 (fun k' => by rw [met_succ (by omega), add1_any]) (by rw [met_succ (by omega), add1_len])
    refine wpAny_pure ⟨plainId_quiet PyProof.Rows.F.plain_set_update_loop _, ih (i + 1) _ (by omega) hlt (W.frame _ s' _ _ hst' (Nat.le_succ _) fun b hb o e => ?_) hSi fun s'' hm'' hS'' => ?_⟩
    · rw [hsb.2 b (fun h : b = S => hSf (by rw [← h]; exact hb))]; exact e
    · refine hR s'' (Moved.trans W.gtrans ((hm.mono hsub).then_heap (Nat.le_succ _) fun b o hb e => ?_) hm'') hS''
      rw [hsb.2 b (fun h : b = S => hb (by rw [h]; exact List.mem_cons_self))]; exact e
end
section
variable {prog : Program} {w : World} {A : Around} {E : Value → Shared → Prop} {s : Shared}
set_option maxHeartbeats 3200000 in
theorem call_set {l : Addr} {items : Array Value} {xs : List Str} {Q : Value → Shared → Prop} (hh : A.handled = none) (hl : s.heap.IsTuple l items) (hi : PyProof.Rows.StrsAre items.toList xs) (hn1 : xs.length + 1 < scanBound)
    (h : ∀ (h' : Heap) (tk : Nat), h'.SetOf (PySem.strKind prog w) s.heap.objs.size (fun k' => (met xs items.size).any (· == k')) (met xs items.size).length →
      (∀ b o, b < s.heap.objs.size → s.heap.get? b = some o → h'.get? b = some o) → Q (.ref s.heap.objs.size) { s with heap := h', toks := tk }) : wpAny (model prog w) A (call (.type "set") [.ref l]) Q E s := by
  obtain ⟨c, tl, hmro⟩ := PySem.F.called_set.mro
  have hmade := PySem.F.called_set.made
  have hsub := PySem.F.called_set.sub
  refine wpAny_call (codeAny_of_tree ?_)
  show wpAny _ _ (callAny (.type "set") _) _ _ _
  refine wpAny_pure ⟨Code.quiet_builtin _ (by decide +kernel), codeAny_builtin PySem.F.entry_type_call ?_⟩
  rw [Around.under_plain (weight_type_call_type "set" [.ref l] []) rfl]
  have h1 := PySem.F.called_set.notType
  have h2 := PySem.F.called_set.canCreate
  have hct := PySem.F.typeCall_set_1 (.ref l)
  repeat (any_goals (first | assumption | wp_step))
  refine codeAny_mono (code_set_new_1 (.ref l) (E := E) (Q₁ := fun obj s₁ => ∃ led : Bool, obj = .ref s.heap.objs.size ∧ s₁ = { s with heap := s.heap.push { cls := .type "set", dict := none, data := .set #[] 0 (.fresh 0 0 led) } }) fun led => ⟨led, rfl, rfl⟩) fun r s₁ hr => ?_
  cases r with
  | error e => exact hr
  | ok fl =>
    cases fl with
    | ret obj =>
      obtain ⟨led, rfl, rfl⟩ := hr
      have hS : (s.heap.push { cls := .type "set", dict := none, data := .set #[] 0 (.fresh 0 0 led) }).get? s.heap.objs.size = some { cls := .type "set", dict := none, data := .set #[] 0 (.fresh 0 0 led) } := Heap.get?_push_size _ rfl
      have hT : Shared.TypeIs { s with heap := s.heap.push { cls := .type "set", dict := none, data := .set #[] 0 (.fresh 0 0 led) } } (.ref s.heap.objs.size) "set" := ⟨_, hS, rfl⟩
      have hli := PySem.F.called_set.init.lookup
      have hbi := PySem.F.called_set.init.bind (.ref s.heap.objs.size)
      repeat (any_goals (first | assumption | wp_step))
      refine codeAny_mono (codeAny_call_builtin (R := wants (fun r s₂ => r = .none ∧ ∃ h' tk, s₂ = { s with heap := h', toks := tk } ∧ h'.SetOf (PySem.strKind prog w) s.heap.objs.size (fun k' => (met xs items.size).any (· == k')) (met xs items.size).length ∧
          (∀ b o, b < s.heap.objs.size → s.heap.get? b = some o → h'.get? b = some o)) E) PySem.F.called_set.init.plain PySem.F.entry_set_init (check_set_init_1 hT ?_)) fun r₂ s₂ hr₂ => ?_
      · obtain ⟨ol, hol, hcl, nl, hdl⟩ := hl
        obtain ⟨ocls, odict, odata, oslots⟩ := ol
        simp only at hcl hdl
        subst hcl; subst hdl
        have hol' : (s.heap.push { cls := .type "set", dict := none, data := .set #[] 0 (.fresh 0 0 led) }).get? l = some { cls := .type "tuple", dict := odict, data := .seq items nl, slots := oslots } := Heap.get?_push_of_some _ hol
        have hsls := PySem.F.sub_tuple_set
        have hslf := PySem.F.sub_tuple_frozenset
        have hne : (Value.type "tuple" == Value.type "dict") = false := by decide
        have hl1 : (s.heap.push { cls := .type "set", dict := none, data := .set #[] 0 (.fresh 0 0 led) }).IsTuple l items := ⟨_, hol', rfl, nl, rfl⟩
        unfold Builtin.«set.__init__» noKeywords Builtin.Frozenset.updateFrom
        generalize hPI : pyIter = PI
        wp_walk
        subst hPI
        refine wpAny_pyIter_tuple hl1 (wpAny_bind (wpAny_runValue ?_))
        have hlS : l < s.heap.objs.size := Heap.lt_size hol
        have hh3 : A.in1.in1.in1.handled = none := by simp [hh]
        have hneI : l ≠ (s.heap.push { cls := .type "set", dict := none, data := .set #[] 0 (.fresh 0 0 led) }).objs.size := by
          rw [Heap.size_push]; exact Nat.ne_of_lt (Nat.lt_succ_of_lt hlS)
        have hSf : s.heap.objs.size ∉ [(s.heap.push { cls := .type "set", dict := none, data := .set #[] 0 (.fresh 0 0 led) }).objs.size, l] := by
          rw [Heap.size_push]; simp only [List.mem_cons, List.mem_singleton, List.not_mem_nil, or_false, not_or]
          exact ⟨Nat.ne_of_lt (Nat.lt_succ_self _), Nat.ne_of_gt hlS⟩
        have hsz : xs.length = items.size := by rw [← StrsAre.len_eq hi, Array.length_toList]
        have hval : ∀ (i : Nat) (v : Value), items[i]? = some v → ∃ t, v = .str (xs.getD i Str.empty) t := fun i v hv => SS.strs_at hi i v (by rw [Array.getElem?_toList]; exact hv)
        refine fill ((Walks.tuple hh3 _ l hneI items).toS) s.heap.objs.size hSf xs hsz (by rw [← hsz]; exact hn1) hval (items.size - 0) 0 _ (by omega) (Nat.zero_le _) ⟨⟨_, Heap.get?_push_size _ rfl, rfl, rfl⟩, (hl1.push _)⟩ ?hS0 ?hR
        case hS0 =>
          have hget : ((s.heap.push { cls := .type "set", dict := none, data := .set #[] 0 (.fresh 0 0 led) }).push { cls := .type "tuple_iterator", data := .fields #[.ref l, .int 0 0] }).get? s.heap.objs.size
              = some { cls := .type "set", dict := none, data := .set #[] 0 (.fresh 0 0 led) } := Heap.get?_push_of_some _ hS
          exact PyProof.Rows.SetOf_congr ((PyProof.Rows.setObjOf_fresh (knd := PySem.strKind prog w) led).setOf hget (by unfold scanBound; omega)) (fun _ => by simp [met]) (by simp [met])
        case hR =>
          intro s' hm hS'
          obtain ⟨h', g', d', tk', os'⟩ := s'
          have eg : g' = s.gens := hm.gens
          have ed : d' = s.drawn := hm.drawn
          have eo : os' = s.os := hm.os
          subst eg; subst ed; subst eo
          show wpAny _ _ _ _ _ _
          refine wpAny_pure ?_
          show wpAny _ _ (ret Value.none) _ _ _
          refine wpAny_pure ⟨rfl, h', tk', rfl, hS', fun b o hb e => ?_⟩
          have hb1 : b ≠ s.heap.objs.size := Nat.ne_of_lt hb
          have hb2 : b ≠ (s.heap.push { cls := .type "set", dict := none, data := .set #[] 0 (.fresh 0 0 led) }).objs.size := by
            rw [Heap.size_push]; exact Nat.ne_of_lt (Nat.lt_succ_of_lt hb)
          exact hm.heap b o (by simp only [List.mem_cons, List.mem_singleton, List.not_mem_nil, or_false, not_or]; exact ⟨hb1, hb2⟩) (Heap.get?_push_of_some _ (Heap.get?_push_of_some _ e))
      · cases r₂ with
        | error e => exact hr₂
        | ok fl₂ =>
          cases fl₂ with
          | ret r =>
            obtain ⟨rfl, h', tk, rfl, hS', hk'⟩ := hr₂
            repeat (any_goals (first | assumption | wp_step))
            exact h _ _ hS' hk'
          | _ => exact hr₂.elim
    | _ => exact hr.elim
end
end DnSet
namespace Dn
open PySem PySem.Spec PyProof.Rows L2
def tLenSetD (K : PySem.W.Frag) (ta : TE) : TE := fun σ H Q => ta σ H fun x H1 => ∃ l, ∃ xs : List Str, x = .ref l ∧ SqT K H1 l (xs.map V.str) ∧ xs.length + 1 < scanBound ∧ Q (.int (DnSet.met xs xs.length).length) H1
section
variable {X : Cx} {w : Wh} {p p2 q pos : Pos} {a : Expr} {fa : En → R D}
theorem pe_lenSetD {ta : TE} (hc : X.calm = true) (hg : Gl X "len") (hm : X.mg "len" = none) (hg2 : Gl X "set") (hm2 : X.mg "set" = none) (ha : PE X a ta)
    (na : starEach [a] X.env = (false, eval a X.env) :: starEach [] X.env := by rfl) : PE X (.Call (.Name "len" p) [.Call (.Name "set" p2) [a] [] q] [] pos) (tLenSetD X.K ta) := by
  refine ⟨fun pins s σ H Q I h => ?_⟩
  refine Call_ (ld_blt I hg hm boot_len (PyProof.Rows.callWith_builtin1 (PyProof.Rows.args_cons ?_ rfl) rfl rfl))
  refine Call_ (ld_blt I hg2 hm2 boot_set (PyProof.Rows.callWith_type1 (PyProof.Rows.args_cons (thn (ha.run pins s σ H _ I h) fun v s1 ⟨x, H1, I1, r1, q1⟩ => PyProof.Rows.args_nil ?_) na) na rfl))
  obtain ⟨l, xs, rfl, hq, h1, q1⟩ := q1
  cases r1
  obtain ⟨its, r, pl, hz⟩ := I1.tuple hq
  refine DnSet.call_set (I1.ok.hd hc) pl (by simpa using L2.strsAre_of r) h1 fun h' tk hS hk => PyProof.Rows.args_nil ?_
  have hl : its.toArray.size = xs.length := by rw [List.size_toArray, ← r.length, List.length_map]
  rw [hl] at hS
  obtain ⟨o, es, ep, t, ho, hex, hd, _, _, _, hf, hn⟩ := hS
  have I2 : Inv X pins σ H1 { s1 with heap := h', toks := tk } := I1.kept fun b o e => hk b o (Heap.lt_size e) e
  have hle := DnSet.met_le xs xs.length (Nat.le_refl _)
  refine call_len_set ho hex hd hf (by rw [hn]; unfold scanBound at h1; omega) ⟨.int (DnSet.met xs xs.length).length, H1, I2.tok _, ⟨_, by rw [hn]⟩, q1⟩
def gSetLen : D → Option D
  | .tuple ds => (allOf asStr ds).bind fun xs => if xs.length ≤ 1000 then some (.int (DnSet.met xs xs.length).length) else none
  | _ => none
theorem ve_lenSet (hc : X.calm = true) (hg : Gl X "len") (hm : X.mg "len" = none) (hg2 : Gl X "set") (hm2 : X.mg "set" = none) (ha : VE X w a fa)
    (na : starEach [a] X.env = (false, eval a X.env) :: starEach [] X.env := by rfl) : VE X w (.Call (.Name "len" p) [.Call (.Name "set" p2) [a] [] q] [] pos) (d1 gSetLen fa) :=
  PE.imp (pe_lenSetD hc hg hm hg2 hm2 ha na) fun σ H Q ⟨G, ρ, rel, h⟩ => ⟨G, ρ, rel, (Fn.bind rel h).imp fun G1 H1 ρ1 dx ⟨r1, s1, h1⟩ x hx => by
    obtain ⟨d, e, q⟩ := Fn.lift h1
    cases hx with
    | @tup a xs ds hq hds =>
      simp only [gSetLen, Option.bind_eq_some_iff] at e
      obtain ⟨ys, e1, e2⟩ := e
      split at e2
      · cases e2
        have := mapM_strs e1
        subst this
        have := hds.strs
        subst this
        exact ⟨a, ys, rfl, Same.tup r1.sub hq, by unfold scanBound; omega, q _ _ r1 Stp.refl _ (.int _)⟩
      · cases e2
    | _ => cases e⟩
end
end Dn
namespace Lw
open PySem PySem.Spec PyProof.Rows L2 Dn
def topS (i : Nat) : Stmt := PySem.Challenge.pw_twobytwo_k25_wishes.main.body.getD i (.Pass ⟨0, 0, 0, 0⟩)
def dd_is_whole : He.DefD := ⟨("is_whole", none), "is_whole", "is_whole", defArgs (topS 1), defBody (topS 1), defScope (topS 1), [], []⟩
def dd_divisor : He.DefD := ⟨("divisor", none), "divisor", "divisor", defArgs (topS 2), defBody (topS 2), defScope (topS 2), [], []⟩
def dd_is_number : He.DefD := ⟨("is_number", none), "is_number", "is_number", defArgs (topS 3), defBody (topS 3), defScope (topS 3), [], []⟩
def dd_under : He.DefD := ⟨("under", none), "under", "under", defArgs (topS 4), defBody (topS 4), defScope (topS 4), [], []⟩
def dd_is_told : He.DefD := ⟨("is_told", none), "is_told", "is_told", defArgs (topS 6), defBody (topS 6), defScope (topS 6), [], []⟩
def dd_is_word : He.DefD := ⟨("is_word", none), "is_word", "is_word", defArgs (topS 9), defBody (topS 9), defScope (topS 9), [], []⟩
def dd_are_ends : He.DefD := ⟨("are_ends", none), "are_ends", "are_ends", defArgs (topS 12), defBody (topS 12), defScope (topS 12), [], []⟩
def dd_are_pieces : He.DefD := ⟨("are_pieces", none), "are_pieces", "are_pieces", defArgs (topS 13), defBody (topS 13), defScope (topS 13), [], []⟩
def dd_are_words : He.DefD := ⟨("are_words", none), "are_words", "are_words", defArgs (topS 14), defBody (topS 14), defScope (topS 14), [], []⟩
def dd_is_wish : He.DefD := ⟨("is_wish", none), "is_wish", "is_wish", defArgs (topS 15), defBody (topS 15), defScope (topS 15), [], []⟩
def dd_axis_word : He.DefD := ⟨("axis_word", none), "axis_word", "axis_word", defArgs (topS 16), defBody (topS 16), defScope (topS 16), [], []⟩
def dd_law_cell_at : He.DefD := ⟨("_law_cell_at", none), "_law_cell_at", "_law_cell_at", defArgs (topS 18), defBody (topS 18), defScope (topS 18), [], []⟩
def dd_law_source : He.DefD := ⟨("_law_source", none), "_law_source", "_law_source", defArgs (topS 19), defBody (topS 19), defScope (topS 19), [], []⟩
def dd_law_draw : He.DefD := ⟨("_law_draw", none), "_law_draw", "_law_draw", defArgs (topS 20), defBody (topS 20), defScope (topS 20), [], []⟩
def dd_law_great : He.DefD := ⟨("_law_great", none), "_law_great", "_law_great", defArgs (topS 21), defBody (topS 21), defScope (topS 21), [], []⟩
def dd_law_low : He.DefD := ⟨("_law_low", none), "_law_low", "_law_low", defArgs (topS 22), defBody (topS 22), defScope (topS 22), [], []⟩
def dd_law_ends : He.DefD := ⟨("_law_ends", none), "_law_ends", "_law_ends", defArgs (topS 23), defBody (topS 23), defScope (topS 23), [], []⟩
def dd_law_word : He.DefD := ⟨("_law_word", none), "_law_word", "_law_word", defArgs (topS 24), defBody (topS 24), defScope (topS 24), [], []⟩
def dd_law_words : He.DefD := ⟨("_law_words", none), "_law_words", "_law_words", defArgs (topS 25), defBody (topS 25), defScope (topS 25), [], []⟩
def dd_law_good : He.DefD := ⟨("_law_good", none), "_law_good", "_law_good", defArgs (topS 26), defBody (topS 26), defScope (topS 26), [], []⟩
def dd_law_bent_number : He.DefD := ⟨("_law_bent_number", none), "_law_bent_number", "_law_bent_number", defArgs (topS 27), defBody (topS 27), defScope (topS 27), [], []⟩
def dd_law_bent_ends : He.DefD := ⟨("_law_bent_ends", none), "_law_bent_ends", "_law_bent_ends", defArgs (topS 28), defBody (topS 28), defScope (topS 28), [], []⟩
def dd_law_bent_pieces : He.DefD := ⟨("_law_bent_pieces", none), "_law_bent_pieces", "_law_bent_pieces", defArgs (topS 29), defBody (topS 29), defScope (topS 29), [], []⟩
def dd_law_bent_words : He.DefD := ⟨("_law_bent_words", none), "_law_bent_words", "_law_bent_words", defArgs (topS 30), defBody (topS 30), defScope (topS 30), [], []⟩
def dd_law_bent : He.DefD := ⟨("_law_bent", none), "_law_bent", "_law_bent", defArgs (topS 31), defBody (topS 31), defScope (topS 31), [], []⟩
def dd_law_same : He.DefD := ⟨("_law_same", none), "_law_same", "_law_same", defArgs (topS 32), defBody (topS 32), defScope (topS 32), [], []⟩
def dd_law : He.DefD := ⟨("law", none), "law", "law", defArgs (topS 33), defBody (topS 33), defScope (topS 33), [], []⟩
def fnL : List He.DefD := [dd_is_whole, dd_divisor, dd_is_number, dd_under, dd_is_told, dd_is_word, dd_are_ends, dd_are_pieces, dd_are_words, dd_is_wish, dd_axis_word, dd_law_cell_at, dd_law_source, dd_law_draw, dd_law_great, dd_law_low, dd_law_ends, dd_law_word, dd_law_words, dd_law_good, dd_law_bent_number, dd_law_bent_ends, dd_law_bent_pieces, dd_law_bent_words, dd_law_bent, dd_law_same, dd_law]
def faL : List He.Fa := [.glo "is_whole", .glo "divisor", .glo "is_number", .glo "under", .glo "is_told", .glo "is_word", .glo "are_ends", .glo "are_pieces", .glo "are_words", .glo "is_wish", .glo "axis_word", .glo "_law_cell_at", .glo "_law_source", .glo "_law_draw", .glo "_law_great", .glo "_law_low", .glo "_law_ends", .glo "_law_word", .glo "_law_words", .glo "_law_good", .glo "_law_bent_number", .glo "_law_bent_ends", .glo "_law_bent_pieces", .glo "_law_bent_words", .glo "_law_bent", .glo "_law_same", .glo "law", .free "isinstance", .free "bool", .free "int", .free "abs", .free "len", .free "tuple", .free "str", .free "all", .free "range", .free "set", .free "list", .free "min", .free "max", .str "LETTERS" "abcdefghijklmnopqrstuvwxyz", .int "MOST_WORDS" 60]
structure Tx (K : PySem.W.Frag) (mg : Str → Option Value) : Prop where
  says : He.SaysD faL fnL K
  glo : ∀ x, (He.Fa.glo x).ok K = true → mg x = some (.ref (He.ga K x))
  free : ∀ x, (He.Fa.free x).ok K = true → mg x = none
  str : ∀ x z, (He.Fa.str x z).ok K = true → ∃ t, mg x = some (.str z t)
  int : ∀ x z, (He.Fa.int x z).ok K = true → ∃ t, mg x = some (.int z t)
section
variable {K : PySem.W.Frag} {mg : Str → Option Value}
theorem x_is_whole (T : Tx K mg) : ∃ fd, FunD K "is_whole" "is_whole" (defArgs (topS 1)) (defBody (topS 1)) (defScope (topS 1)) [] [] (He.ga K "is_whole") fd := T.says.def_ 0 (d := dd_is_whole) rfl
noncomputable def fd_is_whole (T : Tx K mg) : FuncData := (x_is_whole T).choose
theorem F_is_whole (T : Tx K mg) : FunD K "is_whole" "is_whole" (defArgs (topS 1)) (defBody (topS 1)) (defScope (topS 1)) [] [] (He.ga K "is_whole") (fd_is_whole T) := (x_is_whole T).choose_spec
theorem g_is_whole (T : Tx K mg) : mg "is_whole" = some (.ref (He.ga K "is_whole")) := T.glo _ (T.says.fact 0 (f := .glo "is_whole") rfl)
theorem bi_is_whole (T : Tx K mg) : Binds K (fd_is_whole T) ["thing"] [] := (F_is_whole T).bindsN fun _ _ _ _ _ _ us hl => match us, hl with | [_], _ => rfl
theorem x_divisor (T : Tx K mg) : ∃ fd, FunD K "divisor" "divisor" (defArgs (topS 2)) (defBody (topS 2)) (defScope (topS 2)) [] [] (He.ga K "divisor") fd := T.says.def_ 1 (d := dd_divisor) rfl
noncomputable def fd_divisor (T : Tx K mg) : FuncData := (x_divisor T).choose
theorem F_divisor (T : Tx K mg) : FunD K "divisor" "divisor" (defArgs (topS 2)) (defBody (topS 2)) (defScope (topS 2)) [] [] (He.ga K "divisor") (fd_divisor T) := (x_divisor T).choose_spec
theorem g_divisor (T : Tx K mg) : mg "divisor" = some (.ref (He.ga K "divisor")) := T.glo _ (T.says.fact 1 (f := .glo "divisor") rfl)
theorem bi_divisor (T : Tx K mg) : Binds K (fd_divisor T) ["one", "other"] [] := (F_divisor T).bindsN fun _ _ _ _ _ _ us hl => match us, hl with | [_, _], _ => rfl
theorem x_is_number (T : Tx K mg) : ∃ fd, FunD K "is_number" "is_number" (defArgs (topS 3)) (defBody (topS 3)) (defScope (topS 3)) [] [] (He.ga K "is_number") fd := T.says.def_ 2 (d := dd_is_number) rfl
noncomputable def fd_is_number (T : Tx K mg) : FuncData := (x_is_number T).choose
theorem F_is_number (T : Tx K mg) : FunD K "is_number" "is_number" (defArgs (topS 3)) (defBody (topS 3)) (defScope (topS 3)) [] [] (He.ga K "is_number") (fd_is_number T) := (x_is_number T).choose_spec
theorem g_is_number (T : Tx K mg) : mg "is_number" = some (.ref (He.ga K "is_number")) := T.glo _ (T.says.fact 2 (f := .glo "is_number") rfl)
theorem bi_is_number (T : Tx K mg) : Binds K (fd_is_number T) ["thing"] [] := (F_is_number T).bindsN fun _ _ _ _ _ _ us hl => match us, hl with | [_], _ => rfl
theorem x_under (T : Tx K mg) : ∃ fd, FunD K "under" "under" (defArgs (topS 4)) (defBody (topS 4)) (defScope (topS 4)) [] [] (He.ga K "under") fd := T.says.def_ 3 (d := dd_under) rfl
noncomputable def fd_under (T : Tx K mg) : FuncData := (x_under T).choose
theorem F_under (T : Tx K mg) : FunD K "under" "under" (defArgs (topS 4)) (defBody (topS 4)) (defScope (topS 4)) [] [] (He.ga K "under") (fd_under T) := (x_under T).choose_spec
theorem g_under (T : Tx K mg) : mg "under" = some (.ref (He.ga K "under")) := T.glo _ (T.says.fact 3 (f := .glo "under") rfl)
theorem bi_under (T : Tx K mg) : Binds K (fd_under T) ["one", "other"] [] := (F_under T).bindsN fun _ _ _ _ _ _ us hl => match us, hl with | [_, _], _ => rfl
theorem x_is_told (T : Tx K mg) : ∃ fd, FunD K "is_told" "is_told" (defArgs (topS 6)) (defBody (topS 6)) (defScope (topS 6)) [] [] (He.ga K "is_told") fd := T.says.def_ 4 (d := dd_is_told) rfl
noncomputable def fd_is_told (T : Tx K mg) : FuncData := (x_is_told T).choose
theorem F_is_told (T : Tx K mg) : FunD K "is_told" "is_told" (defArgs (topS 6)) (defBody (topS 6)) (defScope (topS 6)) [] [] (He.ga K "is_told") (fd_is_told T) := (x_is_told T).choose_spec
theorem g_is_told (T : Tx K mg) : mg "is_told" = some (.ref (He.ga K "is_told")) := T.glo _ (T.says.fact 4 (f := .glo "is_told") rfl)
theorem bi_is_told (T : Tx K mg) : Binds K (fd_is_told T) ["thing"] [] := (F_is_told T).bindsN fun _ _ _ _ _ _ us hl => match us, hl with | [_], _ => rfl
theorem x_is_word (T : Tx K mg) : ∃ fd, FunD K "is_word" "is_word" (defArgs (topS 9)) (defBody (topS 9)) (defScope (topS 9)) [] [] (He.ga K "is_word") fd := T.says.def_ 5 (d := dd_is_word) rfl
noncomputable def fd_is_word (T : Tx K mg) : FuncData := (x_is_word T).choose
theorem F_is_word (T : Tx K mg) : FunD K "is_word" "is_word" (defArgs (topS 9)) (defBody (topS 9)) (defScope (topS 9)) [] [] (He.ga K "is_word") (fd_is_word T) := (x_is_word T).choose_spec
theorem g_is_word (T : Tx K mg) : mg "is_word" = some (.ref (He.ga K "is_word")) := T.glo _ (T.says.fact 5 (f := .glo "is_word") rfl)
theorem bi_is_word (T : Tx K mg) : Binds K (fd_is_word T) ["thing"] [] := (F_is_word T).bindsN fun _ _ _ _ _ _ us hl => match us, hl with | [_], _ => rfl
theorem x_are_ends (T : Tx K mg) : ∃ fd, FunD K "are_ends" "are_ends" (defArgs (topS 12)) (defBody (topS 12)) (defScope (topS 12)) [] [] (He.ga K "are_ends") fd := T.says.def_ 6 (d := dd_are_ends) rfl
noncomputable def fd_are_ends (T : Tx K mg) : FuncData := (x_are_ends T).choose
theorem F_are_ends (T : Tx K mg) : FunD K "are_ends" "are_ends" (defArgs (topS 12)) (defBody (topS 12)) (defScope (topS 12)) [] [] (He.ga K "are_ends") (fd_are_ends T) := (x_are_ends T).choose_spec
theorem g_are_ends (T : Tx K mg) : mg "are_ends" = some (.ref (He.ga K "are_ends")) := T.glo _ (T.says.fact 6 (f := .glo "are_ends") rfl)
theorem bi_are_ends (T : Tx K mg) : Binds K (fd_are_ends T) ["lo", "hi"] [] := (F_are_ends T).bindsN fun _ _ _ _ _ _ us hl => match us, hl with | [_, _], _ => rfl
theorem x_are_pieces (T : Tx K mg) : ∃ fd, FunD K "are_pieces" "are_pieces" (defArgs (topS 13)) (defBody (topS 13)) (defScope (topS 13)) [] [] (He.ga K "are_pieces") fd := T.says.def_ 7 (d := dd_are_pieces) rfl
noncomputable def fd_are_pieces (T : Tx K mg) : FuncData := (x_are_pieces T).choose
theorem F_are_pieces (T : Tx K mg) : FunD K "are_pieces" "are_pieces" (defArgs (topS 13)) (defBody (topS 13)) (defScope (topS 13)) [] [] (He.ga K "are_pieces") (fd_are_pieces T) := (x_are_pieces T).choose_spec
theorem g_are_pieces (T : Tx K mg) : mg "are_pieces" = some (.ref (He.ga K "are_pieces")) := T.glo _ (T.says.fact 7 (f := .glo "are_pieces") rfl)
theorem bi_are_pieces (T : Tx K mg) : Binds K (fd_are_pieces T) ["thing"] [] := (F_are_pieces T).bindsN fun _ _ _ _ _ _ us hl => match us, hl with | [_], _ => rfl
theorem x_are_words (T : Tx K mg) : ∃ fd, FunD K "are_words" "are_words" (defArgs (topS 14)) (defBody (topS 14)) (defScope (topS 14)) [] [] (He.ga K "are_words") fd := T.says.def_ 8 (d := dd_are_words) rfl
noncomputable def fd_are_words (T : Tx K mg) : FuncData := (x_are_words T).choose
theorem F_are_words (T : Tx K mg) : FunD K "are_words" "are_words" (defArgs (topS 14)) (defBody (topS 14)) (defScope (topS 14)) [] [] (He.ga K "are_words") (fd_are_words T) := (x_are_words T).choose_spec
theorem g_are_words (T : Tx K mg) : mg "are_words" = some (.ref (He.ga K "are_words")) := T.glo _ (T.says.fact 8 (f := .glo "are_words") rfl)
theorem bi_are_words (T : Tx K mg) : Binds K (fd_are_words T) ["thing"] [] := (F_are_words T).bindsN fun _ _ _ _ _ _ us hl => match us, hl with | [_], _ => rfl
theorem x_is_wish (T : Tx K mg) : ∃ fd, FunD K "is_wish" "is_wish" (defArgs (topS 15)) (defBody (topS 15)) (defScope (topS 15)) [] [] (He.ga K "is_wish") fd := T.says.def_ 9 (d := dd_is_wish) rfl
noncomputable def fd_is_wish (T : Tx K mg) : FuncData := (x_is_wish T).choose
theorem F_is_wish (T : Tx K mg) : FunD K "is_wish" "is_wish" (defArgs (topS 15)) (defBody (topS 15)) (defScope (topS 15)) [] [] (He.ga K "is_wish") (fd_is_wish T) := (x_is_wish T).choose_spec
theorem g_is_wish (T : Tx K mg) : mg "is_wish" = some (.ref (He.ga K "is_wish")) := T.glo _ (T.says.fact 9 (f := .glo "is_wish") rfl)
theorem bi_is_wish (T : Tx K mg) : Binds K (fd_is_wish T) ["thing"] [] := (F_is_wish T).bindsN fun _ _ _ _ _ _ us hl => match us, hl with | [_], _ => rfl
theorem x_axis_word (T : Tx K mg) : ∃ fd, FunD K "axis_word" "axis_word" (defArgs (topS 16)) (defBody (topS 16)) (defScope (topS 16)) [] [] (He.ga K "axis_word") fd := T.says.def_ 10 (d := dd_axis_word) rfl
noncomputable def fd_axis_word (T : Tx K mg) : FuncData := (x_axis_word T).choose
theorem F_axis_word (T : Tx K mg) : FunD K "axis_word" "axis_word" (defArgs (topS 16)) (defBody (topS 16)) (defScope (topS 16)) [] [] (He.ga K "axis_word") (fd_axis_word T) := (x_axis_word T).choose_spec
theorem g_axis_word (T : Tx K mg) : mg "axis_word" = some (.ref (He.ga K "axis_word")) := T.glo _ (T.says.fact 10 (f := .glo "axis_word") rfl)
theorem bi_axis_word (T : Tx K mg) : Binds K (fd_axis_word T) ["wish"] [] := (F_axis_word T).bindsN fun _ _ _ _ _ _ us hl => match us, hl with | [_], _ => rfl
theorem x_law_cell_at (T : Tx K mg) : ∃ fd, FunD K "_law_cell_at" "_law_cell_at" (defArgs (topS 18)) (defBody (topS 18)) (defScope (topS 18)) [] [] (He.ga K "_law_cell_at") fd := T.says.def_ 11 (d := dd_law_cell_at) rfl
noncomputable def fd_law_cell_at (T : Tx K mg) : FuncData := (x_law_cell_at T).choose
theorem F_law_cell_at (T : Tx K mg) : FunD K "_law_cell_at" "_law_cell_at" (defArgs (topS 18)) (defBody (topS 18)) (defScope (topS 18)) [] [] (He.ga K "_law_cell_at") (fd_law_cell_at T) := (x_law_cell_at T).choose_spec
theorem g_law_cell_at (T : Tx K mg) : mg "_law_cell_at" = some (.ref (He.ga K "_law_cell_at")) := T.glo _ (T.says.fact 11 (f := .glo "_law_cell_at") rfl)
theorem bi_law_cell_at (T : Tx K mg) : Binds K (fd_law_cell_at T) ["script", "k"] [] := (F_law_cell_at T).bindsN fun _ _ _ _ _ _ us hl => match us, hl with | [_, _], _ => rfl
theorem x_law_source (T : Tx K mg) : ∃ fd, FunD K "_law_source" "_law_source" (defArgs (topS 19)) (defBody (topS 19)) (defScope (topS 19)) [] [] (He.ga K "_law_source") fd := T.says.def_ 12 (d := dd_law_source) rfl
noncomputable def fd_law_source (T : Tx K mg) : FuncData := (x_law_source T).choose
theorem F_law_source (T : Tx K mg) : FunD K "_law_source" "_law_source" (defArgs (topS 19)) (defBody (topS 19)) (defScope (topS 19)) [] [] (He.ga K "_law_source") (fd_law_source T) := (x_law_source T).choose_spec
theorem g_law_source (T : Tx K mg) : mg "_law_source" = some (.ref (He.ga K "_law_source")) := T.glo _ (T.says.fact 12 (f := .glo "_law_source") rfl)
theorem bi_law_source (T : Tx K mg) : Binds K (fd_law_source T) ["script", "k"] [] := (F_law_source T).bindsN fun _ _ _ _ _ _ us hl => match us, hl with | [_, _], _ => rfl
theorem x_law_draw (T : Tx K mg) : ∃ fd, FunD K "_law_draw" "_law_draw" (defArgs (topS 20)) (defBody (topS 20)) (defScope (topS 20)) [] [] (He.ga K "_law_draw") fd := T.says.def_ 13 (d := dd_law_draw) rfl
noncomputable def fd_law_draw (T : Tx K mg) : FuncData := (x_law_draw T).choose
theorem F_law_draw (T : Tx K mg) : FunD K "_law_draw" "_law_draw" (defArgs (topS 20)) (defBody (topS 20)) (defScope (topS 20)) [] [] (He.ga K "_law_draw") (fd_law_draw T) := (x_law_draw T).choose_spec
theorem g_law_draw (T : Tx K mg) : mg "_law_draw" = some (.ref (He.ga K "_law_draw")) := T.glo _ (T.says.fact 13 (f := .glo "_law_draw") rfl)
theorem bi_law_draw (T : Tx K mg) : Binds K (fd_law_draw T) ["source", "many"] [] := (F_law_draw T).bindsN fun _ _ _ _ _ _ us hl => match us, hl with | [_, _], _ => rfl
theorem x_law_great (T : Tx K mg) : ∃ fd, FunD K "_law_great" "_law_great" (defArgs (topS 21)) (defBody (topS 21)) (defScope (topS 21)) [] [] (He.ga K "_law_great") fd := T.says.def_ 14 (d := dd_law_great) rfl
noncomputable def fd_law_great (T : Tx K mg) : FuncData := (x_law_great T).choose
theorem F_law_great (T : Tx K mg) : FunD K "_law_great" "_law_great" (defArgs (topS 21)) (defBody (topS 21)) (defScope (topS 21)) [] [] (He.ga K "_law_great") (fd_law_great T) := (x_law_great T).choose_spec
theorem g_law_great (T : Tx K mg) : mg "_law_great" = some (.ref (He.ga K "_law_great")) := T.glo _ (T.says.fact 14 (f := .glo "_law_great") rfl)
theorem bi_law_great (T : Tx K mg) : Binds K (fd_law_great T) ["source", "many"] [] := (F_law_great T).bindsN fun _ _ _ _ _ _ us hl => match us, hl with | [_, _], _ => rfl
theorem x_law_low (T : Tx K mg) : ∃ fd, FunD K "_law_low" "_law_low" (defArgs (topS 22)) (defBody (topS 22)) (defScope (topS 22)) [] [] (He.ga K "_law_low") fd := T.says.def_ 15 (d := dd_law_low) rfl
noncomputable def fd_law_low (T : Tx K mg) : FuncData := (x_law_low T).choose
theorem F_law_low (T : Tx K mg) : FunD K "_law_low" "_law_low" (defArgs (topS 22)) (defBody (topS 22)) (defScope (topS 22)) [] [] (He.ga K "_law_low") (fd_law_low T) := (x_law_low T).choose_spec
theorem g_law_low (T : Tx K mg) : mg "_law_low" = some (.ref (He.ga K "_law_low")) := T.glo _ (T.says.fact 15 (f := .glo "_law_low") rfl)
theorem bi_law_low (T : Tx K mg) : Binds K (fd_law_low T) ["top", "bottom"] [] := (F_law_low T).bindsN fun _ _ _ _ _ _ us hl => match us, hl with | [_, _], _ => rfl
theorem x_law_ends (T : Tx K mg) : ∃ fd, FunD K "_law_ends" "_law_ends" (defArgs (topS 23)) (defBody (topS 23)) (defScope (topS 23)) [] [] (He.ga K "_law_ends") fd := T.says.def_ 16 (d := dd_law_ends) rfl
noncomputable def fd_law_ends (T : Tx K mg) : FuncData := (x_law_ends T).choose
theorem F_law_ends (T : Tx K mg) : FunD K "_law_ends" "_law_ends" (defArgs (topS 23)) (defBody (topS 23)) (defScope (topS 23)) [] [] (He.ga K "_law_ends") (fd_law_ends T) := (x_law_ends T).choose_spec
theorem g_law_ends (T : Tx K mg) : mg "_law_ends" = some (.ref (He.ga K "_law_ends")) := T.glo _ (T.says.fact 16 (f := .glo "_law_ends") rfl)
theorem bi_law_ends (T : Tx K mg) : Binds K (fd_law_ends T) ["source", "many"] [] := (F_law_ends T).bindsN fun _ _ _ _ _ _ us hl => match us, hl with | [_, _], _ => rfl
theorem x_law_word (T : Tx K mg) : ∃ fd, FunD K "_law_word" "_law_word" (defArgs (topS 24)) (defBody (topS 24)) (defScope (topS 24)) [] [] (He.ga K "_law_word") fd := T.says.def_ 17 (d := dd_law_word) rfl
noncomputable def fd_law_word (T : Tx K mg) : FuncData := (x_law_word T).choose
theorem F_law_word (T : Tx K mg) : FunD K "_law_word" "_law_word" (defArgs (topS 24)) (defBody (topS 24)) (defScope (topS 24)) [] [] (He.ga K "_law_word") (fd_law_word T) := (x_law_word T).choose_spec
theorem g_law_word (T : Tx K mg) : mg "_law_word" = some (.ref (He.ga K "_law_word")) := T.glo _ (T.says.fact 17 (f := .glo "_law_word") rfl)
theorem bi_law_word (T : Tx K mg) : Binds K (fd_law_word T) ["source"] [] := (F_law_word T).bindsN fun _ _ _ _ _ _ us hl => match us, hl with | [_], _ => rfl
theorem x_law_words (T : Tx K mg) : ∃ fd, FunD K "_law_words" "_law_words" (defArgs (topS 25)) (defBody (topS 25)) (defScope (topS 25)) [] [] (He.ga K "_law_words") fd := T.says.def_ 18 (d := dd_law_words) rfl
noncomputable def fd_law_words (T : Tx K mg) : FuncData := (x_law_words T).choose
theorem F_law_words (T : Tx K mg) : FunD K "_law_words" "_law_words" (defArgs (topS 25)) (defBody (topS 25)) (defScope (topS 25)) [] [] (He.ga K "_law_words") (fd_law_words T) := (x_law_words T).choose_spec
theorem g_law_words (T : Tx K mg) : mg "_law_words" = some (.ref (He.ga K "_law_words")) := T.glo _ (T.says.fact 18 (f := .glo "_law_words") rfl)
theorem bi_law_words (T : Tx K mg) : Binds K (fd_law_words T) ["source"] [] := (F_law_words T).bindsN fun _ _ _ _ _ _ us hl => match us, hl with | [_], _ => rfl
theorem x_law_good (T : Tx K mg) : ∃ fd, FunD K "_law_good" "_law_good" (defArgs (topS 26)) (defBody (topS 26)) (defScope (topS 26)) [] [] (He.ga K "_law_good") fd := T.says.def_ 19 (d := dd_law_good) rfl
noncomputable def fd_law_good (T : Tx K mg) : FuncData := (x_law_good T).choose
theorem F_law_good (T : Tx K mg) : FunD K "_law_good" "_law_good" (defArgs (topS 26)) (defBody (topS 26)) (defScope (topS 26)) [] [] (He.ga K "_law_good") (fd_law_good T) := (x_law_good T).choose_spec
theorem g_law_good (T : Tx K mg) : mg "_law_good" = some (.ref (He.ga K "_law_good")) := T.glo _ (T.says.fact 19 (f := .glo "_law_good") rfl)
theorem bi_law_good (T : Tx K mg) : Binds K (fd_law_good T) ["source"] [] := (F_law_good T).bindsN fun _ _ _ _ _ _ us hl => match us, hl with | [_], _ => rfl
theorem x_law_bent_number (T : Tx K mg) : ∃ fd, FunD K "_law_bent_number" "_law_bent_number" (defArgs (topS 27)) (defBody (topS 27)) (defScope (topS 27)) [] [] (He.ga K "_law_bent_number") fd := T.says.def_ 20 (d := dd_law_bent_number) rfl
noncomputable def fd_law_bent_number (T : Tx K mg) : FuncData := (x_law_bent_number T).choose
theorem F_law_bent_number (T : Tx K mg) : FunD K "_law_bent_number" "_law_bent_number" (defArgs (topS 27)) (defBody (topS 27)) (defScope (topS 27)) [] [] (He.ga K "_law_bent_number") (fd_law_bent_number T) := (x_law_bent_number T).choose_spec
theorem g_law_bent_number (T : Tx K mg) : mg "_law_bent_number" = some (.ref (He.ga K "_law_bent_number")) := T.glo _ (T.says.fact 20 (f := .glo "_law_bent_number") rfl)
theorem bi_law_bent_number (T : Tx K mg) : Binds K (fd_law_bent_number T) ["source", "one"] [] := (F_law_bent_number T).bindsN fun _ _ _ _ _ _ us hl => match us, hl with | [_, _], _ => rfl
theorem x_law_bent_ends (T : Tx K mg) : ∃ fd, FunD K "_law_bent_ends" "_law_bent_ends" (defArgs (topS 28)) (defBody (topS 28)) (defScope (topS 28)) [] [] (He.ga K "_law_bent_ends") fd := T.says.def_ 21 (d := dd_law_bent_ends) rfl
noncomputable def fd_law_bent_ends (T : Tx K mg) : FuncData := (x_law_bent_ends T).choose
theorem F_law_bent_ends (T : Tx K mg) : FunD K "_law_bent_ends" "_law_bent_ends" (defArgs (topS 28)) (defBody (topS 28)) (defScope (topS 28)) [] [] (He.ga K "_law_bent_ends") (fd_law_bent_ends T) := (x_law_bent_ends T).choose_spec
theorem g_law_bent_ends (T : Tx K mg) : mg "_law_bent_ends" = some (.ref (He.ga K "_law_bent_ends")) := T.glo _ (T.says.fact 21 (f := .glo "_law_bent_ends") rfl)
theorem bi_law_bent_ends (T : Tx K mg) : Binds K (fd_law_bent_ends T) ["source", "lo", "hi"] [] := (F_law_bent_ends T).bindsN fun _ _ _ _ _ _ us hl => match us, hl with | [_, _, _], _ => rfl
theorem x_law_bent_pieces (T : Tx K mg) : ∃ fd, FunD K "_law_bent_pieces" "_law_bent_pieces" (defArgs (topS 29)) (defBody (topS 29)) (defScope (topS 29)) [] [] (He.ga K "_law_bent_pieces") fd := T.says.def_ 22 (d := dd_law_bent_pieces) rfl
noncomputable def fd_law_bent_pieces (T : Tx K mg) : FuncData := (x_law_bent_pieces T).choose
theorem F_law_bent_pieces (T : Tx K mg) : FunD K "_law_bent_pieces" "_law_bent_pieces" (defArgs (topS 29)) (defBody (topS 29)) (defScope (topS 29)) [] [] (He.ga K "_law_bent_pieces") (fd_law_bent_pieces T) := (x_law_bent_pieces T).choose_spec
theorem g_law_bent_pieces (T : Tx K mg) : mg "_law_bent_pieces" = some (.ref (He.ga K "_law_bent_pieces")) := T.glo _ (T.says.fact 22 (f := .glo "_law_bent_pieces") rfl)
theorem bi_law_bent_pieces (T : Tx K mg) : Binds K (fd_law_bent_pieces T) ["source", "pieces"] [] := (F_law_bent_pieces T).bindsN fun _ _ _ _ _ _ us hl => match us, hl with | [_, _], _ => rfl
theorem x_law_bent_words (T : Tx K mg) : ∃ fd, FunD K "_law_bent_words" "_law_bent_words" (defArgs (topS 30)) (defBody (topS 30)) (defScope (topS 30)) [] [] (He.ga K "_law_bent_words") fd := T.says.def_ 23 (d := dd_law_bent_words) rfl
noncomputable def fd_law_bent_words (T : Tx K mg) : FuncData := (x_law_bent_words T).choose
theorem F_law_bent_words (T : Tx K mg) : FunD K "_law_bent_words" "_law_bent_words" (defArgs (topS 30)) (defBody (topS 30)) (defScope (topS 30)) [] [] (He.ga K "_law_bent_words") (fd_law_bent_words T) := (x_law_bent_words T).choose_spec
theorem g_law_bent_words (T : Tx K mg) : mg "_law_bent_words" = some (.ref (He.ga K "_law_bent_words")) := T.glo _ (T.says.fact 23 (f := .glo "_law_bent_words") rfl)
theorem bi_law_bent_words (T : Tx K mg) : Binds K (fd_law_bent_words T) ["source", "told"] [] := (F_law_bent_words T).bindsN fun _ _ _ _ _ _ us hl => match us, hl with | [_, _], _ => rfl
theorem x_law_bent (T : Tx K mg) : ∃ fd, FunD K "_law_bent" "_law_bent" (defArgs (topS 31)) (defBody (topS 31)) (defScope (topS 31)) [] [] (He.ga K "_law_bent") fd := T.says.def_ 24 (d := dd_law_bent) rfl
noncomputable def fd_law_bent (T : Tx K mg) : FuncData := (x_law_bent T).choose
theorem F_law_bent (T : Tx K mg) : FunD K "_law_bent" "_law_bent" (defArgs (topS 31)) (defBody (topS 31)) (defScope (topS 31)) [] [] (He.ga K "_law_bent") (fd_law_bent T) := (x_law_bent T).choose_spec
theorem g_law_bent (T : Tx K mg) : mg "_law_bent" = some (.ref (He.ga K "_law_bent")) := T.glo _ (T.says.fact 24 (f := .glo "_law_bent") rfl)
theorem bi_law_bent (T : Tx K mg) : Binds K (fd_law_bent T) ["source", "wish"] [] := (F_law_bent T).bindsN fun _ _ _ _ _ _ us hl => match us, hl with | [_, _], _ => rfl
theorem x_law_same (T : Tx K mg) : ∃ fd, FunD K "_law_same" "_law_same" (defArgs (topS 32)) (defBody (topS 32)) (defScope (topS 32)) [] [] (He.ga K "_law_same") fd := T.says.def_ 25 (d := dd_law_same) rfl
noncomputable def fd_law_same (T : Tx K mg) : FuncData := (x_law_same T).choose
theorem F_law_same (T : Tx K mg) : FunD K "_law_same" "_law_same" (defArgs (topS 32)) (defBody (topS 32)) (defScope (topS 32)) [] [] (He.ga K "_law_same") (fd_law_same T) := (x_law_same T).choose_spec
theorem g_law_same (T : Tx K mg) : mg "_law_same" = some (.ref (He.ga K "_law_same")) := T.glo _ (T.says.fact 25 (f := .glo "_law_same") rfl)
theorem bi_law_same (T : Tx K mg) : Binds K (fd_law_same T) ["thing"] [] := (F_law_same T).bindsN fun _ _ _ _ _ _ us hl => match us, hl with | [_], _ => rfl
theorem x_law (T : Tx K mg) : ∃ fd, FunD K "law" "law" (defArgs (topS 33)) (defBody (topS 33)) (defScope (topS 33)) [] [] (He.ga K "law") fd := T.says.def_ 26 (d := dd_law) rfl
noncomputable def fd_law (T : Tx K mg) : FuncData := (x_law T).choose
theorem F_law (T : Tx K mg) : FunD K "law" "law" (defArgs (topS 33)) (defBody (topS 33)) (defScope (topS 33)) [] [] (He.ga K "law") (fd_law T) := (x_law T).choose_spec
theorem g_law (T : Tx K mg) : mg "law" = some (.ref (He.ga K "law")) := T.glo _ (T.says.fact 26 (f := .glo "law") rfl)
theorem bi_law (T : Tx K mg) : Binds K (fd_law T) ["script"] [] := (F_law T).bindsN fun _ _ _ _ _ _ us hl => match us, hl with | [_], _ => rfl
theorem Tx.n_isinstance (T : Tx K mg) : mg "isinstance" = none := T.free _ (T.says.fact 27 (f := .free "isinstance") rfl)
theorem Tx.n_bool (T : Tx K mg) : mg "bool" = none := T.free _ (T.says.fact 28 (f := .free "bool") rfl)
theorem Tx.n_int (T : Tx K mg) : mg "int" = none := T.free _ (T.says.fact 29 (f := .free "int") rfl)
theorem Tx.n_abs (T : Tx K mg) : mg "abs" = none := T.free _ (T.says.fact 30 (f := .free "abs") rfl)
theorem Tx.n_len (T : Tx K mg) : mg "len" = none := T.free _ (T.says.fact 31 (f := .free "len") rfl)
theorem Tx.n_tuple (T : Tx K mg) : mg "tuple" = none := T.free _ (T.says.fact 32 (f := .free "tuple") rfl)
theorem Tx.n_str (T : Tx K mg) : mg "str" = none := T.free _ (T.says.fact 33 (f := .free "str") rfl)
theorem Tx.n_all (T : Tx K mg) : mg "all" = none := T.free _ (T.says.fact 34 (f := .free "all") rfl)
theorem Tx.n_range (T : Tx K mg) : mg "range" = none := T.free _ (T.says.fact 35 (f := .free "range") rfl)
theorem Tx.n_set (T : Tx K mg) : mg "set" = none := T.free _ (T.says.fact 36 (f := .free "set") rfl)
theorem Tx.n_list (T : Tx K mg) : mg "list" = none := T.free _ (T.says.fact 37 (f := .free "list") rfl)
theorem Tx.n_min (T : Tx K mg) : mg "min" = none := T.free _ (T.says.fact 38 (f := .free "min") rfl)
theorem Tx.n_max (T : Tx K mg) : mg "max" = none := T.free _ (T.says.fact 39 (f := .free "max") rfl)
theorem Tx.c_LETTERS (T : Tx K mg) : ∃ t, mg "LETTERS" = some (.str "abcdefghijklmnopqrstuvwxyz" t) := T.str _ _ (T.says.fact 40 (f := .str "LETTERS" "abcdefghijklmnopqrstuvwxyz") rfl)
theorem Tx.c_MOST_WORDS (T : Tx K mg) : ∃ t, mg "MOST_WORDS" = some (.int 60 t) := T.int _ _ (T.says.fact 41 (f := .int "MOST_WORDS" 60) rfl)
end
/-! is_whole -/
abbrev s_is_whole : Stmt := topS 1
theorem sc_is_whole : FnScope ["thing"] ["thing"] (defScope s_is_whole) := ⟨rfl, rfl, rfl, by decide +kernel, rfl, by decide +kernel, by decide +kernel⟩
noncomputable def b_is_whole : En → R Fl :=
  (dRet (dAndV (dIsi "int" (dVar 0)) (dB (dNot (dIsi "bool" (dVar 0))))))
noncomputable def m_is_whole : En → R L := dDef 1 b_is_whole
section
variable {P : Program} {wd : World} {K : PySem.W.Frag} {mg : Str → Option Value} {base : Heap}
theorem ok_is_whole (T : Tx K mg) : FnOk P wd K mg base (L2.CX P wd) 1 (He.ga K "is_whole") (fd_is_whole T) ["thing"] (spD K (caK [] K) 1 m_is_whole) :=
  fn_denD (F_is_whole T) sc_is_whole fun cdv A outer s H E g =>
  (vss_one (vs_ret (ve_and (ve_isi (by rfl) T.n_isinstance (ve_var 0) (by rfl) T.n_int boot_ty_int) (ve_and1 (ve_not (ve_isi (by rfl) T.n_isinstance (ve_var 0) (by rfl) T.n_bool boot_ty_bool))))))
end
/-! divisor -/
abbrev s_divisor : Stmt := topS 2
theorem sc_divisor : FnScope ["one", "other"] ["one", "other"] (defScope s_divisor) := ⟨rfl, rfl, rfl, by decide +kernel, rfl, by decide +kernel, by decide +kernel⟩
noncomputable def b_divisor_l1 : En → R Fl :=
  (dPar 0 1 (aIm (dVar 1) (aIm (dOp gMod (dVar 0) (dVar 1)) aNil)))
noncomputable def b_divisor : En → R Fl :=
  (dSeq (dWhile (dCmp gNe (dVar 1) (dC (.int 0))) b_divisor_l1)
  (dRet (dCall gAbs (aIm (dVar 0) aNil))))
noncomputable def m_divisor : En → R L := dDef 2 b_divisor
section
variable {P : Program} {wd : World} {K : PySem.W.Frag} {mg : Str → Option Value} {base : Heap}
theorem ok_divisor (T : Tx K mg) : FnOk P wd K mg base (L2.CX P wd) 1 (He.ga K "divisor") (fd_divisor T) ["one", "other"] (spD K (caK [] K) 2 m_divisor) :=
  fn_denD (F_divisor T) sc_divisor fun cdv A outer s H E g =>
  (vss_cons (vs_while g.po (vt_cmp (op_neD g.hr.units) ob_ne (ve_var 1) ve_int (nomark _))
   (vss_one (vs_par 0 1 g.calm sc_divisor.nd (va_im (ve_var 1) (va_im (ve_mod (ve_var 0) (ve_var 1)) va_nil)))))
  (vss_one (vs_ret (ve_cB call_abs cs_abs (by rfl) T.n_abs boot_B_abs (va_im (ve_var 0) va_nil)))))
end
/-! is_number -/
abbrev s_is_number : Stmt := topS 3
theorem sc_is_number : FnScope ["thing", "top", "bottom"] ["thing"] (defScope s_is_number) := ⟨rfl, rfl, rfl, by decide +kernel, rfl, by decide +kernel, by decide +kernel⟩
noncomputable def b_is_number : En → R Fl :=
  (dSeq (dIf (dOr (dNot (dIsi "tuple" (dVar 0))) (dCmp gNe (dLenN 0) (dC (.int 2))))
   (dRet (dC (.bool false)))
   dNx)
  (dSeq (dAsg (gTupD 2 (gsCons (putIm 1) (gsCons (putIm 2) gsNil))) (dVar 0))
  (dSeq (dIf (dOr (dNot (dTru (dFn 1 m_is_whole (aIm (dVar 1) aNil)))) (dNot (dTru (dFn 1 m_is_whole (aIm (dVar 2) aNil)))))
   (dRet (dC (.bool false)))
   dNx)
  (dRet (dAndV (dCmp gGt (dVar 2) (dC (.int 0))) (dB (dCmp gEq (dFn 2 m_divisor (aIm (dVar 1) (aIm (dVar 2) aNil))) (dC (.int 1)))))))))
noncomputable def m_is_number : En → R L := dDef 3 b_is_number
section
variable {P : Program} {wd : World} {K : PySem.W.Frag} {mg : Str → Option Value} {base : Heap}
theorem ok_is_number (T : Tx K mg) : FnOk P wd K mg base (L2.CX P wd) 2 (He.ga K "is_number") (fd_is_number T) ["thing"] (spD K (caK [] K) 1 m_is_number) :=
  fn_denD (F_is_number T) sc_is_number fun cdv A outer s H E g =>
  (vss_cons (vs_if (vt_w (vw_or (vt_not (vt_b (ve_isi (by rfl) T.n_isinstance (ve_var 0) (by rfl) T.n_tuple boot_ty_tuple))) (vw_or1 (vt_cmp (op_neD g.hr.units) ob_ne (ve_lenN 0 (by rfl) T.n_len) ve_int (nomark _)))))
   (vss_one (vs_ret ve_bl))
   vss_nil)
  (vss_cons (vs_asg (ve_var 0) (vg_tup g.calm (vgs_cons (vg_name 1 sc_is_number.nd) (vgs_cons (vg_name 2 sc_is_number.nd) vgs_nil))) (nox_tup (nox_cons nox_put (nox_cons nox_put nox_nil))))
  (vss_cons (vs_if (vt_w (vw_or (vt_not (vt_tru (ve_call (ok_is_whole T) (g.hr.mono (by decide)) g.tk rfl (by rfl) (g_is_whole T) (F_is_whole T).kp (bi_is_whole T) (va_im (ve_var 1) va_nil)))) (vw_or1 (vt_not (vt_tru (ve_call (ok_is_whole T) (g.hr.mono (by decide)) g.tk rfl (by rfl) (g_is_whole T) (F_is_whole T).kp (bi_is_whole T) (va_im (ve_var 2) va_nil)))))))
   (vss_one (vs_ret ve_bl))
   vss_nil)
  (vss_one (vs_ret (ve_and (ve_cmp op_gtA ob_gt (ve_var 2) ve_int (nomark _)) (ve_and1 (ve_cmp (op_eqD g.hr.units) ob_eq (ve_call (ok_divisor T) (g.hr.mono (by decide)) g.tk rfl (by rfl) (g_divisor T) (F_divisor T).kp (bi_divisor T) (va_im (ve_var 1) (va_im (ve_var 2) va_nil))) ve_int (nomark _)))))))))
end
/-! under -/
abbrev s_under : Stmt := topS 4
theorem sc_under : FnScope ["one", "other"] ["one", "other"] (defScope s_under) := ⟨rfl, rfl, rfl, by decide +kernel, rfl, by decide +kernel, by decide +kernel⟩
noncomputable def b_under : En → R Fl :=
  (dRet (dB (dCmp gLt (dOp gMul (dIxN 0 (dC (.int 0))) (dIxN 1 (dC (.int 1)))) (dOp gMul (dIxN 1 (dC (.int 0))) (dIxN 0 (dC (.int 1)))))))
noncomputable def m_under : En → R L := dDef 2 b_under
section
variable {P : Program} {wd : World} {K : PySem.W.Frag} {mg : Str → Option Value} {base : Heap}
theorem ok_under (T : Tx K mg) : FnOk P wd K mg base (L2.CX P wd) 1 (He.ga K "under") (fd_under T) ["one", "other"] (spD K (caK [] K) 2 m_under) :=
  fn_denD (F_under T) sc_under fun cdv A outer s H E g =>
  (vss_one (vs_ret (ve_cmp op_ltA ob_lt (ve_mul (ve_ixN 0 ve_int) (ve_ixN 1 ve_int)) (ve_mul (ve_ixN 1 ve_int) (ve_ixN 0 ve_int)) (nomark _))))
end
/-! is_told -/
abbrev s_is_told : Stmt := topS 6
theorem sc_is_told : FnScope ["thing"] ["thing"] (defScope s_is_told) := ⟨rfl, rfl, rfl, by decide +kernel, rfl, by decide +kernel, by decide +kernel⟩
noncomputable def b_is_told : En → R Fl :=
  (dRet (dAndV (dUB (dFn 1 m_is_number (aIm (dVar 0) aNil))) (dAndV (dCmp gLt (dCall gAbs (aIm (dIxN 0 (dC (.int 0))) aNil)) (dOp gPow (dC (.int 10)) (dC (.int 18)))) (dB (dCmp gLe (dIxN 0 (dC (.int 1))) (dC (.int 60)))))))
noncomputable def m_is_told : En → R L := dDef 1 b_is_told
section
variable {P : Program} {wd : World} {K : PySem.W.Frag} {mg : Str → Option Value} {base : Heap}
theorem ok_is_told (T : Tx K mg) : FnOk P wd K mg base (L2.CX P wd) 3 (He.ga K "is_told") (fd_is_told T) ["thing"] (spD K (caK [] K) 1 m_is_told) :=
  fn_denD (F_is_told T) sc_is_told fun cdv A outer s H E g =>
  (vss_one (vs_ret (ve_and (ve_ub (ve_call (ok_is_number T) (g.hr.mono (by decide)) g.tk rfl (by rfl) (g_is_number T) (F_is_number T).kp (bi_is_number T) (va_im (ve_var 0) va_nil))) (ve_and (ve_cmp op_ltA ob_lt (ve_cB call_abs cs_abs (by rfl) T.n_abs boot_B_abs (va_im (ve_ixN 0 ve_int) va_nil)) (ve_pow ve_int ve_int) (nomark _)) (ve_and1 (ve_cmp op_leA ob_le (ve_ixN 0 ve_int) ve_int (nomark _)))))))
end
/-! is_word -/
abbrev s_is_word : Stmt := topS 9
theorem sc_is_word : FnScope ["thing", "sign"] ["thing"] (defScope s_is_word) := ⟨rfl, rfl, rfl, by decide +kernel, rfl, by decide +kernel, by decide +kernel⟩
noncomputable def b_is_word_l1 : D → En → R (Option D) :=
  (lcT (putIm 1) tT
   (dB (dCmp gIn (dVar 1) (dC (.str "abcdefghijklmnopqrstuvwxyz")))))
noncomputable def b_is_word : En → R Fl :=
  (dSeq (dIf (dOr (dNot (dIsi "str" (dVar 0))) (dNot (dChain gLe gLe (dC (.int 1)) (dLenN 0) (dC (.int 8)))))
   (dRet (dC (.bool false)))
   dNx)
  (dRet (dCall gAll (aIm (dFz (nLc (iD (dVar 0)) b_is_word_l1 [1])) aNil))))
noncomputable def m_is_word : En → R L := dDef 2 b_is_word
section
variable {P : Program} {wd : World} {K : PySem.W.Frag} {mg : Str → Option Value} {base : Heap}
theorem ok_is_word (T : Tx K mg) : FnOk P wd K mg base (L2.CX P wd) 1 (He.ga K "is_word") (fd_is_word T) ["thing"] (spD K (caK [] K) 1 m_is_word) :=
  fn_denD (F_is_word T) sc_is_word fun cdv A outer s H E g =>
  (vss_cons (vs_if (vt_w (vw_or (vt_not (vt_b (ve_isi (by rfl) T.n_isinstance (ve_var 0) (by rfl) T.n_str boot_ty_str))) (vw_or1 (vt_not (vt_chain op_leA ob_le op_leA ob_le ve_int (ve_lenN 0 (by rfl) T.n_len) ve_int)))))
   (vss_one (vs_ret ve_bl))
   vss_nil)
  (vss_one (vs_ret (ve_cB (cr_all g.calm) cs_all (by rfl) T.n_all boot_B_all (va_im (ve_fz (vn_lcG [("sign", 1)] g sc_is_word.nd (vi_val (ve_var 0)) (by kernel_rfl)
   (fun s H C cl fp g => (vgc_name 1 (by decide) sc_is_word.nd)) (fun s H C cl fp g => vts_nil)
   (fun s H C cl fp g => (ve_cmp (op_inA g.u65) ob_in (ve_var 1) (ve_glS (by rfl) T.c_LETTERS) (by rfl))))) va_nil)))))
end
/-! are_ends -/
abbrev s_are_ends : Stmt := topS 12
theorem sc_are_ends : FnScope ["lo", "hi"] ["lo", "hi"] (defScope s_are_ends) := ⟨rfl, rfl, rfl, by decide +kernel, rfl, by decide +kernel, by decide +kernel⟩
noncomputable def b_are_ends : En → R Fl :=
  (dRet (dAndV (dUB (dFn 1 m_is_told (aIm (dVar 0) aNil))) (dAndV (dUB (dFn 1 m_is_told (aIm (dVar 1) aNil))) (dFn 2 m_under (aIm (dVar 0) (aIm (dVar 1) aNil))))))
noncomputable def m_are_ends : En → R L := dDef 2 b_are_ends
section
variable {P : Program} {wd : World} {K : PySem.W.Frag} {mg : Str → Option Value} {base : Heap}
theorem ok_are_ends (T : Tx K mg) : FnOk P wd K mg base (L2.CX P wd) 4 (He.ga K "are_ends") (fd_are_ends T) ["lo", "hi"] (spD K (caK [] K) 2 m_are_ends) :=
  fn_denD (F_are_ends T) sc_are_ends fun cdv A outer s H E g =>
  (vss_one (vs_ret (ve_and (ve_ub (ve_call (ok_is_told T) (g.hr.mono (by decide)) g.tk rfl (by rfl) (g_is_told T) (F_is_told T).kp (bi_is_told T) (va_im (ve_var 0) va_nil))) (ve_and (ve_ub (ve_call (ok_is_told T) (g.hr.mono (by decide)) g.tk rfl (by rfl) (g_is_told T) (F_is_told T).kp (bi_is_told T) (va_im (ve_var 1) va_nil))) (ve_and1 (ve_call (ok_under T) (g.hr.mono (by decide)) g.tk rfl (by rfl) (g_under T) (F_under T).kp (bi_under T) (va_im (ve_var 0) (va_im (ve_var 1) va_nil))))))))
end
/-! are_pieces -/
abbrev s_are_pieces : Stmt := topS 13
theorem sc_are_pieces : FnScope ["thing", "k"] ["thing"] (defScope s_are_pieces) := ⟨rfl, rfl, rfl, by decide +kernel, rfl, by decide +kernel, by decide +kernel⟩
noncomputable def b_are_pieces_l1 : En → R Fl :=
  (dSeq (dIf (dOr (dNot (dIsi "tuple" (dIxN 0 (dVar 1)))) (dOr (dCmp gNe (dCall gLen (aIm (dIxN 0 (dVar 1)) aNil)) (dC (.int 2))) (dNot (dTru (dFn 2 m_are_ends (aIm (dOp gIx (dIxN 0 (dVar 1)) (dC (.int 0))) (aIm (dOp gIx (dIxN 0 (dVar 1)) (dC (.int 1))) aNil)))))))
   (dRet (dC (.bool false)))
   dNx)
  (dIf (dAnd (dCmp gGt (dVar 1) (dC (.int 0))) (dNot (dTru (dFn 2 m_under (aIm (dOp gIx (dIxN 0 (dOp gSub (dVar 1) (dC (.int 1)))) (dC (.int 1))) (aIm (dOp gIx (dIxN 0 (dVar 1)) (dC (.int 0))) aNil))))))
   (dRet (dC (.bool false)))
   dNx))
noncomputable def b_are_pieces : En → R Fl :=
  (dSeq (dIf (dOr (dNot (dIsi "tuple" (dVar 0))) (dNot (dChain gLe gLe (dC (.int 2)) (dLenN 0) (dC (.int 4)))))
   (dRet (dC (.bool false)))
   dNx)
  (dSeq (dFor (iRg1 (aIm (dLenN 0) aNil)) (putIm 1) b_are_pieces_l1)
  (dRet (dC (.bool true)))))
noncomputable def m_are_pieces : En → R L := dDef 2 b_are_pieces
section
variable {P : Program} {wd : World} {K : PySem.W.Frag} {mg : Str → Option Value} {base : Heap}
theorem ok_are_pieces (T : Tx K mg) : FnOk P wd K mg base (L2.CX P wd) 5 (He.ga K "are_pieces") (fd_are_pieces T) ["thing"] (spD K (caK [] K) 1 m_are_pieces) :=
  fn_denD (F_are_pieces T) sc_are_pieces fun cdv A outer s H E g =>
  (vss_cons (vs_if (vt_w (vw_or (vt_not (vt_b (ve_isi (by rfl) T.n_isinstance (ve_var 0) (by rfl) T.n_tuple boot_ty_tuple))) (vw_or1 (vt_not (vt_chain op_leA ob_le op_leA ob_le ve_int (ve_lenN 0 (by rfl) T.n_len) ve_int)))))
   (vss_one (vs_ret ve_bl))
   vss_nil)
  (vss_cons (vs_for g.po g.calm (vi_range1 (by rfl) T.n_range (va_im (ve_lenN 0 (by rfl) T.n_len) va_nil)) (vg_name 1 sc_are_pieces.nd) nox_put
   (vss_cons (vs_if (vt_w (vw_or (vt_not (vt_b (ve_isi (by rfl) T.n_isinstance (ve_ixN 0 (ve_var 1)) (by rfl) T.n_tuple boot_ty_tuple))) (vw_or (vt_cmp (op_neD g.hr.units) ob_ne (ve_cB call_len cs_len (by rfl) T.n_len boot_len (va_im (ve_ixN 0 (ve_var 1)) va_nil)) ve_int (nomark _)) (vw_or1 (vt_not (vt_tru (ve_call (ok_are_ends T) (g.hr.mono (by decide)) g.tk rfl (by rfl) (g_are_ends T) (F_are_ends T).kp (bi_are_ends T) (va_im (ve_ix (ve_ixN 0 (ve_var 1)) ve_int) (va_im (ve_ix (ve_ixN 0 (ve_var 1)) ve_int) va_nil)))))))))
   (vss_one (vs_ret ve_bl))
   vss_nil)
  (vss_one (vs_if (vt_w (vw_and (vt_cmp op_gtA ob_gt (ve_var 1) ve_int (nomark _)) (vw_and1 (vt_not (vt_tru (ve_call (ok_under T) (g.hr.mono (by decide)) g.tk rfl (by rfl) (g_under T) (F_under T).kp (bi_under T) (va_im (ve_ix (ve_ixN 0 (ve_sub (ve_var 1) ve_int)) ve_int) (va_im (ve_ix (ve_ixN 0 (ve_var 1)) ve_int) va_nil))))))))
   (vss_one (vs_ret ve_bl))
   vss_nil))))
  (vss_one (vs_ret ve_bl))))
end
/-! are_words -/
abbrev s_are_words : Stmt := topS 14
theorem sc_are_words : FnScope ["thing", "word"] ["thing"] (defScope s_are_words) := ⟨rfl, rfl, rfl, by decide +kernel, rfl, by decide +kernel, by decide +kernel⟩
noncomputable def b_are_words_l1 : En → R Fl :=
  (dIf (dNot (dTru (dFn 1 m_is_word (aIm (dVar 1) aNil))))
   (dRet (dC (.bool false)))
   dNx)
noncomputable def b_are_words : En → R Fl :=
  (dSeq (dIf (dOr (dNot (dIsi "tuple" (dVar 0))) (dNot (dChain gLe gLe (dC (.int 1)) (dLenN 0) (dC (.int 60)))))
   (dRet (dC (.bool false)))
   dNx)
  (dSeq (dFor (iD (dVar 0)) (putIm 1) b_are_words_l1)
  (dRet (dB (dCmp gEq (d1 gSetLen (dVar 0)) (dLenN 0))))))
noncomputable def m_are_words : En → R L := dDef 2 b_are_words
section
variable {P : Program} {wd : World} {K : PySem.W.Frag} {mg : Str → Option Value} {base : Heap}
theorem ok_are_words (T : Tx K mg) : FnOk P wd K mg base (L2.CX P wd) 2 (He.ga K "are_words") (fd_are_words T) ["thing"] (spD K (caK [] K) 1 m_are_words) :=
  fn_denD (F_are_words T) sc_are_words fun cdv A outer s H E g =>
  (vss_cons (vs_if (vt_w (vw_or (vt_not (vt_b (ve_isi (by rfl) T.n_isinstance (ve_var 0) (by rfl) T.n_tuple boot_ty_tuple))) (vw_or1 (vt_not (vt_chain op_leA ob_le op_leA ob_le ve_int (ve_lenN 0 (by rfl) T.n_len) (ve_glI (by rfl) T.c_MOST_WORDS))))))
   (vss_one (vs_ret ve_bl))
   vss_nil)
  (vss_cons (vs_for g.po g.calm (vi_val (ve_var 0)) (vg_name 1 sc_are_words.nd) nox_put
   (vss_one (vs_if (vt_not (vt_tru (ve_call (ok_is_word T) (g.hr.mono (by decide)) g.tk rfl (by rfl) (g_is_word T) (F_is_word T).kp (bi_is_word T) (va_im (ve_var 1) va_nil))))
   (vss_one (vs_ret ve_bl))
   vss_nil)))
  (vss_one (vs_ret (ve_cmp (op_eqD g.hr.units) ob_eq (ve_lenSet g.calm (by rfl) T.n_len (by rfl) T.n_set (ve_var 0)) (ve_lenN 0 (by rfl) T.n_len) (nomark _))))))
end
/-! is_wish -/
abbrev s_is_wish : Stmt := topS 15
theorem sc_is_wish : FnScope ["thing"] ["thing"] (defScope s_is_wish) := ⟨rfl, rfl, rfl, by decide +kernel, rfl, by decide +kernel, by decide +kernel⟩
noncomputable def b_is_wish : En → R Fl :=
  (dSeq (dIf (dOr (dNot (dIsi "tuple" (dVar 0))) (dOr (dCmp gEqT (dVar 0) (dTup aNil)) (dNot (dIsi "str" (dIxN 0 (dC (.int 0)))))))
   (dRet (dC (.bool false)))
   dNx)
  (dSeq (dIf (dCmp gEq (dLenN 0) (dC (.int 1)))
   (dRet (dB (dCmp gIn (dIxN 0 (dC (.int 0))) (dTup (aIm (dC (.str "straight")) (aIm (dC (.str "days")) (aIm (dC (.str "order")) aNil)))))))
   dNx)
  (dSeq (dIf (dCmp gEq (dLenN 0) (dC (.int 3)))
   (dRet (dAndV (dCmp gEq (dIxN 0 (dC (.int 0))) (dC (.str "straight"))) (dFn 2 m_are_ends (aIm (dIxN 0 (dC (.int 1))) (aIm (dIxN 0 (dC (.int 2))) aNil)))))
   dNx)
  (dSeq (dIf (dCmp gNe (dLenN 0) (dC (.int 2)))
   (dRet (dC (.bool false)))
   dNx)
  (dSeq (dIf (dCmp gEq (dIxN 0 (dC (.int 0))) (dC (.str "turns")))
   (dRet (dAndV (dUB (dFn 1 m_is_whole (aIm (dIxN 0 (dC (.int 1))) aNil))) (dB (dCmp gIn (dIxN 0 (dC (.int 1))) (dTup (aIm (dC (.int 2)) (aIm (dC (.int 10)) aNil)))))))
   dNx)
  (dSeq (dIf (dCmp gEq (dIxN 0 (dC (.int 0))) (dC (.str "broken")))
   (dRet (dFn 1 m_are_pieces (aIm (dIxN 0 (dC (.int 1))) aNil)))
   dNx)
  (dRet (dAndV (dCmp gEq (dIxN 0 (dC (.int 0))) (dC (.str "order"))) (dFn 1 m_are_words (aIm (dIxN 0 (dC (.int 1))) aNil))))))))))
noncomputable def m_is_wish : En → R L := dDef 1 b_is_wish
section
variable {P : Program} {wd : World} {K : PySem.W.Frag} {mg : Str → Option Value} {base : Heap}
theorem ok_is_wish (T : Tx K mg) : FnOk P wd K mg base (L2.CX P wd) 6 (He.ga K "is_wish") (fd_is_wish T) ["thing"] (spD K (caK [] K) 1 m_is_wish) :=
  fn_denD (F_is_wish T) sc_is_wish fun cdv A outer s H E g =>
  (vss_cons (vs_if (vt_w (vw_or (vt_not (vt_b (ve_isi (by rfl) T.n_isinstance (ve_var 0) (by rfl) T.n_tuple boot_ty_tuple))) (vw_or (vt_cmp (op_eqT g.hr.units) ob_eqT (ve_var 0) (ve_tup va_nil) (nomark _)) (vw_or1 (vt_not (vt_b (ve_isi (by rfl) T.n_isinstance (ve_ixN 0 ve_int) (by rfl) T.n_str boot_ty_str)))))))
   (vss_one (vs_ret ve_bl))
   vss_nil)
  (vss_cons (vs_if (vt_cmp (op_eqD g.hr.units) ob_eq (ve_lenN 0 (by rfl) T.n_len) ve_int (nomark _))
   (vss_one (vs_ret (ve_cmp (op_inA g.u65) ob_in (ve_ixN 0 ve_int) (ve_tup (va_im ve_str (va_im ve_str (va_im ve_str va_nil)))) (by rfl))))
   vss_nil)
  (vss_cons (vs_if (vt_cmp (op_eqD g.hr.units) ob_eq (ve_lenN 0 (by rfl) T.n_len) ve_int (nomark _))
   (vss_one (vs_ret (ve_and (ve_cmp (op_eqD g.hr.units) ob_eq (ve_ixN 0 ve_int) ve_str (nomark _)) (ve_and1 (ve_call (ok_are_ends T) (g.hr.mono (by decide)) g.tk rfl (by rfl) (g_are_ends T) (F_are_ends T).kp (bi_are_ends T) (va_im (ve_ixN 0 ve_int) (va_im (ve_ixN 0 ve_int) va_nil)))))))
   vss_nil)
  (vss_cons (vs_if (vt_cmp (op_neD g.hr.units) ob_ne (ve_lenN 0 (by rfl) T.n_len) ve_int (nomark _))
   (vss_one (vs_ret ve_bl))
   vss_nil)
  (vss_cons (vs_if (vt_cmp (op_eqD g.hr.units) ob_eq (ve_ixN 0 ve_int) ve_str (nomark _))
   (vss_one (vs_ret (ve_and (ve_ub (ve_call (ok_is_whole T) (g.hr.mono (by decide)) g.tk rfl (by rfl) (g_is_whole T) (F_is_whole T).kp (bi_is_whole T) (va_im (ve_ixN 0 ve_int) va_nil))) (ve_and1 (ve_cmp (op_inA g.u65) ob_in (ve_ixN 0 ve_int) (ve_tup (va_im ve_int (va_im ve_int va_nil))) (by rfl))))))
   vss_nil)
  (vss_cons (vs_if (vt_cmp (op_eqD g.hr.units) ob_eq (ve_ixN 0 ve_int) ve_str (nomark _))
   (vss_one (vs_ret (ve_call (ok_are_pieces T) (g.hr.mono (by decide)) g.tk rfl (by rfl) (g_are_pieces T) (F_are_pieces T).kp (bi_are_pieces T) (va_im (ve_ixN 0 ve_int) va_nil))))
   vss_nil)
  (vss_one (vs_ret (ve_and (ve_cmp (op_eqD g.hr.units) ob_eq (ve_ixN 0 ve_int) ve_str (nomark _)) (ve_and1 (ve_call (ok_are_words T) (g.hr.mono (by decide)) g.tk rfl (by rfl) (g_are_words T) (F_are_words T).kp (bi_are_words T) (va_im (ve_ixN 0 ve_int) va_nil))))))))))))
end
/-! axis_word -/
abbrev s_axis_word : Stmt := topS 16
theorem sc_axis_word : FnScope ["wish"] ["wish"] (defScope s_axis_word) := ⟨rfl, rfl, rfl, by decide +kernel, rfl, by decide +kernel, by decide +kernel⟩
noncomputable def b_axis_word : En → R Fl :=
  (dSeq (dIf (dCmp gEq (dIxN 0 (dC (.int 0))) (dC (.str "turns")))
   (dRet (dOp gAdd (dC (.str "turns ")) (dCall gStr (aIm (dIxN 0 (dC (.int 1))) aNil))))
   dNx)
  (dRet (dIxN 0 (dC (.int 0)))))
noncomputable def m_axis_word : En → R L := dDef 1 b_axis_word
section
variable {P : Program} {wd : World} {K : PySem.W.Frag} {mg : Str → Option Value} {base : Heap}
theorem ok_axis_word (T : Tx K mg) : FnOk P wd K mg base (L2.CX P wd) 1 (He.ga K "axis_word") (fd_axis_word T) ["wish"] (spD K (caK [] K) 1 m_axis_word) :=
  fn_denD (F_axis_word T) sc_axis_word fun cdv A outer s H E g =>
  (vss_cons (vs_if (vt_cmp (op_eqD g.hr.units) ob_eq (ve_ixN 0 ve_int) ve_str (nomark _))
   (vss_one (vs_ret (ve_add ve_str (ve_cT call_str_int cs_str (by rfl) T.n_str boot_ty_str (va_im (ve_ixN 0 ve_int) va_nil)))))
   vss_nil)
  (vss_one (vs_ret (ve_ixN 0 ve_int))))
end
/-! _law_cell_at -/
abbrev s_law_cell_at : Stmt := topS 18
theorem sc_law_cell_at : FnScope ["script", "k"] ["script", "k"] (defScope s_law_cell_at) := ⟨rfl, rfl, rfl, by decide +kernel, rfl, by decide +kernel, by decide +kernel⟩
noncomputable def b_law_cell_at : En → R Fl :=
  (dSeq (dIf (dCmp gLt (dVar 1) (dLenN 0))
   (dRet (dIxN 0 (dVar 1)))
   dNx)
  (dRet (dC (.int 0))))
noncomputable def m_law_cell_at : En → R L := dDef 2 b_law_cell_at
section
variable {P : Program} {wd : World} {K : PySem.W.Frag} {mg : Str → Option Value} {base : Heap}
theorem ok_law_cell_at (T : Tx K mg) : FnOk P wd K mg base (L2.CX P wd) 1 (He.ga K "_law_cell_at") (fd_law_cell_at T) ["script", "k"] (spD K (caK [] K) 2 m_law_cell_at) :=
  fn_denD (F_law_cell_at T) sc_law_cell_at fun cdv A outer s H E g =>
  (vss_cons (vs_if (vt_cmp op_ltA ob_lt (ve_var 1) (ve_lenN 0 (by rfl) T.n_len) (nomark _))
   (vss_one (vs_ret (ve_ixN 0 (ve_var 1))))
   vss_nil)
  (vss_one (vs_ret ve_int)))
end
/-! _law_source -/
abbrev s_law_source : Stmt := topS 19
theorem sc_law_source : FnScope ["script", "k", "cell", "seed"] ["script", "k"] (defScope s_law_source) := ⟨rfl, rfl, rfl, by decide +kernel, rfl, by decide +kernel, by decide +kernel⟩
noncomputable def b_law_source : En → R Fl :=
  (dSeq (dAsg (putIm 2) (dFn 2 m_law_cell_at (aIm (dVar 0) (aIm (dVar 1) aNil))))
  (dSeq (dAsg (putIm 3) (dOp gMod (dOp gMul (dOp gAdd (dOp gAdd (dOp gMod (dVar 2) (dC (.int 2147483647))) (dOp gMul (dC (.int 104729)) (dVar 1))) (dC (.int 7))) (dC (.int 48271))) (dC (.int 2147483629))))
  (dRetL (nLst (aIm (dOp gMul (dVar 2) (dCall gInt (aIm (dB (dCmp gGe (dVar 2) (dOp gPow (dC (.int 10)) (dC (.int 18))))) aNil))) (aIm (dOp gMod (dOp gMul (dVar 3) (dVar 3)) (dC (.int 2147483587))) aNil))))))
noncomputable def m_law_source : En → R L := dDef 4 b_law_source
section
variable {P : Program} {wd : World} {K : PySem.W.Frag} {mg : Str → Option Value} {base : Heap}
theorem ok_law_source (T : Tx K mg) : FnOk P wd K mg base (L2.CX P wd) 2 (He.ga K "_law_source") (fd_law_source T) ["script", "k"] (spD K (caK [] K) 2 m_law_source) :=
  fn_denD (F_law_source T) sc_law_source fun cdv A outer s H E g =>
  (vss_cons (vs_set 2 sc_law_source.nd (ve_call (ok_law_cell_at T) (g.hr.mono (by decide)) g.tk rfl (by rfl) (g_law_cell_at T) (F_law_cell_at T).kp (bi_law_cell_at T) (va_im (ve_var 0) (va_im (ve_var 1) va_nil))))
  (vss_cons (vs_set 3 sc_law_source.nd (ve_mod (ve_mul (ve_add (ve_add (ve_mod (ve_var 2) ve_int) (ve_mul ve_int (ve_var 1))) ve_int) ve_int) ve_int))
  (vss_one (vs_retL (vn_lst (va_im (ve_mul (ve_var 2) (ve_cT call_intA cs_int (by rfl) T.n_int boot_ty_int (va_im (ve_cmp op_geA ob_ge (ve_var 2) (ve_pow ve_int ve_int) (nomark _)) va_nil))) (va_im (ve_mod (ve_mul (ve_var 3) (ve_var 3)) ve_int) va_nil)))))))
end
/-! _law_draw -/
abbrev s_law_draw : Stmt := topS 20
theorem sc_law_draw : FnScope ["source", "many", "digit"] ["source", "many"] (defScope s_law_draw) := ⟨rfl, rfl, rfl, by decide +kernel, rfl, by decide +kernel, by decide +kernel⟩
noncomputable def b_law_draw : En → R Fl :=
  (dSeq (dIf (dCmp gGt (dIxN 0 (dC (.int 0))) (dC (.int 0)))
   (dSeq (dAsg (putIm 2) (dOp gMod (dIxN 0 (dC (.int 0))) (dVar 1)))
   (dSeq (dSetI 0 (dOp gFdiv (dIxN 0 (dC (.int 0))) (dVar 1)) (dC (.int 0)))
   (dRet (dVar 2))))
   dNx)
  (dSeq (dSetI 0 (dOp gMod (dOp gAdd (dOp gMul (dIxN 0 (dC (.int 1))) (dC (.int 48271))) (dC (.int 11))) (dC (.int 2147483647))) (dC (.int 1)))
  (dRet (dOp gMod (dOp gFdiv (dOp gMod (dOp gMul (dIxN 0 (dC (.int 1))) (dIxN 0 (dC (.int 1)))) (dC (.int 2147483629))) (dC (.int 64))) (dVar 1)))))
noncomputable def m_law_draw : En → R L := dDef 3 b_law_draw
section
variable {P : Program} {wd : World} {K : PySem.W.Frag} {mg : Str → Option Value} {base : Heap}
theorem ok_law_draw (T : Tx K mg) : FnOk P wd K mg base (L2.CX P wd) 1 (He.ga K "_law_draw") (fd_law_draw T) ["source", "many"] (spD K (caK [] K) 2 m_law_draw) :=
  fn_denD (F_law_draw T) sc_law_draw fun cdv A outer s H E g =>
  (vss_cons (vs_if (vt_cmp op_gtA ob_gt (ve_ixN 0 ve_int) ve_int (nomark _))
   (vss_cons (vs_set 2 sc_law_draw.nd (ve_mod (ve_ixN 0 ve_int) (ve_var 1)))
   (vss_cons (vs_setI 0 (ve_fdiv (ve_ixN 0 ve_int) (ve_var 1)) ve_int)
   (vss_one (vs_ret (ve_var 2)))))
   vss_nil)
  (vss_cons (vs_setI 0 (ve_mod (ve_add (ve_mul (ve_ixN 0 ve_int) ve_int) ve_int) ve_int) ve_int)
  (vss_one (vs_ret (ve_mod (ve_fdiv (ve_mod (ve_mul (ve_ixN 0 ve_int) (ve_ixN 0 ve_int)) ve_int) ve_int) (ve_var 1))))))
end
/-! _law_great -/
abbrev s_law_great : Stmt := topS 21
theorem sc_law_great : FnScope ["source", "many", "found", "turn"] ["source", "many"] (defScope s_law_great) := ⟨rfl, rfl, rfl, by decide +kernel, rfl, by decide +kernel, by decide +kernel⟩
noncomputable def b_law_great_l1 : En → R Fl :=
  (dAsg (putIm 2) (dOp gAdd (dOp gMul (dVar 2) (dC (.int 1000003))) (dFn 2 m_law_draw (aSl 0 (aIm (dC (.int 1000003)) aNil)))))
noncomputable def b_law_great : En → R Fl :=
  (dSeq (dAsg (putIm 2) (dC (.int 0)))
  (dSeq (dFor (iRg1 (aIm (dC (.int 4)) aNil)) (putIm 3) b_law_great_l1)
  (dRet (dOp gMod (dVar 2) (dVar 1)))))
noncomputable def m_law_great : En → R L := dDef 4 b_law_great
section
variable {P : Program} {wd : World} {K : PySem.W.Frag} {mg : Str → Option Value} {base : Heap}
theorem ok_law_great (T : Tx K mg) : FnOk P wd K mg base (L2.CX P wd) 2 (He.ga K "_law_great") (fd_law_great T) ["source", "many"] (spD K (caK [] K) 2 m_law_great) :=
  fn_denD (F_law_great T) sc_law_great fun cdv A outer s H E g =>
  (vss_cons (vs_set 2 sc_law_great.nd ve_int)
  (vss_cons (vs_for g.po g.calm (vi_range1 (by rfl) T.n_range (va_im ve_int va_nil)) (vg_name 3 sc_law_great.nd) nox_put
   (vss_one (vs_set 2 sc_law_great.nd (ve_add (ve_mul (ve_var 2) ve_int) (ve_call (ok_law_draw T) (g.hr.mono (by decide)) g.tk rfl (by rfl) (g_law_draw T) (F_law_draw T).kp (bi_law_draw T) (va_sl 0 (va_im ve_int va_nil)))))))
  (vss_one (vs_ret (ve_mod (ve_var 2) (ve_var 1))))))
end
/-! _law_low -/
abbrev s_law_low : Stmt := topS 22
theorem sc_law_low : FnScope ["top", "bottom", "one", "other"] ["top", "bottom"] (defScope s_law_low) := ⟨rfl, rfl, rfl, by decide +kernel, rfl, by decide +kernel, by decide +kernel⟩
noncomputable def b_law_low_l1 : En → R Fl :=
  (dPar 2 3 (aIm (dVar 3) (aIm (dOp gMod (dVar 2) (dVar 3)) aNil)))
noncomputable def b_law_low : En → R Fl :=
  (dSeq (dAsg (putIm 2) (dCall gAbs (aIm (dVar 0) aNil)))
  (dSeq (dAsg (putIm 3) (dVar 1))
  (dSeq (dWhile (dCmp gGt (dVar 3) (dC (.int 0))) b_law_low_l1)
  (dRet (dTup (aIm (dOp gFdiv (dVar 0) (dVar 2)) (aIm (dOp gFdiv (dVar 1) (dVar 2)) aNil)))))))
noncomputable def m_law_low : En → R L := dDef 4 b_law_low
section
variable {P : Program} {wd : World} {K : PySem.W.Frag} {mg : Str → Option Value} {base : Heap}
theorem ok_law_low (T : Tx K mg) : FnOk P wd K mg base (L2.CX P wd) 1 (He.ga K "_law_low") (fd_law_low T) ["top", "bottom"] (spD K (caK [] K) 2 m_law_low) :=
  fn_denD (F_law_low T) sc_law_low fun cdv A outer s H E g =>
  (vss_cons (vs_set 2 sc_law_low.nd (ve_cB call_abs cs_abs (by rfl) T.n_abs boot_B_abs (va_im (ve_var 0) va_nil)))
  (vss_cons (vs_set 3 sc_law_low.nd (ve_var 1))
  (vss_cons (vs_while g.po (vt_cmp op_gtA ob_gt (ve_var 3) ve_int (nomark _))
   (vss_one (vs_par 2 3 g.calm sc_law_low.nd (va_im (ve_var 3) (va_im (ve_mod (ve_var 2) (ve_var 3)) va_nil)))))
  (vss_one (vs_ret (ve_tup (va_im (ve_fdiv (ve_var 0) (ve_var 2)) (va_im (ve_fdiv (ve_var 1) (ve_var 2)) va_nil))))))))
end
/-! _law_ends -/
abbrev s_law_ends : Stmt := topS 23
theorem sc_law_ends : FnScope ["source", "many", "bottom", "most", "top", "found", "k"] ["source", "many"] (defScope s_law_ends) := ⟨rfl, rfl, rfl, by decide +kernel, rfl, by decide +kernel, by decide +kernel⟩
noncomputable def b_law_ends_l1 : En → R Fl :=
  (dSeq (dApp 5 (dFn 2 m_law_low (aIm (dVar 4) (aIm (dVar 2) aNil))))
  (dAsg (putIm 4) (dOp gAdd (dOp gAdd (dVar 4) (dC (.int 1))) (dFn 2 m_law_great (aSl 0 (aIm (dVar 3) aNil))))))
noncomputable def b_law_ends : En → R Fl :=
  (dSeq (dAsg (putIm 2) (dOp gIx (dLst (aIm (dC (.int 1)) (aIm (dOp gAdd (dC (.int 1)) (dFn 2 m_law_draw (aSl 0 (aIm (dC (.int 60)) aNil)))) aNil))) (dFn 2 m_law_draw (aSl 0 (aIm (dC (.int 2)) aNil)))))
  (dSeq (dAsg (putIm 3) (dOp gIx (dLst (aIm (dC (.int 20)) (aIm (dOp gPow (dC (.int 10)) (dC (.int 16))) aNil))) (dFn 2 m_law_draw (aSl 0 (aIm (dC (.int 2)) aNil)))))
  (dSeq (dAsg (putIm 4) (dOp gSub (dFn 2 m_law_great (aSl 0 (aIm (dOp gMul (dC (.int 90)) (dVar 3)) aNil))) (dOp gMul (dC (.int 45)) (dVar 3))))
  (dSeq (dAsgL 5 (nLst aNil))
  (dSeq (dFor (iRg1 (aIm (dVar 1) aNil)) (putIm 6) b_law_ends_l1)
  (dRetV 5))))))
noncomputable def m_law_ends : En → R L := dDef 7 b_law_ends
section
variable {P : Program} {wd : World} {K : PySem.W.Frag} {mg : Str → Option Value} {base : Heap}
theorem ok_law_ends (T : Tx K mg) : FnOk P wd K mg base (L2.CX P wd) 3 (He.ga K "_law_ends") (fd_law_ends T) ["source", "many"] (spD K (caK [] K) 2 m_law_ends) :=
  fn_denD (F_law_ends T) sc_law_ends fun cdv A outer s H E g =>
  (vss_cons (vs_set 2 sc_law_ends.nd (ve_ix (ve_lst (va_im ve_int (va_im (ve_add ve_int (ve_call (ok_law_draw T) (g.hr.mono (by decide)) g.tk rfl (by rfl) (g_law_draw T) (F_law_draw T).kp (bi_law_draw T) (va_sl 0 (va_im ve_int va_nil)))) va_nil))) (ve_call (ok_law_draw T) (g.hr.mono (by decide)) g.tk rfl (by rfl) (g_law_draw T) (F_law_draw T).kp (bi_law_draw T) (va_sl 0 (va_im ve_int va_nil)))))
  (vss_cons (vs_set 3 sc_law_ends.nd (ve_ix (ve_lst (va_im ve_int (va_im (ve_pow ve_int ve_int) va_nil))) (ve_call (ok_law_draw T) (g.hr.mono (by decide)) g.tk rfl (by rfl) (g_law_draw T) (F_law_draw T).kp (bi_law_draw T) (va_sl 0 (va_im ve_int va_nil)))))
  (vss_cons (vs_set 4 sc_law_ends.nd (ve_sub (ve_call (ok_law_great T) (g.hr.mono (by decide)) g.tk rfl (by rfl) (g_law_great T) (F_law_great T).kp (bi_law_great T) (va_sl 0 (va_im (ve_mul ve_int (ve_var 3)) va_nil))) (ve_mul ve_int (ve_var 3))))
  (vss_cons (vs_setL 5 sc_law_ends.nd (vn_lst va_nil))
  (vss_cons (vs_for g.po g.calm (vi_range1 (by rfl) T.n_range (va_im (ve_var 1) va_nil)) (vg_name 6 sc_law_ends.nd) nox_put
   (vss_cons (vs_append 5 (ve_call (ok_law_low T) (g.hr.mono (by decide)) g.tk rfl (by rfl) (g_law_low T) (F_law_low T).kp (bi_law_low T) (va_im (ve_var 4) (va_im (ve_var 2) va_nil))))
  (vss_one (vs_set 4 sc_law_ends.nd (ve_add (ve_add (ve_var 4) ve_int) (ve_call (ok_law_great T) (g.hr.mono (by decide)) g.tk rfl (by rfl) (g_law_great T) (F_law_great T).kp (bi_law_great T) (va_sl 0 (va_im (ve_var 3) va_nil))))))))
  (vss_one (vs_retV 5)))))))
end
/-! _law_word -/
abbrev s_law_word : Stmt := topS 24
theorem sc_law_word : FnScope ["source", "letters", "k"] ["source"] (defScope s_law_word) := ⟨rfl, rfl, rfl, by decide +kernel, rfl, by decide +kernel, by decide +kernel⟩
noncomputable def b_law_word_l1 : D → En → R (Option D) :=
  (lcT (putIm 2) tT
   (dIxN 1 (dFn 2 m_law_draw (aSl 0 (aIm (dC (.int 26)) aNil)))))
noncomputable def b_law_word : En → R Fl :=
  (dSeq (dAsg (putIm 1) (dC (.str "abcdefghijklmnopqrstuvwxyz")))
  (dRet (dM1 gJoin (dC (.str "")) (dFz (nLc (iRg1 (aIm (dOp gAdd (dC (.int 1)) (dFn 2 m_law_draw (aSl 0 (aIm (dC (.int 8)) aNil)))) aNil)) b_law_word_l1 [2])))))
noncomputable def m_law_word : En → R L := dDef 3 b_law_word
section
variable {P : Program} {wd : World} {K : PySem.W.Frag} {mg : Str → Option Value} {base : Heap}
theorem ok_law_word (T : Tx K mg) : FnOk P wd K mg base (L2.CX P wd) 2 (He.ga K "_law_word") (fd_law_word T) ["source"] (spD K (caK [] K) 1 m_law_word) :=
  fn_denD (F_law_word T) sc_law_word fun cdv A outer s H E g =>
  (vss_cons (vs_set 1 sc_law_word.nd ve_str)
  (vss_one (vs_ret (ve_m1 PySem.F.slot_str_join PySem.F.type_str_join mt_join ms_join ve_str (ve_fz (vn_lcG [("k", 2)] g sc_law_word.nd (vi_range1 (by rfl) T.n_range (va_im (ve_add ve_int (ve_call (ok_law_draw T) (g.hr.mono (by decide)) g.tk rfl (by rfl) (g_law_draw T) (F_law_draw T).kp (bi_law_draw T) (va_sl 0 (va_im ve_int va_nil)))) va_nil)) (by kernel_rfl)
   (fun s H C cl fp g => (vgc_name 2 (by decide) sc_law_word.nd)) (fun s H C cl fp g => vts_nil)
   (fun s H C cl fp g => (ve_ixN 1 (ve_call (ok_law_draw T) (g.hr.mono (by decide)) g.tk rfl (by rfl) (g_law_draw T) (F_law_draw T).kp (bi_law_draw T) (va_sl 0 (va_im ve_int va_nil)))))))))))
end
/-! _law_words -/
abbrev s_law_words : Stmt := topS 25
theorem sc_law_words : FnScope ["source", "found", "k", "word"] ["source"] (defScope s_law_words) := ⟨rfl, rfl, rfl, by decide +kernel, rfl, by decide +kernel, by decide +kernel⟩
noncomputable def b_law_words_l1 : En → R Fl :=
  (dSeq (dAsg (putIm 3) (dFn 1 m_law_word (aSl 0 aNil)))
  (dIf (dCmpR gNotIn (dVar 3) 1)
   (dApp 1 (dVar 3))
   dNx))
noncomputable def b_law_words : En → R Fl :=
  (dSeq (dAsgL 1 (nLst aNil))
  (dSeq (dFor (iRg1 (aIm (dOp gAdd (dC (.int 1)) (dFn 2 m_law_draw (aSl 0 (aIm (dC (.int 60)) aNil)))) aNil)) (putIm 2) b_law_words_l1)
  (dRet (dCall gTuple (aIm (dVar 1) aNil)))))
noncomputable def m_law_words : En → R L := dDef 4 b_law_words
section
variable {P : Program} {wd : World} {K : PySem.W.Frag} {mg : Str → Option Value} {base : Heap}
theorem ok_law_words (T : Tx K mg) : FnOk P wd K mg base (L2.CX P wd) 3 (He.ga K "_law_words") (fd_law_words T) ["source"] (spD K (caK [] K) 1 m_law_words) :=
  fn_denD (F_law_words T) sc_law_words fun cdv A outer s H E g =>
  (vss_cons (vs_setL 1 sc_law_words.nd (vn_lst va_nil))
  (vss_cons (vs_for g.po g.calm (vi_range1 (by rfl) T.n_range (va_im (ve_add ve_int (ve_call (ok_law_draw T) (g.hr.mono (by decide)) g.tk rfl (by rfl) (g_law_draw T) (F_law_draw T).kp (bi_law_draw T) (va_sl 0 (va_im ve_int va_nil)))) va_nil)) (vg_name 2 sc_law_words.nd) nox_put
   (vss_cons (vs_set 3 sc_law_words.nd (ve_call (ok_law_word T) (g.hr.mono (by decide)) g.tk rfl (by rfl) (g_law_word T) (F_law_word T).kp (bi_law_word T) (va_sl 0 va_nil)))
  (vss_one (vs_if (vt_cmpRN 1 (op_notInA g.u65) ob_notIn (ve_var 3) (by rfl))
   (vss_one (vs_append 1 (ve_var 3)))
   vss_nil))))
  (vss_one (vs_ret (ve_cT call_tuple_of cs_tuple (by rfl) T.n_tuple boot_ty_tuple (va_im (ve_var 1) va_nil))))))
end
/-! _law_good -/
abbrev s_law_good : Stmt := topS 26
theorem sc_law_good : FnScope ["source", "kind", "lo", "hi", "some", "k"] ["source"] (defScope s_law_good) := ⟨rfl, rfl, rfl, by decide +kernel, rfl, by decide +kernel, by decide +kernel⟩
noncomputable def b_law_good_l1 : D → En → R (Option D) :=
  (lcT (putIm 5) tT
   (dTup (aIm (dIxN 4 (dVar 5)) (aIm (dIxN 4 (dOp gAdd (dVar 5) (dC (.int 1)))) aNil))))
noncomputable def b_law_good : En → R Fl :=
  (dSeq (dAsg (putIm 1) (dFn 2 m_law_draw (aSl 0 (aIm (dC (.int 7)) aNil))))
  (dSeq (dIf (dCmp gEq (dVar 1) (dC (.int 0)))
   (dRet (dTup (aIm (dOp gIx (dLst (aIm (dC (.str "straight")) (aIm (dC (.str "days")) (aIm (dC (.str "order")) aNil)))) (dFn 2 m_law_draw (aSl 0 (aIm (dC (.int 3)) aNil)))) aNil)))
   dNx)
  (dSeq (dIf (dCmp gLt (dVar 1) (dC (.int 3)))
   (dSeq (dAsg (gTupD 2 (gsCons (putIm 2) (gsCons (putIm 3) gsNil))) (dFn 2 m_law_ends (aSl 0 (aIm (dC (.int 2)) aNil))))
   (dRet (dTup (aIm (dC (.str "straight")) (aIm (dVar 2) (aIm (dVar 3) aNil))))))
   dNx)
  (dSeq (dIf (dCmp gEq (dVar 1) (dC (.int 3)))
   (dRet (dTup (aIm (dC (.str "turns")) (aIm (dOp gIx (dLst (aIm (dC (.int 2)) (aIm (dC (.int 10)) aNil))) (dFn 2 m_law_draw (aSl 0 (aIm (dC (.int 2)) aNil)))) aNil))))
   dNx)
  (dSeq (dIf (dCmp gLt (dVar 1) (dC (.int 6)))
   (dSeq (dAsg (putIm 4) (dFn 2 m_law_ends (aSl 0 (aIm (dOp gMul (dC (.int 2)) (dOp gAdd (dC (.int 2)) (dFn 2 m_law_draw (aSl 0 (aIm (dC (.int 3)) aNil))))) aNil))))
   (dRet (dTup (aIm (dC (.str "broken")) (aIm (dCall gTuple (aIm (dFz (nLc (iRg3 (aIm (dC (.int 0)) (aIm (dLenN 4) (aIm (dC (.int 2)) aNil)))) b_law_good_l1 [5])) aNil)) aNil)))))
   dNx)
  (dRet (dTup (aIm (dC (.str "order")) (aIm (dFn 1 m_law_words (aSl 0 aNil)) aNil)))))))))
noncomputable def m_law_good : En → R L := dDef 6 b_law_good
section
variable {P : Program} {wd : World} {K : PySem.W.Frag} {mg : Str → Option Value} {base : Heap}
theorem ok_law_good (T : Tx K mg) : FnOk P wd K mg base (L2.CX P wd) 4 (He.ga K "_law_good") (fd_law_good T) ["source"] (spD K (caK [] K) 1 m_law_good) :=
  fn_denD (F_law_good T) sc_law_good fun cdv A outer s H E g =>
  (vss_cons (vs_set 1 sc_law_good.nd (ve_call (ok_law_draw T) (g.hr.mono (by decide)) g.tk rfl (by rfl) (g_law_draw T) (F_law_draw T).kp (bi_law_draw T) (va_sl 0 (va_im ve_int va_nil))))
  (vss_cons (vs_if (vt_cmp (op_eqD g.hr.units) ob_eq (ve_var 1) ve_int (nomark _))
   (vss_one (vs_ret (ve_tup (va_im (ve_ix (ve_lst (va_im ve_str (va_im ve_str (va_im ve_str va_nil)))) (ve_call (ok_law_draw T) (g.hr.mono (by decide)) g.tk rfl (by rfl) (g_law_draw T) (F_law_draw T).kp (bi_law_draw T) (va_sl 0 (va_im ve_int va_nil)))) va_nil))))
   vss_nil)
  (vss_cons (vs_if (vt_cmp op_ltA ob_lt (ve_var 1) ve_int (nomark _))
   (vss_cons (vs_asg (ve_call (ok_law_ends T) (g.hr.mono (by decide)) g.tk rfl (by rfl) (g_law_ends T) (F_law_ends T).kp (bi_law_ends T) (va_sl 0 (va_im ve_int va_nil))) (vg_tup g.calm (vgs_cons (vg_name 2 sc_law_good.nd) (vgs_cons (vg_name 3 sc_law_good.nd) vgs_nil))) (nox_tup (nox_cons nox_put (nox_cons nox_put nox_nil))))
   (vss_one (vs_ret (ve_tup (va_im ve_str (va_im (ve_var 2) (va_im (ve_var 3) va_nil)))))))
   vss_nil)
  (vss_cons (vs_if (vt_cmp (op_eqD g.hr.units) ob_eq (ve_var 1) ve_int (nomark _))
   (vss_one (vs_ret (ve_tup (va_im ve_str (va_im (ve_ix (ve_lst (va_im ve_int (va_im ve_int va_nil))) (ve_call (ok_law_draw T) (g.hr.mono (by decide)) g.tk rfl (by rfl) (g_law_draw T) (F_law_draw T).kp (bi_law_draw T) (va_sl 0 (va_im ve_int va_nil)))) va_nil)))))
   vss_nil)
  (vss_cons (vs_if (vt_cmp op_ltA ob_lt (ve_var 1) ve_int (nomark _))
   (vss_cons (vs_set 4 sc_law_good.nd (ve_call (ok_law_ends T) (g.hr.mono (by decide)) g.tk rfl (by rfl) (g_law_ends T) (F_law_ends T).kp (bi_law_ends T) (va_sl 0 (va_im (ve_mul ve_int (ve_add ve_int (ve_call (ok_law_draw T) (g.hr.mono (by decide)) g.tk rfl (by rfl) (g_law_draw T) (F_law_draw T).kp (bi_law_draw T) (va_sl 0 (va_im ve_int va_nil))))) va_nil))))
   (vss_one (vs_ret (ve_tup (va_im ve_str (va_im (ve_cT call_tuple_of cs_tuple (by rfl) T.n_tuple boot_ty_tuple (va_im (ve_fz (vn_lcG [("k", 5)] g sc_law_good.nd (vi_range3 (by rfl) T.n_range (va_im ve_int (va_im (ve_lenN 4 (by rfl) T.n_len) (va_im ve_int va_nil)))) (by kernel_rfl)
   (fun s H C cl fp g => (vgc_name 5 (by decide) sc_law_good.nd)) (fun s H C cl fp g => vts_nil)
   (fun s H C cl fp g => (ve_tup (va_im (ve_ixN 4 (ve_var 5)) (va_im (ve_ixN 4 (ve_add (ve_var 5) ve_int)) va_nil)))))) va_nil)) va_nil))))))
   vss_nil)
  (vss_one (vs_ret (ve_tup (va_im ve_str (va_im (ve_call (ok_law_words T) (g.hr.mono (by decide)) g.tk rfl (by rfl) (g_law_words T) (F_law_words T).kp (bi_law_words T) (va_sl 0 va_nil)) va_nil))))))))))
end
/-! _law_bent_number -/
abbrev s_law_bent_number : Stmt := topS 27
theorem sc_law_bent_number : FnScope ["source", "one", "top", "bottom", "some"] ["source", "one"] (defScope s_law_bent_number) := ⟨rfl, rfl, rfl, by decide +kernel, rfl, by decide +kernel, by decide +kernel⟩
noncomputable def b_law_bent_number : En → R Fl :=
  (dSeq (dAsg (gTupD 2 (gsCons (putIm 2) (gsCons (putIm 3) gsNil))) (dVar 1))
  (dSeq (dAsg (putIm 4) (dLst (aIm (dC (.bool true)) (aIm (dC .none) (aIm (dVar 2) (aIm (dC (.str "1")) (aIm (dLst (aIm (dVar 2) (aIm (dVar 3) aNil))) (aIm (dTup (aIm (dVar 2) (aIm (dOp gSub (dC (.int 0)) (dVar 3)) aNil))) (aIm (dTup (aIm (dOp gMul (dVar 2) (dC (.int 2))) (aIm (dOp gMul (dVar 3) (dC (.int 2))) aNil))) (aIm (dTup (aIm (dVar 2) (aIm (dC (.int 0)) aNil))) aNil))))))))))
  (dSeq (dAsg (putIm 4) (dOp gAdd (dVar 4) (dLst (aIm (dTup (aIm (dOp gPow (dC (.int 10)) (dC (.int 18))) (aIm (dC (.int 1)) aNil))) (aIm (dTup (aIm (dOp gSub (dC (.int 0)) (dOp gPow (dC (.int 10)) (dC (.int 18)))) (aIm (dC (.int 1)) aNil))) (aIm (dTup (aIm (dC (.int 1)) (aIm (dC (.int 61)) aNil))) (aIm (dTup (aIm (dC (.bool true)) (aIm (dC (.int 1)) aNil))) (aIm (dTup (aIm (dVar 2) (aIm (dC (.bool true)) aNil))) (aIm (dTup (aIm (dVar 2) (aIm (dVar 3) (aIm (dC (.int 1)) aNil)))) (aIm (dTup aNil) aNil))))))))))
  (dRet (dIxN 4 (dFn 2 m_law_draw (aSl 0 (aIm (dC (.int 15)) aNil))))))))
noncomputable def m_law_bent_number : En → R L := dDef 5 b_law_bent_number
section
variable {P : Program} {wd : World} {K : PySem.W.Frag} {mg : Str → Option Value} {base : Heap}
theorem ok_law_bent_number (T : Tx K mg) : FnOk P wd K mg base (L2.CX P wd) 2 (He.ga K "_law_bent_number") (fd_law_bent_number T) ["source", "one"] (spD K (caK [] K) 2 m_law_bent_number) :=
  fn_denD (F_law_bent_number T) sc_law_bent_number fun cdv A outer s H E g =>
  (vss_cons (vs_asg (ve_var 1) (vg_tup g.calm (vgs_cons (vg_name 2 sc_law_bent_number.nd) (vgs_cons (vg_name 3 sc_law_bent_number.nd) vgs_nil))) (nox_tup (nox_cons nox_put (nox_cons nox_put nox_nil))))
  (vss_cons (vs_set 4 sc_law_bent_number.nd (ve_lst (va_im ve_bl (va_im ve_non (va_im (ve_var 2) (va_im ve_str (va_im (ve_lst (va_im (ve_var 2) (va_im (ve_var 3) va_nil))) (va_im (ve_tup (va_im (ve_var 2) (va_im (ve_sub ve_int (ve_var 3)) va_nil))) (va_im (ve_tup (va_im (ve_mul (ve_var 2) ve_int) (va_im (ve_mul (ve_var 3) ve_int) va_nil))) (va_im (ve_tup (va_im (ve_var 2) (va_im ve_int va_nil))) va_nil))))))))))
  (vss_cons (vs_set 4 sc_law_bent_number.nd (ve_add (ve_var 4) (ve_lst (va_im (ve_tup (va_im (ve_pow ve_int ve_int) (va_im ve_int va_nil))) (va_im (ve_tup (va_im (ve_sub ve_int (ve_pow ve_int ve_int)) (va_im ve_int va_nil))) (va_im (ve_tup (va_im ve_int (va_im ve_int va_nil))) (va_im (ve_tup (va_im ve_bl (va_im ve_int va_nil))) (va_im (ve_tup (va_im (ve_var 2) (va_im ve_bl va_nil))) (va_im (ve_tup (va_im (ve_var 2) (va_im (ve_var 3) (va_im ve_int va_nil)))) (va_im (ve_tup va_nil) va_nil))))))))))
  (vss_one (vs_ret (ve_ixN 4 (ve_call (ok_law_draw T) (g.hr.mono (by decide)) g.tk rfl (by rfl) (g_law_draw T) (F_law_draw T).kp (bi_law_draw T) (va_sl 0 (va_im ve_int va_nil)))))))))
end
/-! _law_bent_ends -/
abbrev s_law_bent_ends : Stmt := topS 28
theorem sc_law_bent_ends : FnScope ["source", "lo", "hi", "way"] ["source", "lo", "hi"] (defScope s_law_bent_ends) := ⟨rfl, rfl, rfl, by decide +kernel, rfl, by decide +kernel, by decide +kernel⟩
noncomputable def b_law_bent_ends : En → R Fl :=
  (dSeq (dAsg (putIm 3) (dFn 2 m_law_draw (aSl 0 (aIm (dC (.int 4)) aNil))))
  (dSeq (dIf (dCmp gEq (dVar 3) (dC (.int 0)))
   (dRetL (nLst (aIm (dVar 2) (aIm (dVar 1) aNil))))
   dNx)
  (dSeq (dIf (dCmp gEq (dVar 3) (dC (.int 1)))
   (dRetL (nLst (aIm (dVar 1) (aIm (dVar 1) aNil))))
   dNx)
  (dSeq (dIf (dCmp gEq (dVar 3) (dC (.int 2)))
   (dRetL (nLst (aIm (dFn 2 m_law_bent_number (aSl 0 (aIm (dVar 1) aNil))) (aIm (dVar 2) aNil))))
   dNx)
  (dRetL (nLst (aIm (dVar 1) (aIm (dFn 2 m_law_bent_number (aSl 0 (aIm (dVar 2) aNil))) aNil))))))))
noncomputable def m_law_bent_ends : En → R L := dDef 4 b_law_bent_ends
section
variable {P : Program} {wd : World} {K : PySem.W.Frag} {mg : Str → Option Value} {base : Heap}
theorem ok_law_bent_ends (T : Tx K mg) : FnOk P wd K mg base (L2.CX P wd) 3 (He.ga K "_law_bent_ends") (fd_law_bent_ends T) ["source", "lo", "hi"] (spD K (caK [] K) 3 m_law_bent_ends) :=
  fn_denD (F_law_bent_ends T) sc_law_bent_ends fun cdv A outer s H E g =>
  (vss_cons (vs_set 3 sc_law_bent_ends.nd (ve_call (ok_law_draw T) (g.hr.mono (by decide)) g.tk rfl (by rfl) (g_law_draw T) (F_law_draw T).kp (bi_law_draw T) (va_sl 0 (va_im ve_int va_nil))))
  (vss_cons (vs_if (vt_cmp (op_eqD g.hr.units) ob_eq (ve_var 3) ve_int (nomark _))
   (vss_one (vs_retL (vn_lst (va_im (ve_var 2) (va_im (ve_var 1) va_nil)))))
   vss_nil)
  (vss_cons (vs_if (vt_cmp (op_eqD g.hr.units) ob_eq (ve_var 3) ve_int (nomark _))
   (vss_one (vs_retL (vn_lst (va_im (ve_var 1) (va_im (ve_var 1) va_nil)))))
   vss_nil)
  (vss_cons (vs_if (vt_cmp (op_eqD g.hr.units) ob_eq (ve_var 3) ve_int (nomark _))
   (vss_one (vs_retL (vn_lst (va_im (ve_call (ok_law_bent_number T) (g.hr.mono (by decide)) g.tk rfl (by rfl) (g_law_bent_number T) (F_law_bent_number T).kp (bi_law_bent_number T) (va_sl 0 (va_im (ve_var 1) va_nil))) (va_im (ve_var 2) va_nil)))))
   vss_nil)
  (vss_one (vs_retL (vn_lst (va_im (ve_var 1) (va_im (ve_call (ok_law_bent_number T) (g.hr.mono (by decide)) g.tk rfl (by rfl) (g_law_bent_number T) (F_law_bent_number T).kp (bi_law_bent_number T) (va_sl 0 (va_im (ve_var 2) va_nil))) va_nil)))))))))
end
/-! _law_bent_pieces -/
abbrev s_law_bent_pieces : Stmt := topS 29
theorem sc_law_bent_pieces : FnScope ["source", "pieces", "way", "at", "bent"] ["source", "pieces"] (defScope s_law_bent_pieces) := ⟨rfl, rfl, rfl, by decide +kernel, rfl, by decide +kernel, by decide +kernel⟩
noncomputable def b_law_bent_pieces : En → R Fl :=
  (dSeq (dAsg (putIm 2) (dFn 2 m_law_draw (aSl 0 (aIm (dC (.int 6)) aNil))))
  (dSeq (dAsg (putIm 3) (dFn 2 m_law_draw (aSl 0 (aIm (dLenN 1) aNil))))
  (dSeq (dIf (dCmp gEq (dVar 2) (dC (.int 0)))
   (dRet (dSlN 1 oN (oI (dC (.int 1)))))
   dNx)
  (dSeq (dIf (dCmp gEq (dVar 2) (dC (.int 1)))
   (dRet (dCall gList (aIm (dVar 1) aNil)))
   dNx)
  (dSeq (dIf (dCmp gEq (dVar 2) (dC (.int 2)))
   (dRet (dOp gAdd (dOp gAdd (dSlN 1 oN (oI (dC (.int 1)))) (dTup (aIm (dTup (aIm (dOp gIx (dIxN 1 (dC (.int 0))) (dC (.int 1))) (aIm (dOp gIx (dIxN 1 (dC (.int 1))) (dC (.int 1))) aNil))) aNil))) (dSlN 1 (oI (dC (.int 2))) oN)))
   dNx)
  (dSeq (dIf (dCmp gEq (dVar 2) (dC (.int 3)))
   (dRet (dOp gAdd (dOp gAdd (dSlN 1 oN (oI (dVar 3))) (dTup (aIm (dCall gList (aIm (dIxN 1 (dVar 3)) aNil)) aNil))) (dSlN 1 (oI (dOp gAdd (dVar 3) (dC (.int 1)))) oN)))
   dNx)
  (dSeq (dIf (dCmp gEq (dVar 2) (dC (.int 4)))
   (dRet (dOp gAdd (dOp gAdd (dVar 1) (dVar 1)) (dVar 1)))
   dNx)
  (dSeq (dAsg (putIm 4) (dCall gTuple (aIm (dFn 3 m_law_bent_ends (aSl 0 (aIm (dOp gIx (dIxN 1 (dVar 3)) (dC (.int 0))) (aIm (dOp gIx (dIxN 1 (dVar 3)) (dC (.int 1))) aNil)))) aNil)))
  (dRet (dOp gAdd (dOp gAdd (dSlN 1 oN (oI (dVar 3))) (dTup (aIm (dVar 4) aNil))) (dSlN 1 (oI (dOp gAdd (dVar 3) (dC (.int 1)))) oN)))))))))))
noncomputable def m_law_bent_pieces : En → R L := dDef 5 b_law_bent_pieces
section
variable {P : Program} {wd : World} {K : PySem.W.Frag} {mg : Str → Option Value} {base : Heap}
theorem ok_law_bent_pieces (T : Tx K mg) : FnOk P wd K mg base (L2.CX P wd) 4 (He.ga K "_law_bent_pieces") (fd_law_bent_pieces T) ["source", "pieces"] (spD K (caK [] K) 2 m_law_bent_pieces) :=
  fn_denD (F_law_bent_pieces T) sc_law_bent_pieces fun cdv A outer s H E g =>
  (vss_cons (vs_set 2 sc_law_bent_pieces.nd (ve_call (ok_law_draw T) (g.hr.mono (by decide)) g.tk rfl (by rfl) (g_law_draw T) (F_law_draw T).kp (bi_law_draw T) (va_sl 0 (va_im ve_int va_nil))))
  (vss_cons (vs_set 3 sc_law_bent_pieces.nd (ve_call (ok_law_draw T) (g.hr.mono (by decide)) g.tk rfl (by rfl) (g_law_draw T) (F_law_draw T).kp (bi_law_draw T) (va_sl 0 (va_im (ve_lenN 1 (by rfl) T.n_len) va_nil))))
  (vss_cons (vs_if (vt_cmp (op_eqD g.hr.units) ob_eq (ve_var 2) ve_int (nomark _))
   (vss_one (vs_ret (ve_slN 1 vo_none (vo_some ve_int))))
   vss_nil)
  (vss_cons (vs_if (vt_cmp (op_eqD g.hr.units) ob_eq (ve_var 2) ve_int (nomark _))
   (vss_one (vs_ret (ve_cT call_list_of cs_list (by rfl) T.n_list boot_ty_list (va_im (ve_var 1) va_nil))))
   vss_nil)
  (vss_cons (vs_if (vt_cmp (op_eqD g.hr.units) ob_eq (ve_var 2) ve_int (nomark _))
   (vss_one (vs_ret (ve_add (ve_add (ve_slN 1 vo_none (vo_some ve_int)) (ve_tup (va_im (ve_tup (va_im (ve_ix (ve_ixN 1 ve_int) ve_int) (va_im (ve_ix (ve_ixN 1 ve_int) ve_int) va_nil))) va_nil))) (ve_slN 1 (vo_some ve_int) vo_none))))
   vss_nil)
  (vss_cons (vs_if (vt_cmp (op_eqD g.hr.units) ob_eq (ve_var 2) ve_int (nomark _))
   (vss_one (vs_ret (ve_add (ve_add (ve_slN 1 vo_none (vo_some (ve_var 3))) (ve_tup (va_im (ve_cT call_list_of cs_list (by rfl) T.n_list boot_ty_list (va_im (ve_ixN 1 (ve_var 3)) va_nil)) va_nil))) (ve_slN 1 (vo_some (ve_add (ve_var 3) ve_int)) vo_none))))
   vss_nil)
  (vss_cons (vs_if (vt_cmp (op_eqD g.hr.units) ob_eq (ve_var 2) ve_int (nomark _))
   (vss_one (vs_ret (ve_add (ve_add (ve_var 1) (ve_var 1)) (ve_var 1))))
   vss_nil)
  (vss_cons (vs_set 4 sc_law_bent_pieces.nd (ve_cT call_tuple_of cs_tuple (by rfl) T.n_tuple boot_ty_tuple (va_im (ve_call (ok_law_bent_ends T) (g.hr.mono (by decide)) g.tk rfl (by rfl) (g_law_bent_ends T) (F_law_bent_ends T).kp (bi_law_bent_ends T) (va_sl 0 (va_im (ve_ix (ve_ixN 1 (ve_var 3)) ve_int) (va_im (ve_ix (ve_ixN 1 (ve_var 3)) ve_int) va_nil)))) va_nil)))
  (vss_one (vs_ret (ve_add (ve_add (ve_slN 1 vo_none (vo_some (ve_var 3))) (ve_tup (va_im (ve_var 4) va_nil))) (ve_slN 1 (vo_some (ve_add (ve_var 3) ve_int)) vo_none))))))))))))
end
/-! _law_bent_words -/
abbrev s_law_bent_words : Stmt := topS 30
theorem sc_law_bent_words : FnScope ["source", "told", "at", "odd", "many", "some", "k"] ["source", "told"] (defScope s_law_bent_words) := ⟨rfl, rfl, rfl, by decide +kernel, rfl, by decide +kernel, by decide +kernel⟩
noncomputable def b_law_bent_words_l1 : D → En → R (Option D) :=
  (lcT (putIm 6) tT
   (dOp gAdd (dOp gMulS (dC (.str "a")) (dOp gAdd (dC (.int 1)) (dOp gFdiv (dVar 6) (dC (.int 26))))) (dOp gIx (dC (.str "abcdefghijklmnopqrstuvwxyz")) (dOp gMod (dVar 6) (dC (.int 26))))))
noncomputable def b_law_bent_words : En → R Fl :=
  (dSeq (dAsg (putIm 2) (dFn 2 m_law_draw (aSl 0 (aIm (dLenN 1) aNil))))
  (dSeq (dAsg (putIm 3) (dOp gIx (dLst (aIm (dC (.str "")) (aIm (dC (.str "abcdefghi")) (aIm (dC (.str "A")) (aIm (dC (.str "a b")) (aIm (dC .none) (aIm (dC (.bool true)) (aIm (dC (.int 5)) (aIm (dTup (aIm (dC (.str "a")) aNil)) (aIm (dC (.str "a1")) (aIm (dC (.str "a-")) (aIm (dLst (aIm (dC (.str "a")) aNil)) (aIm (dC (.dict [])) aNil))))))))))))) (dFn 2 m_law_draw (aSl 0 (aIm (dC (.int 12)) aNil)))))
  (dSeq (dAsg (putIm 4) (dFz (nLc (iRg1 (aIm (dC (.int 61)) aNil)) b_law_bent_words_l1 [6])))
  (dSeq (dAsg (putIm 5) (dLst (aIm (dTup aNil) (aIm (dOp gAdd (dVar 1) (dTup (aIm (dIxN 1 (dVar 2)) aNil))) (aIm (dOp gAdd (dOp gAdd (dSlN 1 oN (oI (dVar 2))) (dTup (aIm (dVar 3) aNil))) (dSlN 1 (oI (dOp gAdd (dVar 2) (dC (.int 1)))) oN)) aNil)))))
  (dSeq (dAsg (putIm 5) (dOp gAdd (dVar 5) (dLst (aIm (dCall gList (aIm (dVar 1) aNil)) (aIm (dCall gTuple (aIm (dVar 4) aNil)) (aIm (dIxN 1 (dC (.int 0))) aNil))))))
  (dRet (dIxN 5 (dFn 2 m_law_draw (aSl 0 (aIm (dC (.int 6)) aNil))))))))))
noncomputable def m_law_bent_words : En → R L := dDef 7 b_law_bent_words
section
variable {P : Program} {wd : World} {K : PySem.W.Frag} {mg : Str → Option Value} {base : Heap}
theorem ok_law_bent_words (T : Tx K mg) : FnOk P wd K mg base (L2.CX P wd) 2 (He.ga K "_law_bent_words") (fd_law_bent_words T) ["source", "told"] (spD K (caK [] K) 2 m_law_bent_words) :=
  fn_denD (F_law_bent_words T) sc_law_bent_words fun cdv A outer s H E g =>
  (vss_cons (vs_set 2 sc_law_bent_words.nd (ve_call (ok_law_draw T) (g.hr.mono (by decide)) g.tk rfl (by rfl) (g_law_draw T) (F_law_draw T).kp (bi_law_draw T) (va_sl 0 (va_im (ve_lenN 1 (by rfl) T.n_len) va_nil))))
  (vss_cons (vs_set 3 sc_law_bent_words.nd (ve_ix (ve_lst (va_im ve_str (va_im ve_str (va_im ve_str (va_im ve_str (va_im ve_non (va_im ve_bl (va_im ve_int (va_im (ve_tup (va_im ve_str va_nil)) (va_im ve_str (va_im ve_str (va_im (ve_lst (va_im ve_str va_nil)) (va_im ve_dict0 va_nil))))))))))))) (ve_call (ok_law_draw T) (g.hr.mono (by decide)) g.tk rfl (by rfl) (g_law_draw T) (F_law_draw T).kp (bi_law_draw T) (va_sl 0 (va_im ve_int va_nil)))))
  (vss_cons (vs_setLiG 4 [("k", 6)] g sc_law_bent_words.nd (vi_range1 (by rfl) T.n_range (va_im ve_int va_nil)) (by kernel_rfl)
   (fun s H C cl fp g => (vgc_name 6 (by decide) sc_law_bent_words.nd)) (fun s H C cl fp g => vts_nil)
   (fun s H C cl fp g => (ve_add (ve_mulS ve_str (ve_add ve_int (ve_fdiv (ve_var 6) ve_int))) (ve_ix ve_str (ve_mod (ve_var 6) ve_int)))))
  (vss_cons (vs_set 5 sc_law_bent_words.nd (ve_lst (va_im (ve_tup va_nil) (va_im (ve_add (ve_var 1) (ve_tup (va_im (ve_ixN 1 (ve_var 2)) va_nil))) (va_im (ve_add (ve_add (ve_slN 1 vo_none (vo_some (ve_var 2))) (ve_tup (va_im (ve_var 3) va_nil))) (ve_slN 1 (vo_some (ve_add (ve_var 2) ve_int)) vo_none)) va_nil)))))
  (vss_cons (vs_set 5 sc_law_bent_words.nd (ve_add (ve_var 5) (ve_lst (va_im (ve_cT call_list_of cs_list (by rfl) T.n_list boot_ty_list (va_im (ve_var 1) va_nil)) (va_im (ve_cT call_tuple_of cs_tuple (by rfl) T.n_tuple boot_ty_tuple (va_im (ve_var 4) va_nil)) (va_im (ve_ixN 1 ve_int) va_nil))))))
  (vss_one (vs_ret (ve_ixN 5 (ve_call (ok_law_draw T) (g.hr.mono (by decide)) g.tk rfl (by rfl) (g_law_draw T) (F_law_draw T).kp (bi_law_draw T) (va_sl 0 (va_im ve_int va_nil)))))))))))
end
/-! _law_bent -/
abbrev s_law_bent : Stmt := topS 31
theorem sc_law_bent : FnScope ["source", "wish", "way"] ["source", "wish"] (defScope s_law_bent) := ⟨rfl, rfl, rfl, by decide +kernel, rfl, by decide +kernel, by decide +kernel⟩
noncomputable def b_law_bent : En → R Fl :=
  (dSeq (dAsg (putIm 2) (dFn 2 m_law_draw (aSl 0 (aIm (dC (.int 8)) aNil))))
  (dSeq (dIf (dCmp gEq (dVar 2) (dC (.int 0)))
   (dRet (dCall gList (aIm (dVar 1) aNil)))
   dNx)
  (dSeq (dIf (dCmp gEq (dVar 2) (dC (.int 1)))
   (dRet (dOp gAdd (dVar 1) (dTup (aIm (dC .none) aNil))))
   dNx)
  (dSeq (dIf (dCmp gEq (dVar 2) (dC (.int 2)))
   (dRet (dOp gAdd (dTup (aIm (dOp gIx (dLst (aIm (dC (.str "Straight")) (aIm (dC (.str "turn")) (aIm (dC (.str "")) (aIm (dC .none) (aIm (dC (.int 2)) (aIm (dTup (aIm (dC (.str "straight")) aNil)) (aIm (dLst (aIm (dC (.str "straight")) aNil)) (aIm (dC (.dict [])) aNil))))))))) (dFn 2 m_law_draw (aSl 0 (aIm (dC (.int 8)) aNil)))) aNil)) (dSlN 1 (oI (dC (.int 1))) oN)))
   dNx)
  (dSeq (dIf (dCmp gEq (dLenN 1) (dC (.int 3)))
   (dRet (dOp gAdd (dTup (aIm (dC (.str "straight")) aNil)) (dCall gTuple (aIm (dFn 3 m_law_bent_ends (aSl 0 (aIm (dIxN 1 (dC (.int 1))) (aIm (dIxN 1 (dC (.int 2))) aNil)))) aNil))))
   dNx)
  (dSeq (dIf (dCmp gEq (dIxN 1 (dC (.int 0))) (dC (.str "turns")))
   (dRet (dTup (aIm (dC (.str "turns")) (aIm (dOp gIx (dLst (aIm (dC (.int 3)) (aIm (dC (.int 1)) (aIm (dC (.int 0)) (aIm (d1 gNeg (dC (.int 2))) (aIm (dC (.bool true)) (aIm (dC (.str "2")) (aIm (dC .none) (aIm (dTup (aIm (dC (.int 2)) (aIm (dC (.int 1)) aNil))) (aIm (dC (.int 100)) (aIm (dLst (aIm (dC (.int 10)) aNil)) aNil))))))))))) (dFn 2 m_law_draw (aSl 0 (aIm (dC (.int 10)) aNil)))) aNil))))
   dNx)
  (dSeq (dIf (dCmp gEq (dIxN 1 (dC (.int 0))) (dC (.str "broken")))
   (dRet (dTup (aIm (dC (.str "broken")) (aIm (dFn 2 m_law_bent_pieces (aSl 0 (aIm (dIxN 1 (dC (.int 1))) aNil))) aNil))))
   dNx)
  (dSeq (dIf (dCmp gEq (dLenN 1) (dC (.int 2)))
   (dRet (dTup (aIm (dC (.str "order")) (aIm (dFn 2 m_law_bent_words (aSl 0 (aIm (dIxN 1 (dC (.int 1))) aNil))) aNil))))
   dNx)
  (dRet (dOp gIx (dLst (aIm (dTup (aIm (dC (.str "turns")) aNil)) (aIm (dTup (aIm (dC (.str "broken")) aNil)) (aIm (dTup aNil) (aIm (dTup (aIm (dC (.str "straight")) (aIm (dTup (aIm (dC (.int 0)) (aIm (dC (.int 1)) aNil))) aNil))) (aIm (dTup (aIm (dC (.str "days")) (aIm (dC (.int 1)) (aIm (dC (.int 2)) aNil)))) aNil)))))) (dFn 2 m_law_draw (aSl 0 (aIm (dC (.int 5)) aNil)))))))))))))
noncomputable def m_law_bent : En → R L := dDef 3 b_law_bent
section
variable {P : Program} {wd : World} {K : PySem.W.Frag} {mg : Str → Option Value} {base : Heap}
theorem ok_law_bent (T : Tx K mg) : FnOk P wd K mg base (L2.CX P wd) 5 (He.ga K "_law_bent") (fd_law_bent T) ["source", "wish"] (spD K (caK [] K) 2 m_law_bent) :=
  fn_denD (F_law_bent T) sc_law_bent fun cdv A outer s H E g =>
  (vss_cons (vs_set 2 sc_law_bent.nd (ve_call (ok_law_draw T) (g.hr.mono (by decide)) g.tk rfl (by rfl) (g_law_draw T) (F_law_draw T).kp (bi_law_draw T) (va_sl 0 (va_im ve_int va_nil))))
  (vss_cons (vs_if (vt_cmp (op_eqD g.hr.units) ob_eq (ve_var 2) ve_int (nomark _))
   (vss_one (vs_ret (ve_cT call_list_of cs_list (by rfl) T.n_list boot_ty_list (va_im (ve_var 1) va_nil))))
   vss_nil)
  (vss_cons (vs_if (vt_cmp (op_eqD g.hr.units) ob_eq (ve_var 2) ve_int (nomark _))
   (vss_one (vs_ret (ve_add (ve_var 1) (ve_tup (va_im ve_non va_nil)))))
   vss_nil)
  (vss_cons (vs_if (vt_cmp (op_eqD g.hr.units) ob_eq (ve_var 2) ve_int (nomark _))
   (vss_one (vs_ret (ve_add (ve_tup (va_im (ve_ix (ve_lst (va_im ve_str (va_im ve_str (va_im ve_str (va_im ve_non (va_im ve_int (va_im (ve_tup (va_im ve_str va_nil)) (va_im (ve_lst (va_im ve_str va_nil)) (va_im ve_dict0 va_nil))))))))) (ve_call (ok_law_draw T) (g.hr.mono (by decide)) g.tk rfl (by rfl) (g_law_draw T) (F_law_draw T).kp (bi_law_draw T) (va_sl 0 (va_im ve_int va_nil)))) va_nil)) (ve_slN 1 (vo_some ve_int) vo_none))))
   vss_nil)
  (vss_cons (vs_if (vt_cmp (op_eqD g.hr.units) ob_eq (ve_lenN 1 (by rfl) T.n_len) ve_int (nomark _))
   (vss_one (vs_ret (ve_add (ve_tup (va_im ve_str va_nil)) (ve_cT call_tuple_of cs_tuple (by rfl) T.n_tuple boot_ty_tuple (va_im (ve_call (ok_law_bent_ends T) (g.hr.mono (by decide)) g.tk rfl (by rfl) (g_law_bent_ends T) (F_law_bent_ends T).kp (bi_law_bent_ends T) (va_sl 0 (va_im (ve_ixN 1 ve_int) (va_im (ve_ixN 1 ve_int) va_nil)))) va_nil)))))
   vss_nil)
  (vss_cons (vs_if (vt_cmp (op_eqD g.hr.units) ob_eq (ve_ixN 1 ve_int) ve_str (nomark _))
   (vss_one (vs_ret (ve_tup (va_im ve_str (va_im (ve_ix (ve_lst (va_im ve_int (va_im ve_int (va_im ve_int (va_im (ve_neg ve_int) (va_im ve_bl (va_im ve_str (va_im ve_non (va_im (ve_tup (va_im ve_int (va_im ve_int va_nil))) (va_im ve_int (va_im (ve_lst (va_im ve_int va_nil)) va_nil))))))))))) (ve_call (ok_law_draw T) (g.hr.mono (by decide)) g.tk rfl (by rfl) (g_law_draw T) (F_law_draw T).kp (bi_law_draw T) (va_sl 0 (va_im ve_int va_nil)))) va_nil)))))
   vss_nil)
  (vss_cons (vs_if (vt_cmp (op_eqD g.hr.units) ob_eq (ve_ixN 1 ve_int) ve_str (nomark _))
   (vss_one (vs_ret (ve_tup (va_im ve_str (va_im (ve_call (ok_law_bent_pieces T) (g.hr.mono (by decide)) g.tk rfl (by rfl) (g_law_bent_pieces T) (F_law_bent_pieces T).kp (bi_law_bent_pieces T) (va_sl 0 (va_im (ve_ixN 1 ve_int) va_nil))) va_nil)))))
   vss_nil)
  (vss_cons (vs_if (vt_cmp (op_eqD g.hr.units) ob_eq (ve_lenN 1 (by rfl) T.n_len) ve_int (nomark _))
   (vss_one (vs_ret (ve_tup (va_im ve_str (va_im (ve_call (ok_law_bent_words T) (g.hr.mono (by decide)) g.tk rfl (by rfl) (g_law_bent_words T) (F_law_bent_words T).kp (bi_law_bent_words T) (va_sl 0 (va_im (ve_ixN 1 ve_int) va_nil))) va_nil)))))
   vss_nil)
  (vss_one (vs_ret (ve_ix (ve_lst (va_im (ve_tup (va_im ve_str va_nil)) (va_im (ve_tup (va_im ve_str va_nil)) (va_im (ve_tup va_nil) (va_im (ve_tup (va_im ve_str (va_im (ve_tup (va_im ve_int (va_im ve_int va_nil))) va_nil))) (va_im (ve_tup (va_im ve_str (va_im ve_int (va_im ve_int va_nil)))) va_nil)))))) (ve_call (ok_law_draw T) (g.hr.mono (by decide)) g.tk rfl (by rfl) (g_law_draw T) (F_law_draw T).kp (bi_law_draw T) (va_sl 0 (va_im ve_int va_nil))))))))))))))
end
/-! _law_same -/
abbrev s_law_same : Stmt := topS 32
theorem sc_law_same : FnScope ["thing"] ["thing"] (defScope s_law_same) := ⟨rfl, rfl, rfl, by decide +kernel, rfl, by decide +kernel, by decide +kernel⟩
noncomputable def b_law_same : En → R Fl :=
  (dRet (dAndV (dCmp gIs (dFn 1 m_is_wish (aIm (dVar 0) aNil)) (dC (.bool true))) (dB (dCmp gIs (dFn 1 m_is_wish (aIm (dVar 0) aNil)) (dC (.bool true))))))
noncomputable def m_law_same : En → R L := dDef 1 b_law_same
section
variable {P : Program} {wd : World} {K : PySem.W.Frag} {mg : Str → Option Value} {base : Heap}
theorem ok_law_same (T : Tx K mg) : FnOk P wd K mg base (L2.CX P wd) 7 (He.ga K "_law_same") (fd_law_same T) ["thing"] (spD K (caK [] K) 1 m_law_same) :=
  fn_denD (F_law_same T) sc_law_same fun cdv A outer s H E g =>
  (vss_one (vs_ret (ve_and (ve_cmp op_isP ob_is (ve_call (ok_is_wish T) (g.hr.mono (by decide)) g.tk rfl (by rfl) (g_is_wish T) (F_is_wish T).kp (bi_is_wish T) (va_im (ve_var 0) va_nil)) ve_bl (nomark _)) (ve_and1 (ve_cmp op_isP ob_is (ve_call (ok_is_wish T) (g.hr.mono (by decide)) g.tk rfl (by rfl) (g_is_wish T) (F_is_wish T).kp (bi_is_wish T) (va_im (ve_var 0) va_nil)) ve_bl (nomark _))))))
end
/-! law -/
abbrev s_law : Stmt := topS 33
theorem sc_law : FnScope ["script", "k", "source", "wish", "due", "odd", "thing"] ["script"] (defScope s_law) := ⟨rfl, rfl, rfl, by decide +kernel, rfl, by decide +kernel, by decide +kernel⟩
noncomputable def b_law_l1 : En → R Fl :=
  (dSeq (dAsgL 2 (nFn 2 m_law_source (aIm (dVar 0) (aIm (dVar 1) aNil))))
  (dSeq (dAsg (putIm 3) (dFn 1 m_law_good (aSl 2 aNil)))
  (dSeq (dAsg (putIm 4) (dIxN 3 (dC (.int 0))))
  (dSeq (dIf (dCmp gEq (dIxN 3 (dC (.int 0))) (dC (.str "turns")))
   (dAsg (putIm 4) (dOp gAdd (dC (.str "turns ")) (dOp gIx (dLst (aIm (dC (.str "2")) (aIm (dC (.str "10")) aNil))) (dCall gInt (aIm (dB (dCmp gEq (dIxN 3 (dC (.int 1))) (dC (.int 10)))) aNil)))))
   dNx)
  (dSeq (dIf (dOr (dNot (dTru (dFn 1 m_law_same (aIm (dVar 3) aNil)))) (dOr (dCmp gNe (dFn 1 m_axis_word (aIm (dVar 3) aNil)) (dVar 4)) (dCmp gNe (dFn 1 m_axis_word (aIm (dVar 3) aNil)) (dVar 4))))
   (dRet (dC (.bool false)))
   dNx)
  (dIf (dCmp gIsNot (dFn 1 m_is_wish (aIm (dFn 2 m_law_bent (aSl 2 (aIm (dVar 3) aNil))) aNil)) (dC (.bool false)))
   (dRet (dC (.bool false)))
   dNx))))))
noncomputable def b_law_l2 : D → En → R (Option D) :=
  (lcT (putIm 6) (dCmp gIsNot (dFn 1 m_is_wish (aIm (dVar 6) aNil)) (dC (.bool false)))
   (dVar 6))
noncomputable def b_law : En → R Fl :=
  (dSeq (dFor (iRg1 (aIm (dCall gMax2 (aIm (dC (.int 1)) (aIm (dCall gMin2 (aIm (dLenN 0) (aIm (dC (.int 12)) aNil))) aNil))) aNil)) (putIm 1) b_law_l1)
  (dSeq (dAsg (putIm 5) (dLst (aIm (dC .none) (aIm (dC (.bool true)) (aIm (dC (.int 5)) (aIm (dC (.str "straight")) (aIm (dLst (aIm (dC (.str "straight")) aNil)) (aIm (dC (.dict [])) (aIm (dTup aNil) (aIm (dTup (aIm (dTup aNil) aNil)) (aIm (dTup (aIm (dC .none) aNil)) (aIm (dTup (aIm (dC (.str "straight")) (aIm (dC (.dict [])) (aIm (dTup (aIm (dC (.int 1)) (aIm (dC (.int 1)) aNil))) aNil)))) (aIm (dTup (aIm (dC (.str "broken")) (aIm (dTup aNil) aNil))) aNil)))))))))))))
  (dRet (dB (dCmp gEq (dFz (nLc (iD (dVar 5)) b_law_l2 [6])) (dLst aNil))))))
noncomputable def m_law : En → R L := dDef 7 b_law
section
variable {P : Program} {wd : World} {K : PySem.W.Frag} {mg : Str → Option Value} {base : Heap}
theorem ok_law (T : Tx K mg) : FnOk P wd K mg base (L2.CX P wd) 8 (He.ga K "law") (fd_law T) ["script"] (spD K (caK [] K) 1 m_law) :=
  fn_denD (F_law T) sc_law fun cdv A outer s H E g =>
  (vss_cons (vs_for g.po g.calm (vi_range1 (by rfl) T.n_range (va_im (ve_cB (call_max2 g.calm) cs_max2 (by rfl) T.n_max boot_B_max (va_im ve_int (va_im (ve_cB (call_min2 g.calm) cs_min2 (by rfl) T.n_min boot_B_min (va_im (ve_lenN 0 (by rfl) T.n_len) (va_im ve_int va_nil))) va_nil))) va_nil)) (vg_name 1 sc_law.nd) nox_put
   (vss_cons (vs_setL 2 sc_law.nd (vn_call (ok_law_source T) (g.hr.mono (by decide)) g.tk rfl (by rfl) (g_law_source T) (F_law_source T).kp (bi_law_source T) (va_im (ve_var 0) (va_im (ve_var 1) va_nil))))
  (vss_cons (vs_set 3 sc_law.nd (ve_call (ok_law_good T) (g.hr.mono (by decide)) g.tk rfl (by rfl) (g_law_good T) (F_law_good T).kp (bi_law_good T) (va_sl 2 va_nil)))
  (vss_cons (vs_set 4 sc_law.nd (ve_ixN 3 ve_int))
  (vss_cons (vs_if (vt_cmp (op_eqD g.hr.units) ob_eq (ve_ixN 3 ve_int) ve_str (nomark _))
   (vss_one (vs_set 4 sc_law.nd (ve_add ve_str (ve_ix (ve_lst (va_im ve_str (va_im ve_str va_nil))) (ve_cT call_intA cs_int (by rfl) T.n_int boot_ty_int (va_im (ve_cmp (op_eqD g.hr.units) ob_eq (ve_ixN 3 ve_int) ve_int (nomark _)) va_nil))))))
   vss_nil)
  (vss_cons (vs_if (vt_w (vw_or (vt_not (vt_tru (ve_call (ok_law_same T) (g.hr.mono (by decide)) g.tk rfl (by rfl) (g_law_same T) (F_law_same T).kp (bi_law_same T) (va_im (ve_var 3) va_nil)))) (vw_or (vt_cmp (op_neD g.hr.units) ob_ne (ve_call (ok_axis_word T) (g.hr.mono (by decide)) g.tk rfl (by rfl) (g_axis_word T) (F_axis_word T).kp (bi_axis_word T) (va_im (ve_var 3) va_nil)) (ve_var 4) (nomark _)) (vw_or1 (vt_cmp (op_neD g.hr.units) ob_ne (ve_call (ok_axis_word T) (g.hr.mono (by decide)) g.tk rfl (by rfl) (g_axis_word T) (F_axis_word T).kp (bi_axis_word T) (va_im (ve_var 3) va_nil)) (ve_var 4) (nomark _))))))
   (vss_one (vs_ret ve_bl))
   vss_nil)
  (vss_one (vs_if (vt_cmp op_isNotP ob_isNot (ve_call (ok_is_wish T) (g.hr.mono (by decide)) g.tk rfl (by rfl) (g_is_wish T) (F_is_wish T).kp (bi_is_wish T) (va_im (ve_call (ok_law_bent T) (g.hr.mono (by decide)) g.tk rfl (by rfl) (g_law_bent T) (F_law_bent T).kp (bi_law_bent T) (va_sl 2 (va_im (ve_var 3) va_nil))) va_nil)) ve_bl (nomark _))
   (vss_one (vs_ret ve_bl))
   vss_nil))))))))
  (vss_cons (vs_set 5 sc_law.nd (ve_lst (va_im ve_non (va_im ve_bl (va_im ve_int (va_im ve_str (va_im (ve_lst (va_im ve_str va_nil)) (va_im ve_dict0 (va_im (ve_tup va_nil) (va_im (ve_tup (va_im (ve_tup va_nil) va_nil)) (va_im (ve_tup (va_im ve_non va_nil)) (va_im (ve_tup (va_im ve_str (va_im ve_dict0 (va_im (ve_tup (va_im ve_int (va_im ve_int va_nil))) va_nil)))) (va_im (ve_tup (va_im ve_str (va_im (ve_tup va_nil) va_nil))) va_nil)))))))))))))
  (vss_one (vs_ret (ve_cmp (op_eqD g.hr.units) ob_eq (ve_fz (vn_lcG [("thing", 6)] g sc_law.nd (vi_val (ve_var 5)) (by kernel_rfl)
   (fun s H C cl fp g => (vgc_name 6 (by decide) sc_law.nd)) (fun s H C cl fp g => (vts_one (vt_cmp op_isNotP ob_isNot (ve_call (ok_is_wish T) (g.hr.mono (by decide)) g.tk rfl (by rfl) (g_is_wish T) (F_is_wish T).kp (bi_is_wish T) (va_im (ve_var 6) va_nil)) ve_bl (nomark _))))
   (fun s H C cl fp g => (ve_var 6)))) (ve_lst va_nil) (nomark _))))))
end
end Lw
namespace Dn
open PySem PySem.Spec PyProof.Rows L2
abbrev cI (i : Int) : Option L := some (.im (.int i))
abbrev cD (d : D) : Option L := some (.im d)
/-- the greatest divisor, by the loop -/
theorem gcd_loop : ∀ (n : Nat) (a b : Int), b.natAbs ≤ n → ∃ g : Int, g.natAbs = Int.gcd a b ∧
    dWhile (dCmp gNe (dVar 1) (dC (.int 0))) (dPar 0 1 (aIm (dVar 1) (aIm (dOp gMod (dVar 0) (dVar 1)) aNil))) [cI a, cI b] = .ok .nx [cI g, cI 0]
  | n, a, b, h => by
    rw [dWhile_turn]
    by_cases hb : b = 0
    · subst hb
      exact ⟨a, by simp, by simp⟩
    · cases n with
      | zero => omega
      | succ n =>
        have hlt : (a.fmod b).natAbs < b.natAbs := by
          rcases Int.lt_trichotomy b 0 with h1 | h1 | h1
          · have e : a.fmod b = -((-a).fmod (-b)) := by rw [Int.neg_fmod_neg]; omega
            rw [e, Int.natAbs_neg, Int.fmod_eq_emod_of_nonneg _ (by omega)]
            have h2 := Int.emod_nonneg (-a) (show -b ≠ 0 by omega)
            have h3 := Int.emod_lt_of_pos (-a) (show 0 < -b by omega)
            omega
          · exact absurd h1 hb
          · rw [Int.fmod_eq_emod_of_nonneg _ (by omega)]
            have h2 := Int.emod_nonneg a hb
            have h3 := Int.emod_lt_of_pos a h1
            omega
        obtain ⟨g, hg, e⟩ := gcd_loop n b (a.fmod b) (by omega)
        refine ⟨g, ?_, ?_⟩
        · rw [hg]
          have e1 : a.fmod b = a - b * a.fdiv b := by have := Int.fmod_add_mul_fdiv a b; omega
          rw [e1, Int.gcd_sub_mul_left_right, Int.gcd_comm]
        · simp [hb, gMod_of hb, e]
theorem pow60 : gPow (.int 10) (.int 60) = some (.int (10 ^ 60)) := gPow_of (by decide) (by decide) (by decide)
theorem pow59 : gPow (.int 10) (.int 59) = some (.int (10 ^ 59)) := gPow_of (by decide) (by decide) (by decide)
/-- a number in lowest terms, made of two ints -/
theorem lowest_of (top bottom : Int) (hb : 0 < bottom) (M : Nat) (h1 : top.natAbs < M) (h2 : bottom.natAbs < M) {n : Nat} (hM : M ≤ 2 ^ n) (hn : 0 < n) (h9 : n ≤ 9000) : ∃ t b : Int, 0 < b ∧ t.natAbs < M ∧ b.natAbs < M ∧ Int.gcd t b = 1 ∧ t * bottom = top * b ∧
    gFdiv (.int top) (.int (Int.gcd top bottom)) = some (.int t) ∧ gFdiv (.int bottom) (.int (Int.gcd top bottom)) = some (.int b) := by
  have hg : 0 < Int.gcd top bottom := Int.gcd_pos_of_ne_zero_right _ (by omega)
  have d1 := Int.gcd_dvd_left top bottom
  have d2 := Int.gcd_dvd_right top bottom
  have hle : Int.gcd top bottom ≤ bottom.natAbs := Nat.le_of_dvd (by omega) (by have := Int.natAbs_dvd_natAbs.mpr d2; simpa using this)
  have hgl : (Int.gcd top bottom : Int).natAbs < 2 ^ n := by
    rw [Int.natAbs_natCast]
    exact Nat.lt_of_le_of_lt hle (Nat.lt_of_lt_of_le h2 hM)
  refine ⟨top / Int.gcd top bottom, bottom / Int.gcd top bottom, ?_, ?_, ?_, ?_, ?_, gFdiv_pos (by omega) hgl hn h9, gFdiv_pos (by omega) hgl hn h9⟩
  · exact Int.ediv_pos_of_pos_of_dvd hb (by omega) d2
  · obtain ⟨q, hq⟩ := d1
    have e : top / (Int.gcd top bottom : Int) = q := by
      conv => lhs; lhs; rw [hq]
      exact Int.mul_ediv_cancel_left q (by omega)
    rw [e]
    have : top.natAbs = Int.gcd top bottom * q.natAbs := by
      conv => lhs; rw [hq]
      rw [Int.natAbs_mul]; rfl
    have h3 : q.natAbs ≤ Int.gcd top bottom * q.natAbs := Nat.le_mul_of_pos_left _ hg
    omega
  · obtain ⟨q, hq⟩ := d2
    have e : bottom / (Int.gcd top bottom : Int) = q := by
      conv => lhs; lhs; rw [hq]
      exact Int.mul_ediv_cancel_left q (by omega)
    rw [e]
    have : bottom.natAbs = Int.gcd top bottom * q.natAbs := by
      conv => lhs; rw [hq]
      rw [Int.natAbs_mul]; rfl
    have h3 : q.natAbs ≤ Int.gcd top bottom * q.natAbs := Nat.le_mul_of_pos_left _ hg
    omega
  · exact Int.gcd_ediv_gcd_ediv_gcd hg
  · obtain ⟨q, hq⟩ := d1
    obtain ⟨r, hr⟩ := d2
    have e1 : top / (Int.gcd top bottom : Int) = q := by
      conv => lhs; lhs; rw [hq]
      exact Int.mul_ediv_cancel_left q (by omega)
    have e2 : bottom / (Int.gcd top bottom : Int) = r := by
      conv => lhs; lhs; rw [hr]
      exact Int.mul_ediv_cancel_left r (by omega)
    rw [e1, e2]
    generalize (Int.gcd top bottom : Int) = g at hq hr
    rw [hq, hr]
    rw [Int.mul_comm g r, ← Int.mul_assoc, Int.mul_comm (q * r) g, ← Int.mul_assoc]
/-- the same over any bottom but 0 -/
theorem lowest_any (top bottom : Int) (hb : bottom ≠ 0) (M : Nat) (h1 : top.natAbs < M) (h2 : bottom.natAbs < M) {n : Nat} (hM : M ≤ 2 ^ n) (hn : 0 < n) (h9 : n ≤ 9000) : ∃ t b : Int, 0 < b ∧ t.natAbs < M ∧ b.natAbs < M ∧ Int.gcd t b = 1 ∧ t * bottom = top * b ∧
    gFdiv (.int top) (.int (if bottom < 0 then 0 - (Int.gcd top bottom : Int) else Int.gcd top bottom)) = some (.int t) ∧ gFdiv (.int bottom) (.int (if bottom < 0 then 0 - (Int.gcd top bottom : Int) else Int.gcd top bottom)) = some (.int b) := by
  by_cases h : bottom < 0
  · obtain ⟨t, b, c1, c2, c3, c4, c5, c6, c7⟩ := lowest_of (-top) (-bottom) (by omega) M (by omega) (by omega) hM hn h9
    rw [Int.neg_gcd, Int.gcd_neg] at c6 c7
    refine ⟨t, b, c1, c2, c3, c4, ?_, ?_, ?_⟩
    · rw [Int.mul_neg, Int.neg_mul] at c5; omega
    · have hg : (Int.gcd top bottom : Int) ≠ 0 := by have := Int.gcd_pos_of_ne_zero_right top hb; omega
      rw [if_pos h]
      have hl : (Int.gcd top bottom : Int).natAbs < 2 ^ n := by
        rw [Int.natAbs_natCast]
        have := Int.gcd_dvd_right top bottom
        have hle : Int.gcd top bottom ≤ bottom.natAbs := Nat.le_of_dvd (by omega) (by have := Int.natAbs_dvd_natAbs.mpr this; simpa using this)
        exact Nat.lt_of_le_of_lt hle (Nat.lt_of_lt_of_le h2 hM)
      rw [gFdiv_of (by omega) (show (0 - (Int.gcd top bottom : Int)).natAbs < 2 ^ n by rw [Int.zero_sub, Int.natAbs_neg]; exact hl) hn h9]
      rw [gFdiv_of hg hl hn h9] at c6
      have e : top.fdiv (0 - (Int.gcd top bottom : Int)) = (-top).fdiv (Int.gcd top bottom) := by
        rw [Int.zero_sub, ← Int.neg_fdiv_neg (-top), Int.neg_neg]
      rw [e]; exact c6
    · have hg : (Int.gcd top bottom : Int) ≠ 0 := by have := Int.gcd_pos_of_ne_zero_right top hb; omega
      rw [if_pos h]
      have hl : (Int.gcd top bottom : Int).natAbs < 2 ^ n := by
        rw [Int.natAbs_natCast]
        have := Int.gcd_dvd_right top bottom
        have hle : Int.gcd top bottom ≤ bottom.natAbs := Nat.le_of_dvd (by omega) (by have := Int.natAbs_dvd_natAbs.mpr this; simpa using this)
        exact Nat.lt_of_le_of_lt hle (Nat.lt_of_lt_of_le h2 hM)
      rw [gFdiv_of (by omega) (show (0 - (Int.gcd top bottom : Int)).natAbs < 2 ^ n by rw [Int.zero_sub, Int.natAbs_neg]; exact hl) hn h9]
      rw [gFdiv_of hg hl hn h9] at c7
      have e : bottom.fdiv (0 - (Int.gcd top bottom : Int)) = (-bottom).fdiv (Int.gcd top bottom) := by
        rw [Int.zero_sub, ← Int.neg_fdiv_neg (-bottom), Int.neg_neg]
      rw [e]; exact c7
  · rw [if_neg h]
    exact lowest_of top bottom (by omega) M h1 h2 hM hn h9
/-- a number as data -/
abbrev nD (t d : Int) : D := .tuple [.int t, .int d]
/-- over a range, by the turn -/
theorem forL_ix {g : D → En → R Unit} {b : En → R Fl} {f : Nat → D} {P : Nat → En → Prop} : ∀ (n k : Nat), (∀ i, k ≤ i → i < k + n → ∀ ρ, P i ρ → ∃ ρ1 ρ2, g (f i) ρ = .ok () ρ1 ∧ b ρ1 = .ok .nx ρ2 ∧ P (i + 1) ρ2) → ∀ ρ, P k ρ →
    ∃ ρ', dForL g b ((List.range' k n).map f) ρ = .ok .nx ρ' ∧ P (k + n) ρ'
  | 0, k, _, ρ, h => ⟨ρ, rfl, h⟩
  | n + 1, k, h, ρ, hp => by
    obtain ⟨ρ1, ρ2, e1, e2, p2⟩ := h k (Nat.le_refl _) (by omega) ρ hp
    obtain ⟨ρ', e, p'⟩ := forL_ix n (k + 1) (fun i h1 h2 => h i (by omega) (by omega)) ρ2 p2
    refine ⟨ρ', ?_, by rw [show k + (n + 1) = k + 1 + n by omega]; exact p'⟩
    rw [List.range'_succ, List.map_cons]
    show (g (f k) ρ).bind _ = _
    rw [e1]
    show (b ρ1).bind _ = _
    rw [e2]
    exact e
theorem forL_rng {g : D → En → R Unit} {b : En → R Fl} {lo : Int} {n : Nat} {P : Nat → En → Prop} (h : ∀ i, i < n → ∀ ρ, P i ρ → ∃ ρ1 ρ2, g (.int (lo + (i : Int))) ρ = .ok () ρ1 ∧ b ρ1 = .ok .nx ρ2 ∧ P (i + 1) ρ2) (ρ : En) (hp : P 0 ρ) :
    ∃ ρ', dForL g b (rngD lo n) ρ = .ok .nx ρ' ∧ P n ρ' := by
  obtain ⟨ρ', e, p⟩ := forL_ix (f := fun i => PyData.int (lo + (i : Int))) n 0 (fun i _ h2 => h i (by omega)) ρ hp
  refine ⟨ρ', ?_, by simpa using p⟩
  rw [rngD, List.range_eq_range']
  exact e
/-! what is the same is equal -/
mutual
theorem eqv_refl : ∀ {d : PyData}, d.canLay0 = true → PyData.eqv d d = true
  | .none, _ => by simp only [PyData.eqv]
  | .bool b, _ => by simp only [PyData.eqv]; simp
  | .int i, _ => by simp only [PyData.eqv]; simp
  | .str s, _ => by simp only [PyData.eqv]; simp
  | .list l, h => by
    simp only [PyData.eqv]
    exact eqvAll_refl (by simpa [PyData.canLay0] using h)
  | .tuple l, h => by
    simp only [PyData.eqv]
    exact eqvAll_refl (by simpa [PyData.canLay0] using h)
  | .dict l, h => by simp [PyData.canLay0] at h
theorem eqvAll_refl : ∀ {l : List PyData}, PyData.canLayAll0 l = true → PyData.eqvAll l l = true
  | [], _ => by simp only [PyData.eqvAll]
  | d :: l, h => by
    simp only [PyData.canLayAll0, Bool.and_eq_true] at h
    simp only [PyData.eqvAll, eqv_refl h.1, eqvAll_refl h.2, Bool.and_true]
end
theorem gEq_self {d : D} (h : shp d = true) : gEq d d = some true := by rw [gEq_of h h, eqv_refl (SeqAt.canLay_of_shaped h)]
theorem gNe_self {d : D} (h : shp d = true) : gNe d d = some false := by rw [gNe_of h h, eqv_refl (SeqAt.canLay_of_shaped h)]; rfl
theorem fm_congr {α β : Type} {f g : α → Option β} : ∀ {l : List α}, (∀ x ∈ l, f x = g x) → l.filterMap f = l.filterMap g
  | [], _ => rfl
  | a :: l, h => by rw [List.filterMap_cons, List.filterMap_cons, h a List.mem_cons_self, fm_congr fun x hx => h x (List.mem_cons_of_mem _ hx)]
/-- a comprehension whose turns change what stands about -/
theorem lcL_inv {t : D → En → R (Option D)} {vs : List Nat} {P : En → Prop} {S : D → Prop} : ∀ {ds acc : List D} {ρ : En}, (∀ d ∈ ds, ∀ ρ, P ρ → ∃ y ρ3, t d (wipeE ρ vs) = .ok (some y) ρ3 ∧ S y ∧ P (restE ρ ρ3 vs)) → P ρ → acc.length + ds.length ≤ sizeLine →
    ∃ ys ρ', lcL t vs ds acc ρ = .ok (acc ++ ys) ρ' ∧ ys.length = ds.length ∧ (∀ y ∈ ys, S y) ∧ P ρ'
  | [], acc, ρ, _, p, _ => ⟨[], ρ, by rw [lcL, List.append_nil], rfl, fun y h => by simp at h, p⟩
  | d :: ds, acc, ρ, h, p, hl => by
    obtain ⟨y, ρ3, e1, s1, p1⟩ := h d List.mem_cons_self ρ p
    have hl' : acc.length + (ds.length + 1) ≤ sizeLine := hl
    obtain ⟨ys, ρ', e2, l2, s2, p2⟩ := lcL_inv (acc := acc ++ [y]) (fun d hd => h d (List.mem_cons_of_mem _ hd)) p1 (by rw [List.length_append]; simp; omega)
    refine ⟨y :: ys, ρ', ?_, by simp [l2], fun z hz => ?_, p2⟩
    · rw [lcL, e1]
      show (if acc.length < sizeLine then lcL t vs ds (acc ++ [y]) (restE ρ ρ3 vs) else .no) = _
      rw [if_pos (by omega), e2]
      simp
    · rcases List.mem_cons.mp hz with q | q
      · subst q; exact s1
      · exact s2 z q
end Dn
namespace Dn
open PySem PySem.Spec PyProof.Rows L2
/-! ### texts by their signs -/
abbrev cS (a : List Nat) : Option L := some (.im (.str (SX.S a)))
theorem sLine {n : Nat} (h : n ≤ 1000000) : n ≤ sizeLine := by have := PySem.sizeLine_eq; omega
/-- signs below 128 -/
def okS (a : List Nat) : Prop := ∀ c ∈ a, c < 128
theorem okS.app {a b : List Nat} (h : okS a) (h2 : okS b) : okS (a ++ b) := fun c hc => (List.mem_append.mp hc).elim (h c) (h2 c)
theorem okS.take {a : List Nat} (h : okS a) (k : Nat) : okS (a.take k) := fun c hc => h c (List.mem_of_mem_take hc)
theorem okS.drop {a : List Nat} (h : okS a) (k : Nat) : okS (a.drop k) := fun c hc => h c (List.mem_of_mem_drop hc)
theorem okS.num (n : Nat) : okS (TL.numL n) := fun c hc => by have := TL.numL_digits n c hc; omega
theorem shpS {a : List Nat} (h : okS a) : shp (.str (SX.S a)) = true := by
  have : PyData.strOk (SX.S a) = true := by
    show (SX.S a).cps.all (· < 0x110000) = true
    rw [← Array.all_toList, List.all_eq_true]
    intro c hc
    have := h c hc
    exact decide_eq_true (by omega)
  unfold shp SeqAt.shaped
  simp only [PyData.canLay0, PyData.depth, this]
  rfl
theorem S_iff {a b : List Nat} : SX.S a = SX.S b ↔ a = b := ⟨SX.S_inj, fun h => by rw [h]⟩
theorem gEq_S {a b : List Nat} (ha : okS a) (hb : okS b) : gEq (.str (SX.S a)) (.str (SX.S b)) = some (decide (a = b)) := by rw [gEq_of (shpS ha) (shpS hb), eqv_ss]; simp only [S_iff]
theorem gNe_S {a b : List Nat} (ha : okS a) (hb : okS b) : gNe (.str (SX.S a)) (.str (SX.S b)) = some (!decide (a = b)) := by rw [gNe_of (shpS ha) (shpS hb), eqv_ss]; simp only [S_iff]
theorem gLen_S {a : List Nat} (h : a.length ≤ 1000000) : gLen1 (.str (SX.S a)) = some (.int a.length) := by
  show (if (SX.S a).length ≤ sizeLine then some (PyData.int (SX.S a).length) else none) = _
  rw [SX.S_len, if_pos (sLine h)]
theorem gAdd_S {a b : List Nat} (h : a.length + b.length ≤ 1000000) : gAdd (.str (SX.S a)) (.str (SX.S b)) = some (.str (SX.S (a ++ b))) := by
  show (if (SX.S a).length + (SX.S b).length ≤ sizeLine then some (PyData.str (SX.S a ++ SX.S b)) else none) = _
  rw [SX.S_len, SX.S_len, if_pos (sLine h), SX.S_cat]
theorem cut_take {α : Type} (ds : List α) (k : Nat) : (ds.drop (HT.sIx ds.length 0 none)).take (HT.sIx ds.length ds.length (some (k : Int)) - HT.sIx ds.length 0 none) = ds.take k := by
  rw [HT.sIx_none, HT.sIx_nat, List.drop_zero, Nat.sub_zero]
  by_cases h : k ≤ ds.length
  · rw [Nat.min_eq_left h]
  · rw [Nat.min_eq_right (by omega), List.take_of_length_le (by omega), List.take_of_length_le (by omega)]
theorem cut_drop {α : Type} (ds : List α) (k : Nat) : (ds.drop (HT.sIx ds.length 0 (some (k : Int)))).take (HT.sIx ds.length ds.length none - HT.sIx ds.length 0 (some (k : Int))) = ds.drop k := by
  rw [HT.sIx_none, HT.sIx_nat]
  by_cases h : k ≤ ds.length
  · rw [Nat.min_eq_left h, List.take_of_length_le (by rw [List.length_drop]; omega)]
  · rw [Nat.min_eq_right (by omega), Nat.sub_self, List.take_zero, List.drop_eq_nil_of_le (by omega)]
theorem gSl_to {a : List Nat} (h : a.length ≤ 1000000) (k : Nat) : gSl (.str (SX.S a)) none (some (k : Int)) = some (.str (SX.S (a.take k))) := by
  show (if (SX.S a).length ≤ sizeLine then some (PyData.str (cutS (SX.S a) none (some (k : Int)))) else none) = _
  rw [SX.S_len, if_pos (sLine h)]
  exact congrArg (fun z => some (PyData.str (SX.S z))) (cut_take a k)
theorem gSl_from {a : List Nat} (h : a.length ≤ 1000000) (k : Nat) : gSl (.str (SX.S a)) (some (k : Int)) none = some (.str (SX.S (a.drop k))) := by
  show (if (SX.S a).length ≤ sizeLine then some (PyData.str (cutS (SX.S a) (some (k : Int)) none)) else none) = _
  rw [SX.S_len, if_pos (sLine h)]
  exact congrArg (fun z => some (PyData.str (SX.S z))) (cut_drop a k)
theorem cut_mid {α : Type} (ds : List α) (i j : Nat) : (ds.drop (HT.sIx ds.length 0 (some (i : Int)))).take (HT.sIx ds.length ds.length (some (j : Int)) - HT.sIx ds.length 0 (some (i : Int))) = (ds.take j).drop i := by
  rw [HT.sIx_nat, HT.sIx_nat, List.drop_take]
  by_cases h : i ≤ ds.length
  · rw [Nat.min_eq_left h]
    by_cases h2 : j ≤ ds.length
    · rw [Nat.min_eq_left h2]
    · rw [Nat.min_eq_right (by omega), List.take_of_length_le (by rw [List.length_drop]; omega), List.take_of_length_le (by rw [List.length_drop]; omega)]
  · have e2 : ds.drop i = [] := List.drop_eq_nil_of_le (by omega)
    rw [Nat.min_eq_right (show ds.length ≤ i by omega), List.drop_length, e2]
    simp
theorem gSl_mid {a : List Nat} (h : a.length ≤ 1000000) (i j : Nat) : gSl (.str (SX.S a)) (some (i : Int)) (some (j : Int)) = some (.str (SX.S ((a.take j).drop i))) := by
  show (if (SX.S a).length ≤ sizeLine then some (PyData.str (cutS (SX.S a) (some (i : Int)) (some (j : Int)))) else none) = _
  rw [SX.S_len, if_pos (sLine h)]
  exact congrArg (fun z => some (PyData.str (SX.S z))) (cut_mid a i j)
theorem gIx_S {a : List Nat} (h : a.length ≤ 1000000) {k : Nat} (hk : k < a.length) : gIx (.str (SX.S a)) (.int (k : Int)) = some (.str (SX.S [a[k]])) := by
  show (if (SX.S a).length ≤ sizeLine then (L2.atI a (k : Int)).map (fun c => PyData.str ⟨#[c]⟩) else none) = _
  rw [SX.S_len, if_pos (sLine h), L2.atI_nat (List.getElem?_eq_getElem hk)]
  rfl
theorem gIn_S (c : Nat) (b : List Nat) : gIn (.str (SX.S [c])) (.str (SX.S b)) = some (decide (c ∈ b)) := rfl
theorem gNotIn_S (c : Nat) (b : List Nat) : gNotIn (.str (SX.S [c])) (.str (SX.S b)) = some (!decide (c ∈ b)) := rfl
theorem iD_S {f : En → R D} {ρ ρ' : En} {a : List Nat} (h : f ρ = .ok (.str (SX.S a)) ρ') : iD f ρ = .ok (a.map fun c => .str (SX.S [c])) ρ' := by
  rw [iD_eq, h]; rfl
theorem strD_S (a : List Nat) : strD (SX.S a) = a.map fun c => PyData.str (SX.S [c]) := rfl
theorem gInt_S {a : List Nat} (h : NumText.AllDigits a) (hne : a ≠ []) (hl : a.length ≤ 640) : gInt [.str (SX.S a)] = some (.int (NumText.digitsVal a)) := by
  show (if (SX.S a).length ≤ 640 then (PySem.intText? (SX.S a)).map PyData.int else none) = _
  rw [SX.S_len, if_pos hl, SX.int_S (by rw [List.all_eq_true]; intro c hc; have := h c hc; simp; omega) hne (by omega)]
  rfl
theorem log2_of {n k : Nat} (h : n < 2 ^ k) (hk : 0 < k) : n.log2 < k := by
  by_cases h0 : n = 0
  · subst h0; simpa using hk
  · exact (Nat.log2_lt h0).mpr h
theorem gStr_nat {n : Nat} {k : Nat} (h : n < 2 ^ k) (hk : 0 < k) (h9 : k ≤ 1920) : gStr [.int (n : Int)] = some (.str (SX.S (TL.numL n))) := by
  show (if (n : Int).natAbs.log2 < 1920 then some (PyData.str (toString (n : Int))) else none) = _
  have : (n : Int).natAbs.log2 < 1920 := Nat.lt_of_lt_of_le (log2_of (by simpa using h) hk) h9
  rw [if_pos this]
  exact congrArg (fun z => some (PyData.str z)) (SX.num_S n)
theorem gPart_S {a b : List Nat} (hb : b ≠ []) (h : a.length ≤ 1000000) : gPart (SX.S a) (.str (SX.S b)) = some (match TL.par b [] a with
    | some (p, q) => .tuple [.str (SX.S p), .str (SX.S b), .str (SX.S q)]
    | none => .tuple [.str (SX.S a), .str (SX.S []), .str (SX.S [])]) := by
  have h1 : ((SX.S b).length == 0) = false := by
    rw [SX.S_len]
    cases b with
    | nil => exact absurd rfl hb
    | cons c r => rfl
  show (if ((SX.S b).length == 0) = false ∧ (SX.S a).length ≤ sizeLine then some (PyData.tuple [.str (Txt.partition (SX.S a) (SX.S b)).1, .str (Txt.partition (SX.S a) (SX.S b)).2.1, .str (Txt.partition (SX.S a) (SX.S b)).2.2]) else none) = _
  rw [if_pos ⟨h1, by rw [SX.S_len]; exact sLine h⟩]
  cases q : TL.par b [] a with
  | none => rw [SX.partition_none hb q]
  | some z => obtain ⟨p, r⟩ := z; rw [SX.partition_some hb q]
def intL (t : Int) : List Nat := if t < 0 then 45 :: TL.numL t.natAbs else TL.numL t.natAbs
theorem toS_neg (n : Nat) : Str.ofString (toString (Int.negSucc n)) = SX.S (45 :: TL.numL (n + 1)) := by
  refine TL.ext_tl ?_
  show (Str.ofString _).cps.toList = _
  rw [PyProof.Rows.signs_ofString]
  show (("-" : String) ++ Nat.repr (n + 1)).toList.map Char.toNat = _
  rw [String.toList_append, List.map_append, Nat.toList_repr]
  rfl
theorem toS_int (t : Int) : Str.ofString (toString t) = SX.S (intL t) := by
  cases t with
  | ofNat n => exact SX.num_S n
  | negSucc n =>
    have e : intL (Int.negSucc n) = 45 :: TL.numL (n + 1) := by unfold intL; rw [if_pos (Int.negSucc_lt_zero n)]; rfl
    rw [toS_neg, e]
theorem gStr_int {t : Int} {k : Nat} (h : t.natAbs < 2 ^ k) (hk : 0 < k) (h9 : k ≤ 1920) : gStr [.int t] = some (.str (SX.S (intL t))) := by
  show (if t.natAbs.log2 < 1920 then some (PyData.str (toString t)) else none) = _
  have : t.natAbs.log2 < 1920 := Nat.lt_of_lt_of_le (log2_of h hk) h9
  rw [if_pos this]
  exact congrArg (fun z => some (PyData.str z)) (toS_int t)
theorem okS.int (t : Int) : okS (intL t) := fun c hc => by
  unfold intL at hc
  split at hc
  · rcases List.mem_cons.mp hc with h | h
    · omega
    · exact okS.num _ c h
  · exact okS.num _ c hc
@[simp] theorem gIs_bool (a b : Bool) : gIs (.bool a) (.bool b) = some (decide (a = b)) := rfl
@[simp] theorem gIsNot_bool (a b : Bool) : gIsNot (.bool a) (.bool b) = some (!decide (a = b)) := rfl
theorem gSl_any {a : List Nat} (h : a.length ≤ 1000000) (ok : okS a) (lo hi : Option Int) : ∃ b, okS b ∧ b.length ≤ a.length ∧ gSl (.str (SX.S a)) lo hi = some (.str (SX.S b)) := by
  refine ⟨(a.drop (HT.sIx a.length 0 lo)).take (HT.sIx a.length a.length hi - HT.sIx a.length 0 lo), (ok.drop _).take _, ?_, ?_⟩
  · rw [List.length_take, List.length_drop]; omega
  · show (if (SX.S a).length ≤ sizeLine then some (PyData.str (cutS (SX.S a) lo hi)) else none) = _
    rw [SX.S_len, if_pos (sLine h)]
    rfl
end Dn
namespace Dn
open PySem PySem.Spec PyProof.Rows L2
theorem gmul {a b : Int} (ha : a.natAbs < 2 ^ 200) (hb : b.natAbs < 2 ^ 200) : gMul (.int a) (.int b) = some (.int (a * b)) := gMul_of ha hb (by decide) (by decide) (by decide)
theorem mul_lt {a b : Int} {m n : Nat} (ha : a.natAbs < 2 ^ m) (hb : b.natAbs < 2 ^ n) : (a * b).natAbs < 2 ^ (m + n) := by
  rw [Int.natAbs_mul, Nat.pow_add]
  exact Nat.mul_lt_mul'' ha hb
theorem seq_nx {f g : En → R Fl} {ρ ρ1 : En} {r : R Fl} (h : f ρ = .ok .nx ρ1) (k : g ρ1 = r) : dSeq f g ρ = r := by
  rw [dSeq_eq, h]; exact k
theorem seq_rt {f g : En → R Fl} {ρ ρ1 : En} {d : D} (h : f ρ = .ok (.rt d) ρ1) : dSeq f g ρ = .ok (.rt d) ρ1 := by
  rw [dSeq_eq, h]; rfl
theorem seq_rl {f g : En → R Fl} {ρ ρ1 : En} {d : List D} (h : f ρ = .ok (.rl d) ρ1) : dSeq f g ρ = .ok (.rl d) ρ1 := by
  rw [dSeq_eq, h]; rfl
theorem if_t {c : En → R Bool} {f g : En → R Fl} {ρ ρ1 : En} {r : R Fl} (h : c ρ = .ok true ρ1) (k : f ρ1 = r) : dIf c f g ρ = r := by
  rw [dIf_eq, h]; exact k
theorem if_f {c : En → R Bool} {f g : En → R Fl} {ρ ρ1 : En} {r : R Fl} (h : c ρ = .ok false ρ1) (k : g ρ1 = r) : dIf c f g ρ = r := by
  rw [dIf_eq, h]; exact k
/-- a def's end -/
theorem fin_of {ls : En} {r r2 : R Fl} {q : R L} (h : r = r2) (k : finD ls r2 = q) : finD ls r = q := by rw [h]; exact k
/-- none of these is lent -/
theorem backE_id : ∀ {ls ρ : En}, (∀ c ∈ ls, ∀ ds, c ≠ some (L.bo ds)) → backE ls ρ = ls
  | [], ρ, _ => by cases ρ <;> rfl
  | l :: ls, [], _ => by cases l with
    | none => rfl
    | some l => cases l <;> rfl
  | l :: ls, c :: ρ, h => by
    have ih := backE_id (ρ := ρ) fun c hc => h c (List.mem_cons_of_mem _ hc)
    cases l with
    | none => simp [backE, ih]
    | some l => cases l with
      | bo ds => exact absurd rfl (h _ List.mem_cons_self ds)
      | _ => simp [backE, ih]
/-- by the turn, one may return -/
theorem forL_ret {g : D → En → R Unit} {b : En → R Fl} {f : Nat → D} {I : Nat → En → Prop} {P : Nat → Prop} {d0 : D} : ∀ (n k : Nat), (∀ i, k ≤ i → i < k + n → ∀ ρ, I i ρ → ∃ ρ1, g (f i) ρ = .ok () ρ1 ∧ ((P i ∧ ∃ ρ2, b ρ1 = .ok .nx ρ2 ∧ I (i + 1) ρ2) ∨ (¬ P i ∧ ∃ ρ2, b ρ1 = .ok (.rt d0) ρ2))) → ∀ ρ, I k ρ →
    ((∀ i, k ≤ i → i < k + n → P i) ∧ ∃ ρ', dForL g b ((List.range' k n).map f) ρ = .ok .nx ρ' ∧ I (k + n) ρ') ∨ ((¬ ∀ i, k ≤ i → i < k + n → P i) ∧ ∃ ρ', dForL g b ((List.range' k n).map f) ρ = .ok (.rt d0) ρ')
  | 0, k, _, ρ, h => .inl ⟨fun i h1 h2 => by omega, ρ, rfl, h⟩
  | n + 1, k, h, ρ, hp => by
    obtain ⟨ρ1, e1, q⟩ := h k (Nat.le_refl _) (by omega) ρ hp
    have hd : dForL g b ((List.range' k (n + 1)).map f) ρ = (b ρ1).bind fun fl ρ2 => match fl with
        | .nx => dForL g b ((List.range' (k + 1) n).map f) ρ2
        | .ct => dForL g b ((List.range' (k + 1) n).map f) ρ2
        | .bk => .ok .nx ρ2
        | .rt d => .ok (.rt d) ρ2
        | .rl ds => .ok (.rl ds) ρ2 := by
      rw [List.range'_succ, List.map_cons]
      show (g (f k) ρ).bind _ = _
      rw [e1]
      rfl
    rw [hd]
    rcases q with ⟨hP, ρ2, e2, i2⟩ | ⟨hP, ρ2, e2⟩
    · rw [e2]
      rcases forL_ret n (k + 1) (fun i h1 h2 => h i (by omega) (by omega)) ρ2 i2 with ⟨ha, ρ', e, i'⟩ | ⟨ha, ρ', e⟩
      · refine .inl ⟨fun i h1 h2 => ?_, ρ', e, by rw [show k + (n + 1) = k + 1 + n by omega]; exact i'⟩
        by_cases hi : i = k
        · subst hi; exact hP
        · exact ha i (by omega) (by omega)
      · exact .inr ⟨fun z => ha fun i h1 h2 => z i (by omega) (by omega), ρ', e⟩
    · rw [e2]
      exact .inr ⟨fun z => hP (z k (Nat.le_refl _) (by omega)), ρ2, rfl⟩
theorem forL_retR {g : D → En → R Unit} {b : En → R Fl} {lo : Int} {n : Nat} {I : Nat → En → Prop} {P : Nat → Prop} {d0 : D} (h : ∀ i, i < n → ∀ ρ, I i ρ → ∃ ρ1, g (.int (lo + (i : Int))) ρ = .ok () ρ1 ∧ ((P i ∧ ∃ ρ2, b ρ1 = .ok .nx ρ2 ∧ I (i + 1) ρ2) ∨ (¬ P i ∧ ∃ ρ2, b ρ1 = .ok (.rt d0) ρ2))) (ρ : En) (hp : I 0 ρ) :
    ((∀ i, i < n → P i) ∧ ∃ ρ', dForL g b (rngD lo n) ρ = .ok .nx ρ' ∧ I n ρ') ∨ ((¬ ∀ i, i < n → P i) ∧ ∃ ρ', dForL g b (rngD lo n) ρ = .ok (.rt d0) ρ') := by
  have := forL_ret (f := fun i => PyData.int (lo + (i : Int))) n 0 (fun i _ h2 => h i (by omega)) ρ hp
  rw [rngD, List.range_eq_range']
  simpa using this
theorem range_getD (ds : List D) : (List.range' 0 ds.length).map (fun i => ds.getD i .none) = ds := by
  apply List.ext_getElem
  · simp
  · intro i h1 h2
    simp
    simp at h1
    rw [List.getElem?_eq_getElem h1]; rfl
theorem forL_retL {g : D → En → R Unit} {b : En → R Fl} {ds : List D} {I : Nat → En → Prop} {P : D → Prop} {d0 : D} (h : ∀ (i : Nat) (hi : i < ds.length) (ρ : En), I i ρ → ∃ ρ1, g ds[i] ρ = .ok () ρ1 ∧ ((P ds[i] ∧ ∃ ρ2, b ρ1 = .ok .nx ρ2 ∧ I (i + 1) ρ2) ∨ (¬ P ds[i] ∧ ∃ ρ2, b ρ1 = .ok (.rt d0) ρ2))) (ρ : En) (hp : I 0 ρ) :
    ((∀ d ∈ ds, P d) ∧ ∃ ρ', dForL g b ds ρ = .ok .nx ρ' ∧ I ds.length ρ') ∨ ((¬ ∀ d ∈ ds, P d) ∧ ∃ ρ', dForL g b ds ρ = .ok (.rt d0) ρ') := by
  have gd : ∀ (i : Nat) (hi : i < ds.length), ds.getD i .none = ds[i] := fun i hi => by simp [List.getElem?_eq_getElem hi]
  have := forL_ret (g := g) (b := b) (d0 := d0) (I := I) (f := fun i => ds.getD i .none) (P := fun i => P (ds.getD i .none)) ds.length 0 (fun i _ h2 ρ q => by
    have hi : i < ds.length := by omega
    rw [gd i hi]
    exact h i hi ρ q) ρ hp
  rw [range_getD, Nat.zero_add] at this
  have key : (∀ i, 0 ≤ i → i < ds.length → P (ds.getD i .none)) ↔ ∀ d ∈ ds, P d := by
    constructor
    · intro h d hd
      obtain ⟨i, hi, rfl⟩ := List.getElem_of_mem hd
      have := h i (Nat.zero_le _) hi
      rwa [gd i hi] at this
    · intro h i _ hi
      rw [gd i hi]
      exact h _ (List.getElem_mem hi)
  rw [key] at this
  exact this
theorem gIn_tup {x : D} {ds : List D} (h1 : shp x = true) (h2 : shp (.tuple ds) = true) : gIn x (.tuple ds) = some (ds.any fun z => PyData.eqv z x) := if_pos ⟨h1, h2⟩
theorem gIn_lst {x : D} {ds : List D} (h1 : shp x = true) (h2 : shp (.list ds) = true) : gIn x (.list ds) = some (ds.any fun z => PyData.eqv z x) := if_pos ⟨h1, h2⟩
theorem gNotIn_tup {x : D} {ds : List D} (h1 : shp x = true) (h2 : shp (.tuple ds) = true) : gNotIn x (.tuple ds) = some (!ds.any fun z => PyData.eqv z x) := by
  show (gIn x (.tuple ds)).map _ = _
  rw [gIn_tup h1 h2]; rfl
theorem gNotIn_lst {x : D} {ds : List D} (h1 : shp x = true) (h2 : shp (.list ds) = true) : gNotIn x (.list ds) = some (!ds.any fun z => PyData.eqv z x) := by
  show (gIn x (.list ds)).map _ = _
  rw [gIn_lst h1 h2]; rfl
/-! texts -/
theorem S_of (s : Str) : SX.S s.cps.toList = s := by cases s; rfl
def abc : List Nat := [97, 98, 99, 100, 101, 102, 103, 104, 105, 106, 107, 108, 109, 110, 111, 112, 113, 114, 115, 116, 117, 118, 119, 120, 121, 122]
theorem str_abc : ("abcdefghijklmnopqrstuvwxyz" : Str) = SX.S abc := by rfl
theorem mem_abc {c : Nat} : c ∈ abc ↔ 97 ≤ c ∧ c ≤ 122 := by
  constructor
  · intro h
    have : ∀ c ∈ abc, 97 ≤ c ∧ c ≤ 122 := by decide
    exact this c h
  · intro ⟨h1, h2⟩
    have : ∀ k : Fin 26, 97 + k.val ∈ abc := by decide
    have := this ⟨c - 97, by omega⟩
    rwa [show 97 + (c - 97) = c by omega] at this
/-- a word -/
def isW (a : List Nat) : Prop := 1 ≤ a.length ∧ a.length ≤ 8 ∧ ∀ c ∈ a, c ∈ abc
instance (a : List Nat) : Decidable (isW a) := by unfold isW; infer_instance
theorem isW.ok {a : List Nat} (h : isW a) : okS a := fun c hc => by have := mem_abc.mp (h.2.2 c hc); omega
theorem joinL_one : ∀ cs : List Nat, TL.joinL [] (cs.map fun c => [c]) = cs
  | [] => rfl
  | [c] => rfl
  | c :: d :: r => by
    have ih := joinL_one (d :: r)
    show [c] ++ [] ++ TL.joinL [] ((d :: r).map fun c => [c]) = _
    rw [ih]; rfl
theorem join_signs (cs : List Nat) : Txt.join (SX.S []) (cs.map fun c => SX.S [c]) = SX.S cs := by
  have := SX.join_S [] (cs.map fun c => [c])
  rw [List.map_map, joinL_one] at this
  exact this
theorem signs_of : ∀ {ys : List D}, (∀ y ∈ ys, ∃ c, c < 128 ∧ y = .str (SX.S [c])) → ∃ cs : List Nat, okS cs ∧ cs.length = ys.length ∧ ys = cs.map fun c => .str (SX.S [c])
  | [], _ => ⟨[], fun c h => by simp at h, rfl, rfl⟩
  | y :: ys, h => by
    obtain ⟨c, hc, rfl⟩ := h y List.mem_cons_self
    obtain ⟨cs, h1, h2, rfl⟩ := signs_of (ys := ys) fun y hy => h y (List.mem_cons_of_mem _ hy)
    refine ⟨c :: cs, fun d hd => ?_, by simp, rfl⟩
    rcases List.mem_cons.mp hd with q | q
    · subst q; exact hc
    · exact h1 d q
theorem gJoin_signs {cs : List Nat} (h : cs.length ≤ 1000) : gJoin (SX.S []) (.list (cs.map fun c => .str (SX.S [c]))) = some (.str (SX.S cs)) := by
  show gJoinL _ _ = _
  unfold gJoinL
  rw [strs_map' (fun c => SX.S [c])]
  show (if _ then _ else _) = _
  rw [join_signs, if_pos]
  have : ((cs.map fun c => SX.S [c]).map (·.length)).sum = cs.length := by
    induction cs with
    | nil => rfl
    | cons c r ih =>
      rw [List.map_cons, List.map_cons, List.sum_cons, ih (by simp at h; omega), SX.S_len]
      simp; omega
  rw [this, SX.S_len]
  simp; omega
theorem str0 : ("" : Str) = SX.S [] := by rfl
theorem gSlT_take (ds : List D) (k : Nat) : gSl (.tuple ds) none (some (k : Int)) = some (.tuple (ds.take k)) := by
  show some (PyData.tuple _) = _
  rw [cut_take]
theorem gSlT_drop (ds : List D) (k : Nat) : gSl (.tuple ds) (some (k : Int)) none = some (.tuple (ds.drop k)) := by
  show some (PyData.tuple _) = _
  rw [cut_drop]
theorem gAddT {a b : List D} (h : a.length + b.length ≤ 1000000) : gAdd (.tuple a) (.tuple b) = some (.tuple (a ++ b)) := if_pos (sLine h)
theorem gAddL {a b : List D} (h : a.length + b.length ≤ 1000000) : gAdd (.list a) (.list b) = some (.list (a ++ b)) := if_pos (sLine h)
/-- one of a list by an int -/
theorem gIx_pick {l : List D} {v : Int} (h0 : 0 ≤ v) (h1 : v < l.length) : ∃ d, l[v.toNat]? = some d ∧ gIx (.list l) (.int v) = some d := by
  obtain ⟨n, rfl⟩ : ∃ n : Nat, v = n := ⟨v.toNat, by omega⟩
  have hn : n < l.length := by omega
  exact ⟨l[n], by simp [hn], by rw [gIx_lst]; exact atI_of (List.getElem?_eq_getElem hn)⟩
theorem gIx_pickT {l : List D} {v : Int} (h0 : 0 ≤ v) (h1 : v < l.length) : ∃ d, l[v.toNat]? = some d ∧ gIx (.tuple l) (.int v) = some d := by
  obtain ⟨n, rfl⟩ : ∃ n : Nat, v = n := ⟨v.toNat, by omega⟩
  have hn : n < l.length := by omega
  exact ⟨l[n], by simp [hn], by rw [gIx_tup]; exact atI_of (List.getElem?_eq_getElem hn)⟩
def wD (ws : List (List Nat)) : List D := ws.map fun a => .str (SX.S a)
theorem lay_words {ws : List (List Nat)} (ok : ∀ a ∈ ws, okS a) : PyData.canLayAll0 (wD ws) = true ∧ PyData.depthAll (wD ws) ≤ 1 := by
  induction ws with
  | nil => exact ⟨rfl, Nat.zero_le _⟩
  | cons a ws ih =>
    obtain ⟨h1, h2⟩ := ih fun b hb => ok b (List.mem_cons_of_mem _ hb)
    have c := SeqAt.canLay_of_shaped (shpS (ok a List.mem_cons_self))
    show (PyData.canLay0 (.str (SX.S a)) && PyData.canLayAll0 (wD ws)) = true ∧ _
    refine ⟨by rw [c, h1]; rfl, ?_⟩
    show max (PyData.depth (.str (SX.S a))) (PyData.depthAll (wD ws)) ≤ 1
    have : PyData.depth (.str (SX.S a)) ≤ 1 := by simp [PyData.depth]
    omega
theorem shp_words {ws : List (List Nat)} (ok : ∀ a ∈ ws, okS a) : shp (.list (wD ws)) = true := by
  obtain ⟨h1, h2⟩ := lay_words ok
  unfold shp SeqAt.shaped
  simp only [PyData.canLay0, PyData.depth, h1]
  simp
  omega
theorem shp_wordsT {ws : List (List Nat)} (ok : ∀ a ∈ ws, okS a) : shp (.tuple (wD ws)) = true := by
  obtain ⟨h1, h2⟩ := lay_words ok
  unfold shp SeqAt.shaped
  simp only [PyData.canLay0, PyData.depth, h1]
  simp
  omega
theorem any_words (ws : List (List Nat)) (a : List Nat) : ((wD ws).any fun z => PyData.eqv z (.str (SX.S a))) = decide (a ∈ ws) := by
  rw [Bool.eq_iff_iff, List.any_eq_true, decide_eq_true_eq]
  constructor
  · rintro ⟨z, hz, e⟩
    obtain ⟨b, hb, rfl⟩ := List.mem_map.mp hz
    rw [eqv_ss, decide_eq_true_eq, S_iff] at e
    subst e; exact hb
  · intro h
    exact ⟨_, List.mem_map.mpr ⟨a, h, rfl⟩, by rw [eqv_ss]; simp⟩
theorem gNotIn_words {ws : List (List Nat)} (ok : ∀ a ∈ ws, okS a) {a : List Nat} (oa : okS a) : gNotIn (.str (SX.S a)) (.list (wD ws)) = some (!decide (a ∈ ws)) := by
  rw [gNotIn_lst (shpS oa) (shp_words ok), any_words]
theorem gIn_words {ws : List (List Nat)} (ok : ∀ a ∈ ws, okS a) {a : List Nat} (oa : okS a) : gIn (.str (SX.S a)) (.list (wD ws)) = some (decide (a ∈ ws)) := by
  rw [gIn_lst (shpS oa) (shp_words ok), any_words]
theorem wD_append (ws : List (List Nat)) (a : List Nat) : wD ws ++ [.str (SX.S a)] = wD (ws ++ [a]) := by simp [wD]
@[simp] theorem wD_length (ws : List (List Nat)) : (wD ws).length = ws.length := by simp [wD]
end Dn
namespace Lw
open PySem PySem.Spec PyProof.Rows L2 Dn
theorem divisor_eq (a b : Int) : m_divisor [cI a, cI b] = .ok (.im (.int (Int.gcd a b))) [cI a, cI b] := by
  obtain ⟨g, hg, e⟩ := gcd_loop b.natAbs a b (Nat.le_refl _)
  have hab : (if g < 0 then -g else g) = (Int.gcd a b : Int) := by rw [← hg]; split <;> omega
  simp only [m_divisor, b_divisor, b_divisor_l1, dDef_eq, dSeq_eq]
  simp [e, hab]
def wholeD : D → Bool
  | .int _ => true
  | _ => false
theorem is_whole_eq (d : D) : m_is_whole [cD d] = .ok (.im (.bool (wholeD d))) [cD d] := by
  simp only [m_is_whole, b_is_whole, dDef_eq, dSeq_eq]
  cases d <;> simp [isTy, wholeD]
def numD : D → Bool
  | .tuple [.int t, .int b] => decide (0 < b) && decide (Int.gcd t b = 1)
  | _ => false
theorem is_number_eq (d : D) : m_is_number [cD d] = .ok (.im (.bool (numD d))) [cD d] := by
  have no : (∀ ds, d ≠ .tuple ds) → m_is_number [cD d] = .ok (.im (.bool false)) [cD d] ∧ numD d = false := fun h => by
    simp only [m_is_number, b_is_number, dDef_eq, dSeq_eq]
    cases d with
    | tuple ds => exact absurd rfl (h ds)
    | _ => exact ⟨by simp [isTy], rfl⟩
  cases d with
  | tuple ds =>
    by_cases hl : ds.length = 2
    · obtain ⟨a, b, rfl⟩ : ∃ a b, ds = [a, b] := by
        match ds, hl with
        | [a, b], _ => exact ⟨a, b, rfl⟩
      have wa := is_whole_eq a
      have wb := is_whole_eq b
      simp only [m_is_number, b_is_number, dDef_eq, dSeq_eq]
      cases ha : wholeD a with
      | false =>
        have : numD (.tuple [a, b]) = false := by cases a <;> first | rfl | cases ha
        rw [ha] at wa
        rw [this]
        simp [isTy, gLen1, gTupD, gsCons, gsNil, wa]
      | true =>
        cases hb : wholeD b with
        | false =>
          have : numD (.tuple [a, b]) = false := by cases a <;> first | (cases ha; done) | (cases b <;> first | rfl | cases hb)
          rw [ha] at wa
          rw [hb] at wb
          rw [this]
          simp [isTy, gLen1, gTupD, gsCons, gsNil, wa, wb]
        | true =>
          rw [ha] at wa
          rw [hb] at wb
          cases a <;> first | (cases ha; done) | skip
          cases b <;> first | (cases hb; done) | skip
          rename_i t b
          by_cases h0 : 0 < b
          · simp [isTy, gLen1, gTupD, gsCons, gsNil, wa, wb, numD, h0, divisor_eq]
            omega
          · simp [isTy, gLen1, gTupD, gsCons, gsNil, wa, wb, numD, h0]
    · have e : numD (.tuple ds) = false := by
        match ds with
        | [] => rfl
        | [a] => cases a <;> rfl
        | [a, b] => exact absurd rfl hl
        | a :: b :: c :: t => cases a <;> cases b <;> rfl
      have h2 : ¬ (ds.length : Int) = 2 := by omega
      rw [e]
      simp only [m_is_number, b_is_number, dDef_eq, dSeq_eq]
      simp [isTy, gLen1, h2]
  | _ => obtain ⟨h1, h2⟩ := no (by intro ds h; cases h); rw [h2]; exact h1
def toldD : D → Bool
  | .tuple [.int t, .int b] => decide (0 < b) && decide (Int.gcd t b = 1) && decide (t.natAbs < 10 ^ 18) && decide (b ≤ 60)
  | _ => false
theorem toldD_of (d : D) (h : numD d = false) : toldD d = false := by
  unfold numD at h
  split at h
  · simp [toldD]
    simp at h
    intro h1 h2
    exact absurd h2 (h h1)
  · unfold toldD
    split
    · rename_i h2; exact absurd rfl (h2 _ _)
    · rfl
theorem numD_ex {d : D} (h : numD d = true) : ∃ t b : Int, d = nD t b ∧ 0 < b ∧ Int.gcd t b = 1 := by
  unfold numD at h
  split at h
  · simp at h; exact ⟨_, _, rfl, h.1, h.2⟩
  · cases h
theorem toldD_ex {d : D} (h : toldD d = true) : ∃ t b : Int, d = nD t b ∧ 0 < b ∧ Int.gcd t b = 1 ∧ t.natAbs < 10 ^ 18 ∧ b ≤ 60 := by
  unfold toldD at h
  split at h
  · simp at h
    exact ⟨_, _, rfl, by simpa using h.1.1.1, h.1.1.2, by simpa using h.1.2, h.2⟩
  · cases h
theorem is_told_eq (d : D) : m_is_told [cD d] = .ok (.im (.bool (toldD d))) [cD d] := by
  have n := is_number_eq d
  have p : gPow (.int 10) (.int 18) = some (.int (10 ^ 18)) := gPow_of (by decide) (by decide) (by decide)
  simp only [m_is_told, b_is_told, dDef_eq, dSeq_eq]
  cases h : numD d with
  | false =>
    rw [h] at n
    rw [toldD_of d h]
    simp [n]
  | true =>
    rw [h] at n
    obtain ⟨t, b, rfl, h1, h2⟩ := numD_ex h
    have e : ((if t < 0 then -t else t) < 10 ^ 18) = (t.natAbs < 10 ^ 18) := by
      apply propext
      split <;> omega
    by_cases h3 : t.natAbs < 10 ^ 18
    · simp [-Int.reducePow, -Nat.reducePow, n, p, e, toldD, h1, h2, h3]
    · simp [-Int.reducePow, -Nat.reducePow, n, p, e, toldD, h1, h2, h3]
theorem under_eq {a b c d : Int} (ha : a.natAbs < 2 ^ 200) (hb : b.natAbs < 2 ^ 200) (hc : c.natAbs < 2 ^ 200) (hd : d.natAbs < 2 ^ 200) : m_under [cD (nD a b), cD (nD c d)] = .ok (.im (.bool (decide (a * d < c * b)))) [cD (nD a b), cD (nD c d)] := by
  have g1 := gmul ha hd
  have g2 := gmul hc hb
  simp only [m_under, b_under, dDef_eq, dSeq_eq]
  simp [g1, g2]
def wordD : D → Bool
  | .str s => decide (isW s.cps.toList)
  | _ => false
theorem is_word_eq (d : D) (hd : ∀ s, d = .str s → s.length ≤ 1000000) : m_is_word [cD d] = .ok (.im (.bool (wordD d))) [cD d] := by
  cases d with
  | str s =>
    obtain ⟨a, rfl⟩ : ∃ a, s = SX.S a := ⟨s.cps.toList, (S_of s).symm⟩
    have hl : a.length ≤ 1000000 := by have := hd _ rfl; rwa [SX.S_len] at this
    have gl := gLen_S hl
    have e : wordD (.str (SX.S a)) = decide (isW a) := rfl
    rw [e]
    have lc := lcL_map (t := b_is_word_l1) (vs := [1]) (f := fun d => match d with | .str s => .bool (decide (s.cps.toList.getD 0 0 ∈ abc)) | _ => .none) (ρ := [cS a, none]) (ds := strD (SX.S a)) (fun d hd => by
      rw [strD_S] at hd
      obtain ⟨c, hc, rfl⟩ := List.mem_map.mp hd
      refine ⟨[cS a, cS [c]], ?_, by simp [restE]⟩
      have := gIn_S c abc
      rw [← str_abc] at this
      simp [b_is_word_l1, wipeE, this]) (by rw [strD_S]; simp; exact sLine hl)
    have em : (strD (SX.S a)).map (fun d => match d with | .str s => PyData.bool (decide (s.cps.toList.getD 0 0 ∈ abc)) | _ => .none) = (a.map fun c => decide (c ∈ abc)).map PyData.bool := by
      rw [strD_S, List.map_map, List.map_map]
      rfl
    rw [em] at lc
    simp only [m_is_word, b_is_word, dDef_eq, dSeq_eq]
    by_cases h1 : 1 ≤ a.length ∧ a.length ≤ 8
    · have h2 : (1 : Int) ≤ a.length := by omega
      have h3 : (a.length : Int) ≤ 8 := by omega
      simp [isTy, gl, h2, h3, immE, lc, -List.map_map]
      rw [Bool.eq_iff_iff]
      simp [isW, h1]
    · have h2 : ¬ isW a := fun h => h1 ⟨h.1, h.2.1⟩
      by_cases h3 : (1 : Int) ≤ a.length
      · have h4 : ¬ (a.length : Int) ≤ 8 := by omega
        simp [isTy, gl, h2, h3, h4]
      · simp [isTy, gl, h2, h3]
  | _ =>
    simp only [m_is_word, b_is_word, dDef_eq, dSeq_eq]
    simp [isTy, wordD]
def endsD (x y : D) : Bool := match x, y with
  | .tuple [.int a, .int b], .tuple [.int c, .int d] => toldD (nD a b) && toldD (nD c d) && decide (a * d < c * b)
  | _, _ => false
theorem toldD_nD {a b : Int} : toldD (nD a b) = true ↔ 0 < b ∧ Int.gcd a b = 1 ∧ a.natAbs < 10 ^ 18 ∧ b ≤ 60 := by
  simp [toldD, and_assoc]
theorem endsD_f1 {x y : D} (h : toldD x = false) : endsD x y = false := by
  unfold endsD
  split
  · simp [h]
  · rfl
theorem endsD_f2 {x y : D} (h : toldD y = false) : endsD x y = false := by
  unfold endsD
  split
  · simp [h]
  · rfl
theorem are_ends_eq (x y : D) : m_are_ends [cD x, cD y] = .ok (.im (.bool (endsD x y))) [cD x, cD y] := by
  have tx := is_told_eq x
  have ty := is_told_eq y
  simp only [m_are_ends, b_are_ends, dDef_eq, dSeq_eq]
  cases hx : toldD x with
  | false =>
    rw [hx] at tx
    rw [endsD_f1 hx]
    simp [tx]
  | true =>
    cases hy : toldD y with
    | false =>
      rw [hx] at tx
      rw [hy] at ty
      rw [endsD_f2 hy]
      simp [tx, ty]
    | true =>
      rw [hx] at tx
      rw [hy] at ty
      obtain ⟨a, b, rfl, a1, a2, a3, a4⟩ := toldD_ex hx
      obtain ⟨c, d, rfl, c1, c2, c3, c4⟩ := toldD_ex hy
      have u := under_eq (a := a) (b := b) (c := c) (d := d) (by omega) (by omega) (by omega) (by omega)
      have e : endsD (nD a b) (nD c d) = decide (a * d < c * b) := by
        show (toldD (nD a b) && toldD (nD c d) && decide (a * d < c * b)) = _
        rw [hx, hy]; rfl
      rw [e]
      simp [tx, ty, u]
/-- a pair of ends -/
def pairD : D → Bool
  | .tuple [x, y] => endsD x y
  | _ => false
/-- the second of one is below the first of the other -/
def belowD : D → D → Bool
  | .tuple [_, .tuple [.int a, .int b]], .tuple [.tuple [.int c, .int d], _] => decide (a * d < c * b)
  | _, _ => false
def piecesOk (ds : List D) : Prop := ∀ i, i < ds.length → pairD (ds.getD i .none) = true ∧ (0 < i → belowD (ds.getD (i - 1) .none) (ds.getD i .none) = true)
theorem pairD_ex {d : D} (h : pairD d = true) : ∃ a b c e : Int, d = .tuple [nD a b, nD c e] ∧ toldD (nD a b) = true ∧ toldD (nD c e) = true ∧ a * e < c * b := by
  unfold pairD at h
  split at h
  · unfold endsD at h
    split at h
    · simp at h
      exact ⟨_, _, _, _, rfl, h.1.1, h.1.2, h.2⟩
    · cases h
  · cases h
theorem ixT {ds : List D} {i : Nat} (h : i < ds.length) : L2.atI ds (i : Int) = some (ds.getD i .none) := by
  rw [show ds.getD i .none = ds[i] by simp [List.getElem?_eq_getElem h]]
  exact atI_of (List.getElem?_eq_getElem h)
theorem pieces_turn (ds : List D) (i : Nat) (hi : i < ds.length) (prev : 0 < i → pairD (ds.getD (i - 1) .none) = true) :
    ((pairD (ds.getD i .none) = true ∧ (0 < i → belowD (ds.getD (i - 1) .none) (ds.getD i .none) = true)) ∧ b_are_pieces_l1 [cD (.tuple ds), cI i] = .ok .nx [cD (.tuple ds), cI i]) ∨
    (¬ (pairD (ds.getD i .none) = true ∧ (0 < i → belowD (ds.getD (i - 1) .none) (ds.getD i .none) = true)) ∧ b_are_pieces_l1 [cD (.tuple ds), cI i] = .ok (.rt (.bool false)) [cD (.tuple ds), cI i]) := by
  have ix := ixT hi
  generalize hd : ds.getD i .none = d at ix
  have bad : ∀ (h : pairD d = false), (∀ ts, d ≠ .tuple ts) ∨ (∃ ts, d = .tuple ts ∧ ts.length ≠ 2) ∨ ∃ x y, d = .tuple [x, y] ∧ endsD x y = false := fun h => by
    cases d with
    | tuple ts =>
      right
      by_cases hl : ts.length = 2
      · obtain ⟨x, y, rfl⟩ : ∃ x y, ts = [x, y] := by
          match ts, hl with
          | [x, y], _ => exact ⟨x, y, rfl⟩
        exact .inr ⟨x, y, rfl, h⟩
      · exact .inl ⟨ts, rfl, hl⟩
    | _ => exact .inl fun ts z => by cases z
  cases hp : pairD d with
  | false =>
    refine .inr ⟨by simp, ?_⟩
    unfold b_are_pieces_l1
    rcases bad hp with h | ⟨ts, rfl, h⟩ | ⟨x, y, rfl, h⟩
    · refine seq_rt ?_
      cases d with
      | tuple ts => exact absurd rfl (h ts)
      | _ => simp [ix, isTy]
    · refine seq_rt ?_
      have h2 : ¬ (ts.length : Int) = 2 := by omega
      simp [ix, isTy, gLen, gLen1, h2]
    · refine seq_rt ?_
      have E := are_ends_eq x y
      rw [h] at E
      simp [ix, isTy, gLen, gLen1, E]
  | true =>
    obtain ⟨a, b, c, e, rfl, h1, h2, h3⟩ := pairD_ex hp
    have E := are_ends_eq (nD a b) (nD c e)
    have e1 : endsD (nD a b) (nD c e) = true := by
      show (toldD (nD a b) && toldD (nD c e) && decide (a * e < c * b)) = _
      rw [h1, h2]; simp [h3]
    rw [e1] at E
    have first : dIf (dOr (dNot (dIsi "tuple" (dIxN 0 (dVar 1)))) (dOr (dCmp gNe (dCall gLen (aIm (dIxN 0 (dVar 1)) aNil)) (dC (.int 2))) (dNot (dTru (dFn 2 m_are_ends (aIm (dOp gIx (dIxN 0 (dVar 1)) (dC (.int 0))) (aIm (dOp gIx (dIxN 0 (dVar 1)) (dC (.int 1))) aNil))))))) (dRet (dC (.bool false))) dNx [cD (.tuple ds), cI i] = .ok .nx [cD (.tuple ds), cI i] := by
      simp [ix, isTy, gLen, gLen1, E]
    by_cases h0 : 0 < i
    · obtain ⟨a', b', c', e', hd', k1, k2, k3⟩ := pairD_ex (prev h0)
      have ix' := ixT (ds := ds) (i := i - 1) (by omega)
      rw [show ((i - 1 : Nat) : Int) = (i : Int) - 1 by omega] at ix'
      rw [hd'] at ix' ⊢
      obtain ⟨_, _, q1, q2⟩ := toldD_nD.mp k2
      obtain ⟨p0, _, p1, p2⟩ := toldD_nD.mp h1
      have pk := (toldD_nD.mp k2).1
      have u := under_eq (a := c') (b := e') (c := a) (d := b) (by omega) (by omega) (by omega) (by omega)
      have eb : belowD (.tuple [nD a' b', nD c' e']) (.tuple [nD a b, nD c e]) = decide (c' * b < a * e') := rfl
      rw [eb]
      have hi0 : (0 : Int) < (i : Int) := by omega
      by_cases hu : c' * b < a * e'
      · refine .inl ⟨⟨rfl, fun _ => decide_eq_true hu⟩, ?_⟩
        unfold b_are_pieces_l1
        refine seq_nx first ?_
        simp [ix, ix', u, hu, h0]
      · refine .inr ⟨fun z => by simpa [hu] using z.2 h0, ?_⟩
        unfold b_are_pieces_l1
        refine seq_nx first ?_
        simp [ix, ix', u, hu, h0]
    · have : i = 0 := by omega
      subst this
      refine .inl ⟨⟨rfl, fun z => absurd z h0⟩, ?_⟩
      unfold b_are_pieces_l1
      refine seq_nx first ?_
      simp
open Classical in
noncomputable def piecesD : D → Bool
  | .tuple ds => decide (2 ≤ ds.length ∧ ds.length ≤ 4 ∧ piecesOk ds)
  | _ => false
theorem are_pieces_eq (d : D) : m_are_pieces [cD d] = .ok (.im (.bool (piecesD d))) [cD d] := by
  cases d with
  | tuple ds =>
    simp only [m_are_pieces, b_are_pieces, dDef_eq]
    rw [show ([cD (.tuple ds)] ++ List.replicate (2 - [cD (.tuple ds)].length) none : En) = [cD (.tuple ds), none] from rfl]
    by_cases hl : 2 ≤ ds.length ∧ ds.length ≤ 4
    · have l1 : (2 : Int) ≤ ds.length := by omega
      have l2 : (ds.length : Int) ≤ 4 := by omega
      have I : Dn.inR (ds.length : Int) := inR_of (by omega) (by omega)
      have F := forL_retR (g := putIm 1) (b := b_are_pieces_l1) (lo := 0) (n := ds.length) (d0 := .bool false) (P := fun i => pairD (ds.getD i .none) = true ∧ (0 < i → belowD (ds.getD (i - 1) .none) (ds.getD i .none) = true))
        (I := fun i ρ => (∃ x, free (some x) = true ∧ ρ = [cD (.tuple ds), x]) ∧ (0 < i → pairD (ds.getD (i - 1) .none) = true)) (fun i hi ρ ⟨⟨x, hx, e⟩, hp⟩ => by
          subst e
          refine ⟨[cD (.tuple ds), cI i], by simp [hx], ?_⟩
          rcases pieces_turn ds i hi hp with ⟨h, e⟩ | ⟨h, e⟩
          · exact .inl ⟨h, _, e, ⟨_, rfl, rfl⟩, fun _ => h.1⟩
          · exact .inr ⟨h, _, e⟩) [cD (.tuple ds), none] ⟨⟨none, rfl, rfl⟩, fun h => absurd h (by omega)⟩
      rcases F with ⟨h, ρ', e, ⟨x, hx, rfl⟩, _⟩ | ⟨h, ρ', e⟩
      · have : piecesD (.tuple ds) = true := by
          simp only [piecesD, decide_eq_true_eq]; exact ⟨hl.1, hl.2, h⟩
        rw [this]
        rw [seq_nx (ρ1 := [cD (.tuple ds), none]) (by simp [isTy, gLen1, l1, l2]) (seq_nx (ρ1 := [cD (.tuple ds), x]) (by rw [dFor_eq]; simp [gLen1, I, e]) rfl)]
        simp
      · have : piecesD (.tuple ds) = false := by
          simp only [piecesD, decide_eq_false_iff_not]; exact fun z => h z.2.2
        rw [this]
        rw [seq_nx (ρ1 := [cD (.tuple ds), none]) (by simp [isTy, gLen1, l1, l2]) (seq_rt (ρ1 := ρ') (d := .bool false) (by rw [dFor_eq]; simp [gLen1, I, e]))]
        rw [fin_rt, backE_id (by simp)]
    · have : piecesD (.tuple ds) = false := by
        simp only [piecesD, decide_eq_false_iff_not]; exact fun z => hl ⟨z.1, z.2.1⟩
      rw [this]
      by_cases l1 : (2 : Int) ≤ ds.length
      · have l2 : ¬ (ds.length : Int) ≤ 4 := by omega
        rw [seq_rt (ρ1 := [cD (.tuple ds), none]) (d := .bool false) (by simp [isTy, gLen1, l1, l2])]
        simp
      · rw [seq_rt (ρ1 := [cD (.tuple ds), none]) (d := .bool false) (by simp [isTy, gLen1, l1])]
        simp
  | _ =>
    simp only [m_are_pieces, b_are_pieces, dDef_eq, dSeq_eq]
    simp [isTy, piecesD]
/-- words, unlike -/
theorem met_nodup {xs : List Str} (h : xs.Nodup) : ∀ i, i ≤ xs.length → DnSet.met xs i = xs.take i
  | 0, _ => rfl
  | i + 1, hi => by
    have hi' : i < xs.length := hi
    rw [DnSet.met_succ hi', met_nodup h i (by omega)]
    have e : xs.getD i Str.empty = xs[i] := by simp [hi']
    rw [e]
    unfold DnSet.add1
    rw [if_neg, List.take_succ_eq_append_getElem hi']
    intro z
    rw [List.any_eq_true] at z
    obtain ⟨y, hy, hyx⟩ := z
    have hyx : y = xs[i] := by simpa using hyx
    subst hyx
    obtain ⟨j, hj, ej⟩ := List.getElem_of_mem hy
    rw [List.getElem_take] at ej
    have hj' : j < i := by simp at hj; omega
    exact (List.pairwise_iff_getElem.mp h) j i (by omega) hi' hj' ej
theorem met_mono {xs : List Str} : ∀ (n i : Nat), i + n ≤ xs.length → (DnSet.met xs (i + n)).length ≤ (DnSet.met xs i).length + n
  | 0, i, _ => Nat.le_refl _
  | n + 1, i, h => by
    have ih := met_mono (xs := xs) n i (by omega)
    rw [show i + (n + 1) = i + n + 1 by omega, DnSet.met_succ (by omega), DnSet.add1_len]
    split <;> omega
theorem met_mem {xs : List Str} {k : Str} : ∀ {i : Nat}, i ≤ xs.length → (DnSet.met xs i).any (· == k) = (xs.take i).any (· == k)
  | 0, _ => rfl
  | i + 1, h => by
    rw [DnSet.met_succ (by omega), DnSet.add1_any, met_mem (by omega), List.take_succ_eq_append_getElem (by omega), List.any_append]
    rw [show xs.getD i Str.empty = xs[i] by simp [show i < xs.length by omega]]
    by_cases e : k = xs[i]
    · simp [e]
    · have : (xs[i] == k) = false := by simpa using fun z => e z.symm
      simp [e, this]
theorem met_dup {xs : List Str} (h : ¬ xs.Nodup) : (DnSet.met xs xs.length).length < xs.length := by
  have : ∃ i j : Nat, ∃ (hi : i < j) (hj : j < xs.length), xs[i] = xs[j] := by
    refine Classical.byContradiction fun z => h ?_
    rw [List.nodup_iff_pairwise_ne, List.pairwise_iff_getElem]
    intro i j hi hj hij e
    exact z ⟨i, j, hij, hj, e⟩
  obtain ⟨i, j, hij, hj, e⟩ := this
  have hs : (DnSet.met xs (j + 1)).length ≤ j := by
    rw [DnSet.met_succ hj, DnSet.add1_len, if_pos]
    · exact DnSet.met_le xs j (by omega)
    · rw [met_mem (by omega), List.any_eq_true]
      refine ⟨xs[i], ?_, by simp [e, show j < xs.length from hj]⟩
      rw [List.mem_take_iff_getElem]
      exact ⟨i, by omega, rfl⟩
  have := met_mono (xs := xs) (xs.length - (j + 1)) (j + 1) (by omega)
  rw [show j + 1 + (xs.length - (j + 1)) = xs.length by omega] at this
  omega
open Classical in
noncomputable def wordsD : D → Bool
  | .tuple ds => decide (1 ≤ ds.length ∧ ds.length ≤ 60 ∧ (∀ d ∈ ds, wordD d = true) ∧ ds.Nodup)
  | _ => false
theorem words_of : ∀ {ds : List D}, (∀ d ∈ ds, wordD d = true) → ∃ xs : List Str, ds = xs.map .str
  | [], _ => ⟨[], rfl⟩
  | d :: ds, h => by
    obtain ⟨xs, rfl⟩ := words_of fun d hd => h d (List.mem_cons_of_mem _ hd)
    have := h d List.mem_cons_self
    cases d <;> first | (cases this; done) | exact ⟨_ :: xs, rfl⟩
theorem nodup_strs {xs : List Str} : (xs.map PyData.str).Nodup ↔ xs.Nodup := by
  constructor
  · exact fun h => (List.pairwise_map.mp h).imp fun h z => h (by rw [z])
  · intro h
    exact List.Pairwise.map _ (fun a b hab z => hab (by cases z; rfl)) h
theorem are_words_eq (d : D) (hd : ∀ ds, d = .tuple ds → ∀ s, PyData.str s ∈ ds → s.length ≤ 1000000) : m_are_words [cD d] = .ok (.im (.bool (wordsD d))) [cD d] := by
  cases d with
  | tuple ds =>
    have hd' := hd ds rfl
    simp only [m_are_words, b_are_words, dDef_eq]
    rw [show ([cD (.tuple ds)] ++ List.replicate (2 - [cD (.tuple ds)].length) none : En) = [cD (.tuple ds), none] from rfl]
    by_cases hl : 1 ≤ ds.length ∧ ds.length ≤ 60
    · have l1 : (1 : Int) ≤ ds.length := by omega
      have l2 : (ds.length : Int) ≤ 60 := by omega
      have first : dIf (dOr (dNot (dIsi "tuple" (dVar 0))) (dNot (dChain gLe gLe (dC (.int 1)) (dLenN 0) (dC (.int 60))))) (dRet (dC (.bool false))) dNx [cD (.tuple ds), none] = .ok .nx [cD (.tuple ds), none] := by simp [isTy, gLen1, l1, l2]
      have F := forL_retL (g := putIm 1) (b := b_are_words_l1) (ds := ds) (d0 := .bool false) (P := fun d => wordD d = true) (I := fun i ρ => ∃ x, free (some x) = true ∧ ρ = [cD (.tuple ds), x]) (fun i hi ρ ⟨x, hx, e⟩ => by
          subst e
          have W := is_word_eq ds[i] fun s es => hd' s (by rw [← es]; exact List.getElem_mem hi)
          generalize ds[i] = d at W
          refine ⟨[cD (.tuple ds), cD d], by simp [hx], ?_⟩
          cases h : wordD d with
          | true =>
            rw [h] at W
            exact .inl ⟨rfl, _, by simp [b_are_words_l1, W]; rfl, _, rfl, rfl⟩
          | false =>
            rw [h] at W
            exact .inr ⟨by simp, _, by simp [b_are_words_l1, W]; rfl⟩) [cD (.tuple ds), none] ⟨none, rfl, rfl⟩
      rcases F with ⟨h, ρ', e, x, hx, rfl⟩ | ⟨h, ρ', e⟩
      · obtain ⟨xs, rfl⟩ := words_of h
        have sl : gSetLen (.tuple (xs.map .str)) = some (.int (DnSet.met xs xs.length).length) := by
          show (allOf asStr _).bind _ = _
          rw [Dn.strs_map]
          show (if _ then _ else _) = _
          rw [if_pos (by simp at hl; omega)]
        rw [seq_nx first (seq_nx (ρ1 := [cD (.tuple (xs.map .str)), x]) (by rw [dFor_eq]; simp [e]) rfl)]
        by_cases hn : xs.Nodup
        · have : wordsD (.tuple (xs.map .str)) = true := by
            simp only [wordsD, decide_eq_true_eq]; exact ⟨hl.1, hl.2, h, nodup_strs.mpr hn⟩
          rw [this]
          have ml := met_nodup hn xs.length (Nat.le_refl _)
          rw [List.take_length] at ml
          rw [ml] at sl
          simp [sl, gLen1]
        · have : wordsD (.tuple (xs.map .str)) = false := by
            simp only [wordsD, decide_eq_false_iff_not]; exact fun z => hn (nodup_strs.mp z.2.2.2)
          rw [this]
          have ml := met_dup hn
          generalize (DnSet.met xs xs.length).length = m at sl ml
          have : ¬ (m : Int) = xs.length := by omega
          simp [sl, gLen1]
          omega
      · have : wordsD (.tuple ds) = false := by
          simp only [wordsD, decide_eq_false_iff_not]; exact fun z => h z.2.2.1
        rw [this]
        rw [seq_nx first (seq_rt (ρ1 := ρ') (d := .bool false) (by rw [dFor_eq]; simp [e]))]
        rw [fin_rt, backE_id (by simp)]
    · have : wordsD (.tuple ds) = false := by
        simp only [wordsD, decide_eq_false_iff_not]; exact fun z => hl ⟨z.1, z.2.1⟩
      rw [this]
      by_cases l1 : (1 : Int) ≤ ds.length
      · have l2 : ¬ (ds.length : Int) ≤ 60 := by omega
        rw [seq_rt (ρ1 := [cD (.tuple ds), none]) (d := .bool false) (by simp [isTy, gLen1, l1, l2])]
        simp
      · rw [seq_rt (ρ1 := [cD (.tuple ds), none]) (d := .bool false) (by simp [isTy, gLen1, l1])]
        simp
  | _ =>
    simp only [m_are_words, b_are_words, dDef_eq, dSeq_eq]
    simp [isTy, wordsD]
def sStraight : List Nat := [115, 116, 114, 97, 105, 103, 104, 116]
def sDays : List Nat := [100, 97, 121, 115]
def sOrder : List Nat := [111, 114, 100, 101, 114]
def sTurns : List Nat := [116, 117, 114, 110, 115]
def sBroken : List Nat := [98, 114, 111, 107, 101, 110]
theorem strStraight : ("straight" : Str) = SX.S sStraight := by rfl
theorem strDays : ("days" : Str) = SX.S sDays := by rfl
theorem strOrder : ("order" : Str) = SX.S sOrder := by rfl
theorem strTurns : ("turns" : Str) = SX.S sTurns := by rfl
theorem strBroken : ("broken" : Str) = SX.S sBroken := by rfl
/-- a wish by its first word and the rest -/
noncomputable def wishT (h : List Nat) : List D → Bool
  | [] => decide (h = sStraight ∨ h = sDays ∨ h = sOrder)
  | [x] => if h = sTurns then (match x with | .int i => decide (i = 2 ∨ i = 10) | _ => false) else if h = sBroken then piecesD x else decide (h = sOrder) && wordsD x
  | [x, y] => decide (h = sStraight) && endsD x y
  | _ => false
theorem is_wish_eq (h : List Nat) (ok : okS h) (t : List D) (ht : h = sOrder → ∀ x, t = [x] → ∀ ds, x = .tuple ds → ∀ s, PyData.str s ∈ ds → s.length ≤ 1000000) :
    m_is_wish [cD (.tuple (.str (SX.S h) :: t))] = .ok (.im (.bool (wishT h t))) [cD (.tuple (.str (SX.S h) :: t))] := by
  have o1 : okS sStraight := by unfold okS; decide
  have o2 : okS sDays := by unfold okS; decide
  have o3 : okS sOrder := by unfold okS; decide
  have o4 : okS sTurns := by unfold okS; decide
  have o5 : okS sBroken := by unfold okS; decide
  have e1 : gEq (.str (SX.S h)) (.str "straight") = some (decide (h = sStraight)) := by rw [strStraight, gEq_S ok o1]
  have e3 : gEq (.str (SX.S h)) (.str "order") = some (decide (h = sOrder)) := by rw [strOrder, gEq_S ok o3]
  have e4 : gEq (.str (SX.S h)) (.str "turns") = some (decide (h = sTurns)) := by rw [strTurns, gEq_S ok o4]
  have e5 : gEq (.str (SX.S h)) (.str "broken") = some (decide (h = sBroken)) := by rw [strBroken, gEq_S ok o5]
  simp only [m_is_wish, b_is_wish, dDef_eq]
  rw [show ([cD (.tuple (.str (SX.S h) :: t))] ++ List.replicate (1 - [cD (.tuple (.str (SX.S h) :: t))].length) none : En) = [cD (.tuple (.str (SX.S h) :: t))] from rfl]
  refine (congrArg _ (seq_nx (ρ1 := [cD (.tuple (.str (SX.S h) :: t))]) (by simp [isTy]) rfl)).trans ?_
  match t, ht with
  | [], _ =>
    have gi : gIn (.str (SX.S h)) (.tuple [.str "straight", .str "days", .str "order"]) = some (decide (h = sStraight ∨ h = sDays ∨ h = sOrder)) := by
      rw [strStraight, strDays, strOrder]
      have sh : shp (.tuple [.str (SX.S sStraight), .str (SX.S sDays), .str (SX.S sOrder)]) = true := by decide +kernel
      rw [gIn_tup (shpS ok) sh]
      congr 1
      rw [Bool.eq_iff_iff]
      simp only [List.any_cons, List.any_nil, eqv_ss, S_iff, Bool.or_eq_true, decide_eq_true_eq, Bool.or_false, @eq_comm _ _ h]
    simp [gLen1, gi, wishT]
  | [x], ht =>
    have P := are_pieces_eq x
    have N := is_whole_eq x
    simp only [dSeq_eq]
    by_cases h4 : h = sTurns
    · subst h4
      cases x with
      | int i =>
        have gi : gIn (.int i) (.tuple [.int 2, .int 10]) = some (decide (i = 2 ∨ i = 10)) := by
          have sh : shp (.tuple [.int 2, .int 10]) = true := by decide +kernel
          rw [gIn_tup rfl sh]
          congr 1
          rw [Bool.eq_iff_iff]
          simp only [List.any_cons, List.any_nil, eqv_ii, Bool.or_eq_true, decide_eq_true_eq, Bool.or_false, @eq_comm _ _ i]
        simp [gLen1, e4, N, wholeD, gi, wishT]
      | _ => simp [gLen1, e4, N, wholeD, wishT]
    · by_cases h5 : h = sBroken
      · subst h5
        have h45 : ¬ sBroken = sTurns := by decide
        simp [gLen1, e4, e5, h45, P, wishT]
      · by_cases h3 : h = sOrder
        · subst h3
          have W := are_words_eq x (ht rfl x rfl)
          have h35 : ¬ sOrder = sTurns := by decide
          have h36 : ¬ sOrder = sBroken := by decide
          simp [gLen1, e4, e5, e3, h35, h36, W, wishT]
        · simp [gLen1, e4, e5, e3, h4, h5, h3, wishT]
  | [x, y], _ =>
    have E := are_ends_eq x y
    simp only [dSeq_eq]
    by_cases h1 : h = sStraight
    · subst h1
      simp [gLen1, e1, E, wishT]
    · simp [gLen1, e1, h1, wishT]
  | x :: y :: z :: t, _ =>
    have a1 : ¬ ((t.length : Int) + 1 + 1 + 1 + 1 = 1) := by omega
    have a2 : ¬ ((t.length : Int) + 1 + 1 + 1 + 1 = 3) := by omega
    have a3 : ¬ ((t.length : Int) + 1 + 1 + 1 + 1 = 2) := by omega
    simp only [dSeq_eq]
    simp [gLen1, a1, a2, a3, wishT]
theorem is_wish_no (d : D) (h : ∀ s t, d ≠ .tuple (.str s :: t)) : m_is_wish [cD d] = .ok (.im (.bool false)) [cD d] := by
  simp only [m_is_wish, b_is_wish, dDef_eq, dSeq_eq]
  cases d with
  | tuple ds =>
    cases ds with
    | nil => simp [isTy]
    | cons a t =>
      cases a with
      | str s => exact absurd rfl (h s t)
      | _ => simp [isTy]
  | _ => simp [isTy]
theorem law_cell_at_eq (ns : List Int) (k : Nat) : m_law_cell_at [cD (scriptD ns), cI k] = .ok (.im (.int (ns.getD k 0))) [cD (scriptD ns), cI k] := by
  simp only [m_law_cell_at, b_law_cell_at, dDef_eq, dSeq_eq]
  simp [scriptD, gLen1]
  by_cases h : k < ns.length
  · rw [if_pos h]
    have : L2.atI (ns.map PyData.int) (k : Int) = some (.int ns[k]) := atI_of (by simp [h])
    simp [this, h]
  · rw [if_neg h]
    simp [h]
/-- a source: what is left of a cell, a seed -/
abbrev srcD (r s : Int) : List D := [.int r, .int s]
theorem setI0 (r s : Int) (c : Int) (ρ : En) : setK (some 0) (.bo (srcD r s)) (srcD r s) (.int c) 0 ρ = .ok .nx (ρ.set 0 (some (.bo (srcD c s)))) := rfl
theorem setI1 (r s : Int) (c : Int) (ρ : En) : setK (some 1) (.bo (srcD r s)) (srcD r s) (.int c) 0 ρ = .ok .nx (ρ.set 0 (some (.bo (srcD r c)))) := rfl
theorem draw_eq (r s many : Int) (hr : 0 ≤ r) (hs : 0 ≤ s) (hs2 : s < 2147483648) (hm : 0 < many) (hm2 : many.natAbs < 2 ^ 200) : ∃ r' s' v : Int, 0 ≤ r' ∧ 0 ≤ s' ∧ s' < 2147483648 ∧ 0 ≤ v ∧ v < many ∧
    m_law_draw [some (.bo (srcD r s)), cI many] = .ok (.im (.int v)) [some (.bo (srcD r' s')), cI many] := by
  simp only [m_law_draw, b_law_draw, dDef_eq, dSeq_eq]
  by_cases h : 0 < r
  · have q : gMod (.int r) (.int many) = some (.int (r % many)) := gMod_pos hm
    have f : gFdiv (.int r) (.int many) = some (.int (r / many)) := gFdiv_pos (n := 200) hm hm2 (by decide) (by decide)
    refine ⟨r / many, s, r % many, Int.ediv_nonneg hr (by omega), hs, hs2, Int.emod_nonneg r (by omega), Int.emod_lt_of_pos r hm, ?_⟩
    simp [h, q, f, setI0]
  · have g : gMul (.int s) (.int 48271) = some (.int (s * 48271)) := gMul_of (m := 40) (n := 40) (by omega) (by decide) (by decide) (by decide) (by decide)
    have q : gMod (.int (s * 48271 + 11)) (.int 2147483647) = some (.int ((s * 48271 + 11) % 2147483647)) := gMod_pos (by decide)
    have p1 := Int.emod_nonneg (s * 48271 + 11) (show (2147483647 : Int) ≠ 0 by decide)
    have p2 := Int.emod_lt_of_pos (s * 48271 + 11) (show (0 : Int) < 2147483647 by decide)
    generalize (s * 48271 + 11) % 2147483647 = z at q p1 p2
    have g2 : gMul (.int z) (.int z) = some (.int (z * z)) := gMul_of (m := 40) (n := 40) (by omega) (by omega) (by decide) (by decide) (by decide)
    have q2 : gMod (.int (z * z)) (.int 2147483629) = some (.int (z * z % 2147483629)) := gMod_pos (by decide)
    have f2 : gFdiv (.int (z * z % 2147483629)) (.int 64) = some (.int (z * z % 2147483629 / 64)) := gFdiv_pos (n := 10) (by decide) (by decide) (by decide) (by decide)
    have q3 : gMod (.int (z * z % 2147483629 / 64)) (.int many) = some (.int (z * z % 2147483629 / 64 % many)) := gMod_pos hm
    refine ⟨r, z, z * z % 2147483629 / 64 % many, hr, p1, by omega, Int.emod_nonneg _ (by omega), Int.emod_lt_of_pos _ hm, ?_⟩
    simp [h, g, q, g2, q2, f2, q3, setI1]
structure SrcT where
  r : Int
  s : Int
  h1 : 0 ≤ r
  h2 : 0 ≤ s
  h3 : s < 2147483648
abbrev sD (x : SrcT) : Option Dn.L := some (.bo (srcD x.r x.s))
theorem draw_ex (x : SrcT) (m : Int) (h : 0 < m) (h2 : m < 2 ^ 200) : ∃ (v : Int) (y : SrcT), 0 ≤ v ∧ v < m ∧ m_law_draw [sD x, cI m] = .ok (.im (.int v)) [sD y, cI m] := by
  obtain ⟨r', s', v, a1, a2, a3, a4, a5, e⟩ := draw_eq x.r x.s m x.h1 x.h2 x.h3 h (by omega)
  exact ⟨v, ⟨r', s', a1, a2, a3⟩, a4, a5, e⟩
open Classical in
noncomputable def drawV (x : SrcT) (m : Int) : Int := if h : 0 < m ∧ m < 2 ^ 200 then (draw_ex x m h.1 h.2).choose else 0
open Classical in
noncomputable def drawN (x : SrcT) (m : Int) : SrcT := if h : 0 < m ∧ m < 2 ^ 200 then (draw_ex x m h.1 h.2).choose_spec.choose else x
theorem draw_all (x : SrcT) (m : Int) (h : 0 < m) (h2 : m < 2 ^ 200) : 0 ≤ drawV x m ∧ drawV x m < m ∧ m_law_draw [sD x, cI m] = .ok (.im (.int (drawV x m))) [sD (drawN x m), cI m] := by
  unfold drawV drawN
  rw [dif_pos ⟨h, h2⟩, dif_pos ⟨h, h2⟩]
  exact (draw_ex x m h h2).choose_spec.choose_spec
theorem drawV0 (x : SrcT) (m : Int) (h : 0 < m := by decide) (h2 : m < 2 ^ 200 := by decide) : 0 ≤ drawV x m := (draw_all x m h h2).1
theorem drawV1 (x : SrcT) (m : Int) (h : 0 < m := by decide) (h2 : m < 2 ^ 200 := by decide) : drawV x m < m := (draw_all x m h h2).2.1
theorem draw_q (x : SrcT) (m : Int) (h : 0 < m) (h2 : m < 2 ^ 200) : m_law_draw [sD x, cI m] = .ok (.im (.int (drawV x m))) [sD (drawN x m), cI m] := (draw_all x m h h2).2.2
set_option exponentiation.threshold 2000000
theorem source_ex (ns : List Int) (k : Nat) (hk : k < 1000) (hb : (ns.getD k 0).natAbs < 2 ^ 1048576) : ∃ x : SrcT, m_law_source [cD (scriptD ns), cI k] = .ok (.ow (srcD x.r x.s)) [cD (scriptD ns), cI k] := by
  have ce := law_cell_at_eq ns k
  generalize ns.getD k 0 = c at ce hb
  have a0 := Int.emod_nonneg c (show (2147483647 : Int) ≠ 0 by decide)
  have a1 := Int.emod_lt_of_pos c (show (0 : Int) < 2147483647 by decide)
  have q1 : gMod (.int c) (.int 2147483647) = some (.int (c % 2147483647)) := gMod_pos (by decide)
  generalize c % 2147483647 = a at a0 a1 q1
  have g1 : gMul (.int 104729) (.int (k : Int)) = some (.int (104729 * k)) := gmul (by decide) (by omega)
  have g2 : gMul (.int (a + 104729 * k + 7)) (.int 48271) = some (.int ((a + 104729 * k + 7) * 48271)) := gmul (by omega) (by decide)
  have q2 : gMod (.int ((a + 104729 * k + 7) * 48271)) (.int 2147483629) = some (.int ((a + 104729 * k + 7) * 48271 % 2147483629)) := gMod_pos (by decide)
  have b0 := Int.emod_nonneg ((a + 104729 * k + 7) * 48271) (show (2147483629 : Int) ≠ 0 by decide)
  have b1 := Int.emod_lt_of_pos ((a + 104729 * k + 7) * 48271) (show (0 : Int) < 2147483629 by decide)
  generalize (a + 104729 * k + 7) * 48271 % 2147483629 = b at q2 b0 b1
  have g3 : gMul (.int b) (.int b) = some (.int (b * b)) := gmul (by omega) (by omega)
  have q3 : gMod (.int (b * b)) (.int 2147483587) = some (.int (b * b % 2147483587)) := gMod_pos (by decide)
  have c0 := Int.emod_nonneg (b * b) (show (2147483587 : Int) ≠ 0 by decide)
  have c1 := Int.emod_lt_of_pos (b * b) (show (0 : Int) < 2147483587 by decide)
  generalize b * b % 2147483587 = e at q3 c0 c1
  have p : gPow (.int 10) (.int 18) = some (.int (10 ^ 18)) := gPow_of (by decide) (by decide) (by decide)
  by_cases h : (10 : Int) ^ 18 ≤ c
  · have m : gMul (.int c) (.int 1) = some (.int c) := by
      have := gMul_big (i := c) (j := 1) (m := 1048576) (n := 2) hb (by decide) (by decide) (by decide) (by decide)
      rw [this, Int.mul_one]
    refine ⟨⟨c, e, by have : (0 : Int) ≤ 10 ^ 18 := by decide
                      omega, c0, by omega⟩, ?_⟩
    simp only [m_law_source, b_law_source, dDef_eq, dSeq_eq]
    simp [-Int.reducePow, ce, q1, g1, g2, q2, g3, q3, p, h, m]
  · have m : gMul (.int c) (.int 0) = some (.int 0) := by
      have := gMul_big (i := c) (j := 0) (m := 1048576) (n := 2) hb (by decide) (by decide) (by decide) (by decide)
      rw [this, Int.mul_zero]
    refine ⟨⟨0, e, by decide, c0, by omega⟩, ?_⟩
    simp only [m_law_source, b_law_source, dDef_eq, dSeq_eq]
    simp [-Int.reducePow, ce, q1, g1, g2, q2, g3, q3, p, h, m]
theorem dr (x : SrcT) (m : Int) (h : 0 < m := by decide) (h2 : m < 2 ^ 200 := by decide) : ∃ (v : Int) (y : SrcT), 0 ≤ v ∧ v < m ∧ m_law_draw [sD x, cI m] = .ok (.im (.int v)) [sD y, cI m] := draw_ex x m h h2
theorem low_loop (x y : Option L) : ∀ (n a b : Nat), b ≤ n → dWhile (dCmp gGt (dVar 3) (dC (.int 0))) b_law_low_l1 [x, y, cI (a : Int), cI (b : Int)] = .ok .nx [x, y, cI ((Nat.gcd a b : Nat) : Int), cI 0]
  | n, a, b, h => by
    rw [dWhile_turn]
    by_cases hb : b = 0
    · subst hb
      simp
    · cases n with
      | zero => omega
      | succ n =>
        have hlt : a % b < b := Nat.mod_lt _ (by omega)
        have ih := low_loop x y n b (a % b) (by omega)
        have e : Nat.gcd b (a % b) = Nat.gcd a b := by rw [Nat.gcd_comm a b, Nat.gcd_rec b a, Nat.gcd_comm]
        rw [e] at ih
        have q : gMod (.int (a : Int)) (.int (b : Int)) = some (.int ((a % b : Nat) : Int)) := by rw [gMod_pos (by omega)]; rfl
        have hp : (0 : Int) < (b : Int) := by omega
        have b1 : b_law_low_l1 [x, y, cI (a : Int), cI (b : Int)] = .ok .nx [x, y, cI (b : Int), cI ((a % b : Nat) : Int)] := by
          generalize ((a % b : Nat) : Int) = z at q
          simp [b_law_low_l1, q]
        generalize ((a % b : Nat) : Int) = z at b1 ih
        simp [hb, b1, ih]
theorem law_low_eq (top bottom : Int) (hb : 0 < bottom) (h1 : top.natAbs < 2 ^ 100) (h2 : bottom.natAbs < 2 ^ 100) : ∃ t d : Int, 0 < d ∧ Int.gcd t d = 1 ∧ t * bottom = top * d ∧ t.natAbs < 2 ^ 100 ∧ d.natAbs < 2 ^ 100 ∧ m_law_low [cI top, cI bottom] = .ok (.im (nD t d)) [cI top, cI bottom] := by
  obtain ⟨t, d, c1, c2, c3, c4, c5, c6, c7⟩ := lowest_of top bottom hb (2 ^ 100) h1 h2 (n := 100) (Nat.le_refl _) (by decide) (by decide)
  refine ⟨t, d, c1, c4, c5, c2, c3, ?_⟩
  have L := low_loop (cI top) (cI bottom) bottom.natAbs top.natAbs bottom.natAbs (Nat.le_refl _)
  have eb : ((bottom.natAbs : Nat) : Int) = bottom := by omega
  have ea : (if top < 0 then -top else top) = ((top.natAbs : Nat) : Int) := by split <;> omega
  have eg : Nat.gcd top.natAbs bottom.natAbs = Int.gcd top bottom := rfl
  rw [eb, eg] at L
  simp only [m_law_low, b_law_low, dDef_eq, dSeq_eq]
  simp [ea, L, c6, c7]
theorem low_ex (top bottom : Int) (hb : 0 < bottom) (h1 : top.natAbs < 2 ^ 100) (h2 : bottom.natAbs < 2 ^ 100) : ∃ t d : Int, 0 < d ∧ d ≤ bottom ∧ t.natAbs ≤ top.natAbs ∧ Int.gcd t d = 1 ∧ t * bottom = top * d ∧ m_law_low [cI top, cI bottom] = .ok (.im (nD t d)) [cI top, cI bottom] := by
  obtain ⟨t, d, c1, c2, c3, c4, c5, c6, c7⟩ := lowest_of top bottom hb (2 ^ 100) h1 h2 (n := 100) (Nat.le_refl _) (by decide) (by decide)
  obtain ⟨t', d', k1, k2, k3, _, _, k6⟩ := law_low_eq top bottom hb h1 h2
  have hg : 0 < Int.gcd top bottom := Int.gcd_pos_of_ne_zero_right _ (by omega)
  have hgb : (Int.gcd top bottom : Int).natAbs < 2 ^ 100 := by
    rw [Int.natAbs_natCast]
    have := Int.gcd_dvd_right top bottom
    have hle : Int.gcd top bottom ≤ bottom.natAbs := Nat.le_of_dvd (by omega) (by have := Int.natAbs_dvd_natAbs.mpr this; simpa using this)
    omega
  have L := low_loop (cI top) (cI bottom) bottom.natAbs top.natAbs bottom.natAbs (Nat.le_refl _)
  have eb : ((bottom.natAbs : Nat) : Int) = bottom := by omega
  have ea : (if top < 0 then -top else top) = ((top.natAbs : Nat) : Int) := by split <;> omega
  have eg : Nat.gcd top.natAbs bottom.natAbs = Int.gcd top bottom := rfl
  rw [eb, eg] at L
  have hd : d = bottom / (Int.gcd top bottom : Int) := by
    have := gFdiv_pos (i := bottom) (j := (Int.gcd top bottom : Int)) (n := 100) (by omega) hgb (by decide) (by decide)
    rw [this] at c7
    cases c7; rfl
  have hd2 : d ≤ bottom := by rw [hd]; exact Int.ediv_le_self _ (by omega)
  refine ⟨t, d, c1, hd2, ?_, c4, c5, ?_⟩
  · have e1 : t.natAbs * bottom.natAbs = top.natAbs * d.natAbs := by rw [← Int.natAbs_mul, ← Int.natAbs_mul, c5]
    have e2 : top.natAbs * d.natAbs ≤ top.natAbs * bottom.natAbs := Nat.mul_le_mul_left _ (by omega)
    exact Nat.le_of_mul_le_mul_right (by omega) (show 0 < bottom.natAbs by omega)
  · simp only [m_law_low, b_law_low, dDef_eq, dSeq_eq]
    simp [ea, L, c6, c7]
theorem great_ex (x : SrcT) (m : Int) (h : 0 < m) : ∃ (v : Int) (y : SrcT), 0 ≤ v ∧ v < m ∧ m_law_great [sD x, cI m] = .ok (.im (.int v)) [sD y, cI m] := by
  have turn : ∀ (x : SrcT) (f : Int) (x3 : Option Dn.L), 0 ≤ f → f < 2 ^ 100 → ∃ (v : Int) (y : SrcT), 0 ≤ v ∧ v < 1000003 ∧ b_law_great_l1 [sD x, cI m, cI f, x3] = .ok .nx [sD y, cI m, cI (f * 1000003 + v), x3] := fun x f x3 h0 h1 => by
    obtain ⟨v, y, v0, v1, q⟩ := dr x 1000003
    have g := gmul (a := f) (b := 1000003) (by omega) (by decide)
    exact ⟨v, y, v0, v1, by simp [b_law_great_l1, lend, slotsOf, lendL, giveB, L.mine, L.put, q, g]⟩
  obtain ⟨v1, y1, a1, b1, e1⟩ := turn x 0 (cI 0) (by decide) (by decide)
  obtain ⟨v2, y2, a2, b2, e2⟩ := turn y1 (0 * 1000003 + v1) (cI 1) (by omega) (by omega)
  obtain ⟨v3, y3, a3, b3, e3⟩ := turn y2 ((0 * 1000003 + v1) * 1000003 + v2) (cI 2) (by omega) (by omega)
  obtain ⟨v4, y4, a4, b4, e4⟩ := turn y3 (((0 * 1000003 + v1) * 1000003 + v2) * 1000003 + v3) (cI 3) (by omega) (by omega)
  generalize ((((0 * 1000003 + v1) * 1000003 + v2) * 1000003 + v3) * 1000003 + v4) = w at e4
  generalize (((0 * 1000003 + v1) * 1000003 + v2) * 1000003 + v3) = w3 at e3 e4
  generalize ((0 * 1000003 + v1) * 1000003 + v2) = w2 at e2 e3
  generalize (0 * 1000003 + v1) = w1 at e1 e2
  have q : gMod (.int w) (.int m) = some (.int (w % m)) := gMod_pos h
  refine ⟨w % m, y4, Int.emod_nonneg _ (by omega), Int.emod_lt_of_pos _ h, ?_⟩
  have I : Dn.inR 4 := inR_of (by decide) (by decide)
  simp only [m_law_great, b_law_great, dDef_eq]
  refine (congrArg _ (seq_nx (ρ1 := [sD x, cI m, cI 0, none]) (by simp) (seq_nx (ρ1 := [sD y4, cI m, cI w, cI 3]) ?_ rfl))).trans ?_
  · rw [dFor_eq]
    simp [I]
    show dForL (putIm 3) b_law_great_l1 [.int 0, .int 1, .int 2, .int 3] _ = _
    simp [dForL, e1, e2, e3, e4]
  · simp [q]
theorem word_sign (l : List Nat) (hl : l.length = 26) (hs : ∀ c ∈ l, c < 128) (d : D) (ρ : En) (hp : ∃ x : SrcT, ρ = [sD x, cS l, none]) :
    ∃ y ρ3, b_law_word_l1 d (wipeE ρ [2]) = .ok (some y) ρ3 ∧ (∃ c ∈ l, y = .str (SX.S [c])) ∧ (∃ x : SrcT, restE ρ ρ3 [2] = [sD x, cS l, none]) := by
  obtain ⟨x, rfl⟩ := hp
  obtain ⟨v, y, v0, v1, q⟩ := dr x 26
  obtain ⟨n, rfl⟩ : ∃ n : Nat, v = n := ⟨v.toNat, by omega⟩
  have hn : n < l.length := by omega
  have ix := gIx_S (a := l) (by omega) (k := n) hn
  have hm : l[n]'hn ∈ l := List.getElem_mem hn
  generalize l[n]'hn = c at ix hm
  refine ⟨.str (SX.S [c]), [sD y, cS l, cD d], ?_, ⟨c, hm, rfl⟩, y, by simp [restE]⟩
  simp [b_law_word_l1, wipeE, lend, slotsOf, lendL, giveB, L.mine, L.put, q, ix]
theorem signs_in {l : List Nat} : ∀ {ys : List D}, (∀ y ∈ ys, ∃ c ∈ l, y = .str (SX.S [c])) → ∃ cs : List Nat, (∀ c ∈ cs, c ∈ l) ∧ cs.length = ys.length ∧ ys = cs.map fun c => .str (SX.S [c])
  | [], _ => ⟨[], fun c h => by simp at h, rfl, rfl⟩
  | y :: ys, h => by
    obtain ⟨c, hc, rfl⟩ := h y List.mem_cons_self
    obtain ⟨cs, h1, h2, rfl⟩ := signs_in (ys := ys) fun y hy => h y (List.mem_cons_of_mem _ hy)
    exact ⟨c :: cs, fun d hd => (List.mem_cons.mp hd).elim (fun q => by subst q; exact hc) (h1 d), by simp, rfl⟩
theorem word_ex (x : SrcT) : ∃ (cs : List Nat) (y : SrcT), isW cs ∧ m_law_word [sD x] = .ok (.im (.str (SX.S cs))) [sD y] := by
  obtain ⟨v, y, v0, v1, q⟩ := dr x 8
  obtain ⟨n, rfl⟩ : ∃ n : Nat, v = n := ⟨v.toNat, by omega⟩
  have hl : (rngD 0 (1 + n)).length = 1 + n := by simp [rngD]
  obtain ⟨ys, ρ', LC, l2, s2, ⟨z, rfl⟩⟩ := lcL_inv (t := b_law_word_l1) (vs := [2]) (ds := rngD 0 (1 + n)) (acc := []) (ρ := [sD y, cS abc, none]) (P := fun ρ => ∃ x : SrcT, ρ = [sD x, cS abc, none]) (S := fun y => ∃ c ∈ abc, y = .str (SX.S [c]))
    (fun d _ ρ hp => word_sign abc rfl (by decide) d ρ hp) ⟨y, rfl⟩ (by have := PySem.sizeLine_eq; rw [hl]; simp; omega)
  obtain ⟨cs, o1, o2, rfl⟩ := signs_in s2
  have J := gJoin_signs (cs := cs) (by omega)
  have I : Dn.inR (1 + (n : Int)) := inR_of (by omega) (by omega)
  have e : (1 + (n : Int)).toNat = 1 + n := by omega
  refine ⟨cs, z, ⟨by omega, by omega, o1⟩, ?_⟩
  rw [List.nil_append] at LC
  simp only [m_law_word, b_law_word, dDef_eq]
  refine (congrArg _ (seq_nx (ρ1 := [sD x, cS abc, none]) (by rw [str_abc]; simp) rfl)).trans ?_
  rw [str0]
  simp [lend, slotsOf, lendL, giveB, L.mine, L.put, q, I, e, immE, LC, J]
/-- numbers that rise -/
def Tn (p : Int × Int) : Prop := 0 < p.2 ∧ p.2 ≤ 60 ∧ Int.gcd p.1 p.2 = 1 ∧ p.1.natAbs < 10 ^ 18
abbrev pD (p : Int × Int) : D := nD p.1 p.2
def Ris : List (Int × Int) → Prop
  | [] => True
  | [p] => Tn p
  | p :: q :: r => Tn p ∧ p.1 * q.2 < q.1 * p.2 ∧ Ris (q :: r)
theorem ris_of {B S T t d u e : Int} (hB : 0 < B) (hd : 0 < d) (he : 0 < e) (h1 : t * B = S * d) (h2 : u * B = T * e) (hST : S < T) : t * e < u * d := by
  have a1 : t * e * B = S * (d * e) := by rw [Int.mul_assoc, Int.mul_comm e B, ← Int.mul_assoc, h1, Int.mul_assoc]
  have a2 : u * d * B = T * (d * e) := by rw [Int.mul_assoc, Int.mul_comm d B, ← Int.mul_assoc, h2, Int.mul_assoc, Int.mul_comm e d]
  have hde : 0 < d * e := Int.mul_pos hd he
  have : t * e * B < u * d * B := by rw [a1, a2]; exact Int.mul_lt_mul_of_pos_right hST hde
  exact Int.lt_of_mul_lt_mul_right this (by omega)
theorem ends_loop (B most : Int) (hB : 0 < B) (hB2 : B ≤ 60) (hm : 0 < most) (hm2 : most ≤ 10 ^ 16) (N : Option Dn.L) : ∀ (n : Nat) (k : Nat) (x : SrcT) (T : Int) (acc : List D) (x6 : Option Dn.L), free (some x6) = true → acc.length + n ≤ 100 → T.natAbs + n * 10 ^ 16 < 10 ^ 18 →
    ∃ (ps : List (Int × Int)) (y : SrcT) (T' : Int) (x6' : Option Dn.L), ps.length = n ∧ Ris ps ∧ (∀ S t d : Int, S < T → 0 < d → t * B = S * d → ∀ p ∈ ps.head?, t * p.2 < p.1 * d) ∧
      dForL (putIm 6) b_law_ends_l1 ((List.range' k n).map fun (i : Nat) => PyData.int (0 + (i : Int))) [sD x, N, cI B, cI most, cI T, some (.ow acc), x6] = .ok .nx [sD y, N, cI B, cI most, cI T', some (.ow (acc ++ ps.map pD)), x6']
  | 0, k, x, T, acc, x6, h6, _, _ => ⟨[], x, T, x6, rfl, trivial, fun _ _ _ _ _ _ p hp => by simp at hp, by simp [dForL]⟩
  | n + 1, k, x, T, acc, x6, h6, ha, hT => by
    obtain ⟨t, d, d0, dB, tT, g1, e1, eL⟩ := low_ex T B hB (by omega) (by omega)
    obtain ⟨v, y, v0, v1, q⟩ := great_ex x most hm
    have hz : acc.length < sizeLine := by have := PySem.sizeLine_eq; omega
    have hT' : (T + 1 + v).natAbs + n * 10 ^ 16 < 10 ^ 18 := by omega
    obtain ⟨ps, z, T', x6', l1, r1, h1, f1⟩ := ends_loop B most hB hB2 hm hm2 N n (k + 1) y (T + 1 + v) (acc ++ [nD t d]) (cI (0 + (k : Int))) rfl (by simp; omega) hT'
    have tn : Tn (t, d) := ⟨d0, by show d ≤ 60; omega, g1, by show t.natAbs < _; omega⟩
    refine ⟨(t, d) :: ps, z, T', x6', by simp [l1], ?_, fun S s e hS he hs p hp => ?_, ?_⟩
    · cases ps with
      | nil => exact tn
      | cons p r => exact ⟨tn, h1 T t d (by omega) d0 e1 p (by simp), r1⟩
    · simp at hp; subst hp
      exact ris_of hB he d0 hs e1 hS
    · rw [List.range'_succ, List.map_cons]
      have b : b_law_ends_l1 [sD x, N, cI B, cI most, cI T, some (.ow acc), cI (0 + (k : Int))] = .ok .nx [sD y, N, cI B, cI most, cI (T + 1 + v), some (.ow (acc ++ [nD t d])), cI (0 + (k : Int))] := by
        unfold b_law_ends_l1
        refine seq_nx (ρ1 := [sD x, N, cI B, cI most, cI T, some (.ow (acc ++ [nD t d])), cI (0 + (k : Int))]) ?_ ?_
        · rw [dApp_eq]; simp [eL, hz, L.mine, L.put]
        · simp [lend, slotsOf, lendL, giveB, L.mine, L.put, q]
      show (putIm 6 (.int (0 + (k : Int))) [sD x, N, cI B, cI most, cI T, some (.ow acc), x6]).bind _ = _
      rw [putIm_eq]
      show (if free (some x6) = true then _ else _ : R Unit).bind _ = _
      rw [if_pos h6]
      show (b_law_ends_l1 [sD x, N, cI B, cI most, cI T, some (.ow acc), cI (0 + (k : Int))]).bind _ = _
      rw [b]
      show dForL _ _ _ _ = _
      rw [f1]
      simp
theorem law_ends_ex (x : SrcT) (n : Nat) (hn : n ≤ 10) : ∃ (ps : List (Int × Int)) (y : SrcT), ps.length = n ∧ Ris ps ∧ m_law_ends [sD x, cI n] = .ok (.ow (ps.map pD)) [sD y, cI n] := by
  obtain ⟨v1, y1, a1, b1, q1⟩ := dr x 60
  obtain ⟨v2, y2, a2, b2, q2⟩ := dr y1 2
  obtain ⟨v3, y3, a3, b3, q3⟩ := dr y2 2
  obtain ⟨B, hB, hB2, eB⟩ : ∃ B : Int, 0 < B ∧ B ≤ 60 ∧ gIx (.list [.int 1, .int (1 + v1)]) (.int v2) = some (.int B) := by
    have : v2 = 0 ∨ v2 = 1 := by omega
    rcases this with rfl | rfl
    · exact ⟨1, by decide, by decide, by simp⟩
    · exact ⟨1 + v1, by omega, by omega, by simp⟩
  obtain ⟨m, hm, hm2, em⟩ : ∃ m : Int, 0 < m ∧ m ≤ 10 ^ 16 ∧ gIx (.list [.int 20, .int (10 ^ 16)]) (.int v3) = some (.int m) := by
    have : v3 = 0 ∨ v3 = 1 := by omega
    rcases this with rfl | rfl
    · exact ⟨20, by decide, by decide, by simp⟩
    · exact ⟨10 ^ 16, by decide, by decide, by simp⟩
  have p : gPow (.int 10) (.int 16) = some (.int (10 ^ 16)) := gPow_of (by decide) (by decide) (by decide)
  have g1 : gMul (.int 90) (.int m) = some (.int (90 * m)) := gmul (by decide) (by omega)
  have g2 : gMul (.int 45) (.int m) = some (.int (45 * m)) := gmul (by decide) (by omega)
  obtain ⟨w, y4, w0, w1, q4⟩ := great_ex y3 (90 * m) (by omega)
  obtain ⟨ps, z, T', x6', l1, r1, _, f1⟩ := ends_loop B m hB hB2 hm hm2 (cI (n : Int)) n 0 y4 (w - 45 * m) [] none rfl (by simp; omega) (by omega)
  rw [← List.range_eq_range'] at f1
  have f1' : dForL (putIm 6) b_law_ends_l1 (rngD 0 n) [sD y4, cI n, cI B, cI m, cI (w - 45 * m), some (.ow []), none] = .ok .nx [sD z, cI n, cI B, cI m, cI T', some (.ow (ps.map pD)), x6'] := by rw [List.nil_append] at f1; exact f1
  have I : Dn.inR (n : Int) := inR_of (by omega) (by omega)
  refine ⟨ps, z, l1, r1, ?_⟩
  simp only [m_law_ends, b_law_ends, dDef_eq]
  refine (congrArg _ (seq_nx (ρ1 := [sD y2, cI n, cI B, none, none, none, none]) ?_ (seq_nx (ρ1 := [sD y3, cI n, cI B, cI m, none, none, none]) ?_ (seq_nx (ρ1 := [sD y4, cI n, cI B, cI m, cI (w - 45 * m), none, none]) ?_
    (seq_nx (ρ1 := [sD y4, cI n, cI B, cI m, cI (w - 45 * m), some (.ow []), none]) ?_ (seq_nx (ρ1 := [sD z, cI n, cI B, cI m, cI T', some (.ow (ps.map pD)), x6']) ?_ rfl)))))).trans ?_
  · simp [lend, slotsOf, lendL, giveB, L.mine, L.put, q1, q2, eB, -gIx_lst]
  · simp [-Int.reducePow, lend, slotsOf, lendL, giveB, L.mine, L.put, q3, em, p, -gIx_lst]
  · simp [lend, slotsOf, lendL, giveB, L.mine, L.put, q4, g1, g2]
  · simp
  · rw [dFor_eq]; simp [I, f1']
  · simp
theorem words_loop : ∀ (n : Nat) (k : Nat) (x : SrcT) (ws : List (List Nat)) (x2 x3 : Option Dn.L), free (some x2) = true → free (some x3) = true → ws.length + n ≤ 100 → (∀ a ∈ ws, isW a) → ws.Nodup →
    ∃ (us : List (List Nat)) (y : SrcT) (x2' x3' : Option Dn.L), us.length ≤ ws.length + n ∧ (0 < n → 0 < us.length) ∧ ws.length ≤ us.length ∧ (∀ a ∈ us, isW a) ∧ us.Nodup ∧
      dForL (putIm 2) b_law_words_l1 ((List.range' k n).map fun (i : Nat) => PyData.int (0 + (i : Int))) [sD x, some (.ow (wD ws)), x2, x3] = .ok .nx [sD y, some (.ow (wD us)), x2', x3']
  | 0, k, x, ws, x2, x3, h2, h3, _, hw, hn => ⟨ws, x, x2, x3, by omega, fun h => absurd h (by omega), Nat.le_refl _, hw, hn, rfl⟩
  | n + 1, k, x, ws, x2, x3, h2, h3, hl, hw, hn => by
    obtain ⟨a, y, wa, q⟩ := word_ex x
    have gn := gNotIn_words (fun a ha => (hw a ha).ok) wa.ok
    have hz : (wD ws).length < sizeLine := by have := PySem.sizeLine_eq; simp; omega
    have step : ∃ vs : List (List Nat), vs.length ≤ ws.length + 1 ∧ 0 < vs.length ∧ ws.length ≤ vs.length ∧ (∀ a ∈ vs, isW a) ∧ vs.Nodup ∧ b_law_words_l1 [sD x, some (.ow (wD ws)), cI (0 + (k : Int)), x3] = .ok .nx [sD y, some (.ow (wD vs)), cI (0 + (k : Int)), cS a] := by
      by_cases ha : a ∈ ws
      · refine ⟨ws, by omega, List.length_pos_of_mem ha, Nat.le_refl _, hw, hn, ?_⟩
        unfold b_law_words_l1
        refine seq_nx (ρ1 := [sD y, some (.ow (wD ws)), cI (0 + (k : Int)), cS a]) ?_ ?_
        · simp [lend, slotsOf, lendL, giveB, L.mine, L.put, q, h3]
        · simp [gn, ha]
      · refine ⟨ws ++ [a], by simp, by simp, by simp, fun b hb => ?_, ?_, ?_⟩
        · rcases List.mem_append.mp hb with h | h
          · exact hw b h
          · simp at h; subst h; exact wa
        · rw [List.nodup_append]
          refine ⟨hn, by simp, fun b hb c hc e => ?_⟩
          simp at hc; subst hc; subst e; exact ha hb
        · unfold b_law_words_l1
          refine seq_nx (ρ1 := [sD y, some (.ow (wD ws)), cI (0 + (k : Int)), cS a]) ?_ ?_
          · simp [lend, slotsOf, lendL, giveB, L.mine, L.put, q, h3]
          · simp [gn, ha, L.mine, L.put, hz, wD_append]
            simp at hz
            simp [hz]
    obtain ⟨vs, v1, v2, v3, v4, v5, e⟩ := step
    obtain ⟨us, z, x2', x3', u1, u2, u3, u4, u5, f⟩ := words_loop n (k + 1) y vs (cI (0 + (k : Int))) (cS a) rfl rfl (by omega) v4 v5
    refine ⟨us, z, x2', x3', by omega, fun _ => by omega, by omega, u4, u5, ?_⟩
    rw [List.range'_succ, List.map_cons]
    show (putIm 2 (.int (0 + (k : Int))) [sD x, some (.ow (wD ws)), x2, x3]).bind _ = _
    rw [putIm_eq]
    show (if free (some x2) = true then _ else _ : R Unit).bind _ = _
    rw [if_pos h2]
    show (b_law_words_l1 [sD x, some (.ow (wD ws)), cI (0 + (k : Int)), x3]).bind _ = _
    rw [e]
    exact f
theorem law_words_ex (x : SrcT) : ∃ (ws : List (List Nat)) (y : SrcT), 1 ≤ ws.length ∧ ws.length ≤ 60 ∧ (∀ a ∈ ws, isW a) ∧ ws.Nodup ∧ m_law_words [sD x] = .ok (.im (.tuple (wD ws))) [sD y] := by
  obtain ⟨v, y, v0, v1, q⟩ := dr x 60
  obtain ⟨n, rfl⟩ : ∃ n : Nat, v = n := ⟨v.toNat, by omega⟩
  obtain ⟨us, z, x2', x3', u1, u2, u3, u4, u5, f⟩ := words_loop (1 + n) 0 y [] none none rfl rfl (by simp; omega) (fun a h => by simp at h) List.nodup_nil
  rw [← List.range_eq_range'] at f
  have f' : dForL (putIm 2) b_law_words_l1 (rngD 0 (1 + n)) [sD y, some (.ow []), none, none] = .ok .nx [sD z, some (.ow (wD us)), x2', x3'] := f
  have I : Dn.inR (1 + (n : Int)) := inR_of (by omega) (by omega)
  have e : (1 + (n : Int)).toNat = 1 + n := by omega
  refine ⟨us, z, u2 (by omega), by simp at u1; omega, u4, u5, ?_⟩
  simp only [m_law_words, b_law_words, dDef_eq]
  refine (congrArg _ (seq_nx (ρ1 := [sD x, some (.ow []), none, none]) (by simp) (seq_nx (ρ1 := [sD z, some (.ow (wD us)), x2', x3']) ?_ rfl))).trans ?_
  · rw [dFor_eq]; simp [lend, slotsOf, lendL, giveB, L.mine, L.put, q, I, e, f']
  · simp [frz]
inductive Wish where
  | one (h : List Nat)
  | two (p q : Int × Int)
  | turns (b : Int)
  | broken (ps : List ((Int × Int) × (Int × Int)))
  | order (ws : List (List Nat))
abbrev prD (p : (Int × Int) × (Int × Int)) : D := .tuple [pD p.1, pD p.2]
def Wish.hd : Wish → List Nat
  | .one h => h
  | .two _ _ => sStraight
  | .turns _ => sTurns
  | .broken _ => sBroken
  | .order _ => sOrder
def Wish.tl : Wish → List D
  | .one _ => []
  | .two p q => [pD p, pD q]
  | .turns b => [.int b]
  | .broken ps => [.tuple (ps.map prD)]
  | .order ws => [.tuple (wD ws)]
abbrev Wish.enc (w : Wish) : D := .tuple (.str (SX.S w.hd) :: w.tl)
def RisP : List ((Int × Int) × (Int × Int)) → Prop
  | [] => True
  | [p] => Tn p.1 ∧ Tn p.2 ∧ p.1.1 * p.2.2 < p.2.1 * p.1.2
  | p :: q :: r => Tn p.1 ∧ Tn p.2 ∧ p.1.1 * p.2.2 < p.2.1 * p.1.2 ∧ p.2.1 * q.1.2 < q.1.1 * p.2.2 ∧ RisP (q :: r)
def Wish.ok : Wish → Prop
  | .one h => h = sStraight ∨ h = sDays ∨ h = sOrder
  | .two p q => Tn p ∧ Tn q ∧ p.1 * q.2 < q.1 * p.2
  | .turns b => b = 2 ∨ b = 10
  | .broken ps => 2 ≤ ps.length ∧ ps.length ≤ 4 ∧ RisP ps
  | .order ws => 1 ≤ ws.length ∧ ws.length ≤ 60 ∧ (∀ a ∈ ws, isW a) ∧ ws.Nodup
def pairsOf {α : Type} : List α → List (α × α)
  | a :: b :: r => (a, b) :: pairsOf r
  | _ => []
theorem pairs_ris : ∀ (n : Nat) (ps : List (Int × Int)), ps.length ≤ n → Ris ps → RisP (pairsOf ps)
  | _, [], _, _ => trivial
  | _, [_], _, _ => trivial
  | _, [p, q], _, h => ⟨h.1, h.2.2, h.2.1⟩
  | _, [p, q, r], _, h => ⟨h.1, h.2.2.1, h.2.1⟩
  | 0, p :: q :: r :: s :: t, hn, _ => by simp at hn
  | n + 1, p :: q :: r :: s :: t, hn, h => by
    have tq : Tn q := h.2.2.1
    have := pairs_ris n (r :: s :: t) (by simp at hn ⊢; omega) h.2.2.2.2
    exact ⟨h.1, tq, h.2.1, h.2.2.2.1, this⟩
theorem good_pairs (ps : List (Int × Int)) (m : Nat) (hm : m = 2 ∨ m = 3 ∨ m = 4) (hl : ps.length = 2 * m) (x : SrcT) (a1 a2 a3 : Option Dn.L) :
    lcL b_law_good_l1 [5] (rngC 0 2 m) [] [sD x, a1, a2, a3, cD (.list (ps.map pD)), none] = .ok ((pairsOf ps).map prD) [sD x, a1, a2, a3, cD (.list (ps.map pD)), none] := by
  have L := lcL_map (t := b_law_good_l1) (vs := [5]) (f := fun d => match d with | .int i => .tuple [(ps.map pD).getD i.toNat .none, (ps.map pD).getD (i.toNat + 1) .none] | _ => .none) (ρ := [sD x, a1, a2, a3, cD (.list (ps.map pD)), none]) (ds := rngC 0 2 m) (fun d hd => by
    obtain ⟨i, hi, rfl⟩ := mem_rngC hd
    have hl' : (ps.map pD).length = 2 * m := by simp [hl]
    obtain ⟨n, hn⟩ : ∃ n : Nat, n = 2 * i := ⟨_, rfl⟩
    have e : (0 + (i : Int) * 2) = (n : Int) := by omega
    rw [e]
    have i1 := ixT (ds := ps.map pD) (i := n) (by omega)
    have i2 := ixT (ds := ps.map pD) (i := n + 1) (by omega)
    rw [show ((n + 1 : Nat) : Int) = (n : Int) + 1 by omega] at i2
    refine ⟨[sD x, a1, a2, a3, cD (.list (ps.map pD)), cI (n : Int)], ?_, by simp [restE]⟩
    generalize ps.map pD = ds at *
    simp [b_law_good_l1, wipeE, i1, i2]) (by simp [rngC]; have := PySem.sizeLine_eq; omega)
  rw [L]
  congr 1
  rcases hm with rfl | rfl | rfl
  · match ps, hl with
    | [a, b, c, d], _ => rfl
  · match ps, hl with
    | [a, b, c, d, e, f], _ => rfl
  · match ps, hl with
    | [a, b, c, d, e, f, g, h], _ => rfl
theorem law_good_ex (x : SrcT) : ∃ (w : Wish) (y : SrcT), w.ok ∧ m_law_good [sD x] = .ok (.im w.enc) [sD y] := by
  obtain ⟨v, y, v0, v1, q⟩ := dr x 7
  simp only [m_law_good, b_law_good, dDef_eq]
  rw [show ([sD x] ++ List.replicate (6 - [sD x].length) none : En) = [sD x, none, none, none, none, none] from rfl]
  have first : dAsg (putIm 1) (dFn 2 m_law_draw (aSl 0 (aIm (dC (.int 7)) aNil))) [sD x, none, none, none, none, none] = .ok .nx [sD y, cI v, none, none, none, none] := by
    simp [lend, slotsOf, lendL, giveB, L.mine, L.put, q]
  rw [seq_nx first rfl]
  by_cases h0 : v = 0
  · subst h0
    obtain ⟨u, z, u0, u1, r⟩ := dr y 3
    have hu : u = 0 ∨ u = 1 ∨ u = 2 := by omega
    rcases hu with rfl | rfl | rfl
    · refine ⟨.one sStraight, z, .inl rfl, ?_⟩
      rw [strStraight]
      rw [seq_rt (ρ1 := [sD z, cI 0, none, none, none, none]) (d := (Wish.one sStraight).enc) (by simp [lend, slotsOf, lendL, giveB, L.mine, L.put, r, Wish.enc, Wish.hd, Wish.tl])]
      simp
    · refine ⟨.one sDays, z, .inr (.inl rfl), ?_⟩
      rw [strDays]
      rw [seq_rt (ρ1 := [sD z, cI 0, none, none, none, none]) (d := (Wish.one sDays).enc) (by simp [lend, slotsOf, lendL, giveB, L.mine, L.put, r, Wish.enc, Wish.hd, Wish.tl])]
      simp
    · refine ⟨.one sOrder, z, .inr (.inr rfl), ?_⟩
      rw [strOrder]
      rw [seq_rt (ρ1 := [sD z, cI 0, none, none, none, none]) (d := (Wish.one sOrder).enc) (by simp [lend, slotsOf, lendL, giveB, L.mine, L.put, r, Wish.enc, Wish.hd, Wish.tl])]
      simp
  rw [seq_nx (ρ1 := [sD y, cI v, none, none, none, none]) (by simp [h0]) rfl]
  by_cases h3 : v < 3
  · obtain ⟨ps, z, l1, r1, e⟩ := law_ends_ex y 2 (by decide)
    obtain ⟨p, p', rfl⟩ : ∃ p p', ps = [p, p'] := by
      match ps, l1 with
      | [p, p'], _ => exact ⟨p, p', rfl⟩
    refine ⟨.two p p', z, ⟨r1.1, r1.2.2, r1.2.1⟩, ?_⟩
    rw [strStraight]
    have b1 : dAsg (gTupD 2 (gsCons (putIm 2) (gsCons (putIm 3) gsNil))) (dFn 2 m_law_ends (aSl 0 (aIm (dC (.int 2)) aNil))) [sD y, cI v, none, none, none, none] = .ok .nx [sD z, cI v, cD (pD p), cD (pD p'), none, none] := by
      have e' : m_law_ends [sD y, cI 2] = .ok (.ow ([p, p'].map pD)) [sD z, cI 2] := e
      simp [lend, slotsOf, lendL, giveB, L.mine, L.put, e', gTupD, gsCons, gsNil]
    have b2 : dRet (dTup (aIm (dC (.str (SX.S sStraight))) (aIm (dVar 2) (aIm (dVar 3) aNil)))) [sD z, cI v, cD (pD p), cD (pD p'), none, none] = .ok (.rt (Wish.two p p').enc) [sD z, cI v, cD (pD p), cD (pD p'), none, none] := by
      simp [Wish.enc, Wish.hd, Wish.tl]
    rw [seq_rt (if_t (ρ1 := [sD y, cI v, none, none, none, none]) (by simp [h3]) (seq_nx b1 b2))]
    simp
  rw [seq_nx (ρ1 := [sD y, cI v, none, none, none, none]) (by simp [h3]) rfl]
  by_cases h4 : v = 3
  · subst h4
    obtain ⟨u, z, u0, u1, r⟩ := dr y 2
    have hu : u = 0 ∨ u = 1 := by omega
    rw [strTurns]
    rcases hu with rfl | rfl
    · refine ⟨.turns 2, z, .inl rfl, ?_⟩
      rw [seq_rt (ρ1 := [sD z, cI 3, none, none, none, none]) (d := (Wish.turns 2).enc) (by simp [lend, slotsOf, lendL, giveB, L.mine, L.put, r, Wish.enc, Wish.hd, Wish.tl])]
      simp
    · refine ⟨.turns 10, z, .inr rfl, ?_⟩
      rw [seq_rt (ρ1 := [sD z, cI 3, none, none, none, none]) (d := (Wish.turns 10).enc) (by simp [lend, slotsOf, lendL, giveB, L.mine, L.put, r, Wish.enc, Wish.hd, Wish.tl])]
      simp
  rw [seq_nx (ρ1 := [sD y, cI v, none, none, none, none]) (by simp [h4]) rfl]
  by_cases h6 : v < 6
  · obtain ⟨u, z, u0, u1, r⟩ := dr y 3
    obtain ⟨m, hm⟩ : ∃ m : Nat, (m : Int) = 2 + u := ⟨(2 + u).toNat, by omega⟩
    have hm' : m = 2 ∨ m = 3 ∨ m = 4 := by omega
    obtain ⟨ps, t, l1, r1, e⟩ := law_ends_ex z (2 * m) (by omega)
    have pl : (pairsOf ps).length = m := by
      rcases hm' with rfl | rfl | rfl
      · match ps, l1 with
        | [a, b, c, d], _ => rfl
      · match ps, l1 with
        | [a, b, c, d, e, f], _ => rfl
      · match ps, l1 with
        | [a, b, c, d, e, f, g, h], _ => rfl
    have gp := fun a1 a2 a3 => good_pairs ps m hm' l1 t a1 a2 a3
    have g := gmul (a := 2) (b := 2 + u) (by decide) (by omega)
    have e2 : (2 * (2 + u)) = ((2 * m : Nat) : Int) := by omega
    rw [e2] at g
    have ok3 : rgOk 0 (2 * m : Nat) 2 = true := rgOk_up (by decide) (by decide) (by decide) (by decide) (by omega) (by omega)
    have rn : rgN 0 ((2 * m : Nat) : Int) 2 = m := by rcases hm' with rfl | rfl | rfl <;> decide
    have gl : gLen1 (.list (ps.map pD)) = some (.int ((2 * m : Nat) : Int)) := by simp [gLen1, l1]
    refine ⟨.broken (pairsOf ps), t, ⟨by omega, by omega, pairs_ris _ _ (Nat.le_refl _) r1⟩, ?_⟩
    generalize ((2 * m : Nat) : Int) = M at *
    generalize ps.map pD = ds at *
    generalize hpp : (pairsOf ps).map prD = pp at *
    rw [strBroken]
    have b1 : dAsg (putIm 4) (dFn 2 m_law_ends (aSl 0 (aIm (dOp gMul (dC (.int 2)) (dOp gAdd (dC (.int 2)) (dFn 2 m_law_draw (aSl 0 (aIm (dC (.int 3)) aNil))))) aNil))) [sD y, cI v, none, none, none, none] = .ok .nx [sD t, cI v, none, none, cD (.list ds), none] := by
      simp [lend, slotsOf, lendL, giveB, L.mine, L.put, r, g, e]
    have b2 : dRet (dTup (aIm (dC (.str (SX.S sBroken))) (aIm (dCall gTuple (aIm (dFz (nLc (iRg3 (aIm (dC (.int 0)) (aIm (dLenN 4) (aIm (dC (.int 2)) aNil)))) b_law_good_l1 [5])) aNil)) aNil))) [sD t, cI v, none, none, cD (.list ds), none] = .ok (.rt (Wish.broken (pairsOf ps)).enc) [sD t, cI v, none, none, cD (.list ds), none] := by
      simp [gl, ok3, rn, immE, gp, Wish.enc, Wish.hd, Wish.tl, hpp]
    rw [seq_rt (if_t (ρ1 := [sD y, cI v, none, none, none, none]) (by simp [h6]) (seq_nx b1 b2))]
    simp
  rw [seq_nx (ρ1 := [sD y, cI v, none, none, none, none]) (by simp [h6]) rfl]
  obtain ⟨ws, z, w1, w2, w3, w4, e⟩ := law_words_ex y
  refine ⟨.order ws, z, ⟨w1, w2, w3, w4⟩, ?_⟩
  rw [strOrder]
  generalize hpp : wD ws = pp at *
  simp [lend, slotsOf, lendL, giveB, L.mine, L.put, e, Wish.enc, Wish.hd, Wish.tl, hpp]
theorem tn_told {p : Int × Int} (h : Tn p) : toldD (pD p) = true := toldD_nD.mpr ⟨h.1, h.2.2.1, h.2.2.2, h.2.1⟩
theorem tn_ends {p q : Int × Int} (hp : Tn p) (hq : Tn q) : endsD (pD p) (pD q) = decide (p.1 * q.2 < q.1 * p.2) := by
  show (toldD (pD p) && toldD (pD q) && decide (p.1 * q.2 < q.1 * p.2)) = _
  rw [tn_told hp, tn_told hq]; rfl
theorem ris_pieces : ∀ (ps : List ((Int × Int) × (Int × Int))), RisP ps → piecesOk (ps.map prD)
  | [], _ => fun i hi => by simp at hi
  | [p], h => fun i hi => by
    have : i = 0 := by simp at hi; omega
    subst this
    refine ⟨?_, fun z => absurd z (by omega)⟩
    show endsD (pD p.1) (pD p.2) = true
    rw [tn_ends h.1 h.2.1]; exact decide_eq_true h.2.2
  | p :: q :: r, h => fun i hi => by
    have ih := ris_pieces (q :: r) h.2.2.2.2
    cases i with
    | zero =>
      refine ⟨?_, fun z => absurd z (by omega)⟩
      show endsD (pD p.1) (pD p.2) = true
      rw [tn_ends h.1 h.2.1]; exact decide_eq_true h.2.2.1
    | succ j =>
      have := ih j (by simpa using hi)
      refine ⟨by simpa using this.1, fun _ => ?_⟩
      cases j with
      | zero =>
        show belowD (prD p) (prD q) = true
        exact decide_eq_true h.2.2.2.1
      | succ k => simpa using this.2 (by omega)
theorem words_are {ws : List (List Nat)} (h : ∀ a ∈ ws, isW a) : ∀ d ∈ wD ws, wordD d = true := fun d hd => by
  obtain ⟨a, ha, rfl⟩ := List.mem_map.mp hd
  exact decide_eq_true (h a ha)
theorem nodup_wD {ws : List (List Nat)} : (wD ws).Nodup ↔ ws.Nodup := by
  constructor
  · exact fun h => (List.pairwise_map.mp h).imp fun h z => h (by rw [z])
  · intro h
    exact List.Pairwise.map _ (fun a b hab z => hab (by injection z with z; exact SX.S_inj z)) h
theorem okhd (w : Wish) (h : w.ok) : okS w.hd := by
  cases w with
  | one a => rcases h with rfl | rfl | rfl <;> (unfold okS; decide)
  | two _ _ => show okS sStraight; unfold okS; decide
  | turns _ => show okS sTurns; unfold okS; decide
  | broken _ => show okS sBroken; unfold okS; decide
  | order _ => show okS sOrder; unfold okS; decide
theorem wish_true (w : Wish) (h : w.ok) : wishT w.hd w.tl = true := by
  cases w with
  | one a => exact decide_eq_true h
  | two p q =>
    show (decide (sStraight = sStraight) && endsD (pD p) (pD q)) = true
    rw [tn_ends h.1 h.2.1]
    simp [h.2.2]
  | turns b => exact decide_eq_true h
  | broken ps =>
    have e : wishT sBroken [.tuple (ps.map prD)] = piecesD (.tuple (ps.map prD)) := rfl
    show wishT sBroken [.tuple (ps.map prD)] = true
    rw [e]
    simp only [piecesD, decide_eq_true_eq, List.length_map]
    exact ⟨h.1, h.2.1, ris_pieces ps h.2.2⟩
  | order ws =>
    have e : wishT sOrder [.tuple (wD ws)] = wordsD (.tuple (wD ws)) := rfl
    show wishT sOrder [.tuple (wD ws)] = true
    rw [e]
    simp only [wordsD, decide_eq_true_eq, wD_length]
    exact ⟨h.1, h.2.1, words_are h.2.2.1, nodup_wD.mpr h.2.2.2⟩
theorem short_wD {ws : List (List Nat)} (h : ∀ a ∈ ws, isW a) : ∀ s, PyData.str s ∈ wD ws → s.length ≤ 1000000 := fun s hs => by
  obtain ⟨a, ha, e⟩ := List.mem_map.mp hs
  cases e
  rw [SX.S_len]
  have := (h a ha).2.1
  omega
theorem is_wish_good (w : Wish) (h : w.ok) : m_is_wish [cD w.enc] = .ok (.im (.bool true)) [cD w.enc] := by
  have := is_wish_eq w.hd (okhd w h) w.tl fun e x ex ds ed s hs => by
    cases w with
    | one a => cases ex
    | two p q => cases ex
    | turns b => cases ex; cases ed
    | broken ps => exact absurd e (show ¬ sBroken = sOrder by decide)
    | order ws =>
      cases ex; cases ed
      exact short_wD h.2.2.1 s hs
  rw [wish_true w h] at this
  exact this
/-! bent ones -/
theorem bent_number_ex (x : SrcT) (p : Int × Int) (h : Tn p) : ∃ (d : D) (y : SrcT), toldD d = false ∧ m_law_bent_number [sD x, cD (pD p)] = .ok (.im d) [sD y, cD (pD p)] := by
  obtain ⟨v, y, v0, v1, q⟩ := dr x 15
  obtain ⟨t, b⟩ := p
  obtain ⟨h1, h2, h3, h4⟩ := h
  simp only at h1 h2 h3 h4
  have g1 := gmul (a := t) (b := 2) (by omega) (by decide)
  have g2 := gmul (a := b) (b := 2) (by omega) (by decide)
  have p18 : gPow (.int 10) (.int 18) = some (.int (10 ^ 18)) := gPow_of (by decide) (by decide) (by decide)
  have gl : ([.bool true, .none, .int t, .str "1", .list [.int t, .int b], .tuple [.int t, .int (0 - b)], .tuple [.int (t * 2), .int (b * 2)], .tuple [.int t, .int 0], .tuple [.int (10 ^ 18), .int 1], .tuple [.int (0 - 10 ^ 18), .int 1], .tuple [.int 1, .int 61], .tuple [.bool true, .int 1], .tuple [.int t, .bool true], .tuple [.int t, .int b, .int 1], .tuple []] : List D).length = 15 := rfl
  have bad : ∀ d ∈ ([.bool true, .none, .int t, .str "1", .list [.int t, .int b], .tuple [.int t, .int (0 - b)], .tuple [.int (t * 2), .int (b * 2)], .tuple [.int t, .int 0], .tuple [.int (10 ^ 18), .int 1], .tuple [.int (0 - 10 ^ 18), .int 1], .tuple [.int 1, .int 61], .tuple [.bool true, .int 1], .tuple [.int t, .bool true], .tuple [.int t, .int b, .int 1], .tuple []] : List D), toldD d = false := by
    intro d hd
    simp only [List.mem_cons, List.not_mem_nil, or_false] at hd
    have hg : Int.gcd (t * 2) (b * 2) = 2 := by rw [Int.gcd_mul_right, h3]; rfl
    rcases hd with rfl | rfl | rfl | rfl | rfl | rfl | rfl | rfl | rfl | rfl | rfl | rfl | rfl | rfl | rfl <;> first | rfl | (simp [toldD]; done) | (simp [toldD, hg]; done) | (simp [toldD]; intro h; omega)
  generalize hl : ([.bool true, .none, .int t, .str "1", .list [.int t, .int b], .tuple [.int t, .int (0 - b)], .tuple [.int (t * 2), .int (b * 2)], .tuple [.int t, .int 0], .tuple [.int (10 ^ 18), .int 1], .tuple [.int (0 - 10 ^ 18), .int 1], .tuple [.int 1, .int 61], .tuple [.bool true, .int 1], .tuple [.int t, .bool true], .tuple [.int t, .int b, .int 1], .tuple []] : List D) = l at gl bad
  obtain ⟨d, hd, ix⟩ := gIx_pick (l := l) (v := v) v0 (by omega)
  refine ⟨d, y, bad d (List.mem_of_getElem? hd), ?_⟩
  simp only [m_law_bent_number, b_law_bent_number, dDef_eq]
  refine fin_of (seq_nx (ρ1 := [sD x, cD (nD t b), cI t, cI b, none]) (by simp [gTupD, gsCons, gsNil]) (seq_nx (ρ1 := [sD x, cD (nD t b), cI t, cI b, cD (.list [.bool true, .none, .int t, .str "1", .list [.int t, .int b], .tuple [.int t, .int (0 - b)], .tuple [.int (t * 2), .int (b * 2)], .tuple [.int t, .int 0]])]) (by simp [g1, g2]) (seq_nx (ρ1 := [sD x, cD (nD t b), cI t, cI b, cD (.list l)]) ?_ rfl))) ?_
  · rw [← hl]
    simp [-Int.reducePow, -Int.reduceSub, p18]
    rw [gAddL (by simp)]
    simp [-Int.reducePow]
  · simp [lend, slotsOf, lendL, giveB, L.mine, L.put, q, ix, -gIx_lst]
end Lw
namespace Lw
open PySem PySem.Spec PyProof.Rows L2 Dn
theorem bent_ends_ex (x : SrcT) (p q : Int × Int) (hp : Tn p) (hq : Tn q) (hpq : p.1 * q.2 < q.1 * p.2) : ∃ (a b : D) (y : SrcT), endsD a b = false ∧ m_law_bent_ends [sD x, cD (pD p), cD (pD q)] = .ok (.ow [a, b]) [sD y, cD (pD p), cD (pD q)] := by
  obtain ⟨v, y, v0, v1, r⟩ := dr x 4
  have s1 : dAsg (putIm 3) (dFn 2 m_law_draw (aSl 0 (aIm (dC (.int 4)) aNil))) [sD x, cD (pD p), cD (pD q), none] = .ok .nx [sD y, cD (pD p), cD (pD q), cI v] := by
    simp [lend, slotsOf, lendL, giveB, L.mine, L.put, r]
  simp only [m_law_bent_ends, b_law_bent_ends, dDef_eq]
  rw [show ([sD x, cD (pD p), cD (pD q)] ++ List.replicate (4 - [sD x, cD (pD p), cD (pD q)].length) none : En) = [sD x, cD (pD p), cD (pD q), none] from rfl, seq_nx s1 rfl]
  have hv : v = 0 ∨ v = 1 ∨ v = 2 ∨ v = 3 := by omega
  rcases hv with rfl | rfl | rfl | rfl
  · refine ⟨pD q, pD p, y, ?_, by simp⟩
    rw [tn_ends hq hp]; exact decide_eq_false (by omega)
  · refine ⟨pD p, pD p, y, ?_, by simp⟩
    rw [tn_ends hp hp]; exact decide_eq_false (by omega)
  · obtain ⟨d, z, hd, e⟩ := bent_number_ex y p hp
    exact ⟨d, pD q, z, endsD_f1 hd, by simp [lend, slotsOf, lendL, giveB, L.mine, L.put, e]⟩
  · obtain ⟨d, z, hd, e⟩ := bent_number_ex y q hq
    exact ⟨pD p, d, z, endsD_f2 hd, by simp [lend, slotsOf, lendL, giveB, L.mine, L.put, e]⟩
theorem put_getD {ds : List D} {i : Nat} (h : i < ds.length) (d : D) : (ds.take i ++ [d] ++ ds.drop (i + 1)).getD i .none = d := by
  have : (ds.take i).length = i := by simp; omega
  rw [List.append_assoc, List.getD_eq_getElem?_getD, List.getElem?_append_right (by omega), this, Nat.sub_self]
  rfl
theorem put_len {ds : List D} {i : Nat} (h : i < ds.length) (d : D) : (ds.take i ++ [d] ++ ds.drop (i + 1)).length = ds.length := by
  simp; omega
theorem pieces_bad {ds : List D} {i : Nat} (h : i < ds.length) {d : D} (hd : pairD d = false) : piecesD (.tuple (ds.take i ++ [d] ++ ds.drop (i + 1))) = false := by
  simp only [piecesD, decide_eq_false_iff_not]
  intro z
  have := (z.2.2 i (by rw [put_len h]; exact h)).1
  rw [put_getD h, hd] at this
  cases this
theorem ris_at : ∀ {ps : List ((Int × Int) × (Int × Int))}, RisP ps → ∀ p ∈ ps, Tn p.1 ∧ Tn p.2 ∧ p.1.1 * p.2.2 < p.2.1 * p.1.2
  | [], _, p, hp => by simp at hp
  | [q], h, p, hp => by simp at hp; subst hp; exact h
  | q :: r :: t, h, p, hp => by
    rcases List.mem_cons.mp hp with e | e
    · subst e; exact ⟨h.1, h.2.1, h.2.2.1⟩
    · exact ris_at h.2.2.2.2 p e
theorem bent_pieces_ex (x : SrcT) (ps : List ((Int × Int) × (Int × Int))) (h1 : 2 ≤ ps.length) (h2 : ps.length ≤ 4) (hr : RisP ps) : ∃ (d : D) (y : SrcT), piecesD d = false ∧ m_law_bent_pieces [sD x, cD (.tuple (ps.map prD))] = .ok (.im d) [sD y, cD (.tuple (ps.map prD))] := by
  obtain ⟨v, y1, v0, v1, r1⟩ := dr x 6
  obtain ⟨u, y, u0, u1, r⟩ := dr y1 (ps.length : Int) (by omega) (by omega)
  obtain ⟨i, rfl⟩ : ∃ i : Nat, u = i := ⟨u.toNat, by omega⟩
  have hi : i < ps.length := by omega
  have hi' : i < (ps.map prD).length := by simpa using hi
  have hn : (ps.map prD).length = ps.length := by simp
  obtain ⟨p0, p1, rest, rfl⟩ : ∃ p0 p1 rest, ps = p0 :: p1 :: rest := by
    match ps, h1 with
    | p0 :: p1 :: rest, _ => exact ⟨p0, p1, rest, rfl⟩
  generalize hds : (p0 :: p1 :: rest).map prD = ds at *
  have hl4 : ds.length ≤ 4 := by omega
  have hl2 : 2 ≤ ds.length := by omega
  have gl : gLen1 (.tuple ds) = some (.int ((p0 :: p1 :: rest).length : Int)) := by simp [gLen1, hn]
  generalize ((p0 :: p1 :: rest).length : Int) = n at gl r
  have s1 : dAsg (putIm 2) (dFn 2 m_law_draw (aSl 0 (aIm (dC (.int 6)) aNil))) [sD x, cD (.tuple ds), none, none, none] = .ok .nx [sD y1, cD (.tuple ds), cI v, none, none] := by
    simp [lend, slotsOf, lendL, giveB, L.mine, L.put, r1]
  have s2 : dAsg (putIm 3) (dFn 2 m_law_draw (aSl 0 (aIm (dLenN 1) aNil))) [sD y1, cD (.tuple ds), cI v, none, none] = .ok .nx [sD y, cD (.tuple ds), cI v, cI i, none] := by
    simp [lend, slotsOf, lendL, giveB, L.mine, L.put, r, gl]
  have t0 := gSlT_take ds i
  have t1 := gSlT_drop ds (i + 1)
  rw [show ((i + 1 : Nat) : Int) = (i : Int) + 1 by omega] at t1
  have t2 := gSlT_take ds 1
  have t3 := gSlT_drop ds 2
  have ix := ixT hi'
  have hp := (ris_at hr) _ (List.getElem_mem hi)
  have dat : ds.getD i .none = prD (p0 :: p1 :: rest)[i] := by
    rw [← hds, List.getD_eq_getElem?_getD, List.getElem?_map, List.getElem?_eq_getElem hi]
    rfl
  rw [dat] at ix
  generalize (p0 :: p1 :: rest)[i] = p at ix hp
  simp only [m_law_bent_pieces, b_law_bent_pieces, dDef_eq]
  rw [show ([sD x, cD (.tuple ds)] ++ List.replicate (5 - [sD x, cD (.tuple ds)].length) none : En) = [sD x, cD (.tuple ds), none, none, none] from rfl, seq_nx s1 rfl, seq_nx s2 rfl]
  have hv : v = 0 ∨ v = 1 ∨ v = 2 ∨ v = 3 ∨ v = 4 ∨ v = 5 := by omega
  rcases hv with rfl | rfl | rfl | rfl | rfl | rfl
  · have t2' : gSl (.tuple ds) none (some 1) = some (.tuple (ds.take 1)) := t2
    refine ⟨.tuple (ds.take 1), y, ?_, by simp [t2']⟩
    simp only [piecesD, decide_eq_false_iff_not]
    intro z; have := z.1; simp at this; omega
  · exact ⟨.list ds, y, rfl, by simp⟩
  · have i0 : L2.atI ds 0 = some (prD p0) := by rw [← hds]; simp
    have i1 : L2.atI ds 1 = some (prD p1) := by rw [← hds]; simp
    have t2' : gSl (.tuple ds) none (some 1) = some (.tuple (ds.take 1)) := t2
    have t3' : gSl (.tuple ds) (some 2) none = some (.tuple (ds.drop 2)) := t3
    have a1 : gAdd (.tuple (ds.take 1)) (.tuple [.tuple [pD p0.2, pD p1.2]]) = some (.tuple (ds.take 1 ++ [.tuple [pD p0.2, pD p1.2]])) := gAddT (by simp; omega)
    have a2 : gAdd (.tuple (ds.take 1 ++ [.tuple [pD p0.2, pD p1.2]])) (.tuple (ds.drop 2)) = some (.tuple (ds.take 1 ++ [.tuple [pD p0.2, pD p1.2]] ++ ds.drop (1 + 1))) := gAddT (by simp; omega)
    refine ⟨.tuple (ds.take 1 ++ [.tuple [pD p0.2, pD p1.2]] ++ ds.drop (1 + 1)), y, ?_, ?_⟩
    · simp only [piecesD, decide_eq_false_iff_not]
      intro z
      have := (z.2.2 1 (by rw [put_len (by omega)]; omega)).2 (by omega)
      rw [put_getD (by omega)] at this
      have e0 : (ds.take 1 ++ [PyData.tuple [pD p0.2, pD p1.2]] ++ ds.drop (1 + 1)).getD (1 - 1) .none = prD p0 := by rw [← hds]; rfl
      rw [e0] at this
      have : p0.2.1 * p0.2.2 < p0.2.1 * p0.2.2 := of_decide_eq_true this
      omega
    · generalize ds.take 1 ++ [.tuple [pD p0.2, pD p1.2]] ++ ds.drop (1 + 1) = res at a2
      simp [t2', t3', i0, i1, a1, a2]
  · have a1 : gAdd (.tuple (ds.take i)) (.tuple [.list [pD p.1, pD p.2]]) = some (.tuple (ds.take i ++ [.list [pD p.1, pD p.2]])) := gAddT (by simp; omega)
    have a2 : gAdd (.tuple (ds.take i ++ [.list [pD p.1, pD p.2]])) (.tuple (ds.drop (i + 1))) = some (.tuple (ds.take i ++ [.list [pD p.1, pD p.2]] ++ ds.drop (i + 1))) := gAddT (by simp; omega)
    refine ⟨_, y, pieces_bad hi' (d := .list [pD p.1, pD p.2]) rfl, ?_⟩
    generalize ds.take i ++ [.list [pD p.1, pD p.2]] ++ ds.drop (i + 1) = res at a2
    simp [t0, t1, ix, a1, a2]
  · have a1 : gAdd (.tuple ds) (.tuple ds) = some (.tuple (ds ++ ds)) := gAddT (by omega)
    have a2 : gAdd (.tuple (ds ++ ds)) (.tuple ds) = some (.tuple (ds ++ ds ++ ds)) := gAddT (by simp; omega)
    refine ⟨.tuple (ds ++ ds ++ ds), y, ?_, ?_⟩
    · simp only [piecesD, decide_eq_false_iff_not]
      intro z; have := z.2.1; simp at this; omega
    · generalize ds ++ ds ++ ds = res at a2
      simp [a1, a2]
  · obtain ⟨a, b, z, hab, e⟩ := bent_ends_ex y p.1 p.2 hp.1 hp.2.1 hp.2.2
    have a1 : gAdd (.tuple (ds.take i)) (.tuple [.tuple [a, b]]) = some (.tuple (ds.take i ++ [.tuple [a, b]])) := gAddT (by simp; omega)
    have a2 : gAdd (.tuple (ds.take i ++ [.tuple [a, b]])) (.tuple (ds.drop (i + 1))) = some (.tuple (ds.take i ++ [.tuple [a, b]] ++ ds.drop (i + 1))) := gAddT (by simp; omega)
    refine ⟨_, z, pieces_bad hi' (d := .tuple [a, b]) hab, ?_⟩
    generalize ds.take i ++ [.tuple [a, b]] ++ ds.drop (i + 1) = res at a2
    simp [t0, t1, ix, a1, a2, lend, slotsOf, lendL, giveB, L.mine, L.put, e]
theorem wordsD_f {ds : List D} {d : D} (h : d ∈ ds) (hd : wordD d = false) : wordsD (.tuple ds) = false := by
  simp only [wordsD, decide_eq_false_iff_not]
  intro z
  have := z.2.2.1 d h
  rw [hd] at this; cases this
theorem short_lits : ∀ d ∈ ([.str "", .str "abcdefghi", .str "A", .str "a b", .none, .bool true, .int 5, .tuple [.str "a"], .str "a1", .str "a-", .list [.str "a"], .dict []] : List D), wordD d = false ∧ ∀ s, d = .str s → s.length ≤ 100 := by
  intro d hd
  simp only [List.mem_cons, List.not_mem_nil, or_false] at hd
  rcases hd with rfl | rfl | rfl | rfl | rfl | rfl | rfl | rfl | rfl | rfl | rfl | rfl <;> first | exact ⟨by decide +kernel, fun s e => by cases e; decide +kernel⟩ | exact ⟨rfl, fun s e => by cases e⟩
theorem bent_words_ex (x : SrcT) (ws : List (List Nat)) (h1 : 1 ≤ ws.length) (h2 : ws.length ≤ 60) (hw : ∀ a ∈ ws, isW a) : ∃ (d : D) (y : SrcT), wordsD d = false ∧ (∀ ds, d = .tuple ds → ∀ s, PyData.str s ∈ ds → s.length ≤ 1000000) ∧ m_law_bent_words [sD x, cD (.tuple (wD ws))] = .ok (.im d) [sD y, cD (.tuple (wD ws))] := by
  obtain ⟨u, y1, u0, u1, r1⟩ := dr x (ws.length : Int) (by omega) (by omega)
  obtain ⟨i, rfl⟩ : ∃ i : Nat, u = i := ⟨u.toNat, by omega⟩
  obtain ⟨k, y2, k0, k1, r2⟩ := dr y1 12
  obtain ⟨v, y, v0, v1, r3⟩ := dr y2 6
  have hn : (wD ws).length = ws.length := wD_length ws
  have hi' : i < (wD ws).length := by omega
  have sw := short_wD hw
  have gl : gLen1 (.tuple (wD ws)) = some (.int (ws.length : Int)) := by simp [gLen1]
  obtain ⟨odd, ho, io⟩ := gIx_pick (l := [.str "", .str "abcdefghi", .str "A", .str "a b", .none, .bool true, .int 5, .tuple [.str "a"], .str "a1", .str "a-", .list [.str "a"], .dict []]) (v := k) k0 k1
  obtain ⟨ob, os⟩ := short_lits odd (List.mem_of_getElem? ho)
  have dw : wordD ((wD ws).getD i .none) = true := by
    rw [show (wD ws).getD i .none = (wD ws)[i] by simp [List.getElem?_eq_getElem hi']]
    exact words_are hw _ (List.getElem_mem hi')
  have dm : (wD ws).getD i .none ∈ wD ws := by
    rw [show (wD ws).getD i .none = (wD ws)[i] by simp [List.getElem?_eq_getElem hi']]
    exact List.getElem_mem hi'
  have ix := ixT hi'
  have ix0 := ixT (ds := wD ws) (i := 0) (by omega)
  have d0 : ∃ s, (wD ws).getD 0 .none = .str s := by
    match ws, h1 with
    | a :: r, _ => exact ⟨_, rfl⟩
  have t0 := gSlT_take (wD ws) i
  have t1 := gSlT_drop (wD ws) (i + 1)
  rw [show ((i + 1 : Nat) : Int) = (i : Int) + 1 by omega] at t1
  have hl60 : (wD ws).length ≤ 60 := by omega
  have pd := put_len hi' odd
  have a1 : gAdd (.tuple (wD ws)) (.tuple [(wD ws).getD i .none]) = some (.tuple (wD ws ++ [(wD ws).getD i .none])) := gAddT (by simp; omega)
  have a2 : gAdd (.tuple ((wD ws).take i)) (.tuple [odd]) = some (.tuple ((wD ws).take i ++ [odd])) := gAddT (by simp; omega)
  have a3 : gAdd (.tuple ((wD ws).take i ++ [odd])) (.tuple ((wD ws).drop (i + 1))) = some (.tuple ((wD ws).take i ++ [odd] ++ (wD ws).drop (i + 1))) := gAddT (by simp; omega)
  obtain ⟨ys, ρ', LC, l2, s2, e2⟩ := lcL_inv (t := b_law_bent_words_l1) (vs := [6]) (ds := rngD 0 61) (acc := []) (ρ := [sD y2, cD (.tuple (wD ws)), cI i, cD odd, none, none, none])
    (P := fun ρ => ρ = [sD y2, cD (.tuple (wD ws)), cI i, cD odd, none, none, none]) (S := fun d => ∀ s, d = .str s → s.length ≤ 100)
    (fun d hd ρ hp => by
      subst hp
      obtain ⟨j, hj, rfl⟩ := mem_rngD hd
      have f1 : gFdiv (.int (0 + (j : Int))) (.int 26) = some (.int ((j / 26 : Nat) : Int)) := by
        rw [gFdiv_pos (n := 10) (by decide) (by decide) (by decide) (by decide)]
        simp
      have f2 : gMod (.int (0 + (j : Int))) (.int 26) = some (.int ((j % 26 : Nat) : Int)) := by
        rw [gMod_pos (by decide)]
        congr 2; omega
      have m1 := gMulS_S (a := [97]) (n := 1 + j / 26) (by omega) (by decide)
      rw [show ((1 + j / 26 : Nat) : Int) = 1 + ((j / 26 : Nat) : Int) by omega, show SX.S [97] = ("a" : Str) from rfl] at m1
      have hlt : j % 26 < abc.length := by show _ < 26; omega
      have ixa := gIx_S (a := abc) (by decide) hlt
      have ga := gAdd_S (a := (List.replicate (1 + j / 26) [97]).flatten) (b := [abc[j % 26]]) (by simp; omega)
      have hlen : ((List.replicate (1 + j / 26) [97]).flatten ++ [abc[j % 26]]).length ≤ 100 := by simp; omega
      generalize (List.replicate (1 + j / 26) [97]).flatten ++ [abc[j % 26]] = res at ga hlen
      generalize (List.replicate (1 + j / 26) [97]).flatten = rep at ga m1
      generalize abc[j % 26] = c at ga ixa
      generalize ((j / 26 : Nat) : Int) = q1 at f1 m1
      generalize ((j % 26 : Nat) : Int) = q2 at f2 ixa
      generalize (0 + (j : Int)) = jj at f1 f2
      refine ⟨.str (SX.S res), [sD y2, cD (.tuple (wD ws)), cI i, cD odd, none, none, cI jj], ?_, fun s e => by cases e; rw [SX.S_len]; exact hlen, by simp [restE]⟩
      unfold b_law_bent_words_l1
      rw [str_abc]
      simp [wipeE, f1, f2, m1, ixa, ga]) rfl (by have := PySem.sizeLine_eq; simp [rngD])
  subst e2
  rw [List.nil_append] at LC
  have l61 : ys.length = 61 := by rw [l2]; simp [rngD]
  have I : Dn.inR 61 := inR_of (by decide) (by decide)
  have main : ∃ d, [PyData.tuple [], .tuple (wD ws ++ [(wD ws).getD i .none]), .tuple ((wD ws).take i ++ [odd] ++ (wD ws).drop (i + 1)), .list (wD ws), .tuple ys, (wD ws).getD 0 .none][v.toNat]? = some d ∧ gIx (.list [PyData.tuple [], .tuple (wD ws ++ [(wD ws).getD i .none]), .tuple ((wD ws).take i ++ [odd] ++ (wD ws).drop (i + 1)), .list (wD ws), .tuple ys, (wD ws).getD 0 .none]) (.int v) = some d := gIx_pick v0 v1
  obtain ⟨d, hd, ixd⟩ := main
  have facts : ∀ d ∈ [PyData.tuple [], .tuple (wD ws ++ [(wD ws).getD i .none]), .tuple ((wD ws).take i ++ [odd] ++ (wD ws).drop (i + 1)), .list (wD ws), .tuple ys, (wD ws).getD 0 .none], wordsD d = false ∧ ∀ ds, d = .tuple ds → ∀ s, PyData.str s ∈ ds → s.length ≤ 1000000 := by
    intro d hd
    simp only [List.mem_cons, List.not_mem_nil, or_false] at hd
    rcases hd with rfl | rfl | rfl | rfl | rfl | rfl
    · refine ⟨?_, fun ds e s hs => by cases e; simp at hs⟩
      simp only [wordsD, decide_eq_false_iff_not]
      intro z; have := z.1; simp at this
    · refine ⟨?_, fun ds e s hs => ?_⟩
      · simp only [wordsD, decide_eq_false_iff_not]
        intro z
        have := z.2.2.2
        rw [List.nodup_append] at this
        exact this.2.2 _ dm _ (by simp) rfl
      · cases e
        rcases List.mem_append.mp hs with h | h
        · exact sw s h
        · simp only [List.mem_singleton] at h; rw [← h] at dm; exact sw s dm
    · refine ⟨wordsD_f (d := odd) (by simp) ob, fun ds e s hs => ?_⟩
      cases e
      rcases List.mem_append.mp hs with h | h
      · rcases List.mem_append.mp h with h | h
        · exact sw s (List.mem_of_mem_take h)
        · simp only [List.mem_singleton] at h; have := os s h.symm; omega
      · exact sw s (List.mem_of_mem_drop h)
    · exact ⟨rfl, fun ds e => by cases e⟩
    · refine ⟨?_, fun ds e s hs => ?_⟩
      · simp only [wordsD, decide_eq_false_iff_not]
        intro z; have := z.2.1; omega
      · cases e; have := s2 _ hs s rfl; omega
    · obtain ⟨s, e⟩ := d0
      rw [e]
      exact ⟨rfl, fun ds e => by cases e⟩
  obtain ⟨w1, w2⟩ := facts d (List.mem_of_getElem? hd)
  refine ⟨d, y, w1, w2, ?_⟩
  generalize (wD ws).take i ++ [odd] ++ (wD ws).drop (i + 1) = res3 at *
  generalize wD ws ++ [(wD ws).getD i .none] = res2 at *
  generalize hlst : [PyData.tuple [], .tuple res2, .tuple res3, .list (wD ws), .tuple ys, (wD ws).getD 0 .none] = lst at *
  generalize (wD ws).getD i .none = wi at *
  generalize (wD ws).getD 0 .none = w0 at *
  generalize (ws.length : Int) = n at *
  generalize (wD ws).take i ++ [odd] = res1 at *
  generalize (wD ws).take i = tk at *
  generalize (wD ws).drop (i + 1) = dp at *
  generalize wD ws = W at *
  simp only [m_law_bent_words, b_law_bent_words, dDef_eq]
  refine fin_of (seq_nx (ρ1 := [sD y1, cD (.tuple W), cI i, none, none, none, none]) (by simp [lend, slotsOf, lendL, giveB, L.mine, L.put, r1, gl])
    (seq_nx (ρ1 := [sD y2, cD (.tuple W), cI i, cD odd, none, none, none]) ?_ (seq_nx (ρ1 := [sD y2, cD (.tuple W), cI i, cD odd, cD (.list ys), none, none]) ?_
    (seq_nx (ρ1 := [sD y2, cD (.tuple W), cI i, cD odd, cD (.list ys), cD (.list [.tuple [], .tuple res2, .tuple res3]), none]) ?_ (seq_nx (ρ1 := [sD y2, cD (.tuple W), cI i, cD odd, cD (.list ys), cD (.list lst), none]) ?_ rfl))))) ?_
  · simp [lend, slotsOf, lendL, giveB, L.mine, L.put, r2, io, -gIx_lst]
  · simp [I, immE, LC]
  · simp [ix, a1, a2, a3, t0, t1]
  · have ix0' : L2.atI W 0 = some w0 := ix0
    have aL : gAdd (.list [.tuple [], .tuple res2, .tuple res3]) (.list [.list W, .tuple ys, w0]) = some (.list lst) := by rw [← hlst]; exact gAddL (by simp)
    simp [ix0', aL]
  · simp [lend, slotsOf, lendL, giveB, L.mine, L.put, r3, ixd, -gIx_lst]
theorem head_lits : ∀ d ∈ ([.str "Straight", .str "turn", .str "", .none, .int 2, .tuple [.str "straight"], .list [.str "straight"], .dict []] : List D), (∃ h, d = .str (SX.S h) ∧ okS h ∧ h ≠ sStraight ∧ h ≠ sDays ∧ h ≠ sOrder ∧ h ≠ sTurns ∧ h ≠ sBroken) ∨ ∀ s, d ≠ .str s := by
  intro d hd
  simp only [List.mem_cons, List.not_mem_nil, or_false] at hd
  rcases hd with rfl | rfl | rfl | rfl | rfl | rfl | rfl | rfl
  · exact .inl ⟨[83, 116, 114, 97, 105, 103, 104, 116], rfl, by unfold okS; decide, by decide, by decide, by decide, by decide, by decide⟩
  · exact .inl ⟨[116, 117, 114, 110], rfl, by unfold okS; decide, by decide, by decide, by decide, by decide, by decide⟩
  · exact .inl ⟨[], rfl, by unfold okS; decide, by decide, by decide, by decide, by decide, by decide⟩
  all_goals exact .inr fun s e => by cases e
theorem wish_head (h : List Nat) (t : List D) (n1 : h ≠ sStraight) (n2 : h ≠ sDays) (n3 : h ≠ sOrder) (n4 : h ≠ sTurns) (n5 : h ≠ sBroken) : wishT h t = false := by
  match t with
  | [] => simp [wishT, n1, n2, n3]
  | [x] => simp [wishT, n3, n4, n5]
  | [x, y] => simp [wishT, n1]
  | x :: y :: z :: t => rfl
theorem turn_lits : ∀ d ∈ ([.int 3, .int 1, .int 0, .int (-2), .bool true, .str "2", .none, .tuple [.int 2, .int 1], .int 100, .list [.int 10]] : List D), wishT sTurns [d] = false := by
  intro d hd
  simp only [List.mem_cons, List.not_mem_nil, or_false] at hd
  rcases hd with rfl | rfl | rfl | rfl | rfl | rfl | rfl | rfl | rfl | rfl <;> rfl
theorem last_lits : ∀ d ∈ ([.tuple [.str "turns"], .tuple [.str "broken"], .tuple [], .tuple [.str "straight", .tuple [.int 0, .int 1]], .tuple [.str "days", .int 1, .int 2]] : List D), m_is_wish [cD d] = .ok (.im (.bool false)) [cD d] := by
  intro d hd
  have k (h : List Nat) (ok : okS h) (t : List D) (ht : h ≠ sOrder) (e : wishT h t = false) : m_is_wish [cD (.tuple (.str (SX.S h) :: t))] = .ok (.im (.bool false)) [cD (.tuple (.str (SX.S h) :: t))] := by
    rw [is_wish_eq h ok t fun z => absurd z ht, e]
  simp only [List.mem_cons, List.not_mem_nil, or_false] at hd
  rcases hd with rfl | rfl | rfl | rfl | rfl
  · exact k sTurns (by unfold okS; decide) [] (by decide) (by decide)
  · exact k sBroken (by unfold okS; decide) [] (by decide) (by decide)
  · exact is_wish_no _ fun s t e => by cases e
  · exact k sStraight (by unfold okS; decide) _ (by decide) (by simp [wishT, show ¬ sStraight = sTurns by decide, show ¬ sStraight = sBroken by decide, show ¬ sStraight = sOrder by decide])
  · exact k sDays (by unfold okS; decide) _ (by decide) (by simp [wishT, show ¬ sDays = sStraight by decide])
theorem none_more (w : Wish) (h : w.ok) : wishT w.hd (w.tl ++ [.none]) = false := by
  cases w with
  | one a => rcases h with rfl | rfl | rfl <;> rfl
  | two p q => rfl
  | turns b => rfl
  | broken ps => rfl
  | order ws => rfl
end Lw
namespace Lw
open PySem PySem.Spec PyProof.Rows L2 Dn
theorem law_bent_ex (x : SrcT) (w : Wish) (h : w.ok) : ∃ (d : D) (y : SrcT), m_is_wish [cD d] = .ok (.im (.bool false)) [cD d] ∧ m_law_bent [sD x, cD w.enc] = .ok (.im d) [sD y, cD w.enc] := by
  obtain ⟨v, y, v0, v1, r⟩ := dr x 8
  have s1 : dAsg (putIm 2) (dFn 2 m_law_draw (aSl 0 (aIm (dC (.int 8)) aNil))) [sD x, cD w.enc, none] = .ok .nx [sD y, cD w.enc, cI v] := by
    simp [lend, slotsOf, lendL, giveB, L.mine, L.put, r]
  simp only [m_law_bent, b_law_bent, dDef_eq]
  rw [show ([sD x, cD w.enc] ++ List.replicate (3 - [sD x, cD w.enc].length) none : En) = [sD x, cD w.enc, none] from rfl, seq_nx s1 rfl]
  by_cases h0 : v = 0
  · subst h0
    exact ⟨.list (.str (SX.S w.hd) :: w.tl), y, is_wish_no _ (fun s t e => by cases e), by simp⟩
  by_cases h1 : v = 1
  · subst h1
    have a1 : gAdd (.tuple (.str (SX.S w.hd) :: w.tl)) (.tuple [.none]) = some (.tuple (.str (SX.S w.hd) :: (w.tl ++ [.none]))) := by
      have hl : w.tl.length ≤ 2 := by cases w <;> simp [Wish.tl]
      rw [gAddT (by simp; omega)]; rfl
    have := is_wish_eq w.hd (okhd w h) (w.tl ++ [.none]) fun e x ex ds ed s hs => by
      cases w with
      | one a => simp [Wish.tl] at ex; subst ex; cases ed
      | _ => simp [Wish.tl] at ex
    rw [none_more w h] at this
    exact ⟨_, y, this, by simp [a1]⟩
  by_cases h2 : v = 2
  · subst h2
    obtain ⟨k, z, k0, k1, r2⟩ := dr y 8
    obtain ⟨d, hd, ix⟩ := gIx_pick (l := [.str "Straight", .str "turn", .str "", .none, .int 2, .tuple [.str "straight"], .list [.str "straight"], .dict []]) (v := k) k0 k1
    have hl := head_lits d (List.mem_of_getElem? hd)
    have t1 : gSl (.tuple (.str (SX.S w.hd) :: w.tl)) (some 1) none = some (.tuple w.tl) := gSlT_drop (.str (SX.S w.hd) :: w.tl) 1
    have a1 : gAdd (.tuple [d]) (.tuple w.tl) = some (.tuple (d :: w.tl)) := by
      have hl : w.tl.length ≤ 2 := by cases w <;> simp [Wish.tl]
      rw [gAddT (by simp; omega)]; rfl
    refine ⟨.tuple (d :: w.tl), z, ?_, by simp [lend, slotsOf, lendL, giveB, L.mine, L.put, r2, ix, t1, a1, -gIx_lst]⟩
    rcases hl with ⟨hh, rfl, ok, n1, n2, n3, n4, n5⟩ | hl
    · rw [is_wish_eq hh ok w.tl fun e => absurd e n3, wish_head hh w.tl n1 n2 n3 n4 n5]
    · exact is_wish_no _ fun s t e => by cases e; exact hl s rfl
  have eT : gEq (.str (SX.S w.hd)) (.str "turns") = some (decide (w.hd = sTurns)) := by rw [strTurns, gEq_S (okhd w h) (by unfold okS; decide)]
  have eB : gEq (.str (SX.S w.hd)) (.str "broken") = some (decide (w.hd = sBroken)) := by rw [strBroken, gEq_S (okhd w h) (by unfold okS; decide)]
  cases w with
  | two p q =>
    obtain ⟨a, b, z, hab, e⟩ := bent_ends_ex y p q h.1 h.2.1 h.2.2
    have a1 : gAdd (.tuple [.str "straight"]) (.tuple [a, b]) = some (.tuple [.str "straight", a, b]) := by rw [gAddT (by simp)]; rfl
    have := is_wish_eq sStraight (by unfold okS; decide) [a, b] fun e => absurd e (by decide)
    rw [show wishT sStraight [a, b] = false by simp [wishT, hab], ← strStraight] at this
    exact ⟨_, z, this, by simp [h0, h1, h2, Wish.tl, gLen1, lend, slotsOf, lendL, giveB, L.mine, L.put, e, a1]⟩
  | turns b =>
    obtain ⟨k, z, k0, k1, r2⟩ := dr y 10
    obtain ⟨d, hd, ix⟩ := gIx_pick (l := [.int 3, .int 1, .int 0, .int (-2), .bool true, .str "2", .none, .tuple [.int 2, .int 1], .int 100, .list [.int 10]]) (v := k) k0 k1
    have hl := turn_lits d (List.mem_of_getElem? hd)
    have := is_wish_eq sTurns (by unfold okS; decide) [d] fun e => absurd e (by decide)
    rw [hl, ← strTurns] at this
    have eT' : gEq (.str (SX.S (Wish.turns b).hd)) (.str "turns") = some true := eT
    exact ⟨_, z, this, by simp [h0, h1, h2, Wish.tl, gLen1, eT', lend, slotsOf, lendL, giveB, L.mine, L.put, r2, ix, -gIx_lst]⟩
  | broken ps =>
    obtain ⟨d, z, hd, e⟩ := bent_pieces_ex y ps h.1 h.2.1 h.2.2
    have := is_wish_eq sBroken (by unfold okS; decide) [d] fun e => absurd e (by decide)
    rw [show wishT sBroken [d] = false by simp [wishT, show ¬ sBroken = sTurns by decide, hd], ← strBroken] at this
    have eT' : gEq (.str (SX.S (Wish.broken ps).hd)) (.str "turns") = some false := eT
    have eB' : gEq (.str (SX.S (Wish.broken ps).hd)) (.str "broken") = some true := eB
    refine ⟨_, z, this, ?_⟩
    simp [h0, h1, h2, Wish.tl, gLen1, eT', eB', lend, slotsOf, lendL, giveB, L.mine, L.put, e]
  | order ws =>
    obtain ⟨d, z, hd, hs, e⟩ := bent_words_ex y ws h.1 h.2.1 h.2.2.1
    have := is_wish_eq sOrder (by unfold okS; decide) [d] fun _ x ex ds ed => by cases ex; exact hs ds ed
    rw [show wishT sOrder [d] = false by simp [wishT, show ¬ sOrder = sTurns by decide, show ¬ sOrder = sBroken by decide, hd], ← strOrder] at this
    have eT' : gEq (.str (SX.S (Wish.order ws).hd)) (.str "turns") = some false := eT
    have eB' : gEq (.str (SX.S (Wish.order ws).hd)) (.str "broken") = some false := eB
    refine ⟨_, z, this, ?_⟩
    simp [h0, h1, h2, Wish.tl, gLen1, eT', eB', lend, slotsOf, lendL, giveB, L.mine, L.put, e]
  | one a =>
    obtain ⟨k, z, k0, k1, r2⟩ := dr y 5
    obtain ⟨d, hd, ix⟩ := gIx_pick (l := [.tuple [.str "turns"], .tuple [.str "broken"], .tuple [], .tuple [.str "straight", .tuple [.int 0, .int 1]], .tuple [.str "days", .int 1, .int 2]]) (v := k) k0 k1
    have := last_lits d (List.mem_of_getElem? hd)
    have eT' : gEq (.str (SX.S (Wish.one a).hd)) (.str "turns") = some false := by
      rw [eT]; rcases h with rfl | rfl | rfl <;> rfl
    have eB' : gEq (.str (SX.S (Wish.one a).hd)) (.str "broken") = some false := by
      rw [eB]; rcases h with rfl | rfl | rfl <;> rfl
    exact ⟨_, z, this, by simp [h0, h1, h2, Wish.tl, gLen1, eT', eB', lend, slotsOf, lendL, giveB, L.mine, L.put, r2, ix, -gIx_lst]⟩
def Wish.due : Wish → List Nat
  | .turns b => [116, 117, 114, 110, 115, 32] ++ (if b = 10 then [49, 48] else [50])
  | w => w.hd
theorem okS_due (w : Wish) (h : w.ok) : okS w.due := by
  cases w with
  | turns b =>
    show okS ([116, 117, 114, 110, 115, 32] ++ (if b = 10 then [49, 48] else [50]))
    split <;> (unfold okS; decide)
  | one a => exact okhd (.one a) h
  | two p q => exact okhd (.two p q) h
  | broken ps => exact okhd (.broken ps) h
  | order ws => exact okhd (.order ws) h
theorem axis_word_eq (w : Wish) (h : w.ok) : m_axis_word [cD w.enc] = .ok (.im (.str (SX.S w.due))) [cD w.enc] := by
  have eT : gEq (.str (SX.S w.hd)) (.str "turns") = some (decide (w.hd = sTurns)) := by rw [strTurns, gEq_S (okhd w h) (by unfold okS; decide)]
  simp only [m_axis_word, b_axis_word, dDef_eq, dSeq_eq]
  have other (e : gEq (.str (SX.S w.hd)) (.str "turns") = some false) (e2 : w.due = w.hd) : finD [cD w.enc] (thn' (dIf (dCmp gEq (dIxN 0 (dC (.int 0))) (dC (.str "turns"))) (dRet (dOp gAdd (dC (.str "turns ")) (dCall gStr (aIm (dIxN 0 (dC (.int 1))) aNil)))) dNx ([cD w.enc] ++ List.replicate (1 - [cD w.enc].length) none)) (dRet (dIxN 0 (dC (.int 0))))) = .ok (.im (.str (SX.S w.due))) [cD w.enc] := by
    rw [e2]; simp [e]
  cases w with
  | turns b =>
    have eT' : gEq (.str (SX.S (Wish.turns b).hd)) (.str "turns") = some true := eT
    rcases h with rfl | rfl
    · have e1 : gStr [.int 2] = some (.str (SX.S [50])) := gStr_nat (n := 2) (k := 2) (by decide) (by decide) (by decide)
      have e2 : gAdd (.str "turns ") (.str (SX.S [50])) = some (.str (SX.S (Wish.turns 2).due)) := gAdd_S (a := [116, 117, 114, 110, 115, 32]) (b := [50]) (by decide)
      simp [eT', Wish.tl, e1, e2]
    · have e1 : gStr [.int 10] = some (.str (SX.S [49, 48])) := gStr_nat (n := 10) (k := 5) (by decide) (by decide) (by decide)
      have e2 : gAdd (.str "turns ") (.str (SX.S [49, 48])) = some (.str (SX.S (Wish.turns 10).due)) := gAdd_S (a := [116, 117, 114, 110, 115, 32]) (b := [49, 48]) (by decide)
      simp [eT', Wish.tl, e1, e2]
  | one a => exact other (by rw [eT]; rcases h with rfl | rfl | rfl <;> rfl) rfl
  | two p q => exact other (by rw [eT]; rfl) rfl
  | broken ps => exact other (by rw [eT]; rfl) rfl
  | order ws => exact other (by rw [eT]; rfl) rfl
theorem law_same_eq (w : Wish) (h : w.ok) : m_law_same [cD w.enc] = .ok (.im (.bool true)) [cD w.enc] := by
  have := is_wish_good w h
  simp only [m_law_same, b_law_same, dDef_eq, dSeq_eq]
  simp [this]
theorem row_k25 (ns : List Int) (k : Nat) (hk : k < 1000) (hb : (ns.getD k 0).natAbs < 2 ^ 1048576) (x2 x3 x4 x5 : Option Dn.L) (h2 : free (some x2) = true) (h3 : free (some x3) = true) (h4 : free (some x4) = true) :
    ∃ (y2 y3 y4 : Option Dn.L), free (some y2) = true ∧ free (some y3) = true ∧ free (some y4) = true ∧
    b_law_l1 [cD (scriptD ns), cI k, x2, x3, x4, x5, none] = .ok .nx [cD (scriptD ns), cI k, y2, y3, y4, x5, none] := by
  obtain ⟨x, S⟩ := source_ex ns k hk hb
  obtain ⟨w, y, hw, Gd⟩ := law_good_ex x
  obtain ⟨d, z, hd, B⟩ := law_bent_ex y w hw
  have A := axis_word_eq w hw
  have Sm := law_same_eq w hw
  have ne := gNe_self (d := .str (SX.S w.due)) (shpS (okS_due w hw))
  have eT : gEq (.str (SX.S w.hd)) (.str "turns") = some (decide (w.hd = sTurns)) := by rw [strTurns, gEq_S (okhd w hw) (by unfold okS; decide)]
  have mid : ∃ r4 : D, dAsg (putIm 4) (dIxN 3 (dC (.int 0))) [cD (scriptD ns), cI k, some (.ow (srcD y.r y.s)), cD w.enc, x4, x5, none] = .ok .nx [cD (scriptD ns), cI k, some (.ow (srcD y.r y.s)), cD w.enc, cD r4, x5, none] ∧
      dIf (dCmp gEq (dIxN 3 (dC (.int 0))) (dC (.str "turns"))) (dAsg (putIm 4) (dOp gAdd (dC (.str "turns ")) (dOp gIx (dLst (aIm (dC (.str "2")) (aIm (dC (.str "10")) aNil))) (dCall gInt (aIm (dB (dCmp gEq (dIxN 3 (dC (.int 1))) (dC (.int 10)))) aNil))))) dNx [cD (scriptD ns), cI k, some (.ow (srcD y.r y.s)), cD w.enc, cD r4, x5, none] = .ok .nx [cD (scriptD ns), cI k, some (.ow (srcD y.r y.s)), cD w.enc, cS w.due, x5, none] := by
    refine ⟨.str (SX.S w.hd), by simp [h4], ?_⟩
    have other (e : gEq (.str (SX.S w.hd)) (.str "turns") = some false) (e2 : w.due = w.hd) : dIf (dCmp gEq (dIxN 3 (dC (.int 0))) (dC (.str "turns"))) (dAsg (putIm 4) (dOp gAdd (dC (.str "turns ")) (dOp gIx (dLst (aIm (dC (.str "2")) (aIm (dC (.str "10")) aNil))) (dCall gInt (aIm (dB (dCmp gEq (dIxN 3 (dC (.int 1))) (dC (.int 10)))) aNil))))) dNx [cD (scriptD ns), cI k, some (.ow (srcD y.r y.s)), cD w.enc, cD (.str (SX.S w.hd)), x5, none] = .ok .nx [cD (scriptD ns), cI k, some (.ow (srcD y.r y.s)), cD w.enc, cS w.due, x5, none] := by
      rw [e2]; simp [e]
    cases w with
    | turns b =>
      have eT' : gEq (.str (SX.S (Wish.turns b).hd)) (.str "turns") = some true := eT
      rcases hw with rfl | rfl
      · have e2 : gAdd (.str "turns ") (.str "2") = some (.str (SX.S (Wish.turns 2).due)) := gAdd_S (a := [116, 117, 114, 110, 115, 32]) (b := [50]) (by decide)
        simp [eT', Wish.tl, e2]
      · have e2 : gAdd (.str "turns ") (.str "10") = some (.str (SX.S (Wish.turns 10).due)) := gAdd_S (a := [116, 117, 114, 110, 115, 32]) (b := [49, 48]) (by decide)
        simp [eT', Wish.tl, e2]
    | one a => exact other (by rw [eT]; rcases hw with rfl | rfl | rfl <;> rfl) rfl
    | two p q => exact other (by rw [eT]; rfl) rfl
    | broken ps => exact other (by rw [eT]; rfl) rfl
    | order ws => exact other (by rw [eT]; rfl) rfl
  obtain ⟨r4, m1, m2⟩ := mid
  generalize hw : w.enc = we at *
  refine ⟨some (.ow (srcD z.r z.s)), cD we, cS w.due, rfl, rfl, rfl, ?_⟩
  unfold b_law_l1
  refine seq_nx (ρ1 := [cD (scriptD ns), cI k, some (.ow (srcD x.r x.s)), x3, x4, x5, none]) (by simp [h2, S])
    (seq_nx (ρ1 := [cD (scriptD ns), cI k, some (.ow (srcD y.r y.s)), cD we, x4, x5, none]) (by simp [h3, lend, slotsOf, lendL, giveB, L.mine, L.put, Gd])
    (seq_nx m1 (seq_nx m2 (seq_nx (ρ1 := [cD (scriptD ns), cI k, some (.ow (srcD y.r y.s)), cD we, cS w.due, x5, none]) (by simp [Sm, A, ne]) ?_))))
  simp [lend, slotsOf, lendL, giveB, L.mine, L.put, B, hd]
theorem odd_lits : ∀ d ∈ ([.none, .bool true, .int 5, .str "straight", .list [.str "straight"], .dict [], .tuple [], .tuple [.tuple []], .tuple [.none], .tuple [.str "straight", .dict [], .tuple [.int 1, .int 1]], .tuple [.str "broken", .tuple []]] : List D), m_is_wish [cD d] = .ok (.im (.bool false)) [cD d] := by
  intro d hd
  have k (h : List Nat) (ok : okS h) (t : List D) (ht : h ≠ sOrder) (e : wishT h t = false) : m_is_wish [cD (.tuple (.str (SX.S h) :: t))] = .ok (.im (.bool false)) [cD (.tuple (.str (SX.S h) :: t))] := by
    rw [is_wish_eq h ok t fun z => absurd z ht, e]
  simp only [List.mem_cons, List.not_mem_nil, or_false] at hd
  rcases hd with rfl | rfl | rfl | rfl | rfl | rfl | rfl | rfl | rfl | rfl | rfl
  case inr.inr.inr.inr.inr.inr.inr.inr.inr.inl => exact k sStraight (by unfold okS; decide) _ (by decide) (by simp [wishT, endsD])
  case inr.inr.inr.inr.inr.inr.inr.inr.inr.inr => exact k sBroken (by unfold okS; decide) _ (by decide) (by simp [wishT, show ¬ sBroken = sTurns by decide, piecesD])
  all_goals exact is_wish_no _ fun s t e => by cases e
theorem law_true (ns : List Int) (hl : ns.length ≤ 63) (hb : ∀ z ∈ ns, z.natAbs < 2 ^ 1048576) : ∃ ls', m_law [cD (scriptD ns)] = .ok (.im (.bool true)) ls' := by
  have hbk : ∀ k : Nat, (ns.getD k 0).natAbs < 2 ^ 1048576 := fun k => by
    by_cases h : k < ns.length
    · rw [show ns.getD k 0 = ns[k] by simp [h]]
      exact hb _ (List.getElem_mem h)
    · rw [show ns.getD k 0 = 0 by simp [h]]
      exact Nat.pow_pos (by decide)
  obtain ⟨m, hm, em⟩ : ∃ m : Nat, m ≤ 12 ∧ (if (if (12 : Int) < ns.length then (12 : Int) else ns.length) > 1 then (if (12 : Int) < ns.length then (12 : Int) else ns.length) else 1) = (m : Int) := by
    refine ⟨(if (if (12 : Int) < ns.length then (12 : Int) else ns.length) > 1 then (if (12 : Int) < ns.length then (12 : Int) else ns.length) else 1).toNat, ?_, ?_⟩ <;> split <;> split <;> omega
  obtain ⟨ρ', LP, x1, x2, x3, x4, h1, h2, h3, h4, rfl⟩ := forL_rng (g := putIm 1) (b := b_law_l1) (lo := 0) (n := m)
    (P := fun _ ρ => ∃ (x1 x2 x3 x4 : Option Dn.L), free (some x1) = true ∧ free (some x2) = true ∧ free (some x3) = true ∧ free (some x4) = true ∧ ρ = [cD (scriptD ns), x1, x2, x3, x4, none, none])
    (fun i hi ρ ⟨x1, x2, x3, x4, h1, h2, h3, h4, e⟩ => by
      subst e
      obtain ⟨y2, y3, y4, k2, k3, k4, e⟩ := row_k25 ns i (by omega) (hbk i) x2 x3 x4 none h2 h3 h4
      refine ⟨[cD (scriptD ns), cI (0 + (i : Int)), x2, x3, x4, none, none], _, by simp [h1], by rw [Int.zero_add]; exact e, cI (i : Int), y2, y3, y4, rfl, k2, k3, k4, rfl⟩)
    [cD (scriptD ns), none, none, none, none, none, none] ⟨none, none, none, none, rfl, rfl, rfl, rfl, rfl⟩
  have gl : gLen1 (scriptD ns) = some (.int ns.length) := by simp [scriptD, gLen1]
  have I : Dn.inR (m : Int) := inR_of (by omega) (by omega)
  generalize scriptD ns = s at LP gl
  refine ⟨[cD s], ?_⟩
  simp only [m_law, b_law, dDef_eq]
  rw [show ([cD s] ++ List.replicate (7 - [cD s].length) none : En) = [cD s, none, none, none, none, none, none] from rfl]
  have LC := lcL_fm (t := b_law_l2) (vs := [6]) (f := fun _ => none) (acc := []) (ds := [.none, .bool true, .int 5, .str "straight", .list [.str "straight"], .dict [], .tuple [], .tuple [.tuple []], .tuple [.none], .tuple [.str "straight", .dict [], .tuple [.int 1, .int 1]], .tuple [.str "broken", .tuple []]])
    (ρ := [cD s, x1, x2, x3, x4, cD (.list [.none, .bool true, .int 5, .str "straight", .list [.str "straight"], .dict [], .tuple [], .tuple [.tuple []], .tuple [.none], .tuple [.str "straight", .dict [], .tuple [.int 1, .int 1]], .tuple [.str "broken", .tuple []]]), none])
    (fun d hd => by
      have := odd_lits d hd
      exact ⟨[cD s, x1, x2, x3, x4, cD (.list [.none, .bool true, .int 5, .str "straight", .list [.str "straight"], .dict [], .tuple [], .tuple [.tuple []], .tuple [.none], .tuple [.str "straight", .dict [], .tuple [.int 1, .int 1]], .tuple [.str "broken", .tuple []]]), cD d], by simp [b_law_l2, wipeE, this], by simp [restE]⟩) (by simp)
  rw [show (([] : List D) ++ List.filterMap (fun _ => none) _) = [] by simp] at LC
  have eqn : gEq (.list []) (.list []) = some true := gEq_self rfl
  refine fin_of (seq_nx (ρ1 := [cD s, x1, x2, x3, x4, none, none]) ?_ (seq_nx (ρ1 := [cD s, x1, x2, x3, x4, cD (.list [.none, .bool true, .int 5, .str "straight", .list [.str "straight"], .dict [], .tuple [], .tuple [.tuple []], .tuple [.none], .tuple [.str "straight", .dict [], .tuple [.int 1, .int 1]], .tuple [.str "broken", .tuple []]]), none]) (by simp) rfl)) ?_
  · rw [dFor_eq]
    simp [gl, em, I, LP]
  · simp [immE, LC, eqn]
end Lw
namespace Lw
open PySem PySem.Spec PyProof.Rows L2 Dn
/-! the head -/
abbrev Rw : PySem.W.OpenRow := PySem.W.OpenLaw.row PySem.Challenge.rw_twobytwo_k25_wishes
abbrev hkL : PySem.W.Hook := He.hookD 4 faL fnL
def obL (s : PySem.W.SharedT) : He.AlD := He.obsDG 4 faL fnL (HandSHeadRun.getT s)
theorem obL_eq (s : PySem.W.SharedT) : obL s = hkL.obs s.abs := He.obsDG_eq (HandSHeadRun.getT_eq s)
theorem runL (w : World) : HandSHeadRun.RunEq Rw (PySem.W.view Rw.prog [33]) hkL obL 2440 [("is_whole" : PySem.Str), ("divisor" : PySem.Str), ("is_number" : PySem.Str), ("under" : PySem.Str), ("is_told" : PySem.Str), ("LETTERS" : PySem.Str), ("is_word" : PySem.Str), ("MOST_WORDS" : PySem.Str), ("are_ends" : PySem.Str), ("are_pieces" : PySem.Str), ("are_words" : PySem.Str), ("is_wish" : PySem.Str), ("axis_word" : PySem.Str), ("_law_cell_at" : PySem.Str), ("_law_source" : PySem.Str), ("_law_draw" : PySem.Str), ("_law_great" : PySem.Str), ("_law_low" : PySem.Str), ("_law_ends" : PySem.Str), ("_law_word" : PySem.Str), ("_law_words" : PySem.Str), ("_law_good" : PySem.Str), ("_law_bent_number" : PySem.Str), ("_law_bent_ends" : PySem.Str), ("_law_bent_pieces" : PySem.Str), ("_law_bent_words" : PySem.Str), ("_law_bent" : PySem.Str), ("_law_same" : PySem.Str)] w := by
  intro os
  kernel_rfl
theorem tx_of {K : PySem.W.Frag} {h : Heap} {mg : Str → Option Value} (X : K.In h) (G : h.Ns mainGlobals mg) (c : He.SaysD faL fnL K) : Tx K mg :=
  ⟨c, fun x q => He.glo_ok X G q, fun x q => He.free_ok X G q, fun x z q => He.str_ok X G q, fun x z q => He.int_ok X G q⟩
end Lw
open PySem PySem.W PySem.Calls PyProof.Rows
set_option maxHeartbeats 0 in
theorem PySem.Challenge.cw_twobytwo_k25_wishes_holds : PySem.Challenge.rw_twobytwo_k25_wishes.Holds := by
  w_on; o_law
  refine HandSHeadRun.head_any (r := OpenLaw.row PySem.Challenge.rw_twobytwo_k25_wishes) (q := view (OpenLaw.row PySem.Challenge.rw_twobytwo_k25_wishes).prog [33]) (H := Lw.hkL) (ob := Lw.obL) (M := 2440) (loose := [("is_whole" : PySem.Str), ("divisor" : PySem.Str), ("is_number" : PySem.Str), ("under" : PySem.Str), ("is_told" : PySem.Str), ("LETTERS" : PySem.Str), ("is_word" : PySem.Str), ("MOST_WORDS" : PySem.Str), ("are_ends" : PySem.Str), ("are_pieces" : PySem.Str), ("are_words" : PySem.Str), ("is_wish" : PySem.Str), ("axis_word" : PySem.Str), ("_law_cell_at" : PySem.Str), ("_law_source" : PySem.Str), ("_law_draw" : PySem.Str), ("_law_great" : PySem.Str), ("_law_low" : PySem.Str), ("_law_ends" : PySem.Str), ("_law_word" : PySem.Str), ("_law_words" : PySem.Str), ("_law_good" : PySem.Str), ("_law_bent_number" : PySem.Str), ("_law_bent_ends" : PySem.Str), ("_law_bent_pieces" : PySem.Str), ("_law_bent_words" : PySem.Str), ("_law_bent" : PySem.Str), ("_law_same" : PySem.Str)]) (d := HandSHeadRun.topDef (OpenLaw.row PySem.Challenge.rw_twobytwo_k25_wishes).prog 33) (kwd := []) Lw.obL_eq
    (by kernel_rfl) (fun s => by kernel_rfl) Lw.runL (by kernel_rfl) (by kernel_rfl) (by kernel_rfl) (by rfl) (by first | assumption | decide +kernel) (by decide +kernel) ⟨rfl, rfl, rfl, rfl, rfl, by decide +kernel⟩ ?hw ?hc
  case hw => w_witness2
  case hc =>
    refine Dn.walk_ofEB (l := PySem.Challenge.rw_twobytwo_k25_wishes) (n := 63) (k := 8) (x := "script") (CX := fun w => L2.CX (PySem.Challenge.rw_twobytwo_k25_wishes).prog w) rfl (by decide) (by kernel_rfl) ⟨rfl, by decide, by decide⟩ ?F (fun _ _ _ _ _ z => by obtain ⟨_, _, _, _, _, _, _, _, _, _, _, _, q⟩ := z; exact q)
    intro w mg fa h Y G hmg0
    obtain ⟨K, KX, c⟩ := Y
    have hmg : mg ("law" : PySem.Str) = some (.ref fa) := by
      have e : (HandSHeadRun.topDef (OpenLaw.row PySem.Challenge.rw_twobytwo_k25_wishes).prog 33).name = ("law" : PySem.Str) := by kernel_rfl
      rw [← e]
      exact hmg0
    have T := Lw.tx_of KX G c
    have ef := hmg.symm.trans (Lw.g_law T)
    cases ef
    refine ⟨K, Lw.fd_law T, Dn.spD K (Dn.caK [] K) 1 Lw.m_law, KX, fun s v => (L2.FunD.bindsA (ps := ["script"]) (Lw.F_law T) fun _ _ _ _ _ _ us hl => match us, hl with | [_], _ => rfl) s [v] rfl, fun H a ns hl hb hS => ?_, fun base _ _ => Lw.ok_law T⟩
    obtain ⟨ls', e⟩ := Lw.law_true ns hl fun z hz => Dn.bits_lt (hb z hz)
    exact Dn.law_sp hS e
