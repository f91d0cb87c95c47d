import PyProof.Rows.All
import Wide.All
import OpenK.AllK
import Wide.FinOn
import HandS.ForMost
import HandS.ForExc
import HandS.Wide
import HandS.Walk
import HandS.CallSlots
import HandS.IsInst
import HandS.Style
import HandS.Deep
import HandS.Codes
import HandS.StrMore
import HandS.StrSplit
import HandS.WideBits
import HandS.Defaults
import HandS.Head0
import HandS.Head1
import HandS.Head2
import HandS.HeadEnd
import HandS.HeadHook1
import HandS.HeadHook2
import HandS.EndBits
import HandS.WordsExc
import HandS.Comp
import HandS.More
import HandS.SortKw
import PyProof.WalkInts
import PySem.Challenge.RW_twobytwo_k26_labels_that_fit
set_option Elab.async false
set_option linter.all false
set_option maxRecDepth 100000
set_option maxHeartbeats 4000000
namespace Dn
open PySem PySem.Spec PyProof.Rows L2

/-! ### data, cells, results -/
abbrev D := PyData
inductive L where
  | im (d : D)
  | ow (ds : List D)
  | bo (ds : List D)
def L.mu : L → Bool
  | .im _ => false
  | _ => true
abbrev En := List (Option L)
structure Exn where
  cls : String
  arg : Option (Str × D)
inductive R (α : Type) where
  | ok (a : α) (ρ : En)
  | ex (c : Exn) (ρ : En)
  | no
def R.bind {α β : Type} : R α → (α → En → R β) → R β
  | .ok a ρ, g => g a ρ
  | .ex c ρ, _ => .ex c ρ
  | .no, _ => .no

/-! ### how data stands in a heap -/
def kD : Key → PyData
  | .inl i => .int i
  | .inr s => .str s
mutual
inductive DR (K : PySem.W.Frag) (H : Hp) : V → PyData → Prop
  | non : DR K H .non .none
  | bl (b : Bool) : DR K H (.bl b) (.bool b)
  | int (i : Int) : DR K H (.int i) (.int i)
  | str (x : Str) : DR K H (.str x) (.str x)
  | lst {a : Addr} {xs : List V} {ds : List PyData} : SqL K H a xs → DRs K H xs ds → DR K H (.ref a) (.list ds)
  | tup {a : Addr} {xs : List V} {ds : List PyData} : SqT K H a xs → DRs K H xs ds → DR K H (.ref a) (.tuple ds)
  | dic {a : Addr} {kvs : List (Key × V)} {ds : List PyData} : H a = some (.dK kvs) → DRs K H (kvs.map (·.2)) ds → DR K H (.ref a) (.dict ((kvs.map fun p => kD p.1).zip ds))
inductive DRs (K : PySem.W.Frag) (H : Hp) : List V → List PyData → Prop
  | nil : DRs K H [] []
  | cons {v : V} {vs : List V} {d : PyData} {ds : List PyData} : DR K H v d → DRs K H vs ds → DRs K H (v :: vs) (d :: ds)
end

theorem Same.rd {H H' : Hp} {a : Addr} {o : HO} (e : Same H H') (h : Rd H a o) : Rd H' a o := by
  rcases h with h | ⟨o, h⟩
  · exact .inl (e _ _ h)
  · exact .inr ⟨o, e _ _ h⟩
theorem Same.tup {K : PySem.W.Frag} {H H' : Hp} {a : Addr} {xs : List V} (e : Same H H') (h : SqT K H a xs) : SqT K H' a xs := by
  rcases h with (h | ⟨o, h⟩) | h
  · exact .inl (.inl (e _ _ h))
  · exact .inl (.inr ⟨o, e _ _ h⟩)
  · exact .inr h
section
variable {K : PySem.W.Frag} {G H H' : Hp}
mutual
theorem DR.mono (e : Same H H') : ∀ {v : V} {d : PyData}, DR K H v d → DR K H' v d
  | _, _, .non => .non
  | _, _, .bl b => .bl b
  | _, _, .int i => .int i
  | _, _, .str x => .str x
  | _, _, .lst h hs => .lst (e.seq h) (DRs.mono e hs)
  | _, _, .tup h hs => .tup (Same.tup e h) (DRs.mono e hs)
  | _, _, .dic h hs => .dic (e _ _ h) (DRs.mono e hs)
theorem DRs.mono (e : Same H H') : ∀ {vs : List V} {ds : List PyData}, DRs K H vs ds → DRs K H' vs ds
  | _, _, .nil => .nil
  | _, _, .cons h t => .cons (DR.mono e h) (DRs.mono e t)
end
theorem DRs.length : ∀ {vs : List V} {ds : List PyData}, DRs K H vs ds → vs.length = ds.length
  | _, _, .nil => rfl
  | _, _, .cons _ t => by rw [List.length_cons, List.length_cons, DRs.length t]
theorem DRs.get : ∀ {vs : List V} {ds : List PyData} {i : Nat} {d : PyData}, DRs K H vs ds → ds[i]? = some d → ∃ v, vs[i]? = some v ∧ DR K H v d
  | _, _, _, _, .nil, e => by simp at e
  | _, _, 0, _, .cons h _, e => by simp at e; subst e; exact ⟨_, rfl, h⟩
  | _, _, i + 1, _, .cons _ t, e => by
    obtain ⟨v, h1, h2⟩ := DRs.get (i := i) t (by simpa using e)
    exact ⟨v, by simpa using h1, h2⟩
theorem DRs.append : ∀ {vs ws : List V} {ds es : List PyData}, DRs K H vs ds → DRs K H ws es → DRs K H (vs ++ ws) (ds ++ es)
  | _, _, _, _, .nil, s => s
  | _, _, _, _, .cons h t, s => .cons h (DRs.append t s)
theorem DRs.take : ∀ {vs : List V} {ds : List PyData} (n : Nat), DRs K H vs ds → DRs K H (vs.take n) (ds.take n)
  | _, _, 0, _ => .nil
  | _, _, _ + 1, .nil => .nil
  | _, _, n + 1, .cons h t => .cons h (DRs.take n t)
theorem DRs.drop : ∀ {vs : List V} {ds : List PyData} (n : Nat), DRs K H vs ds → DRs K H (vs.drop n) (ds.drop n)
  | _, _, 0, r => r
  | _, _, _ + 1, .nil => .nil
  | _, _, n + 1, .cons _ t => DRs.drop n t
theorem DRs.set {v : V} {d : PyData} (hv : DR K H v d) : ∀ {vs : List V} {ds : List PyData} (i : Nat), DRs K H vs ds → DRs K H (vs.set i v) (ds.set i d)
  | _, _, _, .nil => .nil
  | _, _, 0, .cons _ t => .cons hv t
  | _, _, i + 1, .cons h t => .cons h (DRs.set hv i t)
theorem DRs.erase : ∀ {vs : List V} {ds : List PyData} (i : Nat), DRs K H vs ds → DRs K H (vs.eraseIdx i) (ds.eraseIdx i)
  | _, _, _, .nil => .nil
  | _, _, 0, .cons _ t => t
  | _, _, i + 1, .cons h t => .cons h (DRs.erase i t)
theorem DRs.dropLast : ∀ {vs : List V} {ds : List PyData}, DRs K H vs ds → DRs K H vs.dropLast ds.dropLast := fun {vs ds} h => by
  rw [List.dropLast_eq_take, List.dropLast_eq_take, h.length]
  exact h.take _
theorem DRs.reverse : ∀ {vs : List V} {ds : List PyData}, DRs K H vs ds → DRs K H vs.reverse ds.reverse
  | _, _, .nil => .nil
  | _, _, .cons h t => by
    rw [List.reverse_cons, List.reverse_cons]
    exact DRs.append (DRs.reverse t) (.cons h .nil)
theorem DRs.ints : ∀ {vs : List V} {ns : List Int}, DRs K H vs (ns.map PyData.int) → vs = ns.map V.int
  | _, [], .nil => rfl
  | _, n :: r, .cons h t => by
    cases h
    rw [DRs.ints t]
    rfl
theorem DRs.ofInts : ∀ (ns : List Int), DRs K H (ns.map V.int) (ns.map PyData.int)
  | [] => .nil
  | n :: r => .cons (.int n) (DRs.ofInts r)
theorem DRs.strs : ∀ {vs : List V} {ns : List Str}, DRs K H vs (ns.map PyData.str) → vs = ns.map V.str
  | _, [], .nil => rfl
  | _, n :: r, .cons h t => by
    cases h
    rw [DRs.strs t]
    rfl
theorem DRs.ofStrs : ∀ (ns : List Str), DRs K H (ns.map V.str) (ns.map PyData.str)
  | [] => .nil
  | n :: r => .cons (.str n) (DRs.ofStrs r)
theorem DRs.bools : ∀ {vs : List V} {ns : List Bool}, DRs K H vs (ns.map PyData.bool) → vs = ns.map V.bl
  | _, [], .nil => rfl
  | _, n :: r, .cons h t => by
    cases h
    rw [DRs.bools t]
    rfl
end

/-! ### the frame's relation -/
def cellR (K : PySem.W.Frag) (G H : Hp) (v : V) : L → Prop
  | .im d => DR K G v d
  | .ow ds => ∃ o vs, v = .ref o ∧ G o = none ∧ H o = some (.lst vs) ∧ DRs K G vs ds
  | .bo ds => ∃ o vs, v = .ref o ∧ G o = none ∧ H o = some (.lst vs) ∧ DRs K G vs ds
/-- the mutable ones' addresses -/
def Own (σ : L2.St) (ρ : En) (a : Addr) : Prop := ∃ (i : Nat) (l : L), ρ[i]? = some (some l) ∧ l.mu = true ∧ σ[i]? = some (some (V.ref a))
structure Rel (K : PySem.W.Frag) (G H : Hp) (σ : L2.St) (ρ : En) : Prop where
  sub : Same G H
  len : σ.length = ρ.length
  cell : ∀ (i : Nat) (l : L), ρ[i]? = some (some l) → ∃ v, σ[i]? = some (some v) ∧ cellR K G H v l
  apart : ∀ (i j : Nat) (l m : L) (a : Addr), ρ[i]? = some (some l) → ρ[j]? = some (some m) → l.mu = true → m.mu = true → σ[i]? = some (some (V.ref a)) → σ[j]? = some (some (V.ref a)) → i = j
structure Stp (G H : Hp) (σ : L2.St) (ρ : En) (G' H' : Hp) (σ' : L2.St) (ρ' : En) : Prop where
  g : Same G G'
  h : ∀ a o, H a = some o → ¬ Own σ ρ a → H' a = some o
  fr : ∀ a, G' a ≠ none → G a ≠ none ∨ H a = none ∨ Own σ ρ a
  ow : ∀ a, Own σ' ρ' a → Own σ ρ a ∨ H a = none
  tr : ∀ a, H a ≠ none → H' a ≠ none
  ln : ρ'.length = ρ.length
  bo : ∀ (i : Nat) (ds : List D), ρ[i]? = some (some (L.bo ds)) → σ'[i]? = σ[i]? ∧ ∃ ds', ρ'[i]? = some (some (L.bo ds'))

section
variable {K : PySem.W.Frag} {G H G1 H1 G2 H2 : Hp} {σ σ1 σ2 : L2.St} {ρ ρ1 ρ2 : En}
theorem tracked_upd {p : Addr} {o : HO} : ∀ a, H a ≠ none → upd H p o a ≠ none := fun a h => by
  by_cases e : a = p
  · subst e; rw [upd_same]; exact fun z => nomatch z
  · rw [upd_ne e]; exact h
theorem mu_cell {v : V} {l : L} (h : cellR K G H v l) (m : l.mu = true) : ∃ o vs, v = .ref o ∧ G o = none ∧ H o = some (.lst vs) := by
  cases l with
  | im d => cases m
  | ow ds => obtain ⟨o, vs, e, g, q, _⟩ := h; exact ⟨o, vs, e, g, q⟩
  | bo ds => obtain ⟨o, vs, e, g, q, _⟩ := h; exact ⟨o, vs, e, g, q⟩
theorem Rel.own (r : Rel K G H σ ρ) {a : Addr} (h : Own σ ρ a) : G a = none ∧ ∃ vs, H a = some (.lst vs) := by
  obtain ⟨i, l, e, m, s⟩ := h
  obtain ⟨v, s', c⟩ := r.cell i l e
  rw [s] at s'
  cases s'
  obtain ⟨o, vs, e, g, q⟩ := mu_cell c m
  cases e
  exact ⟨g, vs, q⟩
theorem Stp.refl : Stp G H σ ρ G H σ ρ := ⟨Same.refl _, fun _ _ h _ => h, fun _ h => .inl h, fun _ h => .inl h, fun _ h => h, rfl, fun _ ds h => ⟨rfl, ds, h⟩⟩
theorem Stp.trans (r : Rel K G H σ ρ) (a : Stp G H σ ρ G1 H1 σ1 ρ1) (b : Stp G1 H1 σ1 ρ1 G2 H2 σ2 ρ2) : Stp G H σ ρ G2 H2 σ2 ρ2 := by
  refine ⟨a.g.trans b.g, fun x o h n => ?_, fun x h => ?_, fun x h => ?_, fun x h => b.tr x (a.tr x h), b.ln.trans a.ln, fun i ds h => ?_⟩
  · refine b.h x o (a.h x o h n) fun h1 => ?_
    rcases a.ow x h1 with z | z
    · exact n z
    · rw [h] at z; cases z
  · by_cases hx : Own σ ρ x
    · exact .inr (.inr hx)
    · rcases b.fr x h with z | z | z
      · exact a.fr x z
      · cases q : H x with
        | none => exact .inr (.inl rfl)
        | some o => rw [a.h x o q hx] at z; cases z
      · rcases a.ow x z with z | z
        · exact .inr (.inr z)
        · exact .inr (.inl z)
  · by_cases hx : Own σ ρ x
    · exact .inl hx
    · rcases b.ow x h with z | z
      · exact a.ow x z
      · cases q : H x with
        | none => exact .inr rfl
        | some o => rw [a.h x o q hx] at z; cases z
  · obtain ⟨e1, ds1, h1⟩ := a.bo i ds h
    obtain ⟨e2, ds2, h2⟩ := b.bo i ds1 h1
    exact ⟨e2.trans e1, ds2, h2⟩
/-- what the immutable part knows stays -/
theorem Rel.g_h (r : Rel K G H σ ρ) : Same G H := r.sub
/-- a new immutable object -/
theorem Rel.laid (r : Rel K G H σ ρ) {p : Addr} {o : HO} (hp : H p = none) : Rel K (upd G p o) (upd H p o) σ ρ ∧ Stp G H σ ρ (upd G p o) (upd H p o) σ ρ := by
  have hg : G p = none := Same.free r.sub hp
  have sg : Same G (upd G p o) := fun b x e => by rw [upd_ne (ne_of_none e hg)]; exact e
  have sh : Same H (upd H p o) := fun b x e => by rw [upd_ne (ne_of_none e hp)]; exact e
  refine ⟨⟨fun b x e => ?_, r.len, fun i l e => ?_, r.apart⟩, ⟨sg, fun a x e _ => sh a x e, fun a h => ?_, fun a h => .inl h, tracked_upd, rfl, fun i ds h => ⟨rfl, ds, h⟩⟩⟩
  · by_cases hb : b = p
    · subst hb; rw [upd_same] at e; rw [upd_same]; exact e
    · rw [upd_ne hb] at e; rw [upd_ne hb]; exact r.sub b x e
  · obtain ⟨v, s, c⟩ := r.cell i l e
    refine ⟨v, s, ?_⟩
    cases l with
    | im d => exact DR.mono sg c
    | ow ds =>
      obtain ⟨q, vs, e, g, hq, hd⟩ := c
      exact ⟨q, vs, e, by rw [upd_ne (ne_of_none hq hp)]; exact g, sh _ _ hq, DRs.mono sg hd⟩
    | bo ds =>
      obtain ⟨q, vs, e, g, hq, hd⟩ := c
      exact ⟨q, vs, e, by rw [upd_ne (ne_of_none hq hp)]; exact g, sh _ _ hq, DRs.mono sg hd⟩
  · by_cases ha : a = p
    · subst ha; exact .inr (.inl hp)
    · rw [upd_ne ha] at h; exact .inl h
/-- a new mutable object, not yet at a slot -/
theorem Rel.laidM (r : Rel K G H σ ρ) {p : Addr} {o : HO} (hp : H p = none) : Rel K G (upd H p o) σ ρ ∧ Stp G H σ ρ G (upd H p o) σ ρ := by
  have sh : Same H (upd H p o) := fun b x e => by rw [upd_ne (ne_of_none e hp)]; exact e
  refine ⟨⟨fun b x e => sh b x (r.sub b x e), r.len, fun i l e => ?_, r.apart⟩, ⟨Same.refl _, fun a x e _ => sh a x e, fun a h => .inl h, fun a h => .inl h, tracked_upd, rfl, fun i ds h => ⟨rfl, ds, h⟩⟩⟩
  obtain ⟨v, s, c⟩ := r.cell i l e
  refine ⟨v, s, ?_⟩
  cases l with
  | im d => exact c
  | ow ds =>
    obtain ⟨q, vs, e, g, hq, hd⟩ := c
    exact ⟨q, vs, e, g, sh _ _ hq, hd⟩
  | bo ds =>
    obtain ⟨q, vs, e, g, hq, hd⟩ := c
    exact ⟨q, vs, e, g, sh _ _ hq, hd⟩
end
end Dn
namespace Dn
open PySem PySem.Spec PyProof.Rows L2

theorem PE.imp {X : Cx} {e : Expr} {t t' : TE} (h : PE X e t) (i : ∀ σ H Q, t' σ H Q → t σ H Q) : PE X e t' := ⟨fun pins s σ H Q I q => h.run pins s σ H Q I (i _ _ _ q)⟩
theorem PT.imp {X : Cx} {e : Expr} {t t' : TT} (h : PT X e t) (i : ∀ σ H Q, t' σ H Q → t σ H Q) : PT X e t' := ⟨fun pins s σ H Q I q => h.run pins s σ H Q I (i _ _ _ q)⟩
theorem PW.imp {X : Cx} {e : Expr} {t t' : TT} (h : PW X e t) (i : ∀ σ H Q, t' σ H Q → t σ H Q) : PW X e t' := ⟨fun w pins s σ H Q I q => h.run w pins s σ H Q I (i _ _ _ q)⟩
theorem PA.imp {X : Cx} {es : List Expr} {t t' : TA} (h : PA X es t) (i : ∀ σ H Q, t' σ H Q → t σ H Q) : PA X es t' := ⟨fun p pins s σ H Q I q => h.run p pins s σ H Q I (i _ _ _ q)⟩
theorem PS.imp {X : Cx} {e : Stmt} {t t' : TS} (h : PS X e t) (i : ∀ D σ H, t' D σ H → t D σ H) : PS X e t' := ⟨fun pins s σ H D I q => h.run pins s σ H D I (i _ _ _ q)⟩
theorem PSs.imp {X : Cx} {e : List Stmt} {t t' : TS} (h : PSs X e t) (i : ∀ D σ H, t' D σ H → t D σ H) : PSs X e t' := ⟨fun pins s σ H D I q => h.run pins s σ H D I (i _ _ _ q)⟩
theorem PO.imp {X : Cx} {e : Option Expr} {t t' : TO} (h : PO X e t) (i : ∀ σ H Q, t' σ H Q → t σ H Q) : PO X e t' := ⟨fun pins s σ H Q I q => h.run pins s σ H Q I (i _ _ _ q)⟩

/-! ### what is wanted: of exceptions too -/
structure Wh where
  ca : String → Option Value
  W : WX
/-- an exception as it lies -/
structure ExR (K : PySem.W.Frag) (w : Wh) (G H : Hp) (c : Exn) (cls : Value) (dx : Option Addr) : Prop where
  hc : w.ca c.cls = some cls
  hn : c.arg = none → dx = none ∨ ∃ n, cls = Value.type n
  hs : ∀ f d, c.arg = some (f, d) → ∃ a v, dx = some a ∧ H a = some (.xd [(f, v)]) ∧ DR K G v d
section
variable {α β : Type}
def Fn (K : PySem.W.Frag) (w : Wh) (G H : Hp) (σ : L2.St) (ρ : En) (r : R α) (P : Hp → Hp → En → α → Prop) : Prop :=
  match r with
  | .no => False
  | .ok a ρ' => ∀ G' H', Rel K G' H' σ ρ' → Stp G H σ ρ G' H' σ ρ' → P G' H' ρ' a
  | .ex c ρ' => ∀ G' H' cls dx, Rel K G' H' σ ρ' → Stp G H σ ρ G' H' σ ρ' → ExR K w G' H' c cls dx → w.W cls dx σ H'
variable {K : PySem.W.Frag} {w : Wh} {G H : Hp} {σ : L2.St} {ρ : En}
theorem Fn.imp {r : R α} {P P' : Hp → Hp → En → α → Prop} (h : Fn K w G H σ ρ r P) (i : ∀ G' H' ρ' a, P G' H' ρ' a → P' G' H' ρ' a) : Fn K w G H σ ρ r P' := by
  cases r with
  | no => exact h
  | ok a ρ' => exact fun G' H' r s => i _ _ _ _ (h G' H' r s)
  | ex c ρ' => exact h
theorem Fn.bind {r : R α} {g : α → En → R β} {P : Hp → Hp → En → β → Prop} (rel : Rel K G H σ ρ) (h : Fn K w G H σ ρ (r.bind g) P) :
    Fn K w G H σ ρ r (fun G1 H1 ρ1 a => Rel K G1 H1 σ ρ1 ∧ Stp G H σ ρ G1 H1 σ ρ1 ∧ Fn K w G1 H1 σ ρ1 (g a ρ1) P) := by
  cases r with
  | no => exact h
  | ex c ρ' => exact h
  | ok a ρ' =>
    intro G1 H1 r1 s1
    refine ⟨r1, s1, ?_⟩
    have h' : Fn K w G H σ ρ (g a ρ') P := h
    cases q : g a ρ' with
    | no => rw [q] at h'; exact h'
    | ex c ρ2 => rw [q] at h'; exact fun G' H' cls dx r2 s2 => h' G' H' cls dx r2 (s1.trans rel s2)
    | ok b ρ2 => rw [q] at h'; exact fun G' H' r2 s2 => h' G' H' r2 (s1.trans rel s2)
def lift (o : Option α) (ρ : En) : R α := match o with
  | some a => .ok a ρ
  | none => .no
theorem Fn.lift {o : Option α} {P : Hp → Hp → En → α → Prop} (h : Fn K w G H σ ρ (lift o ρ) P) : ∃ a, o = some a ∧ ∀ G' H', Rel K G' H' σ ρ → Stp G H σ ρ G' H' σ ρ → P G' H' ρ a := by
  cases o with
  | none => exact h.elim
  | some a => exact ⟨a, rfl, h⟩
theorem Fn.ok {a : α} {P : Hp → Hp → En → α → Prop} (h : Fn K w G H σ ρ (.ok a ρ) P) (rel : Rel K G H σ ρ) : P G H ρ a := h G H rel Stp.refl
end

/-! ### the judgements -/
/-- what is wanted of a value -/
abbrev QD (K : PySem.W.Frag) (Q : VK) : Hp → Hp → En → D → Prop := fun G' H' _ d => ∀ v, DR K G' v d → Q v H'
abbrev QB (Q : Bool → Hp → Prop) : Hp → Hp → En → Bool → Prop := fun _ H' _ b => Q b H'
/-- a new list, nobody else's -/
structure NewL (K : PySem.W.Frag) (H : Hp) (σ : L2.St) (G' H' : Hp) (ρ' : En) (p : Addr) (ds : List D) : Prop where
  g : G' p = none
  own : ¬ Own σ ρ' p
  here : ∃ vs, H' p = some (.lst vs) ∧ DRs K G' vs ds
  new : H p = none
abbrev QN (K : PySem.W.Frag) (H : Hp) (σ : L2.St) (Q : VK) : Hp → Hp → En → List D → Prop := fun G' H' ρ' ds => ∀ p, NewL K H σ G' H' ρ' p ds → Q (.ref p) H'
/-- an argument: a value, or a slot lent -/
inductive AV where
  | im (d : D)
  | sl (i : Nat)
inductive AVs (K : PySem.W.Frag) (G : Hp) (σ : L2.St) : List V → List AV → Prop
  | nil : AVs K G σ [] []
  | im {v : V} {vs : List V} {d : D} {as : List AV} : DR K G v d → AVs K G σ vs as → AVs K G σ (v :: vs) (.im d :: as)
  | sl {v : V} {vs : List V} {i : Nat} {as : List AV} : σ[i]? = some (some v) → AVs K G σ vs as → AVs K G σ (v :: vs) (.sl i :: as)
abbrev QA (K : PySem.W.Frag) (σ : L2.St) (Q : List V → Hp → Prop) : Hp → Hp → En → List AV → Prop := fun G' H' _ as => ∀ vs, AVs K G' σ vs as → Q vs H'
abbrev QO (Q : Option Int → Hp → Prop) : Hp → Hp → En → Option Int → Prop := fun _ H' _ b => Q b H'

abbrev teD (K : PySem.W.Frag) (w : Wh) (f : En → R D) : TE := fun σ H Q => ∃ G ρ, Rel K G H σ ρ ∧ Fn K w G H σ ρ (f ρ) (QD K Q)
abbrev teN (K : PySem.W.Frag) (w : Wh) (f : En → R (List D)) : TE := fun σ H Q => ∃ G ρ, Rel K G H σ ρ ∧ Fn K w G H σ ρ (f ρ) (QN K H σ Q)
abbrev teB (K : PySem.W.Frag) (w : Wh) (f : En → R Bool) : TT := fun σ H Q => ∃ G ρ, Rel K G H σ ρ ∧ Fn K w G H σ ρ (f ρ) (QB Q)
abbrev teA (K : PySem.W.Frag) (w : Wh) (f : En → R (List AV)) : TA := fun σ H Q => ∃ G ρ, Rel K G H σ ρ ∧ Fn K w G H σ ρ (f ρ) (QA K σ Q)
abbrev teO (K : PySem.W.Frag) (w : Wh) (f : En → R (Option Int)) : TO := fun σ H Q => ∃ G ρ, Rel K G H σ ρ ∧ Fn K w G H σ ρ (f ρ) (QO Q)
abbrev VE (X : Cx) (w : Wh) (e : Expr) (f : En → R D) : Prop := PE X e (teD X.K w f)
abbrev VN (X : Cx) (w : Wh) (e : Expr) (f : En → R (List D)) : Prop := PE X e (teN X.K w f)
abbrev VT (X : Cx) (w : Wh) (e : Expr) (f : En → R Bool) : Prop := PT X e (teB X.K w f)
abbrev VW (X : Cx) (w : Wh) (e : Expr) (f : En → R Bool) : Prop := PW X e (teB X.K w f)
abbrev VA (X : Cx) (w : Wh) (es : List Expr) (f : En → R (List AV)) : Prop := PA X es (teA X.K w f)
abbrev VO (X : Cx) (w : Wh) (e : Option Expr) (f : En → R (Option Int)) : Prop := PO X e (teO X.K w f)

/-! ### names and constants -/
def frz (i : Nat) (ds : List D) (ρ : En) : En := ρ.set i (some (.im (.list ds)))
def dVar (i : Nat) : En → R D := fun ρ => match ρ[i]? with
  | some (some (.im d)) => .ok d ρ
  | some (some (.ow ds)) => .ok (.list ds) (frz i ds ρ)
  | _ => .no
def dC (d : D) : En → R D := fun ρ => .ok d ρ
section
variable {K : PySem.W.Frag} {G H : Hp} {σ : L2.St} {ρ : En}
/-- a slot's list becomes a datum -/
theorem Rel.freeze (r : Rel K G H σ ρ) {i : Nat} {ds : List D} (h : ρ[i]? = some (some (L.ow ds))) :
    ∃ G' o, σ[i]? = some (some (V.ref o)) ∧ Rel K G' H σ (frz i ds ρ) ∧ Stp G H σ ρ G' H σ (frz i ds ρ) ∧ DR K G' (.ref o) (.list ds) := by
  obtain ⟨v, s, c⟩ := r.cell i _ h
  obtain ⟨o, vs, rfl, g, q, hd⟩ := c
  have hi : i < ρ.length := (List.getElem?_eq_some_iff.mp h).1
  have sg : Same G (upd G o (.lst vs)) := fun b x e => by rw [upd_ne (ne_of_none e g)]; exact e
  have own_o : Own σ ρ o := ⟨i, _, h, rfl, s⟩
  have lk : ∀ j, j ≠ i → (frz i ds ρ)[j]? = ρ[j]? := fun j hj => by
    unfold frz; rw [List.getElem?_set_ne (Ne.symm hj)]
  have lki : (frz i ds ρ)[i]? = some (some (.im (.list ds))) := by
    unfold frz; rw [List.getElem?_set_self hi]
  have hDR : DR K (upd G o (.lst vs)) (.ref o) (.list ds) := .lst (.inl (.inl upd_same)) (DRs.mono sg hd)
  refine ⟨upd G o (.lst vs), o, s, ⟨fun b x e => ?_, ?_, fun j l e => ?_, fun j k l m a ej ek lj mk sj sk => ?_⟩, ⟨sg, fun a x e _ => e, fun a ha => ?_, fun a ha => .inl ?_, fun _ h => h, by unfold frz; rw [List.length_set], fun j es e => ⟨rfl, ?_⟩⟩, hDR⟩
  · by_cases hb : b = o
    · subst hb; rw [upd_same] at e; cases e; exact q
    · rw [upd_ne hb] at e; exact r.sub b x e
  · unfold frz; rw [List.length_set]; exact r.len
  · by_cases hj : j = i
    · subst hj; rw [lki] at e; cases e
      exact ⟨_, s, hDR⟩
    · rw [lk j hj] at e
      obtain ⟨v, s', c⟩ := r.cell j l e
      refine ⟨v, s', ?_⟩
      have away : ∀ o', v = V.ref o' → l.mu = true → o' ≠ o := fun o' ev ml eo => by
        subst ev; subst eo
        exact hj (r.apart j i l _ o' e h ml rfl s' s)
      cases l with
      | im d => exact DR.mono sg c
      | ow es =>
        obtain ⟨o', ws, rfl, g', q', hd'⟩ := c
        exact ⟨o', ws, rfl, by rw [upd_ne (away o' rfl rfl)]; exact g', q', DRs.mono sg hd'⟩
      | bo es =>
        obtain ⟨o', ws, rfl, g', q', hd'⟩ := c
        exact ⟨o', ws, rfl, by rw [upd_ne (away o' rfl rfl)]; exact g', q', DRs.mono sg hd'⟩
  · have hj : j ≠ i := fun z => by subst z; rw [lki] at ej; cases ej; cases lj
    have hk : k ≠ i := fun z => by subst z; rw [lki] at ek; cases ek; cases mk
    rw [lk j hj] at ej
    rw [lk k hk] at ek
    exact r.apart j k l m a ej ek lj mk sj sk
  · by_cases hb : a = o
    · subst hb; exact .inr (.inr own_o)
    · rw [upd_ne hb] at ha; exact .inl ha
  · obtain ⟨j, l, e, m, s'⟩ := ha
    have hj : j ≠ i := fun z => by subst z; rw [lki] at e; cases e; cases m
    rw [lk j hj] at e
    exact ⟨j, l, e, m, s'⟩
  · have hj : j ≠ i := fun z => by subst z; rw [h] at e; cases e
    exact ⟨es, by rw [lk j hj]; exact e⟩
end
section
variable {X : Cx} {w : Wh}
theorem ve_var (i : Nat) {x : Str} {pos : Pos} (hN : X.N[i]? = some x := by rfl) (hv : Vis X.env.scope x := by first | exact Or.inl rfl | exact Or.inr (Or.inl rfl) | exact Or.inr (Or.inr rfl)) (hd : (x == ("__debug__" : Str)) = false := by decide)
    (hcd : (x == ("__classdict__" : Str)) = false := by decide) : VE X w (.Name x pos) (dVar i) := by
  refine PE.imp (pe_var hN hv hd hcd) fun σ H Q ⟨G, ρ, r, h⟩ => ?_
  unfold dVar at h
  cases e : ρ[i]? with
  | none => rw [e] at h; exact h.elim
  | some o =>
    rw [e] at h
    cases o with
    | none => exact h.elim
    | some l =>
      cases l with
      | im d =>
        obtain ⟨v, s, c⟩ := r.cell i _ e
        exact ⟨v, s, h.ok r v c⟩
      | ow ds =>
        obtain ⟨G', o, s, r', st, hd⟩ := r.freeze e
        exact ⟨.ref o, s, h G' H r' st _ hd⟩
      | bo ds => exact h.elim
theorem ve_int {i : Int} {j : Nat} {pos : Pos} : VE X w (.Constant (.int i) j pos) (dC (.int i)) := PE.imp pe_int fun _ _ _ ⟨_, _, r, h⟩ => h.ok r _ (.int i)
end
end Dn
namespace Dn
open PySem PySem.Spec PyProof.Rows L2

/-! ### what operators do to data -/
def gAdd : D → D → Option D
  | .int i, .int j => some (.int (i + j))
  | .str a, .str b => if a.length + b.length ≤ sizeLine then some (.str (a ++ b)) else none
  | .list a, .list b => if a.length + b.length ≤ sizeLine then some (.list (a ++ b)) else none
  | .tuple a, .tuple b => if a ≠ [] ∧ a.length + b.length ≤ sizeLine then some (.tuple (a ++ b)) else none
  | _, _ => none
def gSub : D → D → Option D
  | .int i, .int j => some (.int (i - j))
  | _, _ => none
def gMul : D → D → Option D
  | .int i, .int j => if i.natAbs.log2 + j.natAbs.log2 < 100000000 then some (.int (i * j)) else none
  | _, _ => none
def gFdiv : D → D → Option D
  | .int i, .int j => if j ≠ 0 ∧ j.natAbs.log2 < 9000 then some (.int (i.fdiv j)) else none
  | _, _ => none
def gMod : D → D → Option D
  | .int i, .int j => if j ≠ 0 then some (.int (i.fmod j)) else none
  | _, _ => none
def gPow : D → D → Option D
  | .int i, .int j => if 0 ≤ j ∧ j ≤ 1000000 ∧ i.natAbs < 2 ^ 64 then some (.int (i ^ j.toNat)) else none
  | _, _ => none
def OpS (K : PySem.W.Frag) (r : R2) (g : D → D → Option D) : Prop :=
  ∀ (w : Wh) (x y : V) (dx dy d : D) (G H : Hp) (σ : L2.St) (ρ : En) (Q : VK), Rel K G H σ ρ → DR K G x dx → DR K G y dy → g dx dy = some d →
    (∀ G' H', Rel K G' H' σ ρ → Stp G H σ ρ G' H' σ ρ → ∀ v, DR K G' v d → Q v H') → r x y H Q
def dOp (g : D → D → Option D) (fa fb : En → R D) : En → R D := fun ρ => (fa ρ).bind fun x ρ1 => (fb ρ1).bind fun y ρ2 => lift (g x y) ρ2
section
variable {K : PySem.W.Frag} {G H : Hp} {σ : L2.St} {ρ : En}
/-- a new immutable thing is handed on -/
theorem hand_new (r : Rel K G H σ ρ) {Q : VK} {d : D} (q : ∀ G' H', Rel K G' H' σ ρ → Stp G H σ ρ G' H' σ ρ → ∀ v, DR K G' v d → Q v H') {o : HO}
    (mk : ∀ p, H p = none → DR K (upd G p o) (.ref p) d) : ∀ p, H p = none → Q (.ref p) (upd H p o) := fun p hp => by
  obtain ⟨r', s'⟩ := r.laid (o := o) hp
  exact q _ _ r' s' _ (mk p hp)
theorem same_laid (r : Rel K G H σ ρ) {p : Addr} {o : HO} (hp : H p = none) : Same G (upd G p o) := (r.laid (o := o) hp).2.g
theorem DR.newT (r : Rel K G H σ ρ) {vs : List V} {ds : List D} (h : DRs K G vs ds) : ∀ p, H p = none → DR K (upd G p (.tup vs)) (.ref p) (.tuple ds) := fun p hp =>
  .tup (.inl (.inl upd_same)) (h.mono (same_laid r hp))
theorem DR.newL (r : Rel K G H σ ρ) {vs : List V} {ds : List D} (h : DRs K G vs ds) : ∀ p, H p = none → DR K (upd G p (.lst vs)) (.ref p) (.list ds) := fun p hp =>
  .lst (.inl (.inl upd_same)) (h.mono (same_laid r hp))
end
section
variable {X : Cx} {w : Wh}
/-- lists that are read -/
def rCatR (K : PySem.W.Frag) : R2 := fun x y H Q => ∃ l b xs zs, x = .ref l ∧ y = .ref b ∧ SqL K H l xs ∧ SqL K H b zs ∧ xs.length + zs.length ≤ sizeLine ∧ ∀ p, H p = none → Q (.ref p) (upd H p (.lst (xs ++ zs)))
theorem op_catR : OpR X (binaryOp .Add) (rCatR X.K) := by
  intro pins s σ H x y v u Q I rx ry h
  obtain ⟨l, b, xs, zs, rfl, rfl, hH, hB, hz, q⟩ := h
  cases rx
  cases ry
  obtain ⟨its, r, ⟨⟨cls, dd, data, sl⟩, n, ho, hc, hdn, hd⟩, z⟩ := I.list hH
  obtain ⟨its2, r2, ⟨⟨cls2, dd2, data2, sl2⟩, n2, ho2, hc2, hdn2, hd2⟩, z2⟩ := I.list hB
  simp only at hc hd hc2 hd2
  subst hc hd hc2 hd2
  have hl := r.length
  have hl2 := r2.length
  have ea : its.toArray ++ its2.toArray = (its ++ its2).toArray := by simp
  refine concat_meets ⟨_, ho, rfl⟩ ⟨_, ho2, rfl⟩ noFill_list_add seq_list_add PySem.F.slot_list_add PySem.F.entry_list_add (PySem.F.args_list_add_2 _ _) (list_addW l b its.toArray its2.toArray n n2 dd dd2 sl sl2 (by rw [List.size_toArray, List.size_toArray]; omega)) ⟨ho, ho2, ?_⟩
  rw [ea]
  exact ⟨.ref _, _, I.lnew (t' := s.toks) (r.append r2) (by rw [List.length_append]; omega), rfl, q _ I.fresh⟩
def rAddA (K : PySem.W.Frag) : R2 := fun x y H Q => (∃ i j, x = .int i ∧ y = .int j ∧ Q (.int (i + j)) H) ∨ (∃ i j, x = .str i ∧ y = .str j ∧ i.length + j.length ≤ sizeLine ∧ Q (.str (i ++ j)) H) ∨ rCatR K x y H Q ∨ rCatT K x y H Q
theorem op_addA : OpR X (binaryOp .Add) (rAddA X.K) := op_add.or (op_add_str.or (op_catR.or op_catT))
theorem os_add : OpS X.K (rAddA X.K) gAdd := by
  intro w x y dx dy d G H σ ρ Q r hx hy e q
  cases hx with
  | int i =>
    cases hy with
    | int j => cases e; exact .inl ⟨i, j, rfl, rfl, q _ _ r Stp.refl _ (.int _)⟩
    | _ => cases e
  | str a =>
    cases hy with
    | str b =>
      simp only [gAdd] at e
      split at e
      · cases e; exact .inr (.inl ⟨a, b, rfl, rfl, ‹_›, q _ _ r Stp.refl _ (.str _)⟩)
      · cases e
    | _ => cases e
  | @lst a xs ds h hs =>
    cases hy with
    | @lst b ys es h' hs' =>
      simp only [gAdd] at e
      split at e
      · rename_i hz
        cases e
        refine .inr (.inr (.inl ⟨a, b, xs, ys, rfl, rfl, r.sub.seq h, r.sub.seq h', ?_, hand_new r q (DR.newL r (hs.append hs'))⟩))
        rw [hs.length, hs'.length]; exact hz
      · cases e
    | _ => cases e
  | @tup a xs ds h hs =>
    cases hy with
    | @tup b ys es h' hs' =>
      simp only [gAdd] at e
      split at e
      · rename_i hz
        cases e
        refine .inr (.inr (.inr ⟨a, b, xs, ys, rfl, rfl, Same.tup r.sub h, Same.tup r.sub h', ?_, ?_, fun hn => ?_, fun hn => hand_new r q (DR.newT r (hs.append hs'))⟩))
        · intro hn; subst hn; cases hs; exact hz.1 rfl
        · rw [hs.length, hs'.length]; exact hz.2
        · subst hn; cases hs'
          rw [List.append_nil] at q
          exact q _ _ r Stp.refl _ (.tup h hs)
      · cases e
    | _ => cases e
  | _ => cases e
/-- ints alone -/
theorem os_int {C : Int → Int → Prop} {g : Int → Int → Int} {gd : D → D → Option D} {K : PySem.W.Frag} (hg : ∀ a b d, gd a b = some d → ∃ i j, a = .int i ∧ b = .int j ∧ C i j ∧ d = .int (g i j)) : OpS K (rI C fun i j => .int (g i j)) gd := by
  intro w x y dx dy d G H σ ρ Q r hx hy e q
  obtain ⟨i, j, rfl, rfl, c, rfl⟩ := hg _ _ _ e
  cases hx
  cases hy
  exact ⟨i, j, rfl, rfl, c, q _ _ r Stp.refl _ (.int _)⟩
theorem op_subA : OpR X (binaryOp .Sub) (rI (fun _ _ => True) fun i j => .int (i - j)) := opI fun _ _ _ _ _ _ _ _ q => sub_int q
theorem os_sub {K : PySem.W.Frag} : OpS K (rI (fun _ _ => True) fun i j => .int (i - j)) gSub := os_int fun a b d e => by
  cases a <;> cases b <;> first | (cases e; done) | (cases e; exact ⟨_, _, rfl, rfl, trivial, rfl⟩)
theorem mulX_log {i j : Int} (h : i.natAbs.log2 + j.natAbs.log2 < 100000000) : CMulX i j :=
  mulx_ok (a := i.natAbs.log2 + 1) (b := j.natAbs.log2 + 1) Nat.lt_log2_self Nat.lt_log2_self (by omega)
theorem os_mul {K : PySem.W.Frag} : OpS K (rI CMulX fun i j => .int (i * j)) gMul := os_int fun a b d e => by
  cases a <;> cases b <;> first | (cases e; done) | (simp only [gMul] at e; split at e <;> cases e; exact ⟨_, _, rfl, rfl, mulX_log ‹_›, rfl⟩)
def CDivX (_ j : Int) : Prop := j ≠ 0 ∧ j.natAbs.log2 < 9000
theorem op_fdivX : OpR X (binaryOp .FloorDiv) (rI CDivX fun i j => .int (i.fdiv j)) := opI fun _ _ _ _ _ _ _ hc q => floordiv_int hc.1 q (.inl (PyProof.noPylong_of_log2 hc.2))
theorem os_fdiv {K : PySem.W.Frag} : OpS K (rI CDivX fun i j => .int (i.fdiv j)) gFdiv := os_int fun a b d e => by
  cases a <;> cases b <;> first | (cases e; done) | (simp only [gFdiv] at e; split at e <;> cases e; exact ⟨_, _, rfl, rfl, ‹_›, rfl⟩)
theorem os_mod {K : PySem.W.Frag} : OpS K (rI (fun _ j => j ≠ 0) fun i j => .int (i.fmod j)) gMod := os_int fun a b d e => by
  cases a <;> cases b <;> first | (cases e; done) | (simp only [gMod] at e; split at e <;> cases e; exact ⟨_, _, rfl, rfl, ‹_›, rfl⟩)
theorem os_pow {K : PySem.W.Frag} : OpS K (rI CPow fun i j => .int (i ^ j.toNat)) gPow := os_int fun a b d e => by
  cases a <;> cases b <;> first | (cases e; done) | (simp only [gPow] at e; split at e <;> cases e; exact ⟨_, _, rfl, rfl, ‹_›, rfl⟩)

theorem ve_op {op : Operator} {r : R2} {g : D → D → Option D} {a b : Expr} {fa fb : En → R D} {pos : Pos} (ho : OpR X (binaryOp op) r) (hs : OpS X.K r g) (ha : VE X w a fa) (hb : VE X w b fb) : VE X w (.BinOp a op b pos) (dOp g fa fb) := by
  refine PE.imp (pe_op ho ha hb) fun σ H Q ⟨G, ρ, rel, h⟩ => ⟨G, ρ, rel, (Fn.bind rel h).imp fun G1 H1 ρ1 dx ⟨r1, s1, h1⟩ x hx => ⟨G1, ρ1, r1, (Fn.bind r1 h1).imp fun G2 H2 ρ2 dy ⟨r2, s2, h2⟩ y hy => ?_⟩⟩
  obtain ⟨d, e, q⟩ := Fn.lift h2
  exact hs w x y dx dy d G2 H2 σ ρ2 Q r2 (hx.mono s2.g) hy e q
theorem ve_add {a b : Expr} {fa fb : En → R D} {pos : Pos} (ha : VE X w a fa) (hb : VE X w b fb) : VE X w (.BinOp a .Add b pos) (dOp gAdd fa fb) := ve_op op_addA os_add ha hb
theorem ve_sub {a b : Expr} {fa fb : En → R D} {pos : Pos} (ha : VE X w a fa) (hb : VE X w b fb) : VE X w (.BinOp a .Sub b pos) (dOp gSub fa fb) := ve_op op_subA os_sub ha hb
theorem ve_mul {a b : Expr} {fa fb : En → R D} {pos : Pos} (ha : VE X w a fa) (hb : VE X w b fb) : VE X w (.BinOp a .Mult b pos) (dOp gMul fa fb) := ve_op op_mulX os_mul ha hb
theorem ve_fdiv {a b : Expr} {fa fb : En → R D} {pos : Pos} (ha : VE X w a fa) (hb : VE X w b fb) : VE X w (.BinOp a .FloorDiv b pos) (dOp gFdiv fa fb) := ve_op op_fdivX os_fdiv ha hb
theorem ve_mod {a b : Expr} {fa fb : En → R D} {pos : Pos} (ha : VE X w a fa) (hb : VE X w b fb) : VE X w (.BinOp a .Mod b pos) (dOp gMod fa fb) := ve_op op_modN os_mod ha hb
theorem ve_pow {a b : Expr} {fa fb : En → R D} {pos : Pos} (ha : VE X w a fa) (hb : VE X w b fb) : VE X w (.BinOp a .Pow b pos) (dOp gPow fa fb) := ve_op op_pow os_pow ha hb

/-! ### one-place operators -/
def gNeg : D → Option D
  | .int i => some (.int (-i))
  | _ => none
def d1 (g : D → Option D) (fa : En → R D) : En → R D := fun ρ => (fa ρ).bind fun x ρ1 => lift (g x) ρ1
theorem ve_neg {a : Expr} {fa : En → R D} {pos : Pos} (ha : VE X w a fa) : VE X w (.UnaryOp .USub a pos) (d1 gNeg fa) := by
  refine PE.imp (pe_un un_neg ha) fun σ H Q ⟨G, ρ, rel, h⟩ => ⟨G, ρ, rel, (Fn.bind rel h).imp fun G1 H1 ρ1 dx ⟨r1, s1, h1⟩ x hx => ?_⟩
  obtain ⟨d, e, q⟩ := Fn.lift h1
  cases hx with
  | int i => cases e; exact ⟨i, rfl, q _ _ r1 Stp.refl _ (.int _)⟩
  | _ => cases e

/-! ### comparisons -/
def shp (d : D) : Bool := SeqAt.shaped d
def gEq (a b : D) : Option Bool := if shp a = true ∧ shp b = true then some (PyData.eqv a b) else none
def gNe (a b : D) : Option Bool := (gEq a b).map (!·)
def gLt : D → D → Option Bool
  | .int i, .int j => some (decide (i < j))
  | .str a, .str b => some (decide (a.cps.toList < b.cps.toList))
  | _, _ => none
def gLe : D → D → Option Bool
  | .int i, .int j => some (decide (i ≤ j))
  | .str a, .str b => some (!decide (b.cps.toList < a.cps.toList))
  | _, _ => none
def gGt : D → D → Option Bool
  | .int i, .int j => some (decide (j < i))
  | .str a, .str b => some (decide (b.cps.toList < a.cps.toList))
  | _, _ => none
def gGe : D → D → Option Bool
  | .int i, .int j => some (decide (j ≤ i))
  | .str a, .str b => some (!decide (a.cps.toList < b.cps.toList))
  | _, _ => none
def gIs : D → D → Option Bool
  | x, .none => some (match x with | .none => true | _ => false)
  | .bool a, .bool b => some (decide (a = b))
  | .none, .bool _ => some false
  | .tuple _, .bool _ => some false
  | .list _, .bool _ => some false
  | _, _ => none
def gIsNot (a b : D) : Option Bool := (gIs a b).map (!·)
def OpB (K : PySem.W.Frag) (r : R2) (g : D → D → Option Bool) : Prop :=
  ∀ (x y : V) (dx dy : D) (b : Bool) (H : Hp) (Q : VK), DR K H x dx → DR K H y dy → g dx dy = some b → Q (.bl b) H → r x y H Q
def dCmp (g : D → D → Option Bool) (fa fb : En → R D) : En → R Bool := fun ρ => (fa ρ).bind fun x ρ1 => (fb ρ1).bind fun y ρ2 => lift (g x y) ρ2
/-- a truth as a value -/
def dB (f : En → R Bool) : En → R D := fun ρ => (f ρ).bind fun b ρ1 => .ok (.bool b) ρ1
theorem vt_cmp {op : CmpOp} {r : R2} {g : D → D → Option Bool} {a b : Expr} {fa fb : En → R D} {pos : Pos} (ho : OpR X (compareOp op) r) (hs : OpB X.K r g) (ha : VE X w a fa) (hb : VE X w b fb) (hm : behindInMarks op b = false) :
    VT X w (.Compare a [op] [b] pos) (dCmp g fa fb) := by
  refine PT.imp (pt_cmpR ho ha hb hm) fun σ H Q ⟨G, ρ, rel, h⟩ => ⟨G, ρ, rel, (Fn.bind rel h).imp fun G1 H1 ρ1 dx ⟨r1, s1, h1⟩ x hx => ⟨G1, ρ1, r1, (Fn.bind r1 h1).imp fun G2 H2 ρ2 dy ⟨r2, s2, h2⟩ y hy => ?_⟩⟩
  obtain ⟨d, e, q⟩ := Fn.lift h2
  exact hs x y dx dy d H2 _ ((hx.mono s2.g).mono r2.sub) (hy.mono r2.sub) e ⟨d, rfl, q _ _ r2 Stp.refl⟩
theorem ve_cmp {op : CmpOp} {r : R2} {g : D → D → Option Bool} {a b : Expr} {fa fb : En → R D} {pos : Pos} (ho : OpR X (compareOp op) r) (hs : OpB X.K r g) (ha : VE X w a fa) (hb : VE X w b fb) (hm : behindInMarks op b = false) :
    VE X w (.Compare a [op] [b] pos) (dB (dCmp g fa fb)) := by
  refine PE.imp (pe_cmpR ho ha hb hm) fun σ H Q ⟨G, ρ, rel, h⟩ => ⟨G, ρ, rel, (Fn.bind rel (Fn.bind rel h |>.imp (P' := fun G1 H1 ρ1 (b : Bool) => ∀ v, DR X.K G1 v (.bool b) → Q v H1) (fun G1 H1 ρ1 b ⟨r1, s1, h1⟩ => fun v hv => h1.ok r1 v hv))).imp fun G1 H1 ρ1 dx ⟨r1, s1, h1⟩ x hx => ⟨G1, ρ1, r1, (Fn.bind r1 h1).imp fun G2 H2 ρ2 dy ⟨r2, s2, h2⟩ y hy => ?_⟩⟩
  obtain ⟨d, e, q⟩ := Fn.lift h2
  exact hs x y dx dy d H2 _ ((hx.mono s2.g).mono r2.sub) (hy.mono r2.sub) e (q _ _ r2 Stp.refl _ (.bl d))
end
end Dn
namespace Dn
open PySem PySem.Spec PyProof.Rows L2

/-! ### data that == and in take -/
section
variable {K : PySem.W.Frag} {H : Hp}
mutual
theorem DR.dp : ∀ {d : PyData} {v : V}, DR K H v d → d.canLay0 = true → Dp K H v d
  | _, _, .non, _ => .non
  | _, _, .bl b, _ => .bl b
  | _, _, .int i, _ => .int i
  | _, _, .str x, _ => .str x
  | _, _, .lst h hs, c => .lst h (DRs.dp hs (by simpa [PyData.canLay0] using c))
  | _, _, .tup h hs, c => .tup h (DRs.dp hs (by simpa [PyData.canLay0] using c))
  | _, _, .dic _ _, c => by simp [PyData.canLay0] at c
theorem DRs.dp : ∀ {ds : List PyData} {vs : List V}, DRs K H vs ds → PyData.canLayAll0 ds = true → DpAll K H vs ds
  | _, _, .nil, _ => .nil
  | _, _, .cons h t, c => by
    have c' := c
    simp only [PyData.canLayAll0, Bool.and_eq_true] at c'
    exact .cons (DR.dp h c'.1) (DRs.dp t c'.2)
end
theorem shp_can {d : PyData} (h : shp d = true) : d.canLay0 = true := SeqAt.canLay_of_shaped h
end
theorem room_in_shaped' {A : Around} {xs : List PyData} {d : PyData} (hd : shp d = true) (hu : A.units + 65 < cLine) : A.units + 1 + min (PyData.depthAll xs) d.depth < cLine := by
  have h1 : d.depth ≤ 64 := SeqAt.depth_of_shaped hd
  have h2 : min (PyData.depthAll xs) d.depth ≤ d.depth := Nat.min_le_right _ _
  omega
def gInD (x : D) (y : D) : Option Bool := match y with
  | .list ds => if shp x = true ∧ shp (.list ds) = true then some (ds.any fun z => PyData.eqv z x) else none
  | .tuple ds => if shp x = true ∧ shp (.tuple ds) = true then some (ds.any fun z => PyData.eqv z x) else none
  | _ => none
def gInS (x : D) (y : D) : Option Bool := match x, y with
  | .str a, .str b => some (match a.cps.toList with
    | [c] => decide (c ∈ b.cps.toList)
    | _ => !(Builtin.Str.occurrences b a 0 b.length 1).isEmpty)
  | _, _ => none
def gIn (x y : D) : Option Bool := match y with
  | .str _ => gInS x y
  | _ => gInD x y
def gNotIn (x y : D) : Option Bool := (gIn x y).map (!·)
section
variable {X : Cx} {w : Wh}
theorem ob_eq : OpB X.K (rEqD X.K) gEq := by
  intro x y dx dy b H Q hx hy e q
  simp only [gEq] at e
  split at e
  · rename_i h
    cases e
    exact ⟨dx, dy, hx.dp (shp_can h.1), hy.dp (shp_can h.2), h.1, h.2, q⟩
  · cases e
theorem ob_ne : OpB X.K (rNeD X.K) gNe := by
  intro x y dx dy b H Q hx hy e q
  simp only [gNe, gEq] at e
  split at e
  · rename_i h
    cases e
    exact ⟨dx, dy, hx.dp (shp_can h.1), hy.dp (shp_can h.2), h.1, h.2, q⟩
  · cases e
def rOrdA (p : Int → Int → Bool) (q : Str → Str → Bool) : R2 := fun x y H Q => (∃ i j, x = .int i ∧ y = .int j ∧ Q (.bl (p i j)) H) ∨ (∃ i j, x = .str i ∧ y = .str j ∧ Q (.bl (q i j)) H)
theorem op_ltA : OpR X (compareOp .Lt) (rOrdA (fun i j => decide (i < j)) fun a b => decide (a.cps.toList < b.cps.toList)) := op_lt.or op_lt_str
theorem op_leA : OpR X (compareOp .LtE) (rOrdA (fun i j => decide (i ≤ j)) fun a b => !decide (b.cps.toList < a.cps.toList)) := op_le.or op_le_str
theorem op_gtA : OpR X (compareOp .Gt) (rOrdA (fun i j => decide (j < i)) fun a b => decide (b.cps.toList < a.cps.toList)) := op_gt.or op_gt_str
theorem op_geA : OpR X (compareOp .GtE) (rOrdA (fun i j => decide (j ≤ i)) fun a b => !decide (a.cps.toList < b.cps.toList)) := op_ge.or op_ge_str
theorem ob_ord {p : Int → Int → Bool} {q : Str → Str → Bool} {g : D → D → Option Bool} {K : PySem.W.Frag} (h1 : ∀ i j, g (.int i) (.int j) = some (p i j)) (h2 : ∀ i j, g (.str i) (.str j) = some (q i j))
    (h3 : ∀ x y b, g x y = some b → (∃ i j, x = .int i ∧ y = .int j) ∨ ∃ i j, x = .str i ∧ y = .str j) : OpB K (rOrdA p q) g := by
  intro x y dx dy b H Q hx hy e k
  rcases h3 _ _ _ e with ⟨i, j, rfl, rfl⟩ | ⟨i, j, rfl, rfl⟩
  · cases hx; cases hy
    rw [h1] at e; cases e
    exact .inl ⟨i, j, rfl, rfl, k⟩
  · cases hx; cases hy
    rw [h2] at e; cases e
    exact .inr ⟨i, j, rfl, rfl, k⟩
theorem ob_lt {K : PySem.W.Frag} : OpB K (rOrdA (fun i j => decide (i < j)) fun a b => decide (a.cps.toList < b.cps.toList)) gLt := ob_ord (fun _ _ => rfl) (fun _ _ => rfl) fun x y b e => by
  cases x <;> cases y <;> first | (cases e; done) | exact .inl ⟨_, _, rfl, rfl⟩ | exact .inr ⟨_, _, rfl, rfl⟩
theorem ob_le {K : PySem.W.Frag} : OpB K (rOrdA (fun i j => decide (i ≤ j)) fun a b => !decide (b.cps.toList < a.cps.toList)) gLe := ob_ord (fun _ _ => rfl) (fun _ _ => rfl) fun x y b e => by
  cases x <;> cases y <;> first | (cases e; done) | exact .inl ⟨_, _, rfl, rfl⟩ | exact .inr ⟨_, _, rfl, rfl⟩
theorem ob_gt {K : PySem.W.Frag} : OpB K (rOrdA (fun i j => decide (j < i)) fun a b => decide (b.cps.toList < a.cps.toList)) gGt := ob_ord (fun _ _ => rfl) (fun _ _ => rfl) fun x y b e => by
  cases x <;> cases y <;> first | (cases e; done) | exact .inl ⟨_, _, rfl, rfl⟩ | exact .inr ⟨_, _, rfl, rfl⟩
theorem ob_ge {K : PySem.W.Frag} : OpB K (rOrdA (fun i j => decide (j ≤ i)) fun a b => !decide (a.cps.toList < b.cps.toList)) gGe := ob_ord (fun _ _ => rfl) (fun _ _ => rfl) fun x y b e => by
  cases x <;> cases y <;> first | (cases e; done) | exact .inl ⟨_, _, rfl, rfl⟩ | exact .inr ⟨_, _, rfl, rfl⟩

/-! #### is -/
def plV : V → V → Bool
  | _, .non => true
  | .non, .bl _ => true
  | .bl _, .bl _ => true
  | .ref _, .bl _ => true
  | _, _ => false
def rIsP (neg : Bool) : R2 := fun x y H Q => plV x y = true ∧ Q (.bl (if neg then !decide (x = y) else decide (x = y))) H
theorem plV_is {x y : V} {v u : Value} (h : plV x y = true) (rx : RelV x v) (ry : RelV y u) : plainIs v u = true ∧ (v = u ↔ x = y) := by
  cases y with
  | non =>
    cases (show u = Value.none from ry)
    cases x with
    | non => cases (show v = Value.none from rx); exact ⟨rfl, by simp⟩
    | bl b => cases (show v = Value.bool b from rx); exact ⟨rfl, by simp⟩
    | int i => obtain ⟨t, rfl⟩ := rx; exact ⟨rfl, by simp⟩
    | str i => obtain ⟨t, rfl⟩ := rx; exact ⟨rfl, by simp⟩
    | byt i => obtain ⟨t, rfl⟩ := rx; exact ⟨rfl, by simp⟩
    | flt i => obtain ⟨t, rfl⟩ := rx; exact ⟨rfl, by simp⟩
    | ref a => cases (show v = Value.ref a from rx); exact ⟨rfl, by simp⟩
    | ty n => cases (show v = Value.type n from rx); exact ⟨rfl, by simp⟩
  | bl c =>
    cases (show u = Value.bool c from ry)
    cases x with
    | non => cases (show v = Value.none from rx); exact ⟨rfl, by simp⟩
    | bl b => cases (show v = Value.bool b from rx); exact ⟨rfl, by simp⟩
    | ref a => cases (show v = Value.ref a from rx); exact ⟨rfl, by simp⟩
    | _ => cases h
  | _ => cases x <;> cases h
theorem op_isP : OpR X (compareOp .Is) (rIsP false) := by
  intro pins s σ H x y v u Q I rx ry h
  obtain ⟨hp, q⟩ := h
  obtain ⟨h1, h2⟩ := plV_is hp rx ry
  refine wpAny_is_plain h1 ⟨.bl (decide (x = y)), H, I, ?_, q⟩
  show _ = Value.bool _
  congr 1
  rw [Bool.eq_iff_iff]; simp [h2]
theorem op_isNotP : OpR X (compareOp .IsNot) (rIsP true) := by
  intro pins s σ H x y v u Q I rx ry h
  obtain ⟨hp, q⟩ := h
  obtain ⟨h1, h2⟩ := plV_is hp rx ry
  refine wpAny_isNot_plain h1 ⟨.bl (!decide (x = y)), H, I, ?_, q⟩
  show _ = Value.bool _
  congr 2
  rw [Bool.eq_iff_iff]; simp [h2]
theorem gIs_ok {K : PySem.W.Frag} {H : Hp} {x y : V} {dx dy : D} {b : Bool} (hx : DR K H x dx) (hy : DR K H y dy) (e : gIs dx dy = some b) : plV x y = true ∧ decide (x = y) = b := by
  cases hy with
  | non => cases hx <;> (cases e; exact ⟨rfl, by simp⟩)
  | bl c => cases hx <;> first | (cases e; done) | (cases e; exact ⟨rfl, by simp⟩)
  | _ => cases hx <;> cases e
theorem ob_is {K : PySem.W.Frag} : OpB K (rIsP false) gIs := fun x y dx dy b H Q hx hy e q => by
  obtain ⟨h1, h2⟩ := gIs_ok hx hy e
  exact ⟨h1, by rw [if_neg Bool.false_ne_true, h2]; exact q⟩
theorem ob_isNot {K : PySem.W.Frag} : OpB K (rIsP true) gIsNot := fun x y dx dy b H Q hx hy e q => by
  simp only [gIsNot, Option.map_eq_some_iff] at e
  obtain ⟨c, e, rfl⟩ := e
  obtain ⟨h1, h2⟩ := gIs_ok hx hy e
  exact ⟨h1, by rw [if_pos rfl, h2]; exact q⟩

/-! #### in -/
def rInS (neg : Bool) : R2 := fun x y H Q => ∃ i j : Str, x = .str i ∧ y = .str j ∧ ∃ b, gInS (.str i) (.str j) = some b ∧ Q (.bl (if neg then !b else b)) H
theorem op_inS : OpR X (compareOp .In) (rInS false) := by
  intro pins s σ H x y v u Q I rx ry h
  obtain ⟨i, j, rfl, rfl, b, e, q⟩ := h
  simp only [gInS] at e
  split at e
  · rename_i c hc
    cases e
    have ei : i = ⟨#[c]⟩ := by
      obtain ⟨⟨l⟩⟩ := i
      have hc : l = [c] := hc
      subst hc
      rfl
    subst ei
    exact op_in_sign pins s σ H _ _ v u Q I rx ry ⟨c, j, rfl, rfl, q⟩
  · cases e
    exact op_in_str pins s σ H _ _ v u Q I rx ry ⟨i, j, rfl, rfl, q⟩
theorem op_notInS : OpR X (compareOp .NotIn) (rInS true) := by
  intro pins s σ H x y v u Q I rx ry h
  obtain ⟨i, j, rfl, rfl, b, e, q⟩ := h
  simp only [gInS] at e
  split at e
  · rename_i c hc
    cases e
    have ei : i = ⟨#[c]⟩ := by
      obtain ⟨⟨l⟩⟩ := i
      have hc : l = [c] := hc
      subst hc
      rfl
    subst ei
    exact op_notIn_sign pins s σ H _ _ v u Q I rx ry ⟨c, j, rfl, rfl, q⟩
  · cases e
    exact op_notin_str pins s σ H _ _ v u Q I rx ry ⟨i, j, rfl, rfl, q⟩
def rInT (K : PySem.W.Frag) (neg : Bool) : R2 := fun x y H Q => ∃ d e b, Dp K H x d ∧ Dp K H y e ∧ gInD d e = some b ∧ Q (.bl (if neg then !b else b)) H
theorem op_inT (hu : X.A.units + 65 < cLine) : OpR X (compareOp .In) (rInT X.K false) := by
  intro pins s σ H x y v u Q I rx ry h
  obtain ⟨d, e, b, hd, he, eb, q⟩ := h
  obtain ⟨as, r1⟩ := Dp.reads I d x v hd rx
  obtain ⟨bs, r2⟩ := Dp.reads I e y u he ry
  cases e with
  | list ds =>
    simp only [gInD] at eb
    split at eb
    · rename_i h; cases eb
      exact SeqAt.in_list_reads r2 r1 (shp_can h.2) (shp_can h.1) (room_in_shaped' h.1 hu) ⟨.bl _, H, I, rfl, q⟩
    · cases eb
  | tuple ds =>
    simp only [gInD] at eb
    split at eb
    · rename_i h; cases eb
      exact SeqAt.in_tuple_reads r2 r1 (shp_can h.2) (shp_can h.1) (room_in_shaped' h.1 hu) ⟨.bl _, H, I, rfl, q⟩
    · cases eb
  | _ => cases eb
theorem op_notInT (hu : X.A.units + 65 < cLine) : OpR X (compareOp .NotIn) (rInT X.K true) := by
  intro pins s σ H x y v u Q I rx ry h
  obtain ⟨d, e, b, hd, he, eb, q⟩ := h
  obtain ⟨as, r1⟩ := Dp.reads I d x v hd rx
  obtain ⟨bs, r2⟩ := Dp.reads I e y u he ry
  cases e with
  | list ds =>
    simp only [gInD] at eb
    split at eb
    · rename_i h; cases eb
      exact SeqAt.notIn_list_reads r2 r1 (shp_can h.2) (shp_can h.1) (room_in_shaped' h.1 hu) ⟨.bl _, H, I, rfl, q⟩
    · cases eb
  | tuple ds =>
    simp only [gInD] at eb
    split at eb
    · rename_i h; cases eb
      exact SeqAt.notIn_tuple_reads r2 r1 (shp_can h.2) (shp_can h.1) (room_in_shaped' h.1 hu) ⟨.bl _, H, I, rfl, q⟩
    · cases eb
  | _ => cases eb
def rInA (K : PySem.W.Frag) (neg : Bool) : R2 := fun x y H Q => rInS neg x y H Q ∨ rInT K neg x y H Q
theorem op_inA (hu : X.A.units + 65 < cLine) : OpR X (compareOp .In) (rInA X.K false) := op_inS.or (op_inT hu)
theorem op_notInA (hu : X.A.units + 65 < cLine) : OpR X (compareOp .NotIn) (rInA X.K true) := op_notInS.or (op_notInT hu)
theorem gInD_can {x y : D} {b : Bool} (e : gInD x y = some b) : x.canLay0 = true ∧ y.canLay0 = true := by
  cases y with
  | list ds =>
    simp only [gInD] at e
    split at e
    · rename_i h; exact ⟨shp_can h.1, shp_can h.2⟩
    · cases e
  | tuple ds =>
    simp only [gInD] at e
    split at e
    · rename_i h; exact ⟨shp_can h.1, shp_can h.2⟩
    · cases e
  | _ => cases e
theorem gIn_ok {K : PySem.W.Frag} {H : Hp} {x y : V} {dx dy : D} {b : Bool} {neg : Bool} {Q : VK} (hx : DR K H x dx) (hy : DR K H y dy) (e : gIn dx dy = some b) (q : Q (.bl (if neg then !b else b)) H) : rInA K neg x y H Q := by
  cases dy with
  | str j =>
    simp only [gIn] at e
    cases dx with
    | str i => cases hx; cases hy; exact .inl ⟨i, j, rfl, rfl, b, e, q⟩
    | _ => cases e
  | list ds =>
    have e' : gInD dx (.list ds) = some b := e
    exact .inr ⟨dx, _, b, hx.dp (gInD_can e').1, hy.dp (gInD_can e').2, e', q⟩
  | tuple ds =>
    have e' : gInD dx (.tuple ds) = some b := e
    exact .inr ⟨dx, _, b, hx.dp (gInD_can e').1, hy.dp (gInD_can e').2, e', q⟩
  | _ => cases e
theorem ob_in {K : PySem.W.Frag} : OpB K (rInA K false) gIn := fun x y dx dy b H Q hx hy e q => gIn_ok hx hy e (by rw [if_neg Bool.false_ne_true]; exact q)
theorem ob_notIn {K : PySem.W.Frag} : OpB K (rInA K true) gNotIn := fun x y dx dy b H Q hx hy e q => by
  simp only [gNotIn, Option.map_eq_some_iff] at e
  obtain ⟨c, e, rfl⟩ := e
  exact gIn_ok hx hy e (by rw [if_pos rfl]; exact q)

/-! ### truths: and, or, not, if else -/
def dNot (f : En → R Bool) : En → R Bool := fun ρ => (f ρ).bind fun b ρ1 => .ok (!b) ρ1
def dAnd (f g : En → R Bool) : En → R Bool := fun ρ => (f ρ).bind fun b ρ1 => if b = true then g ρ1 else .ok false ρ1
def dOr (f g : En → R Bool) : En → R Bool := fun ρ => (f ρ).bind fun b ρ1 => if b = true then .ok true ρ1 else g ρ1
def dIfE {α : Type} (c : En → R Bool) (f g : En → R α) : En → R α := fun ρ => (c ρ).bind fun b ρ1 => if b = true then f ρ1 else g ρ1
variable {a b c e : Expr} {rest : List Expr} {fa fb fc : En → R D} {ga gb gc : En → R Bool} {pos : Pos}
theorem vt_not (ha : VT X w a ga) : VT X w (.UnaryOp .Not a pos) (dNot ga) :=
  PT.imp (pt_not ha) fun σ H Q ⟨G, ρ, rel, h⟩ => ⟨G, ρ, rel, (Fn.bind rel h).imp fun G1 H1 ρ1 b ⟨r1, s1, h1⟩ => h1.ok r1⟩
theorem vw_and1 (ha : VT X w a ga) : VW X w (.BoolOp .And [a] pos) ga := pw_and1 ha
theorem vw_or1 (ha : VT X w a ga) : VW X w (.BoolOp .Or [a] pos) ga := pw_or1 ha
theorem vw_and (ha : VT X w a ga) (hb : VW X w (.BoolOp .And (b :: rest) pos) gb) : VW X w (.BoolOp .And (a :: b :: rest) pos) (dAnd ga gb) :=
  PW.imp (pw_and ha hb) fun σ H Q ⟨G, ρ, rel, h⟩ => ⟨G, ρ, rel, (Fn.bind rel h).imp fun G1 H1 ρ1 b ⟨r1, s1, h1⟩ => by
    cases b with
    | true => exact iteT ⟨G1, ρ1, r1, h1⟩
    | false => exact iteF (Fn.ok (show Fn X.K w G1 H1 σ ρ1 (.ok false ρ1) (QB Q) from h1) r1)⟩
theorem vw_or (ha : VT X w a ga) (hb : VW X w (.BoolOp .Or (b :: rest) pos) gb) : VW X w (.BoolOp .Or (a :: b :: rest) pos) (dOr ga gb) :=
  PW.imp (pw_or ha hb) fun σ H Q ⟨G, ρ, rel, h⟩ => ⟨G, ρ, rel, (Fn.bind rel h).imp fun G1 H1 ρ1 b ⟨r1, s1, h1⟩ => by
    cases b with
    | true => exact iteT (Fn.ok (show Fn X.K w G1 H1 σ ρ1 (.ok true ρ1) (QB Q) from h1) r1)
    | false => exact iteF ⟨G1, ρ1, r1, h1⟩⟩
theorem vt_w (h : VW X w e ga) : VT X w e ga := PW.pt h
/-- a truth that is a value -/
theorem Fn.dB {K : PySem.W.Frag} {G H : Hp} {σ : L2.St} {ρ : En} {Q : VK} (rel : Rel K G H σ ρ) (h : Fn K w G H σ ρ (dB ga ρ) (QD K Q)) : Fn K w G H σ ρ (ga ρ) (fun G1 H1 ρ1 b => Rel K G1 H1 σ ρ1 ∧ Stp G H σ ρ G1 H1 σ ρ1 ∧ Q (.bl b) H1) :=
  (Fn.bind rel h).imp fun G1 H1 ρ1 b ⟨r1, s1, h1⟩ => ⟨r1, s1, h1.ok r1 _ (.bl b)⟩
theorem Fn.toB {K : PySem.W.Frag} {G H : Hp} {σ : L2.St} {ρ : En} {P : Hp → Hp → En → D → Prop} {g : En → R Bool} (rel : Rel K G H σ ρ) (h : Fn K w G H σ ρ (g ρ) (fun G1 H1 ρ1 b => P G1 H1 ρ1 (.bool b))) : Fn K w G H σ ρ (Dn.dB g ρ) P := by
  unfold Dn.dB
  cases q : g ρ with
  | no => rw [q] at h; exact h
  | ex c ρ' => rw [q] at h; exact h
  | ok b ρ' => rw [q] at h; exact h
theorem ve_not (ha : VE X w a (dB ga)) : VE X w (.UnaryOp .Not a pos) (dB (dNot ga)) :=
  PE.imp (pe_not ha) fun σ H Q ⟨G, ρ, rel, h⟩ => ⟨G, ρ, rel, Fn.toB rel ((Fn.bind rel (Fn.dB rel h)).imp fun G1 H1 ρ1 b ⟨r1, s1, h1⟩ v hv => by
    cases hv
    exact ⟨b, rfl, (h1.ok r1).2.2⟩)⟩
theorem ve_and1 (ha : VE X w a fa) : VE X w (.BoolOp .And [a] pos) fa := pe_one ha
theorem ve_or1 (ha : VE X w a fa) : VE X w (.BoolOp .Or [a] pos) fa := pe_one ha
def dAndV (f : En → R Bool) (g : En → R D) : En → R D := fun ρ => (f ρ).bind fun b ρ1 => if b = true then g ρ1 else .ok (.bool false) ρ1
def dOrV (f : En → R Bool) (g : En → R D) : En → R D := fun ρ => (f ρ).bind fun b ρ1 => if b = true then .ok (.bool true) ρ1 else g ρ1
theorem ve_and (ha : VE X w a (dB ga)) (hb : VE X w (.BoolOp .And (b :: rest) pos) fb) : VE X w (.BoolOp .And (a :: b :: rest) pos) (dAndV ga fb) :=
  PE.imp (pe_and ha hb) fun σ H Q ⟨G, ρ, rel, h⟩ => ⟨G, ρ, rel, Fn.toB rel ((Fn.bind rel h).imp fun G1 H1 ρ1 b ⟨r1, s1, h1⟩ v hv => by
    cases hv
    refine ⟨b, rfl, ?_⟩
    cases b with
    | true => exact iteT ⟨G1, ρ1, r1, h1⟩
    | false => exact iteF (Fn.ok (show Fn X.K w G1 H1 σ ρ1 (.ok (.bool false) ρ1) (QD X.K Q) from h1) r1 _ (.bl false)))⟩
theorem ve_or (ha : VE X w a (dB ga)) (hb : VE X w (.BoolOp .Or (b :: rest) pos) fb) : VE X w (.BoolOp .Or (a :: b :: rest) pos) (dOrV ga fb) :=
  PE.imp (pe_or ha hb) fun σ H Q ⟨G, ρ, rel, h⟩ => ⟨G, ρ, rel, Fn.toB rel ((Fn.bind rel h).imp fun G1 H1 ρ1 b ⟨r1, s1, h1⟩ v hv => by
    cases hv
    refine ⟨b, rfl, ?_⟩
    cases b with
    | true => exact iteT (Fn.ok (show Fn X.K w G1 H1 σ ρ1 (.ok (.bool true) ρ1) (QD X.K Q) from h1) r1 _ (.bl true))
    | false => exact iteF ⟨G1, ρ1, r1, h1⟩)⟩
theorem ve_ifE (hc : VT X w c gc) (ha : VE X w a fa) (hb : VE X w b fb) : VE X w (.IfExp c a b pos) (dIfE gc fa fb) :=
  PE.imp (pe_ifExp hc ha hb) fun σ H Q ⟨G, ρ, rel, h⟩ => ⟨G, ρ, rel, (Fn.bind rel h).imp fun G1 H1 ρ1 b ⟨r1, s1, h1⟩ => by
    cases b with
    | true => exact iteT ⟨G1, ρ1, r1, h1⟩
    | false => exact iteF ⟨G1, ρ1, r1, h1⟩⟩
/-- a value's truth -/
def truD : D → Option Bool
  | .none => some false
  | .bool b => some b
  | .int i => some (i != 0)
  | .str s => if s.length ≤ sizeLine then some ((s.length : Int) != 0) else none
  | .list l => some (!l.isEmpty)
  | .tuple l => some (!l.isEmpty)
  | .dict _ => none
def asB : D → Option Bool
  | .bool b => some b
  | _ => none
/-- a value that is a truth, as one -/
def dUB (f : En → R D) : En → R Bool := fun ρ => (f ρ).bind fun d ρ1 => lift (asB d) ρ1
def dTru (f : En → R D) : En → R Bool := fun ρ => (f ρ).bind fun d ρ1 => lift (truD d) ρ1
theorem DRs.emp {K : PySem.W.Frag} {H : Hp} {vs : List V} {ds : List D} (h : DRs K H vs ds) : vs.isEmpty = ds.isEmpty := by cases h <;> rfl
theorem truD_ok {K : PySem.W.Frag} {H : Hp} {v : V} {d : D} {b : Bool} (h : DR K H v d) (e : truD d = some b) : TruV K v H b := by
  cases h with
  | non => cases e; rfl
  | bl b => cases e; rfl
  | int i => cases e; rfl
  | str s =>
    simp only [truD] at e
    split at e
    · cases e; exact ⟨‹_›, rfl⟩
    · cases e
  | lst h hs => cases e; exact .inl ⟨_, h, by rw [hs.emp]⟩
  | tup h hs => cases e; exact .inr (.inl ⟨_, h, by rw [hs.emp]⟩)
  | dic _ _ => cases e
theorem vt_tru (ha : VE X w a fa) (he : ∀ whole, isTrue a X.env whole = (do let v ← whole; standAt a.pos; holding [v] (truthy v)) := by intro _; rfl) : VT X w a (dTru fa) :=
  PT.imp (pt_truth ha he) fun σ H Q ⟨G, ρ, rel, h⟩ => ⟨G, ρ, rel, (Fn.bind rel h).imp fun G1 H1 ρ1 d ⟨r1, s1, h1⟩ v hv => by
    obtain ⟨b, e, q⟩ := Fn.lift h1
    exact ⟨b, truD_ok (hv.mono r1.sub) e, q _ _ r1 Stp.refl⟩⟩
/-- a value seen as a truth -/
theorem ve_ub (ha : VE X w a fa) : VE X w a (dB (dUB fa)) :=
  PE.imp ha fun σ H Q ⟨G, ρ, rel, h⟩ => ⟨G, ρ, rel, (Fn.bind rel (Fn.dB rel h)).imp fun G1 H1 ρ1 d ⟨r1, s1, h1⟩ v hv => by
    obtain ⟨b, e, q⟩ := Fn.lift h1
    cases hv with
    | bl c => cases e; exact (q _ _ r1 Stp.refl).2.2
    | _ => cases e⟩
end
end Dn
namespace Dn
open PySem PySem.Spec PyProof.Rows L2

/-! ### reading -/
def L.toD : L → D
  | .im d => d
  | .ow ds => .list ds
  | .bo ds => .list ds
/-- what may be read as d now -/
inductive DV (K : PySem.W.Frag) (G H : Hp) : V → D → Prop where
  | im {v : V} {d : D} (h : DR K G v d) : DV K G H v d
  | mu {o : Addr} {vs : List V} {ds : List D} (e : H o = some (.lst vs)) (h : DRs K G vs ds) : DV K G H (.ref o) (.list ds)
section
variable {K : PySem.W.Frag} {G H : Hp} {σ : L2.St} {ρ : En}
theorem Rel.view (r : Rel K G H σ ρ) {i : Nat} {l : L} (h : ρ[i]? = some (some l)) : ∃ v, σ[i]? = some (some v) ∧ DV K G H v l.toD := by
  obtain ⟨v, s, c⟩ := r.cell i l h
  refine ⟨v, s, ?_⟩
  cases l with
  | im d => exact .im c
  | ow ds => obtain ⟨o, vs, rfl, g, q, hd⟩ := c; exact .mu q hd
  | bo ds => obtain ⟨o, vs, rfl, g, q, hd⟩ := c; exact .mu q hd
/-- a list or a tuple that is read -/
theorem DV.list (r : Rel K G H σ ρ) {v : V} {ds : List D} (h : DV K G H v (.list ds)) : ∃ o vs, v = .ref o ∧ SqL K H o vs ∧ DRs K G vs ds := by
  cases h with
  | im h => cases h with | lst h hs => exact ⟨_, _, rfl, r.sub.seq h, hs⟩
  | mu e h => exact ⟨_, _, rfl, .inl (.inl e), h⟩
theorem DV.tuple (r : Rel K G H σ ρ) {v : V} {ds : List D} (h : DV K G H v (.tuple ds)) : ∃ o vs, v = .ref o ∧ SqT K H o vs ∧ DRs K G vs ds := by
  cases h with
  | im h => cases h with | tup h hs => exact ⟨_, _, rfl, Same.tup r.sub h, hs⟩
theorem DV.str {v : V} {s : Str} (h : DV K G H v (.str s)) : v = .str s := by
  cases h with
  | im h => cases h; rfl
theorem DV.int {v : V} {s : Int} (h : DV K G H v (.int s)) : v = .int s := by
  cases h with
  | im h => cases h; rfl
theorem DV.bool {v : V} {s : Bool} (h : DV K G H v (.bool s)) : v = .bl s := by
  cases h with
  | im h => cases h; rfl
end
def gIx : D → D → Option D
  | .list ds, .int i => atI ds i
  | .tuple ds, .int i => atI ds i
  | .str s, .int i => if s.length ≤ sizeLine then (atI s.cps.toList i).map fun c => .str ⟨#[c]⟩ else none
  | _, _ => none
theorem DRs.atI {K : PySem.W.Frag} {G : Hp} {vs : List V} {ds : List D} {i : Int} {d : D} (h : DRs K G vs ds) (e : L2.atI ds i = some d) : ∃ v, L2.atI vs i = some v ∧ DR K G v d := by
  unfold L2.atI at e ⊢
  rw [h.length]
  cases q : ixN ds.length i with
  | none => rw [q] at e; cases e
  | some j =>
    rw [q] at e
    exact h.get e
theorem gIx_ok {K : PySem.W.Frag} {G H : Hp} {σ : L2.St} {ρ : En} {x y : V} {dx dy d : D} {Q : VK} (r : Rel K G H σ ρ) (hx : DV K G H x dx) (hy : DR K G y dy) (e : gIx dx dy = some d) (q : ∀ v, DR K G v d → Q v H) : rIx K x y H Q := by
  cases dy with
  | int i =>
    cases hy
    cases dx with
    | list ds =>
      obtain ⟨o, vs, rfl, h, hs⟩ := hx.list r
      obtain ⟨v, e', hv⟩ := hs.atI e
      exact .inl ⟨o, vs, i, v, rfl, rfl, h, e', q v hv⟩
    | tuple ds =>
      obtain ⟨o, vs, rfl, h, hs⟩ := hx.tuple r
      obtain ⟨v, e', hv⟩ := hs.atI e
      exact .inr (.inl ⟨o, vs, i, v, rfl, rfl, h, e', q v hv⟩)
    | str s =>
      have := hx.str
      subst this
      simp only [gIx] at e
      split at e
      · simp only [Option.map_eq_some_iff] at e
        obtain ⟨c, e, rfl⟩ := e
        exact .inr (.inr ⟨s, i, c, rfl, rfl, ‹_›, e, q _ (.str _)⟩)
      · cases e
    | _ => cases e
  | _ => cases dx <;> cases e
/-- the slot i, read when what follows is done -/
def atSlot {α β : Type} (i : Nat) (f : En → R β) (g : L → β → En → R α) : En → R α := fun ρ => match ρ[i]? with
  | some (some _) => (f ρ).bind fun y ρ1 => match ρ1[i]? with
    | some (some l) => g l y ρ1
    | _ => .no
  | _ => .no
section
variable {X : Cx} {w : Wh} {a b : Expr} {fa fb : En → R D} {pos : Pos}
theorem ve_ix (ha : VE X w a fa) (hb : VE X w b fb) (hp : PlainIx b := by exact fun _ _ => rfl) : VE X w (.Subscript a b pos) (dOp gIx fa fb) := by
  refine PE.imp (pe_ix ix_seq ha hb hp) fun σ H Q ⟨G, ρ, rel, h⟩ => ⟨G, ρ, rel, (Fn.bind rel h).imp fun G1 H1 ρ1 dx ⟨r1, s1, h1⟩ x hx => ⟨G1, ρ1, r1, (Fn.bind r1 h1).imp fun G2 H2 ρ2 dy ⟨r2, s2, h2⟩ y hy => ?_⟩⟩
  obtain ⟨d, e, q⟩ := Fn.lift h2
  exact gIx_ok r2 (.im (hx.mono s2.g)) hy e fun v hv => q _ _ r2 Stp.refl v hv
theorem Fn.slot {α β : Type} {K : PySem.W.Frag} {G H : Hp} {σ : L2.St} {ρ : En} {i : Nat} {f : En → R β} {g : L → β → En → R α} {P : Hp → Hp → En → α → Prop} (rel : Rel K G H σ ρ) (h : Fn K w G H σ ρ (atSlot i f g ρ) P) :
    ∃ v, σ[i]? = some (some v) ∧ Fn K w G H σ ρ (f ρ) (fun G1 H1 ρ1 y => ∃ l, ρ1[i]? = some (some l) ∧ DV K G1 H1 v l.toD ∧ Rel K G1 H1 σ ρ1 ∧ Stp G H σ ρ G1 H1 σ ρ1 ∧ Fn K w G1 H1 σ ρ1 (g l y ρ1) P) := by
  unfold atSlot at h
  split at h
  · rename_i l0 e0
    obtain ⟨v, s, _⟩ := rel.view e0
    refine ⟨v, s, (Fn.bind rel h).imp fun G1 H1 ρ1 y ⟨r1, s1, h1⟩ => ?_⟩
    split at h1
    · rename_i l e1
      obtain ⟨v', s', dv⟩ := r1.view e1
      rw [s] at s'; cases s'
      exact ⟨l, e1, dv, r1, s1, h1⟩
    · exact h1.elim
  · exact h.elim
def dIxN (i : Nat) (fb : En → R D) : En → R D := atSlot i fb fun l y ρ => lift (gIx l.toD y) ρ
theorem ve_ixN (i : Nat) {x : Str} {p : Pos} (hb : VE X w b fb) (hN : X.N[i]? = some x := by rfl) (hv : Vis X.env.scope x := by first | exact Or.inl rfl | exact Or.inr (Or.inl rfl) | exact Or.inr (Or.inr rfl))
    (hp : PlainIx b := by exact fun _ _ => rfl) (hd : (x == ("__debug__" : Str)) = false := by decide) (hcd : (x == ("__classdict__" : Str)) = false := by decide) : VE X w (.Subscript (.Name x p) b pos) (dIxN i fb) := by
  refine PE.imp (pe_ix ix_seq (pe_var hN hv hd hcd) hb hp) fun σ H Q ⟨G, ρ, rel, h⟩ => ?_
  obtain ⟨v, s, h⟩ := Fn.slot rel h
  refine ⟨v, s, G, ρ, rel, h.imp fun G1 H1 ρ1 dy ⟨l, e, dv, r1, s1, h1⟩ y hy => ?_⟩
  obtain ⟨d, e', q⟩ := Fn.lift h1
  exact gIx_ok r1 dv hy e' fun v hv => q _ _ r1 Stp.refl v hv

/-! ### slices -/
def gSl : D → Option Int → Option Int → Option D
  | .list ds, lo, hi => some (.list ((ds.drop (HT.sIx ds.length 0 lo)).take (HT.sIx ds.length ds.length hi - HT.sIx ds.length 0 lo)))
  | .tuple ds, lo, hi => if HT.sIx ds.length 0 lo = 0 ∧ HT.sIx ds.length ds.length hi = ds.length then none
    else some (.tuple ((ds.drop (HT.sIx ds.length 0 lo)).take (HT.sIx ds.length ds.length hi - HT.sIx ds.length 0 lo)))
  | .str s, lo, hi => if s.length ≤ sizeLine then some (.str (cutS s lo hi)) else none
  | _, _, _ => none
def rSlA (K : PySem.W.Frag) : V → Option Int → Option Int → Hp → VK → Prop := fun x lo hi H Q => rSlL K x lo hi H Q ∨ rSlT K x lo hi H Q ∨ rSlS x lo hi H Q
theorem sl_all : SlR X (rSlA X.K) := sl_list.or (sl_tup.or sl_str)
theorem DRs.cut {K : PySem.W.Frag} {G : Hp} {vs : List V} {ds : List D} (h : DRs K G vs ds) (lo hi : Option Int) : DRs K G (cutV vs lo hi) ((ds.drop (HT.sIx ds.length 0 lo)).take (HT.sIx ds.length ds.length hi - HT.sIx ds.length 0 lo)) := by
  unfold cutV
  rw [h.length]
  exact (h.drop _).take _
theorem gSl_ok {K : PySem.W.Frag} {G H : Hp} {σ : L2.St} {ρ : En} {x : V} {dx d : D} {lo hi : Option Int} {Q : VK} (r : Rel K G H σ ρ) (hx : DV K G H x dx) (e : gSl dx lo hi = some d)
    (q : ∀ G' H', Rel K G' H' σ ρ → Stp G H σ ρ G' H' σ ρ → ∀ v, DR K G' v d → Q v H') : rSlA K x lo hi H Q := by
  cases dx with
  | list ds =>
    cases e
    obtain ⟨o, vs, rfl, h, hs⟩ := hx.list r
    exact .inl ⟨o, vs, rfl, h, hand_new r q (DR.newL r (hs.cut lo hi))⟩
  | tuple ds =>
    simp only [gSl] at e
    split at e
    · cases e
    · rename_i hn
      cases e
      obtain ⟨o, vs, rfl, h, hs⟩ := hx.tuple r
      exact .inr (.inl ⟨o, vs, rfl, h, by rw [hs.length]; exact hn, hand_new r q (DR.newT r (hs.cut lo hi))⟩)
  | str s =>
    simp only [gSl] at e
    split at e
    · cases e
      have := hx.str
      subst this
      exact .inr (.inr ⟨s, rfl, ‹_›, q _ _ r Stp.refl _ (.str _)⟩)
    · cases e
  | _ => cases e
def oN : En → R (Option Int) := fun ρ => .ok none ρ
def asI : D → Option Int
  | .int i => some i
  | _ => none
def oI (f : En → R D) : En → R (Option Int) := fun ρ => (f ρ).bind fun d ρ1 => lift ((asI d).map some) ρ1
theorem vo_none : VO X w none oN := PO.imp po_none fun σ H Q ⟨G, ρ, rel, h⟩ => Fn.ok (show Fn X.K w G H σ ρ (.ok none ρ) (QO Q) from h) rel
theorem vo_some {e : Expr} {f : En → R D} (he : VE X w e f) : VO X w (some e) (oI f) :=
  PO.imp (po_some he) fun σ H Q ⟨G, ρ, rel, h⟩ => ⟨G, ρ, rel, (Fn.bind rel h).imp fun G1 H1 ρ1 d ⟨r1, s1, h1⟩ v hv => by
    obtain ⟨o, e', q⟩ := Fn.lift h1
    simp only [Option.map_eq_some_iff] at e'
    obtain ⟨i, ei, rfl⟩ := e'
    cases hv with
    | int j => cases ei; exact ⟨i, rfl, q _ _ r1 Stp.refl⟩
    | _ => cases ei⟩
def dPair {α β : Type} (f : En → R α) (g : En → R β) : En → R (α × β) := fun ρ => (f ρ).bind fun a ρ1 => (g ρ1).bind fun b ρ2 => .ok (a, b) ρ2
def dSl (fa : En → R D) (l u : En → R (Option Int)) : En → R D := fun ρ => (fa ρ).bind fun x ρ1 => (l ρ1).bind fun lo ρ2 => (u ρ2).bind fun hi ρ3 => lift (gSl x lo hi) ρ3
theorem ve_sl {lo hi : Option Expr} {l u : En → R (Option Int)} {p2 : Pos} (ha : VE X w a fa) (hl : VO X w lo l) (hu : VO X w hi u) : VE X w (.Subscript a (.Slice lo hi none p2) pos) (dSl fa l u) := by
  refine PE.imp (pe_slice sl_all ha hl hu) fun σ H Q ⟨G, ρ, rel, h⟩ => ⟨G, ρ, rel, (Fn.bind rel h).imp fun G1 H1 ρ1 dx ⟨r1, s1, h1⟩ x hx => ⟨G1, ρ1, r1, (Fn.bind r1 h1).imp fun G2 H2 ρ2 lo ⟨r2, s2, h2⟩ => ⟨G2, ρ2, r2, (Fn.bind r2 h2).imp fun G3 H3 ρ3 hi ⟨r3, s3, h3⟩ => ?_⟩⟩⟩
  obtain ⟨d, e, q⟩ := Fn.lift h3
  exact gSl_ok r3 (.im ((hx.mono s2.g).mono s3.g)) e q
def dSlN (i : Nat) (l u : En → R (Option Int)) : En → R D := atSlot i (dPair l u) fun x p ρ => lift (gSl x.toD p.1 p.2) ρ
theorem ve_slN (i : Nat) {x : Str} {p : Pos} {lo hi : Option Expr} {l u : En → R (Option Int)} {p2 : Pos} (hl : VO X w lo l) (hu : VO X w hi u) (hN : X.N[i]? = some x := by rfl) (hv : Vis X.env.scope x := by first | exact Or.inl rfl | exact Or.inr (Or.inl rfl) | exact Or.inr (Or.inr rfl))
    (hd : (x == ("__debug__" : Str)) = false := by decide) (hcd : (x == ("__classdict__" : Str)) = false := by decide) : VE X w (.Subscript (.Name x p) (.Slice lo hi none p2) pos) (dSlN i l u) := by
  refine PE.imp (pe_slice sl_all (pe_var hN hv hd hcd) hl hu) fun σ H Q ⟨G, ρ, rel, h⟩ => ?_
  obtain ⟨v, s, h⟩ := Fn.slot rel h
  refine ⟨v, s, G, ρ, rel, (Fn.bind rel h).imp fun G1 H1 ρ1 lo ⟨r1, s1, h1⟩ => ⟨G1, ρ1, r1, (Fn.bind r1 h1).imp fun G2 H2 ρ2 hi ⟨r2, s2, h2⟩ => ?_⟩⟩
  obtain ⟨L, e, dv, r3, s3, h3⟩ := h2.ok r2
  obtain ⟨d, e', q⟩ := Fn.lift h3
  exact gSl_ok r3 dv e' q

/-! ### arguments, displays -/
def aNil : En → R (List AV) := fun ρ => .ok [] ρ
def aIm (f : En → R D) (g : En → R (List AV)) : En → R (List AV) := fun ρ => (f ρ).bind fun d ρ1 => (g ρ1).bind fun as ρ2 => .ok (.im d :: as) ρ2
def aSl (i : Nat) (g : En → R (List AV)) : En → R (List AV) := fun ρ => match ρ[i]? with
  | some (some _) => (g ρ).bind fun as ρ2 => .ok (.sl i :: as) ρ2
  | _ => .no
theorem AVs.mono {K : PySem.W.Frag} {G G' : Hp} {σ : L2.St} (e : Same G G') : ∀ {vs : List V} {as : List AV}, AVs K G σ vs as → AVs K G' σ vs as
  | _, _, .nil => .nil
  | _, _, .im h t => .im (h.mono e) (AVs.mono e t)
  | _, _, .sl h t => .sl h (AVs.mono e t)
variable {e : Expr} {es : List Expr} {f : En → R D} {ga : En → R (List AV)}
theorem va_nil : VA X w [] aNil := PA.imp pa_nil fun σ H Q ⟨G, ρ, rel, h⟩ => Fn.ok (show Fn X.K w G H σ ρ (.ok [] ρ) (QA X.K σ Q) from h) rel _ .nil
theorem va_im (he : VE X w e f) (ht : VA X w es ga) (hs : starEach (e :: es) X.env = (false, eval e X.env) :: starEach es X.env := by rfl) : VA X w (e :: es) (aIm f ga) :=
  PA.imp (pa_cons he ht hs) fun σ H Q ⟨G, ρ, rel, h⟩ => ⟨G, ρ, rel, (Fn.bind rel h).imp fun G1 H1 ρ1 d ⟨r1, s1, h1⟩ v hv => ⟨G1, ρ1, r1, (Fn.bind r1 h1).imp fun G2 H2 ρ2 as ⟨r2, s2, h2⟩ vs hvs =>
    Fn.ok (show Fn X.K w G2 H2 σ ρ2 (.ok (AV.im d :: as) ρ2) (QA X.K σ Q) from h2) r2 _ (.im (hv.mono s2.g) hvs)⟩⟩
theorem va_sl (i : Nat) {x : Str} {p : Pos} (ht : VA X w es ga) (hN : X.N[i]? = some x := by rfl) (hv : Vis X.env.scope x := by first | exact Or.inl rfl | exact Or.inr (Or.inl rfl) | exact Or.inr (Or.inr rfl))
    (hd : (x == ("__debug__" : Str)) = false := by decide) (hcd : (x == ("__classdict__" : Str)) = false := by decide) (hs : starEach (.Name x p :: es) X.env = (false, eval (.Name x p) X.env) :: starEach es X.env := by rfl) : VA X w (.Name x p :: es) (aSl i ga) :=
  PA.imp (pa_cons (pe_var hN hv hd hcd) ht hs) fun σ H Q ⟨G, ρ, rel, h⟩ => by
    unfold aSl at h
    split at h
    · rename_i l el
      obtain ⟨v, s, _⟩ := rel.view el
      exact ⟨v, s, G, ρ, rel, (Fn.bind rel h).imp fun G2 H2 ρ2 as ⟨r2, s2, h2⟩ vs hvs => Fn.ok (show Fn X.K w G2 H2 σ ρ2 (.ok (AV.sl i :: as) ρ2) (QA X.K σ Q) from h2) r2 _ (.sl s hvs)⟩
    · exact h.elim
/-- all are values -/
def allIm : List AV → Option (List D)
  | [] => some []
  | .im d :: r => (allIm r).map (d :: ·)
  | .sl _ :: _ => none
theorem AVs.all {K : PySem.W.Frag} {G : Hp} {σ : L2.St} : ∀ {vs : List V} {as : List AV} {ds : List D}, AVs K G σ vs as → allIm as = some ds → DRs K G vs ds
  | _, _, _, .nil, e => by cases e; exact .nil
  | _, _, _, .im h t, e => by
    simp only [allIm, Option.map_eq_some_iff] at e
    obtain ⟨r, e, rfl⟩ := e
    exact .cons h (AVs.all t e)
  | _, _, _, .sl _ _, e => by cases e
def dAll (g : En → R (List AV)) : En → R (List D) := fun ρ => (g ρ).bind fun as ρ1 => lift (allIm as) ρ1
def dTup (g : En → R (List AV)) : En → R D := fun ρ => (dAll g ρ).bind fun ds ρ1 => if ds.length ≤ sizeLine then .ok (.tuple ds) ρ1 else .no
def dLst (g : En → R (List AV)) : En → R D := fun ρ => (dAll g ρ).bind fun ds ρ1 => if ds.length ≤ sizeLine then .ok (.list ds) ρ1 else .no
def nLst (g : En → R (List AV)) : En → R (List D) := fun ρ => (dAll g ρ).bind fun ds ρ1 => if ds.length ≤ sizeLine then .ok ds ρ1 else .no
theorem Fn.all {α : Type} {K : PySem.W.Frag} {G H : Hp} {σ : L2.St} {ρ : En} {g : List D → En → R α} {P : Hp → Hp → En → α → Prop} (rel : Rel K G H σ ρ) (h : Fn K w G H σ ρ ((dAll ga ρ).bind g) P) :
    Fn K w G H σ ρ (ga ρ) (fun G1 H1 ρ1 as => Rel K G1 H1 σ ρ1 ∧ Stp G H σ ρ G1 H1 σ ρ1 ∧ ∃ ds, allIm as = some ds ∧ Fn K w G1 H1 σ ρ1 (g ds ρ1) P) := by
  have h' : Fn K w G H σ ρ ((ga ρ).bind fun as ρ1 => (Dn.lift (allIm as) ρ1 : R (List D)).bind g) P := by
    have : (dAll ga ρ).bind g = (ga ρ).bind fun as ρ1 => (Dn.lift (allIm as) ρ1 : R (List D)).bind g := by
      unfold dAll
      cases ga ρ <;> rfl
    rw [← this]; exact h
  refine (Fn.bind rel h').imp fun G1 H1 ρ1 as ⟨r1, s1, h1⟩ => ⟨r1, s1, ?_⟩
  cases q : allIm as with
  | none => rw [q] at h1; exact h1.elim
  | some ds => rw [q] at h1; exact ⟨ds, rfl, h1⟩
theorem ve_tup {k : Nat} (h : VA X w es ga) : VE X w (.Tuple es k pos) (dTup ga) :=
  PE.imp (pe_tup h) fun σ H Q ⟨G, ρ, rel, h⟩ => ⟨G, ρ, rel, (Fn.all rel h).imp fun G1 H1 ρ1 as ⟨r1, s1, ds, e, h1⟩ vs hvs => by
    have hd := hvs.all e
    split at h1
    · exact ⟨by rw [hd.length]; assumption, hand_new r1 h1 (DR.newT r1 hd)⟩
    · exact h1.elim⟩
theorem ve_lst (h : VA X w es ga) : VE X w (.List es pos) (dLst ga) :=
  PE.imp (pe_lst h) fun σ H Q ⟨G, ρ, rel, h⟩ => ⟨G, ρ, rel, (Fn.all rel h).imp fun G1 H1 ρ1 as ⟨r1, s1, ds, e, h1⟩ vs hvs => by
    have hd := hvs.all e
    split at h1
    · exact ⟨by rw [hd.length]; assumption, hand_new r1 h1 (DR.newL r1 hd)⟩
    · exact h1.elim⟩
theorem NewL.of {K : PySem.W.Frag} {G H G1 H1 : Hp} {σ : L2.St} {ρ ρ1 : En} {p : Addr} {vs : List V} {ds : List D} (rel : Rel K G H σ ρ) (r1 : Rel K G1 H1 σ ρ1) (s1 : Stp G H σ ρ G1 H1 σ ρ1) (hp : H1 p = none) (hd : DRs K G1 vs ds) :
    NewL K H σ G1 (upd H1 p (.lst vs)) ρ1 p ds := by
  refine ⟨Same.free r1.sub hp, fun ho => ?_, ⟨vs, upd_same, hd⟩, ?_⟩
  · obtain ⟨_, ws, q⟩ := r1.own ho
    rw [hp] at q; cases q
  · cases q : H p with
    | none => rfl
    | some o => exact absurd hp (s1.tr p (by rw [q]; exact fun z => nomatch z))
theorem vn_lst (h : VA X w es ga) : VN X w (.List es pos) (nLst ga) :=
  PE.imp (pe_lst h) fun σ H Q ⟨G, ρ, rel, h⟩ => ⟨G, ρ, rel, (Fn.all rel h).imp fun G1 H1 ρ1 as ⟨r1, s1, ds, e, h1⟩ vs hvs => by
    have hd := hvs.all e
    split at h1
    · refine ⟨by rw [hd.length]; assumption, fun p hp => ?_⟩
      obtain ⟨r2, s2⟩ := r1.laidM (o := .lst vs) hp
      exact h1 _ _ r2 s2 p (NewL.of rel r1 s1 hp hd)
    · exact h1.elim⟩
end
end Dn
namespace Dn
open PySem PySem.Spec PyProof.Rows L2

/-! ### calls of what is built in -/
def CallS (K : PySem.W.Frag) (r : List V → Hp → VK → Prop) (g : List D → Option D) : Prop :=
  ∀ (vs : List V) (ds : List D) (d : D) (G H : Hp) (σ : L2.St) (ρ : En) (Q : VK), Rel K G H σ ρ → DRs K G vs ds → g ds = some d →
    (∀ G' H', Rel K G' H' σ ρ → Stp G H σ ρ G' H' σ ρ → ∀ v, DR K G' v d → Q v H') → r vs H Q
def dCall (g : List D → Option D) (ga : En → R (List AV)) : En → R D := fun ρ => (dAll ga ρ).bind fun ds ρ1 => lift (g ds) ρ1
section
variable {X : Cx} {w : Wh} {x : Str} {p pos : Pos} {e : Expr} {es : List Expr} {ga : En → R (List AV)} {id T : String} {r : List V → Hp → VK → Prop} {g : List D → Option D}
theorem CallS.run {K : PySem.W.Frag} (hs : CallS K r g) {G H : Hp} {σ : L2.St} {ρ : En} {Q : VK} (rel : Rel K G H σ ρ) (h : Fn K w G H σ ρ (dCall g ga ρ) (QD K Q)) :
    Fn K w G H σ ρ (ga ρ) (QA K σ fun vs H1 => r vs H1 Q) := (Fn.all rel h).imp fun G1 H1 ρ1 as ⟨r1, s1, ds, e, h1⟩ vs hvs => by
  obtain ⟨d, e', q⟩ := Fn.lift h1
  exact hs vs ds d G1 H1 σ ρ1 Q r1 (hvs.all e) e' q
theorem ve_cB (hc : CallR X (.builtin id) r) (hs : CallS X.K r g) (hg : Gl X x) (hm : X.mg x = none) (hv : bootBuiltins x = some (.builtin id)) (ha : VA X w (e :: es) ga) (hn : x ≠ "__name__" := by decide) (hdb : (x == ("__debug__" : Str)) = false := by decide)
    (he : starEach (e :: es) X.env = (false, eval e X.env) :: starEach es X.env := by rfl) (hpl : (backTo pos (starEach es X.env)).any (·.1) = false := by rfl) : VE X w (.Call (.Name x p) (e :: es) [] pos) (dCall g ga) :=
  PE.imp (pe_callB hc hg hm hv ha hn hdb he hpl) fun σ H Q ⟨G, ρ, rel, h⟩ => ⟨G, ρ, rel, hs.run rel h⟩
theorem ve_cT (hc : CallR X (.type T) r) (hs : CallS X.K r g) (hg : Gl X x) (hm : X.mg x = none) (hv : bootBuiltins x = some (.type T)) (ha : VA X w (e :: es) ga) (hn : x ≠ "__name__" := by decide) (hdb : (x == ("__debug__" : Str)) = false := by decide)
    (he : starEach (e :: es) X.env = (false, eval e X.env) :: starEach es X.env := by rfl) (hpl : (backTo pos (starEach es X.env)).any (·.1) = false := by rfl) : VE X w (.Call (.Name x p) (e :: es) [] pos) (dCall g ga) :=
  PE.imp (pe_callTy hc hg hm hv ha hn hdb he hpl) fun σ H Q ⟨G, ρ, rel, h⟩ => ⟨G, ρ, rel, hs.run rel h⟩

/-! #### len -/
def gLen1 : D → Option D
  | .str s => if s.length ≤ sizeLine then some (.int s.length) else none
  | .list l => some (.int l.length)
  | .tuple l => some (.int l.length)
  | _ => none
def gLen : List D → Option D
  | [d] => gLen1 d
  | _ => none
abbrev rLen (K : PySem.W.Frag) : List V → Hp → VK → Prop := fun xs H Q => ∃ x n, xs = [x] ∧ LenV K x H n ∧ Q (.int n) H
theorem gLen_ok {K : PySem.W.Frag} {G H : Hp} {σ : L2.St} {ρ : En} {v : V} {d d' : D} {Q : VK} (r : Rel K G H σ ρ) (hv : DV K G H v d) (e : gLen1 d = some d') (q : ∀ v, DR K G v d' → Q v H) : rLen K [v] H Q := by
  cases d with
  | str s =>
    have := hv.str
    subst this
    simp only [gLen1] at e
    split at e
    · cases e; exact ⟨_, s.length, rfl, ⟨‹_›, rfl⟩, q _ (.int _)⟩
    · cases e
  | list l =>
    cases e
    obtain ⟨o, vs, rfl, h, hs⟩ := hv.list r
    exact ⟨_, l.length, rfl, .inl ⟨vs, h, hs.length.symm⟩, q _ (.int _)⟩
  | tuple l =>
    cases e
    obtain ⟨o, vs, rfl, h, hs⟩ := hv.tuple r
    exact ⟨_, l.length, rfl, .inr ⟨vs, h, hs.length.symm⟩, q _ (.int _)⟩
  | _ => cases e
theorem cs_len {K : PySem.W.Frag} : CallS K (rLen K) gLen := fun vs ds d G H σ ρ Q r h e q => by
  cases h with
  | nil => cases e
  | cons h1 t =>
    cases t with
    | nil => exact gLen_ok r (.im h1) e (q _ _ r Stp.refl)
    | cons _ _ => cases e
theorem ve_len (hg : Gl X "len") (hm : X.mg "len" = none) (ha : VA X w (e :: es) ga) (he : starEach (e :: es) X.env = (false, eval e X.env) :: starEach es X.env := by rfl) (hpl : (backTo pos (starEach es X.env)).any (·.1) = false := by rfl) :
    VE X w (.Call (.Name "len" p) (e :: es) [] pos) (dCall gLen ga) := ve_cB call_len cs_len hg hm PySem.boot_len ha (by decide) (by decide) he hpl
def dLenN (i : Nat) : En → R D := atSlot i (fun ρ => .ok () ρ) fun l _ ρ => lift (gLen1 l.toD) ρ
theorem ve_lenN (i : Nat) {y : Str} {p2 : Pos} (hg : Gl X "len") (hm : X.mg "len" = none) (hN : X.N[i]? = some y := by rfl) (hv : Vis X.env.scope y := by first | exact Or.inl rfl | exact Or.inr (Or.inl rfl) | exact Or.inr (Or.inr rfl))
    (hd : (y == ("__debug__" : Str)) = false := by decide) (hcd : (y == ("__classdict__" : Str)) = false := by decide)
    (he : starEach [Expr.Name y p2] X.env = [(false, eval (.Name y p2) X.env)] := by rfl) : VE X w (.Call (.Name "len" p) [.Name y p2] [] pos) (dLenN i) := by
  refine PE.imp (pe_callB call_len hg hm PySem.boot_len (pa_cons (pe_var hN hv hd hcd) pa_nil (by rw [he]; rfl)) (by decide) (by decide) (by rw [he]; rfl) (by rfl)) fun σ H Q ⟨G, ρ, rel, h⟩ => ?_
  obtain ⟨v, s, h⟩ := Fn.slot rel h
  obtain ⟨l, e, dv, r1, s1, h1⟩ := h.ok rel
  obtain ⟨d, e', q⟩ := Fn.lift h1
  exact ⟨v, s, gLen_ok r1 dv e' (q _ _ r1 Stp.refl)⟩

/-! #### ints -/
def gAbs : List D → Option D
  | [.int i] => some (.int (if i < 0 then -i else i))
  | _ => none
def gInt : List D → Option D
  | [.int i] => some (.int i)
  | [.bool k] => some (.int (if k then 1 else 0))
  | [.str s] => if s.length ≤ 640 then (PySem.intText? s).map .int else none
  | _ => none
def gStr : List D → Option D
  | [.int i] => if i.natAbs.log2 < 1920 then some (.str (toString i)) else none
  | _ => none
def gMax2 : List D → Option D
  | [.int i, .int j] => some (.int (if j > i then j else i))
  | _ => none
def gMin2 : List D → Option D
  | [.int i, .int j] => some (.int (if j < i then j else i))
  | _ => none
theorem cs1 {K : PySem.W.Frag} {r : List V → Hp → VK → Prop} {g : List D → Option D} (hg : ∀ ds d, g ds = some d → ∃ x, ds = [x])
    (h : ∀ v x d G H σ ρ Q, Rel K G H σ ρ → DR K G v x → g [x] = some d → (∀ v, DR K G v d → Q v H) → r [v] H Q) : CallS K r g := fun vs ds d G H σ ρ Q rel hv e q => by
  obtain ⟨x, rfl⟩ := hg _ _ e
  cases hv with
  | cons h1 t =>
    cases t
    exact h _ x d G H σ ρ Q rel h1 e (q _ _ rel Stp.refl)
theorem cs2 {K : PySem.W.Frag} {r : List V → Hp → VK → Prop} {g : List D → Option D} (hg : ∀ ds d, g ds = some d → ∃ x y, ds = [x, y])
    (h : ∀ v u x y d G H σ ρ Q, Rel K G H σ ρ → DR K G v x → DR K G u y → g [x, y] = some d → (∀ v, DR K G v d → Q v H) → r [v, u] H Q) : CallS K r g := fun vs ds d G H σ ρ Q rel hv e q => by
  obtain ⟨x, y, rfl⟩ := hg _ _ e
  cases hv with
  | cons h1 t =>
    cases t with
    | cons h2 t => cases t; exact h _ _ x y d G H σ ρ Q rel h1 h2 e (q _ _ rel Stp.refl)
theorem cs_abs {K : PySem.W.Frag} : CallS K (fun xs H Q => ∃ i, xs = [.int i] ∧ Q (.int (if i < 0 then -i else i)) H) gAbs :=
  cs1 (fun ds d e => by rcases ds with _ | ⟨x, _ | ⟨y, t⟩⟩ <;> first | exact ⟨_, rfl⟩ | (cases e; done) | (cases x <;> cases e)) fun v x d G H σ ρ Q rel h e q => by
    cases h with
    | int i => cases e; exact ⟨i, rfl, q _ (.int _)⟩
    | _ => cases e
theorem cs_max2 {K : PySem.W.Frag} : CallS K (fun xs H Q => ∃ i j, xs = [.int i, .int j] ∧ Q (.int (if j > i then j else i)) H) gMax2 :=
  cs2 (fun ds d e => by rcases ds with _ | ⟨x, _ | ⟨y, _ | ⟨z, t⟩⟩⟩ <;> first | exact ⟨_, _, rfl⟩ | (cases e; done) | (cases x <;> cases e; done) | (cases x <;> cases y <;> cases e)) fun v u x y d G H σ ρ Q rel h1 h2 e q => by
    cases h1 with
    | int i =>
      cases h2 with
      | int j => cases e; exact ⟨i, j, rfl, q _ (.int _)⟩
      | _ => cases e
    | _ => cases h2 <;> cases e
theorem cs_min2 {K : PySem.W.Frag} : CallS K (fun xs H Q => ∃ i j, xs = [.int i, .int j] ∧ Q (.int (if j < i then j else i)) H) gMin2 :=
  cs2 (fun ds d e => by rcases ds with _ | ⟨x, _ | ⟨y, _ | ⟨z, t⟩⟩⟩ <;> first | exact ⟨_, _, rfl⟩ | (cases e; done) | (cases x <;> cases e; done) | (cases x <;> cases y <;> cases e)) fun v u x y d G H σ ρ Q rel h1 h2 e q => by
    cases h1 with
    | int i =>
      cases h2 with
      | int j => cases e; exact ⟨i, j, rfl, q _ (.int _)⟩
      | _ => cases e
    | _ => cases h2 <;> cases e
abbrev rInt : List V → Hp → VK → Prop := fun xs H Q => ((∃ i, xs = [.int i] ∧ Q (.int i) H) ∨ ∃ k, xs = [.bl k] ∧ Q (.int (if k then 1 else 0)) H) ∨ (∃ a n, xs = [.str a] ∧ PySem.intText? a = some n ∧ a.length ≤ 640 ∧ Q (.int n) H)
theorem call_intA : CallR X (.type "int") rInt := call_int1.or call_int_str
theorem cs_int {K : PySem.W.Frag} : CallS K rInt gInt :=
  cs1 (fun ds d e => by rcases ds with _ | ⟨x, _ | ⟨y, t⟩⟩ <;> first | exact ⟨_, rfl⟩ | (cases e; done) | (cases x <;> cases e)) fun v x d G H σ ρ Q rel h e q => by
    cases h with
    | int i => cases e; exact .inl (.inl ⟨i, rfl, q _ (.int _)⟩)
    | bl k => cases e; exact .inl (.inr ⟨k, rfl, q _ (.int _)⟩)
    | str s =>
      simp only [gInt] at e
      split at e
      · simp only [Option.map_eq_some_iff] at e
        obtain ⟨n, e, rfl⟩ := e
        exact .inr ⟨s, n, rfl, e, ‹_›, q _ (.int _)⟩
      · cases e
    | _ => cases e
theorem cs_str {K : PySem.W.Frag} : CallS K (fun xs H Q => ∃ i, xs = [.int i] ∧ i.natAbs.log2 < 1920 ∧ Q (.str (toString i)) H) gStr :=
  cs1 (fun ds d e => by rcases ds with _ | ⟨x, _ | ⟨y, t⟩⟩ <;> first | exact ⟨_, rfl⟩ | (cases e; done) | (cases x <;> cases e)) fun v x d G H σ ρ Q rel h e q => by
    cases h with
    | int i =>
      simp only [gStr] at e
      split at e
      · cases e; exact ⟨i, rfl, ‹_›, q _ (.str _)⟩
      · cases e
    | _ => cases e

/-! #### isinstance -/
def tyN : D → String
  | .none => "NoneType" | .bool _ => "bool" | .int _ => "int" | .str _ => "str" | .list _ => "list" | .tuple _ => "tuple" | .dict _ => "dict"
def isTy (t : String) : D → Bool
  | .none => t == "NoneType" | .bool _ => t == "bool" || t == "int" | .int _ => t == "int" | .str _ => t == "str" | .list _ => t == "list" | .tuple _ => t == "tuple" | .dict _ => t == "dict"
def dIsi (t : String) (f : En → R D) : En → R Bool := fun ρ => (f ρ).bind fun d ρ1 => .ok (isTy t d) ρ1
theorem DR.ty {K : PySem.W.Frag} {H : Hp} {v : V} {d : D} (h : DR K H v d) : TyX K H v (.type (tyN d)) := by
  cases h with
  | non => exact .base .non
  | bl b => exact .base (.bl b)
  | int i => exact .base (.int i)
  | str s => exact .base (.str s)
  | lst h hs =>
    rcases h with (h | ⟨o, h⟩) | ⟨o, its, n, hk, hc, _⟩
    · exact .base (.lst h)
    · exact .base (.frz h)
    · exact .kList hk hc
  | tup h hs =>
    rcases h with (h | ⟨o, h⟩) | ⟨o, its, n, hk, hc, _⟩
    · exact .base (.tup h)
    · exact .fTuple h
    · exact .kTuple hk hc
  | dic h hs => exact .base (.dK h)
def tyOk (t : String) : Bool := t == "NoneType" || t == "bool" || t == "int" || t == "str" || t == "list" || t == "tuple" || t == "dict"
def isTyS (t n : String) : Bool := t == n || (n == "bool" && t == "int")
theorem isTy_S (t : String) (d : D) : isTy t d = isTyS t (tyN d) := by
  cases d <;> simp [isTy, isTyS, tyN]
theorem isTy_kit {t : String} (ht : tyOk t = true) (d : D) : kitB (tyN d) t = some (isTy t d) := by
  have h : t = "NoneType" ∨ t = "bool" ∨ t = "int" ∨ t = "str" ∨ t = "list" ∨ t = "tuple" ∨ t = "dict" := by
    simpa [tyOk, or_assoc] using ht
  have hn : tyN d = "NoneType" ∨ tyN d = "bool" ∨ tyN d = "int" ∨ tyN d = "str" ∨ tyN d = "list" ∨ tyN d = "tuple" ∨ tyN d = "dict" := by
    cases d <;> simp [tyN]
  rw [isTy_S]
  generalize tyN d = n at hn
  rcases h with rfl | rfl | rfl | rfl | rfl | rfl | rfl <;> rcases hn with rfl | rfl | rfl | rfl | rfl | rfl | rfl <;> decide +kernel
theorem ve_isi {a : Expr} {f : En → R D} {y : Str} {t : String} {p2 : Pos} (hg : Gl X "isinstance") (hm : X.mg "isinstance" = none) (ha : VE X w a f) (hgy : Gl X y) (hmy : X.mg y = none) (hvy : bootBuiltins y = some (.type t)) (ht : tyOk t = true := by rfl)
    (hn : y ≠ "__name__" := by decide) (hdy : (y == ("__debug__" : Str)) = false := by decide)
    (he : starEach [a, Expr.Name y p2] X.env = [(false, eval a X.env), (false, eval (.Name y p2) X.env)] := by rfl)
    (he2 : starEach [Expr.Name y p2] X.env = [(false, eval (.Name y p2) X.env)] := by rfl) :
    VE X w (.Call (.Name "isinstance" p) [a, .Name y p2] [] pos) (dB (dIsi t f)) := by
  refine PE.imp (pe_callB call_isi hg hm (by decide +kernel) (pa_cons ha (pa_cons (pe_bltn (v := .ty t) hgy hmy hvy rfl hn hdy) pa_nil (by rw [he2]; rfl)) (by rw [he, he2])) (by decide) (by decide) (by rw [he, he2]) (by rw [he2]; rfl)) fun σ H Q ⟨G, ρ, rel, h⟩ => ?_
  refine ⟨G, ρ, rel, (Fn.bind rel (Fn.dB rel h)).imp fun G1 H1 ρ1 d ⟨r1, s1, h1⟩ v hv => ?_⟩
  exact ⟨v, .ty t, _, _, _, rfl, .ty t, (hv.mono r1.sub).ty, kit_ty (isTy_kit ht d), (h1.ok r1).2.2⟩
end
end Dn
namespace Dn
open PySem PySem.Spec PyProof.Rows L2

/-! ### statements -/
inductive Fl where
  | nx | bk | ct
  | rt (d : D)
  | rl (ds : List D)
/-- a list that is handed out, nobody else's -/
structure OutL (K : PySem.W.Frag) (G H : Hp) (σ : L2.St) (ρ : En) (G' H' : Hp) (σ' : L2.St) (ρ' : En) (p : Addr) (ds : List D) : Prop where
  g : G' p = none
  own : ¬ Own σ' ρ' p
  here : ∃ vs, H' p = some (.lst vs) ∧ DRs K G' vs ds
  new : H p = none ∨ ∃ (i : Nat) (es : List D), ρ[i]? = some (some (L.ow es)) ∧ σ[i]? = some (some (V.ref p))
def FnS (K : PySem.W.Frag) (w : Wh) (G H : Hp) (σ : L2.St) (ρ : En) (r : R Fl) (D : Ends) : Prop :=
  match r with
  | .no => False
  | .ok .nx ρ' => ∀ G' H' σ', Rel K G' H' σ' ρ' → Stp G H σ ρ G' H' σ' ρ' → D.nx σ' H'
  | .ok .bk ρ' => ∀ G' H' σ', Rel K G' H' σ' ρ' → Stp G H σ ρ G' H' σ' ρ' → D.bk σ' H'
  | .ok .ct ρ' => ∀ G' H' σ', Rel K G' H' σ' ρ' → Stp G H σ ρ G' H' σ' ρ' → D.ct σ' H'
  | .ok (.rt d) ρ' => ∀ G' H' σ' v, Rel K G' H' σ' ρ' → Stp G H σ ρ G' H' σ' ρ' → DR K G' v d → D.rt v H'
  | .ok (.rl ds) ρ' => ∀ G' H' σ' p, Rel K G' H' σ' ρ' → Stp G H σ ρ G' H' σ' ρ' → OutL K G H σ ρ G' H' σ' ρ' p ds → D.rt (.ref p) H'
  | .ex c ρ' => ∀ G' H' σ' cls dx, Rel K G' H' σ' ρ' → Stp G H σ ρ G' H' σ' ρ' → ExR K w G' H' c cls dx → w.W cls dx σ' H'
abbrev tsS (K : PySem.W.Frag) (w : Wh) (f : En → R Fl) : TS := fun D σ H => ∃ G ρ, Rel K G H σ ρ ∧ FnS K w G H σ ρ (f ρ) D
abbrev VS (X : Cx) (w : Wh) (st : Stmt) (f : En → R Fl) : Prop := PS X st (tsS X.K w f)
abbrev VSs (X : Cx) (w : Wh) (sts : List Stmt) (f : En → R Fl) : Prop := PSs X sts (tsS X.K w f)

section
variable {K : PySem.W.Frag} {w : Wh} {G H G1 H1 G2 H2 : Hp} {σ σ1 σ2 : L2.St} {ρ ρ1 ρ2 : En}
/-- an own slot keeps being own and at its place, or goes; here: what is moved out of a later state was new or own before -/
theorem OutL.back (rel : Rel K G H σ ρ) (r1 : Rel K G1 H1 σ1 ρ1) (s1 : Stp G H σ ρ G1 H1 σ1 ρ1) {p : Addr} {ds : List D} (h : OutL K G1 H1 σ1 ρ1 G2 H2 σ2 ρ2 p ds) : OutL K G H σ ρ G2 H2 σ2 ρ2 p ds := by
  refine ⟨h.g, h.own, h.here, ?_⟩
  cases q : H p with
  | none => exact .inl rfl
  | some o =>
    rcases h.new with z | ⟨i, es, e, s⟩
    · exact absurd z (s1.tr p (by rw [q]; exact fun z => nomatch z))
    · rcases s1.ow p ⟨i, _, e, rfl, s⟩ with ⟨j, l, ej, mj, sj⟩ | z
      · cases l with
        | im d => cases mj
        | ow es' => exact .inr ⟨j, es', ej, sj⟩
        | bo es' =>
          obtain ⟨e1, ds', e2⟩ := s1.bo j es' ej
          have := r1.apart i j _ _ p e e2 rfl rfl s (e1.trans sj)
          subst this
          rw [e] at e2; cases e2
      · rw [q] at z; cases z
/-- behind a first step -/
theorem FnS.after (rel : Rel K G H σ ρ) (r1 : Rel K G1 H1 σ1 ρ1) (s1 : Stp G H σ ρ G1 H1 σ1 ρ1) {r : R Fl} {D : Ends} (h : FnS K w G H σ ρ r D) : FnS K w G1 H1 σ1 ρ1 r D := by
  cases r with
  | no => exact h
  | ex c ρ' => exact fun G' H' σ' cls dx r2 s2 => h G' H' σ' cls dx r2 (s1.trans rel s2)
  | ok f ρ' =>
    cases f with
    | nx => exact fun G' H' σ' r2 s2 => h G' H' σ' r2 (s1.trans rel s2)
    | bk => exact fun G' H' σ' r2 s2 => h G' H' σ' r2 (s1.trans rel s2)
    | ct => exact fun G' H' σ' r2 s2 => h G' H' σ' r2 (s1.trans rel s2)
    | rt d => exact fun G' H' σ' v r2 s2 => h G' H' σ' v r2 (s1.trans rel s2)
    | rl ds => exact fun G' H' σ' p r2 s2 ho => h G' H' σ' p r2 (s1.trans rel s2) (ho.back rel r1 s1)
/-- first an expression -/
theorem FnS.bind {α : Type} {r : R α} {g : α → En → R Fl} {D : Ends} (rel : Rel K G H σ ρ) (h : FnS K w G H σ ρ (r.bind g) D) :
    Fn K w G H σ ρ r (fun G1 H1 ρ1 a => Rel K G1 H1 σ ρ1 ∧ Stp G H σ ρ G1 H1 σ ρ1 ∧ FnS K w G1 H1 σ ρ1 (g a ρ1) D) := by
  cases r with
  | no => exact h
  | ex c ρ' => exact fun G' H' cls dx r1 s1 x => h G' H' σ cls dx r1 s1 x
  | ok a ρ' => exact fun G1 H1 r1 s1 => ⟨r1, s1, FnS.after rel r1 s1 (show FnS K w G H σ ρ (g a ρ') D from h)⟩
theorem FnS.lift {α : Type} {o : Option α} {g : α → R Fl} {D : Ends} (h : FnS K w G H σ ρ (match o with | some a => g a | none => .no) D) : ∃ a, o = some a ∧ FnS K w G H σ ρ (g a) D := by
  cases o with
  | none => exact h.elim
  | some a => exact ⟨a, rfl, h⟩
theorem FnS.nx {D : Ends} (h : FnS K w G H σ ρ (.ok .nx ρ1) D) {σ' : L2.St} (r : Rel K G1 H1 σ' ρ1) (s : Stp G H σ ρ G1 H1 σ' ρ1) : D.nx σ' H1 := h _ _ _ r s
/-- a block's first statement -/
theorem FnS.seq {f g : En → R Fl} {D : Ends} (rel : Rel K G H σ ρ) (h : FnS K w G H σ ρ ((f ρ).bind fun fl ρ1 => match fl with | .nx => g ρ1 | fl => .ok fl ρ1) D) :
    FnS K w G H σ ρ (f ρ) { D with nx := fun σ1 H1 => ∃ G1 ρ1, Rel K G1 H1 σ1 ρ1 ∧ FnS K w G1 H1 σ1 ρ1 (g ρ1) D } := by
  cases q : f ρ with
  | no => rw [q] at h; exact h
  | ex c ρ' => rw [q] at h; exact h
  | ok fl ρ' =>
    rw [q] at h
    cases fl with
    | nx => exact fun G1 H1 σ1 r1 s1 => ⟨G1, ρ', r1, FnS.after rel r1 s1 (show FnS K w G H σ ρ (g ρ') D from h)⟩
    | bk => exact h
    | ct => exact h
    | rt d => exact h
    | rl ds => exact h
end
def dSeq (f g : En → R Fl) : En → R Fl := fun ρ => (f ρ).bind fun fl ρ1 => match fl with
  | .nx => g ρ1
  | fl => .ok fl ρ1
def dNx : En → R Fl := fun ρ => .ok .nx ρ
def dBk : En → R Fl := fun ρ => .ok .bk ρ
def dCt : En → R Fl := fun ρ => .ok .ct ρ
def dRet (f : En → R D) : En → R Fl := fun ρ => (f ρ).bind fun d ρ1 => .ok (.rt d) ρ1
def dRetL (f : En → R (List D)) : En → R Fl := fun ρ => (f ρ).bind fun d ρ1 => .ok (.rl d) ρ1
def dDrop (f : En → R D) : En → R Fl := fun ρ => (f ρ).bind fun _ ρ1 => .ok .nx ρ1
def dIf (c : En → R Bool) (f g : En → R Fl) : En → R Fl := fun ρ => (c ρ).bind fun b ρ1 => if b = true then f ρ1 else g ρ1
section
variable {X : Cx} {w : Wh} {st : Stmt} {rest : List Stmt} {f g : En → R Fl} {pos : Pos} {e : Expr} {fe : En → R D}
theorem vss_nil : VSs X w [] dNx := PSs.imp pss_nil fun D σ H ⟨G, ρ, rel, h⟩ => FnS.nx (show FnS X.K w G H σ ρ (.ok .nx ρ) D from h) rel Stp.refl
theorem vss_cons (h1 : VS X w st f) (h2 : VSs X w rest g) : VSs X w (st :: rest) (dSeq f g) := PSs.imp (pss_cons h1 h2) fun D σ H ⟨G, ρ, rel, h⟩ => ⟨G, ρ, rel, FnS.seq rel h⟩
theorem vss_one (h1 : VS X w st f) : VSs X w [st] f := pss_one h1
theorem vs_pass : VS X w (.Pass pos) dNx := PS.imp ps_pass fun D σ H ⟨G, ρ, rel, h⟩ => FnS.nx (show FnS X.K w G H σ ρ (.ok .nx ρ) D from h) rel Stp.refl
theorem vs_break : VS X w (.Break pos) dBk := PS.imp ps_break fun D σ H ⟨G, ρ, rel, h⟩ => (show FnS X.K w G H σ ρ (.ok .bk ρ) D from h) _ _ _ rel Stp.refl
theorem vs_cont : VS X w (.Continue pos) dCt := PS.imp ps_continue fun D σ H ⟨G, ρ, rel, h⟩ => (show FnS X.K w G H σ ρ (.ok .ct ρ) D from h) _ _ _ rel Stp.refl
theorem vs_ret (he : VE X w e fe) : VS X w (.Return (some e) pos) (dRet fe) := PS.imp (ps_ret he) fun D σ H ⟨G, ρ, rel, h⟩ => ⟨G, ρ, rel, (FnS.bind rel h).imp fun G1 H1 ρ1 d ⟨r1, s1, h1⟩ v hv =>
  (show FnS X.K w G1 H1 σ ρ1 (.ok (.rt d) ρ1) D from h1) _ _ _ _ r1 Stp.refl hv⟩
theorem vs_retN : VS X w (.Return none pos) (dRet (dC .none)) := PS.imp ps_retN fun D σ H ⟨G, ρ, rel, h⟩ => (show FnS X.K w G H σ ρ (.ok (.rt .none) ρ) D from h) _ _ _ _ rel Stp.refl .non
theorem vs_expr (he : VE X w e fe) (hs : swapsWith e none pos.line X.env = pure false := by rfl) : VS X w (.Expr e pos) (dDrop fe) := PS.imp (ps_expr he hs) fun D σ H ⟨G, ρ, rel, h⟩ => ⟨G, ρ, rel, (FnS.bind rel h).imp fun G1 H1 ρ1 d ⟨r1, s1, h1⟩ v hv =>
  FnS.nx (show FnS X.K w G1 H1 σ ρ1 (.ok .nx ρ1) D from h1) r1 Stp.refl⟩
theorem vs_if {c : Expr} {a b : List Stmt} {gc : En → R Bool} (hc : VT X w c gc) (ha : VSs X w a f) (hb : VSs X w b g) : VS X w (.If c a b pos) (dIf gc f g) := PS.imp (ps_if hc ha hb) fun D σ H ⟨G, ρ, rel, h⟩ => ⟨G, ρ, rel, (FnS.bind rel h).imp fun G1 H1 ρ1 b ⟨r1, s1, h1⟩ => by
  cases b with
  | true => exact iteT ⟨G1, ρ1, r1, h1⟩
  | false => exact iteF ⟨G1, ρ1, r1, h1⟩⟩
theorem vs_retL {fl : En → R (List D)} (he : VN X w e fl) : VS X w (.Return (some e) pos) (dRetL fl) := PS.imp (ps_ret he) fun D σ H ⟨G, ρ, rel, h⟩ => ⟨G, ρ, rel, by
  unfold dRetL at h
  cases q : fl ρ with
  | no => rw [q] at h; exact h
  | ex c ρ' => rw [q] at h; exact fun G' H' cls dx r1 s1 x => h G' H' σ cls dx r1 s1 x
  | ok ds ρ' =>
    rw [q] at h
    exact fun G1 H1 r1 s1 p n => h G1 H1 σ p r1 s1 ⟨n.g, n.own, n.here, .inl n.new⟩⟩
end

/-! ### stores into slots -/
section
variable {K : PySem.W.Frag} {G H : Hp} {σ : L2.St} {ρ : En}
theorem set_same {α : Type} {l : List α} {i : Nat} {a b : α} (h : l[i]? = some b) : (l.set i a)[i]? = some a := List.getElem?_set_self (List.getElem?_eq_some_iff.mp h).1
/-- the slot i takes a datum -/
theorem Rel.put (r : Rel K G H σ ρ) {i : Nat} {c : Option L} (hi : ρ[i]? = some c) (hb : ∀ ds, c ≠ some (L.bo ds)) {v : V} {d : D} (hv : DR K G v d) :
    Rel K G H (σ.set i (some v)) (ρ.set i (some (.im d))) ∧ Stp G H σ ρ G H (σ.set i (some v)) (ρ.set i (some (.im d))) := by
  have hσ : i < σ.length := by rw [r.len]; exact (List.getElem?_eq_some_iff.mp hi).1
  have lk : ∀ j, j ≠ i → (ρ.set i (some (L.im d)))[j]? = ρ[j]? := fun j hj => List.getElem?_set_ne (Ne.symm hj)
  have ls : ∀ j, j ≠ i → (σ.set i (some v))[j]? = σ[j]? := fun j hj => List.getElem?_set_ne (Ne.symm hj)
  have lki : (ρ.set i (some (L.im d)))[i]? = some (some (.im d)) := set_same hi
  have own : ∀ a, Own (σ.set i (some v)) (ρ.set i (some (.im d))) a → Own σ ρ a := fun a ⟨j, l, e, m, s⟩ => by
    have hj : j ≠ i := fun z => by subst z; rw [lki] at e; cases e; cases m
    rw [lk j hj] at e; rw [ls j hj] at s
    exact ⟨j, l, e, m, s⟩
  refine ⟨⟨r.sub, by rw [List.length_set, List.length_set]; exact r.len, fun j l e => ?_, fun j k l m a ej ek lj mk sj sk => ?_⟩, ⟨Same.refl _, fun _ _ h _ => h, fun _ h => .inl h, fun a h => .inl (own a h), fun _ h => h, by rw [List.length_set], fun j ds e => ?_⟩⟩
  · by_cases hj : j = i
    · subst hj; rw [lki] at e; cases e
      exact ⟨v, List.getElem?_set_self hσ, hv⟩
    · rw [lk j hj] at e; rw [ls j hj]; exact r.cell j l e
  · have hj : j ≠ i := fun z => by subst z; rw [lki] at ej; cases ej; cases lj
    have hk : k ≠ i := fun z => by subst z; rw [lki] at ek; cases ek; cases mk
    rw [lk j hj] at ej; rw [ls j hj] at sj; rw [lk k hk] at ek; rw [ls k hk] at sk
    exact r.apart j k l m a ej ek lj mk sj sk
  · have hj : j ≠ i := fun z => by subst z; rw [hi] at e; exact hb ds (Option.some.inj e)
    exact ⟨ls j hj, ds, by rw [lk j hj]; exact e⟩
/-- the slot i takes a new list of its own -/
theorem Rel.putL (r : Rel K G H σ ρ) {i : Nat} {c : Option L} (hi : ρ[i]? = some c) (hb : ∀ ds, c ≠ some (L.bo ds)) {p : Addr} {ds : List D} (hg : G p = none) (ho : ¬ Own σ ρ p) (hh : ∃ vs, H p = some (.lst vs) ∧ DRs K G vs ds) :
    Rel K G H (σ.set i (some (.ref p))) (ρ.set i (some (.ow ds))) := by
  obtain ⟨vs, hp, hd⟩ := hh
  have hσ : i < σ.length := by rw [r.len]; exact (List.getElem?_eq_some_iff.mp hi).1
  have lk : ∀ j, j ≠ i → (ρ.set i (some (L.ow ds)))[j]? = ρ[j]? := fun j hj => List.getElem?_set_ne (Ne.symm hj)
  have ls : ∀ j, j ≠ i → (σ.set i (some (V.ref p)))[j]? = σ[j]? := fun j hj => List.getElem?_set_ne (Ne.symm hj)
  have lki : (ρ.set i (some (L.ow ds)))[i]? = some (some (.ow ds)) := set_same hi
  have lsi : (σ.set i (some (V.ref p)))[i]? = some (some (.ref p)) := List.getElem?_set_self hσ
  refine ⟨r.sub, by rw [List.length_set, List.length_set]; exact r.len, fun j l e => ?_, fun j k l m a ej ek lj mk sj sk => ?_⟩
  · by_cases hj : j = i
    · subst hj; rw [lki] at e; cases e
      exact ⟨_, lsi, p, vs, rfl, hg, hp, hd⟩
    · rw [lk j hj] at e; rw [ls j hj]; exact r.cell j l e
  · by_cases hj : j = i
    · subst hj
      by_cases hk : k = j
      · exact hk.symm
      · rw [lk k hk] at ek; rw [ls k hk] at sk
        rw [lsi] at sj; cases sj
        exact absurd ⟨k, m, ek, mk, sk⟩ ho
    · rw [lk j hj] at ej; rw [ls j hj] at sj
      by_cases hk : k = i
      · subst hk
        rw [lsi] at sk; cases sk
        exact absurd ⟨j, l, ej, lj, sj⟩ ho
      · rw [lk k hk] at ek; rw [ls k hk] at sk
        exact r.apart j k l m a ej ek lj mk sj sk
theorem Stp.putL {G0 H0 : Hp} {σ0 : L2.St} {ρ0 : En} (s : Stp G0 H0 σ0 ρ0 G H σ ρ) {i : Nat} {c : Option L} (hi : ρ[i]? = some c) (hb : ∀ ds, c ≠ some (L.bo ds)) {p : Addr} {ds : List D} (hn : H0 p = none) :
    Stp G0 H0 σ0 ρ0 G H (σ.set i (some (.ref p))) (ρ.set i (some (.ow ds))) := by
  have lk : ∀ j, j ≠ i → (ρ.set i (some (L.ow ds)))[j]? = ρ[j]? := fun j hj => List.getElem?_set_ne (Ne.symm hj)
  have ls : ∀ j, j ≠ i → (σ.set i (some (V.ref p)))[j]? = σ[j]? := fun j hj => List.getElem?_set_ne (Ne.symm hj)
  refine ⟨s.g, s.h, s.fr, fun a ⟨j, l, e, m, q⟩ => ?_, s.tr, by rw [List.length_set]; exact s.ln, fun j es e => ?_⟩
  · by_cases hj : j = i
    · subst hj
      have hσ : j < σ.length := by
        have := (List.getElem?_eq_some_iff.mp q).1
        rwa [List.length_set] at this
      rw [List.getElem?_set_self hσ] at q
      cases q
      exact .inr hn
    · rw [lk j hj] at e; rw [ls j hj] at q
      exact s.ow a ⟨j, l, e, m, q⟩
  · obtain ⟨e1, ds', e2⟩ := s.bo j es e
    have hj : j ≠ i := fun z => by subst z; rw [hi] at e2; exact hb ds' (Option.some.inj e2)
    exact ⟨(ls j hj).trans e1, ds', by rw [lk j hj]; exact e2⟩
end
/-- no lent slot is stored into -/
def free (c : Option (Option L)) : Bool := match c with
  | none => false
  | some (some (.bo _)) => false
  | _ => true
theorem free_ok {ρ : En} {i : Nat} (h : free ρ[i]? = true) : ∃ c, ρ[i]? = some c ∧ ∀ ds, c ≠ some (L.bo ds) := by
  cases q : ρ[i]? with
  | none => rw [q] at h; cases h
  | some c =>
    refine ⟨c, rfl, fun ds e => ?_⟩
    subst e
    rw [q] at h; cases h
def putIm (i : Nat) (d : D) (ρ : En) : R Unit := if free ρ[i]? = true then .ok () (ρ.set i (some (.im d))) else .no
def putOw (i : Nat) (ds : List D) (ρ : En) : R Unit := if free ρ[i]? = true then .ok () (ρ.set i (some (.ow ds))) else .no
/-! targets -/
def FnG (K : PySem.W.Frag) (G H : Hp) (σ : L2.St) (ρ : En) (r : R Unit) (Q : L2.St → Hp → Prop) : Prop :=
  match r with
  | .ok _ ρ' => ∀ G' H' σ', Rel K G' H' σ' ρ' → Stp G H σ ρ G' H' σ' ρ' → Q σ' H'
  | _ => False
abbrev VG (X : Cx) (tg : Expr) (g : D → En → R Unit) : Prop := PG X tg (fun v σ H Q => ∃ G ρ d, Rel X.K G H σ ρ ∧ DR X.K G v d ∧ FnG X.K G H σ ρ (g d ρ) Q)
abbrev VGs (X : Cx) (tgs : List Expr) (g : List D → En → R Unit) : Prop := PGs X tgs (fun vs σ H Q => ∃ G ρ ds, Rel X.K G H σ ρ ∧ DRs X.K G vs ds ∧ FnG X.K G H σ ρ (g ds ρ) Q)
theorem PG.imp {X : Cx} {e : Expr} {t t' : TG} (h : PG X e t) (i : ∀ v σ H Q, t' v σ H Q → t v σ H Q) : PG X e t' := ⟨fun pins s σ H v u Q I r q => h.run pins s σ H v u Q I r (i _ _ _ _ q)⟩
theorem PGs.imp {X : Cx} {e : List Expr} {t t' : TGs} (h : PGs X e t) (i : ∀ v σ H Q, t' v σ H Q → t v σ H Q) : PGs X e t' := ⟨fun pins s σ H v u Q I r q => h.run pins s σ H v u Q I r (i _ _ _ _ q)⟩
def gsNil : List D → En → R Unit := fun ds ρ => match ds with
  | [] => .ok () ρ
  | _ => .no
def gsCons (g : D → En → R Unit) (h : List D → En → R Unit) : List D → En → R Unit := fun ds ρ => match ds with
  | d :: r => (g d ρ).bind fun _ ρ1 => h r ρ1
  | [] => .no
def gTupD (n : Nat) (h : List D → En → R Unit) : D → En → R Unit := fun d ρ => match d with
  | .tuple ds => if ds.length = n then h ds ρ else .no
  | _ => .no
section
variable {X : Cx} {w : Wh} {x : Str} {pos p : Pos} {e : Expr} {es : List Expr} {fe : En → R D} {g : D → En → R Unit} {h : List D → En → R Unit}
theorem FnG.put {K : PySem.W.Frag} {G H : Hp} {σ : L2.St} {ρ : En} {i : Nat} {v : V} {d : D} {Q : L2.St → Hp → Prop} (rel : Rel K G H σ ρ) (hv : DR K G v d) (q : FnG K G H σ ρ (putIm i d ρ) Q) : Q (σ.set i (some v)) H := by
  unfold putIm at q
  split at q
  · rename_i hf
    obtain ⟨c, hc, hb⟩ := free_ok hf
    obtain ⟨r1, s1⟩ := rel.put hc hb hv
    exact q _ _ _ r1 s1
  · exact q.elim
theorem vg_name (i : Nat) (hN : X.N.Nodup) (hi : X.N[i]? = some x := by rfl) (hx : Loc X.env.scope x := by first | exact Or.inl rfl | exact Or.inr rfl) (hf : X.fn x = true ∨ X.env.scope.names.lookup x = some .local := by first | exact .inl rfl | exact .inr rfl | assumption) : VG X (.Name x pos) (putIm i) :=
  PG.imp (pg_name hN hi hx hf) fun v σ H Q ⟨G, ρ, d, rel, hv, q⟩ => FnG.put rel hv q
theorem vgs_nil : VGs X [] gsNil := PGs.imp pgs_nil fun vs σ H Q ⟨G, ρ, ds, rel, hv, q⟩ => by
  cases hv with
  | nil => exact ⟨rfl, q _ _ _ rel Stp.refl⟩
  | cons _ _ => exact q.elim
theorem vgs_cons (h1 : VG X e g) (h2 : VGs X es h) (hs : (assignEach (e :: es) X.env).map (·.2) = assign e X.env :: (assignEach es X.env).map (·.2) := by rfl) : VGs X (e :: es) (gsCons g h) :=
  PGs.imp (pgs_cons h1 h2 hs) fun vs σ H Q ⟨G, ρ, ds, rel, hv, q⟩ => by
    cases hv with
    | nil => exact q.elim
    | @cons v vs d ds hv1 hvs =>
      have q' : FnG X.K G H σ ρ ((g d ρ).bind fun _ ρ1 => h ds ρ1) Q := q
      refine ⟨v, vs, rfl, G, ρ, d, rel, hv1, ?_⟩
      cases e1 : g d ρ with
      | no => rw [e1] at q'; exact q'
      | ex c ρ' => rw [e1] at q'; exact q'
      | ok u ρ' =>
        rw [e1] at q'
        intro G1 H1 σ1 r1 s1
        refine ⟨G1, ρ', ds, r1, hvs.mono s1.g, ?_⟩
        have q2 : FnG X.K G H σ ρ (h ds ρ') Q := q'
        cases e2 : h ds ρ' with
        | no => rw [e2] at q2; exact q2
        | ex c ρ'' => rw [e2] at q2; exact q2
        | ok u' ρ'' => rw [e2] at q2; exact fun G2 H2 σ2 r2 s2 => q2 G2 H2 σ2 r2 (s1.trans rel s2)
theorem vg_tup {k : Nat} {n : Nat} (hc : X.calm = true) (hs : VGs X es h) (hn : (assignEach es X.env).length = n := by rfl) (hst : (assignEach es X.env).findIdx? (·.1) = none := by rfl) : VG X (.Tuple es k pos) (gTupD n h) :=
  PG.imp (pg_tup hc hs hn hst) fun v σ H Q ⟨G, ρ, d, rel, hv, q⟩ => by
    cases hv with
    | @tup a xs ds hq hds =>
      have q' : FnG X.K G H σ ρ (if ds.length = n then h ds ρ else .no) Q := q
      split at q'
      · rename_i hl
        exact ⟨a, xs, rfl, Same.tup rel.sub hq, by rw [hds.length]; exact hl, G, ρ, ds, rel, hds, q'⟩
      · exact q'.elim
    | _ => exact q.elim
def dAsg (g : D → En → R Unit) (f : En → R D) : En → R Fl := fun ρ => (f ρ).bind fun d ρ1 => (g d ρ1).bind fun _ ρ2 => .ok .nx ρ2
theorem FnS.tg {K : PySem.W.Frag} {G H : Hp} {σ : L2.St} {ρ : En} {r : R Unit} {D : Ends} (h : FnS K w G H σ ρ (r.bind fun _ ρ2 => .ok .nx ρ2) D) (hx : ∀ c ρ', r ≠ .ex c ρ') : FnG K G H σ ρ r D.nx := by
  cases r with
  | no => exact h
  | ex c ρ' => exact absurd rfl (hx c ρ')
  | ok u ρ' => exact h
/-- no target raises -/
def NoX (g : D → En → R Unit) : Prop := ∀ d ρ c ρ', g d ρ ≠ .ex c ρ'
theorem nox_put {i : Nat} : NoX (putIm i) := fun d ρ c ρ' => by
  unfold putIm; split <;> exact fun z => nomatch z
theorem vs_asg {tg : Expr} (he : VE X w e fe) (hg : VG X tg g) (hx : NoX g) (hs : swapsWithSole [tg] e pos.line X.env = pure false := by rfl) (hw : swappedStores [tg] e X.env = pure none := by rfl)
    (h1 : (assignEach [tg] X.env).map (·.2) = [assign tg X.env] := by rfl) : VS X w (.Assign [tg] e pos) (dAsg g fe) :=
  PS.imp (ps_asg he hg hs hw h1) fun D σ H ⟨G, ρ, rel, h⟩ => ⟨G, ρ, rel, (FnS.bind rel h).imp fun G1 H1 ρ1 d ⟨r1, s1, h1⟩ v hv => ⟨G1, ρ1, d, r1, hv, FnS.tg h1 (hx d ρ1)⟩⟩
theorem vs_set (i : Nat) {pos' : Pos} (hN : X.N.Nodup) (he : VE X w e fe) (hi : X.N[i]? = some x := by rfl) (hx : Loc X.env.scope x := by first | exact Or.inl rfl | exact Or.inr rfl) (hs : swapsWith e (some (.Name x pos')) pos.line X.env = pure false := by rfl)
    (hf : X.fn x = true ∨ X.env.scope.names.lookup x = some .local := by first | exact .inl rfl | exact .inr rfl | assumption) : VS X w (.Assign [.Name x pos'] e pos) (dAsg (putIm i) fe) :=
  PS.imp (ps_set hN hi hx he hs hf) fun D σ H ⟨G, ρ, rel, h⟩ => ⟨G, ρ, rel, (FnS.bind rel h).imp fun G1 H1 ρ1 d ⟨r1, s1, h1⟩ v hv => FnG.put r1 hv (FnS.tg h1 (nox_put d ρ1))⟩
def dAsgL (i : Nat) (f : En → R (List D)) : En → R Fl := fun ρ => (f ρ).bind fun ds ρ1 => (putOw i ds ρ1).bind fun _ ρ2 => .ok .nx ρ2
theorem vs_setL (i : Nat) {pos' : Pos} {fl : En → R (List D)} (hN : X.N.Nodup) (he : VN X w e fl) (hi : X.N[i]? = some x := by rfl) (hx : Loc X.env.scope x := by first | exact Or.inl rfl | exact Or.inr rfl) (hs : swapsWith e (some (.Name x pos')) pos.line X.env = pure false := by rfl)
    (hf : X.fn x = true ∨ X.env.scope.names.lookup x = some .local := by first | exact .inl rfl | exact .inr rfl | assumption) : VS X w (.Assign [.Name x pos'] e pos) (dAsgL i fl) :=
  PS.imp (ps_set hN hi hx he hs hf) fun D σ H ⟨G, ρ, rel, h⟩ => ⟨G, ρ, rel, by
    unfold dAsgL at h
    cases q : fl ρ with
    | no => rw [q] at h; exact h
    | ex c ρ' => rw [q] at h; exact fun G' H' cls dx r1 s1 x => h G' H' σ cls dx r1 s1 x
    | ok ds ρ' =>
      rw [q] at h
      intro G1 H1 r1 s1 p n
      have h' : FnS X.K w G H σ ρ ((putOw i ds ρ').bind fun _ ρ2 => .ok .nx ρ2) D := h
      unfold putOw at h'
      split at h'
      · rename_i hf
        obtain ⟨c, hc, hb⟩ := free_ok hf
        exact FnS.nx (show FnS X.K w G H σ ρ (.ok .nx (ρ'.set i (some (.ow ds)))) D from h') (r1.putL hc hb n.g n.own n.here) (s1.putL hc hb n.new)
      · exact h'.elim⟩
/-- a, b = x, y -/
def dPar (i j : Nat) (ga : En → R (List AV)) : En → R Fl := fun ρ => (dAll ga ρ).bind fun ds ρ1 => match ds with
  | [a, b] => (putIm i a ρ1).bind fun _ ρ2 => (putIm j b ρ2).bind fun _ ρ3 => .ok .nx ρ3
  | _ => .no
theorem FnS.all {K : PySem.W.Frag} {G H : Hp} {σ : L2.St} {ρ : En} {ga : En → R (List AV)} {g : List D → En → R Fl} {Z : Ends} (rel : Rel K G H σ ρ) (h : FnS K w G H σ ρ ((dAll ga ρ).bind g) Z) :
    Fn K w G H σ ρ (ga ρ) (fun G1 H1 ρ1 as => Rel K G1 H1 σ ρ1 ∧ Stp G H σ ρ G1 H1 σ ρ1 ∧ ∃ ds, allIm as = some ds ∧ FnS K w G1 H1 σ ρ1 (g ds ρ1) Z) := by
  have h' : FnS K w G H σ ρ ((ga ρ).bind fun as ρ1 => (Dn.lift (allIm as) ρ1 : R (List D)).bind g) Z := by
    have : (dAll ga ρ).bind g = (ga ρ).bind fun as ρ1 => (Dn.lift (allIm as) ρ1 : R (List D)).bind g := by
      unfold dAll
      cases ga ρ <;> rfl
    rw [← this]; exact h
  refine (FnS.bind rel h').imp fun G1 H1 ρ1 as ⟨r1, s1, h1⟩ => ⟨r1, s1, ?_⟩
  cases q : allIm as with
  | none => rw [q] at h1; exact h1.elim
  | some ds => rw [q] at h1; exact ⟨ds, rfl, h1⟩
theorem vs_par (i j : Nat) {y : Str} {a b : Expr} {ga : En → R (List AV)} {px py pt : Pos} {kt k2 : Nat} {pt2 : Pos} (hc : X.calm = true) (hN : X.N.Nodup) (ha : VA X w [a, b] ga) (hi : X.N[i]? = some x := by rfl) (hj : X.N[j]? = some y := by rfl) (hij : i ≠ j := by decide)
    (hx : X.env.scope.names.lookup x = some .local := by rfl) (hy : X.env.scope.names.lookup y = some .local := by rfl)
    (hw : swappedStores [.Tuple [.Name x px, .Name y py] kt pt] (.Tuple [a, b] k2 pt2) X.env = pure (some [x, y]) := by rfl)
    (hs : swapsWithSole [.Tuple [.Name x px, .Name y py] kt pt] (.Tuple [a, b] k2 pt2) pos.line X.env = pure false := by rfl) :
    VS X w (.Assign [.Tuple [.Name x px, .Name y py] kt pt] (.Tuple [a, b] k2 pt2) pos) (dPar i j ga) :=
  PS.imp (ps_par hc hN hi hj hij hx hy ha hw hs) fun D σ H ⟨G, ρ, rel, h⟩ => ⟨G, ρ, rel, (FnS.all rel h).imp fun G1 H1 ρ1 as ⟨r1, s1, ds, e, h1⟩ vs hvs => by
    have hd := hvs.all e
    cases hd with
    | nil => exact h1.elim
    | @cons v vs d ds hv hvs' =>
      cases hvs' with
      | nil => exact h1.elim
      | @cons u vs d' ds hu t =>
        cases t with
        | cons _ _ => exact h1.elim
        | nil =>
          refine ⟨v, u, rfl, ?_⟩
          have h2 : FnS X.K w G1 H1 σ ρ1 ((putIm i d ρ1).bind fun _ ρ2 => (putIm j d' ρ2).bind fun _ ρ3 => .ok .nx ρ3) D := h1
          unfold putIm at h2
          split at h2
          · rename_i hf
            obtain ⟨c, hc', hb⟩ := free_ok hf
            obtain ⟨r2, s2⟩ := r1.put hc' hb hv
            have h3 : FnS X.K w G1 H1 σ ρ1 ((if free (ρ1.set i (some (.im d)))[j]? = true then R.ok () ((ρ1.set i (some (.im d))).set j (some (.im d'))) else .no).bind fun _ ρ3 => .ok .nx ρ3) D := h2
            split at h3
            · rename_i hf2
              obtain ⟨c2, hc2, hb2⟩ := free_ok hf2
              obtain ⟨r3, s3⟩ := r2.put hc2 hb2 hu
              exact FnS.nx (show FnS X.K w G1 H1 σ ρ1 (.ok .nx _) D from h3) r3 (s2.trans r1 s3)
            · exact h3.elim
          · exact h2.elim⟩
end
end Dn
namespace Dn
open PySem PySem.Spec PyProof.Rows L2

/-! ### lists that change -/
def L.put : L → List D → L
  | .im d, _ => .im d
  | .ow _, ds => .ow ds
  | .bo _, ds => .bo ds
def L.mine : L → Option (List D)
  | .im _ => none
  | .ow ds => some ds
  | .bo ds => some ds
section
variable {K : PySem.W.Frag} {w : Wh} {G H : Hp} {σ : L2.St} {ρ : En}
theorem Rel.mine (r : Rel K G H σ ρ) {i : Nat} {l : L} {ds : List D} (h : ρ[i]? = some (some l)) (m : l.mine = some ds) : ∃ o vs, σ[i]? = some (some (V.ref o)) ∧ G o = none ∧ H o = some (.lst vs) ∧ DRs K G vs ds := by
  obtain ⟨v, s, c⟩ := r.cell i l h
  cases l with
  | im d => cases m
  | ow es => cases m; obtain ⟨o, vs, rfl, g, q, hd⟩ := c; exact ⟨o, vs, s, g, q, hd⟩
  | bo es => cases m; obtain ⟨o, vs, rfl, g, q, hd⟩ := c; exact ⟨o, vs, s, g, q, hd⟩
theorem L.put_mu {l : L} {ds es : List D} (m : l.mine = some ds) : (l.put es).mu = true ∧ l.mu = true ∧ (l.put es).mine = some es := by
  cases l <;> first | (cases m; done) | exact ⟨rfl, rfl, rfl⟩
theorem Rel.change (r : Rel K G H σ ρ) {i : Nat} {l : L} {ds es : List D} (h : ρ[i]? = some (some l)) (m : l.mine = some ds) {o : Addr} (s : σ[i]? = some (some (V.ref o))) {vs : List V} (hd : DRs K G vs es) :
    Rel K G (upd H o (.lst vs)) σ (ρ.set i (some (l.put es))) ∧ Stp G H σ ρ G (upd H o (.lst vs)) σ (ρ.set i (some (l.put es))) := by
  obtain ⟨o', ws, s', go, ho, _⟩ := r.mine h m
  rw [s] at s'; cases s'
  obtain ⟨pm, lm, pq⟩ := L.put_mu (es := es) m
  have lk : ∀ j, j ≠ i → (ρ.set i (some (l.put es)))[j]? = ρ[j]? := fun j hj => List.getElem?_set_ne (Ne.symm hj)
  have lki : (ρ.set i (some (l.put es)))[i]? = some (some (l.put es)) := set_same h
  have own_o : Own σ ρ o := ⟨i, l, h, lm, s⟩
  have ownb : ∀ a, Own σ (ρ.set i (some (l.put es))) a → Own σ ρ a := fun a ⟨j, k, e, mu', q⟩ => by
    by_cases hj : j = i
    · subst hj; rw [s] at q; cases q; exact own_o
    · rw [lk j hj] at e; exact ⟨j, k, e, mu', q⟩
  refine ⟨⟨fun b x e => ?_, by rw [List.length_set]; exact r.len, fun j k e => ?_, fun j k a b c ej ek mj mk sj sk => ?_⟩, ⟨Same.refl _, fun a x e n => ?_, fun a q => .inl q, fun a q => .inl (ownb a q), tracked_upd, by rw [List.length_set], fun j bs e => ⟨rfl, ?_⟩⟩⟩
  · have hb : b ≠ o := ne_of_none e go
    rw [upd_ne hb]; exact r.sub b x e
  · by_cases hj : j = i
    · subst hj
      rw [lki] at e; cases e
      refine ⟨_, s, ?_⟩
      cases l with
      | im d => cases m
      | ow _ => exact ⟨o, vs, rfl, go, upd_same, hd⟩
      | bo _ => exact ⟨o, vs, rfl, go, upd_same, hd⟩
    · rw [lk j hj] at e
      obtain ⟨v, q, c⟩ := r.cell j k e
      refine ⟨v, q, ?_⟩
      have away : ∀ p, v = V.ref p → k.mu = true → p ≠ o := fun p ev mk eo => by
        subst ev; subst eo
        exact hj (r.apart j i k l p e h mk lm q s)
      cases k with
      | im d => exact c
      | ow _ => obtain ⟨p, us, rfl, g, q', hd'⟩ := c; exact ⟨p, us, rfl, g, by rw [upd_ne (away p rfl rfl)]; exact q', hd'⟩
      | bo _ => obtain ⟨p, us, rfl, g, q', hd'⟩ := c; exact ⟨p, us, rfl, g, by rw [upd_ne (away p rfl rfl)]; exact q', hd'⟩
  · have old : ∀ (j : Nat) (a : L), (ρ.set i (some (l.put es)))[j]? = some (some a) → a.mu = true → ∃ a', ρ[j]? = some (some a') ∧ a'.mu = true := fun j a e ma => by
      by_cases hj : j = i
      · subst hj; exact ⟨l, h, lm⟩
      · rw [lk j hj] at e; exact ⟨a, e, ma⟩
    obtain ⟨a', e1, m1⟩ := old j a ej mj
    obtain ⟨b', e2, m2⟩ := old k b ek mk
    exact r.apart j k a' b' c e1 e2 m1 m2 sj sk
  · have ha : a ≠ o := fun z => by subst z; exact n own_o
    rw [upd_ne ha]; exact e
  · by_cases hj : j = i
    · subst hj
      rw [h] at e; cases e
      exact ⟨es, lki⟩
    · exact ⟨bs, by rw [lk j hj]; exact e⟩
end
/-- at a list of one's own -/
def atMine {α β : Type} (i : Nat) (f : En → R β) (g : L → List D → β → En → R α) : En → R α := fun ρ => match ρ[i]? with
  | some (some l0) => match l0.mine with
    | some _ => (f ρ).bind fun y ρ1 => match ρ1[i]? with
      | some (some l) => match l.mine with
        | some ds => g l ds y ρ1
        | none => .no
      | _ => .no
    | none => .no
  | _ => .no
section
variable {X : Cx} {w : Wh} {x : Str} {p pos : Pos} {e : Expr} {fe fi : En → R D}
theorem FnS.mine {α : Type} {K : PySem.W.Frag} {G H : Hp} {σ : L2.St} {ρ : En} {i : Nat} {f : En → R α} {g : L → List D → α → En → R Fl} {Z : Ends} (rel : Rel K G H σ ρ) (h : FnS K w G H σ ρ (atMine i f g ρ) Z) :
    ∃ o, σ[i]? = some (some (V.ref o)) ∧ (∃ vs, H o = some (.lst vs)) ∧ Fn K w G H σ ρ (f ρ) (fun G1 H1 ρ1 y => ∃ l ds, ρ1[i]? = some (some l) ∧ l.mine = some ds ∧ Rel K G1 H1 σ ρ1 ∧ Stp G H σ ρ G1 H1 σ ρ1 ∧ FnS K w G1 H1 σ ρ1 (g l ds y ρ1) Z) := by
  unfold atMine at h
  split at h
  · rename_i l0 e0
    split at h
    · rename_i es m0
      obtain ⟨o, vs, s, go, ho, hd⟩ := rel.mine e0 m0
      refine ⟨o, s, ⟨vs, ho⟩, (FnS.bind rel h).imp fun G1 H1 ρ1 y ⟨r1, s1, h1⟩ => ?_⟩
      split at h1
      · rename_i l e1
        split at h1
        · rename_i ds m; exact ⟨l, ds, e1, m, r1, s1, h1⟩
        · exact h1.elim
      · exact h1.elim
    · exact h.elim
  · exact h.elim
theorem Fn.mine {α β : Type} {K : PySem.W.Frag} {G H : Hp} {σ : L2.St} {ρ : En} {i : Nat} {f : En → R α} {g : L → List D → α → En → R β} {P : Hp → Hp → En → β → Prop} (rel : Rel K G H σ ρ) (h : Fn K w G H σ ρ (atMine i f g ρ) P) :
    ∃ o, σ[i]? = some (some (V.ref o)) ∧ (∃ vs, H o = some (.lst vs)) ∧ Fn K w G H σ ρ (f ρ) (fun G1 H1 ρ1 y => ∃ l ds, ρ1[i]? = some (some l) ∧ l.mine = some ds ∧ Rel K G1 H1 σ ρ1 ∧ Stp G H σ ρ G1 H1 σ ρ1 ∧ Fn K w G1 H1 σ ρ1 (g l ds y ρ1) P) := by
  unfold atMine at h
  split at h
  · rename_i l0 e0
    split at h
    · rename_i es m0
      obtain ⟨o, vs, s, go, ho, hd⟩ := rel.mine e0 m0
      refine ⟨o, s, ⟨vs, ho⟩, (Fn.bind rel h).imp fun G1 H1 ρ1 y ⟨r1, s1, h1⟩ => ?_⟩
      split at h1
      · rename_i l e1
        split at h1
        · rename_i ds m; exact ⟨l, ds, e1, m, r1, s1, h1⟩
        · exact h1.elim
      · exact h1.elim
    · exact h.elim
  · exact h.elim
/-- x.append(e) -/
def dApp (i : Nat) (f : En → R D) : En → R Fl := atMine i f fun l ds d ρ => if ds.length < sizeLine then .ok .nx (ρ.set i (some (l.put (ds ++ [d])))) else .no
theorem vs_append (i : Nat) {apos : Pos} (he : VE X w e fe) (hN : X.N[i]? = some x := by rfl) (hv : Vis X.env.scope x := by first | exact Or.inl rfl | exact Or.inr (Or.inl rfl) | exact Or.inr (Or.inr rfl)) (hd : (x == ("__debug__" : Str)) = false := by decide) (hcd : (x == ("__classdict__" : Str)) = false := by decide)
    (hbase : attributeBase (.Name x p) "append" X.env (eval (.Name x p) X.env) = eval (.Name x p) X.env := by rfl) (hline : (apos.endLine == pos.line) = true := by rfl)
    (hfew : ((backTo pos (starEach [e] X.env)).all (fun x => !x.1) && (backToKw pos (keywordEach [] X.env)).all (fun x => x.1.isSome) && decide (([e] : List Expr).length + ([] : List Keyword).length + (if ([] : List Keyword).isEmpty then 0 else 1) < 30)) = true := by rfl)
    (hs : starEach [e] X.env = (false, eval e X.env) :: starEach [] X.env := by rfl) {pos2 : Pos} (hsw : swapsWith (.Call (.Attribute (.Name x p) "append" apos) [e] [] pos) none pos2.line X.env = pure false := by rfl) :
    VS X w (.Expr (.Call (.Attribute (.Name x p) "append" apos) [e] [] pos) pos2) (dApp i fe) :=
  PS.imp (ps_expr (pe_bm PySem.F.plainAttrs_list PySem.F.slot_list_append PySem.F.type_list_append mt_append (pe_var hN hv hd hcd) (pa_cons he pa_nil hs) hbase hfew hline hs (by rfl)) hsw) fun Z σ H ⟨G, ρ, rel, h⟩ => by
    obtain ⟨o, s, ⟨vs, ho⟩, h⟩ := FnS.mine rel h
    refine ⟨.ref o, s, .inl ⟨rfl, vs, .inl (.inl ho)⟩, G, ρ, rel, h.imp fun G1 H1 ρ1 d ⟨l, ds, e1, m, r1, s1, h1⟩ v hv => ?_⟩
    obtain ⟨o', ws, s', go, hw, hd⟩ := r1.mine e1 m
    rw [s] at s'; cases s'
    split at h1
    · obtain ⟨r2, s2⟩ := r1.change e1 m s (hd.append (.cons hv .nil))
      exact ⟨o, ws, v, rfl, rfl, hw, by rw [hd.length]; assumption, FnS.nx h1 r2 s2⟩
    · exact h1.elim
/-- x[k] = e -/
def dSetI (i : Nat) (f k : En → R D) : En → R Fl := fun ρ => (f ρ).bind fun d ρ1 => atMine i k (fun l ds y ρ2 => match asI y with
  | some z => match ixN ds.length z with
    | some j => .ok .nx (ρ2.set i (some (l.put (ds.set j d))))
    | none => .no
  | none => .no) ρ1
theorem vs_setI (i : Nat) {k : Expr} {pos2 : Pos} (he : VE X w e fe) (hk : VE X w k fi) (hN : X.N[i]? = some x := by rfl) (hv : Vis X.env.scope x := by first | exact Or.inl rfl | exact Or.inr (Or.inl rfl) | exact Or.inr (Or.inr rfl)) (hd : (x == ("__debug__" : Str)) = false := by decide) (hcd : (x == ("__classdict__" : Str)) = false := by decide)
    (ha : ∀ v, assign (.Subscript (.Name x p) k pos) X.env v = (do
      let ov ← holding [v] (eval (.Name x p) X.env)
      let iv ← holding [v, ov] (eval k X.env)
      standAt pos
      holding [v, ov, iv] (setItem ov iv v)
      release [v, ov, iv] []) := by intro _; rfl)
    (hs : swapsWithSole [.Subscript (.Name x p) k pos] e pos2.line X.env = pure false := by rfl) (hw : swappedStores [.Subscript (.Name x p) k pos] e X.env = pure none := by rfl)
    (h1 : (assignEach [.Subscript (.Name x p) k pos] X.env).map (·.2) = [assign (.Subscript (.Name x p) k pos) X.env] := by rfl) : VS X w (.Assign [.Subscript (.Name x p) k pos] e pos2) (dSetI i fe fi) :=
  PS.imp (ps_asg he (pg_sub (pe_var hN hv hd hcd) hk set_list ha) hs hw h1) fun Z σ H ⟨G, ρ, rel, h⟩ => ⟨G, ρ, rel, (FnS.bind rel h).imp fun G1 H1 ρ1 d ⟨r1, s1, h1⟩ v hv => by
    obtain ⟨o, s, ⟨vs, ho⟩, h2⟩ := FnS.mine r1 h1
    refine ⟨.ref o, s, G1, ρ1, r1, h2.imp fun G2 H2 ρ2 y ⟨l, ds, e2, m, r2, s2, h3⟩ u hu => ?_⟩
    obtain ⟨o', ws, s', go, hw, hd⟩ := r2.mine e2 m
    rw [s] at s'; cases s'
    split at h3
    · rename_i z ez
      split at h3
      · rename_i j ej
        obtain ⟨r3, s3⟩ := r2.change e2 m s (hd.set (hv.mono s2.g) j)
        cases hu with
        | int q => cases ez; exact ⟨o, ws, z, j, rfl, rfl, hw, by rw [hd.length]; exact ej, FnS.nx h3 r3 s3⟩
        | _ => cases ez
      · exact h3.elim
    · exact h3.elim⟩

/-! ### a name that is handed out -/
theorem Rel.drop {K : PySem.W.Frag} {G H : Hp} {σ : L2.St} {ρ : En} (r : Rel K G H σ ρ) {i : Nat} {ds : List D} (h : ρ[i]? = some (some (L.ow ds))) :
    ∃ o, σ[i]? = some (some (V.ref o)) ∧ Rel K G H σ (ρ.set i none) ∧ Stp G H σ ρ G H σ (ρ.set i none) ∧ OutL K G H σ ρ G H σ (ρ.set i none) o ds := by
  obtain ⟨o, vs, s, go, ho, hd⟩ := r.mine h rfl
  have lk : ∀ j, j ≠ i → (ρ.set i none)[j]? = ρ[j]? := fun j hj => List.getElem?_set_ne (Ne.symm hj)
  have lki : (ρ.set i none)[i]? = some none := set_same h
  have old : ∀ (j : Nat) (l : L), (ρ.set i none)[j]? = some (some l) → j ≠ i ∧ ρ[j]? = some (some l) := fun j l e => by
    by_cases hj : j = i
    · subst hj; rw [lki] at e; cases e
    · rw [lk j hj] at e; exact ⟨hj, e⟩
  refine ⟨o, s, ⟨r.sub, by rw [List.length_set]; exact r.len, fun j l e => r.cell j l (old j l e).2, fun j k l m a ej ek lj mk sj sk => r.apart j k l m a (old j l ej).2 (old k m ek).2 lj mk sj sk⟩,
    ⟨Same.refl _, fun _ _ h _ => h, fun _ h => .inl h, fun a ⟨j, l, e, m, q⟩ =>   .inl ⟨j, l, (old j l e).2, m, q⟩, fun _ h => h, by rw [List.length_set], fun j es e => ⟨rfl, es, ?_⟩⟩, ⟨go, fun ⟨j, l, e, m, q⟩ => ?_, ⟨vs, ho, hd⟩, .inr ⟨i, ds, h, s⟩⟩⟩
  · have hj : j ≠ i := fun z => by subst z; rw [h] at e; cases e
    rw [lk j hj]; exact e
  · obtain ⟨hj, e⟩ := old j l e
    exact hj (r.apart j i l _ o e h m rfl q s)
def dRetV (i : Nat) : En → R Fl := fun ρ => match ρ[i]? with
  | some (some (.ow ds)) => .ok (.rl ds) (ρ.set i none)
  | some (some (.im d)) => .ok (.rt d) ρ
  | _ => .no
theorem vs_retV (i : Nat) (hN : X.N[i]? = some x := by rfl) (hv : Vis X.env.scope x := by first | exact Or.inl rfl | exact Or.inr (Or.inl rfl) | exact Or.inr (Or.inr rfl)) (hd : (x == ("__debug__" : Str)) = false := by decide) (hcd : (x == ("__classdict__" : Str)) = false := by decide) :
    VS X w (.Return (some (.Name x p)) pos) (dRetV i) := PS.imp (ps_ret (pe_var hN hv hd hcd)) fun Z σ H ⟨G, ρ, rel, h⟩ => by
  unfold dRetV at h
  split at h
  · rename_i ds e
    obtain ⟨o, s, r1, s1, ho⟩ := rel.drop e
    exact ⟨.ref o, s, h _ _ _ _ r1 s1 ho⟩
  · rename_i d e
    obtain ⟨v, s, c⟩ := rel.cell i _ e
    exact ⟨v, s, h _ _ _ _ rel Stp.refl c⟩
  · exact h.elim
end
end Dn
namespace Dn
open PySem PySem.Spec PyProof.Rows L2

/-! ### while -/
def isNo {α : Type} : R α → Bool
  | .no => true
  | _ => false
def whN (c : En → R Bool) (b : En → R Fl) : Nat → En → R Fl
  | 0, _ => .no
  | n + 1, ρ => (c ρ).bind fun t ρ1 => if t = true then (b ρ1).bind fun fl ρ2 => match fl with
      | .nx => whN c b n ρ2
      | .ct => whN c b n ρ2
      | .bk => .ok .nx ρ2
      | .rt d => .ok (.rt d) ρ2
      | .rl ds => .ok (.rl ds) ρ2
    else .ok .nx ρ1
open Classical in
noncomputable def dWhile (c : En → R Bool) (b : En → R Fl) : En → R Fl := fun ρ => if h : ∃ n, isNo (whN c b n ρ) = false then whN c b h.choose ρ else .no
theorem whN_succ {c : En → R Bool} {b : En → R Fl} : ∀ {n : Nat} {ρ : En}, isNo (whN c b n ρ) = false → whN c b (n + 1) ρ = whN c b n ρ
  | 0, ρ, h => by cases h
  | n + 1, ρ, h => by
    have h' := h
    show (c ρ).bind _ = (c ρ).bind _
    rw [whN] at h'
    cases q : c ρ with
    | no => rfl
    | ex e ρ1 => rfl
    | ok t ρ1 =>
      rw [q] at h'
      cases t with
      | false => rfl
      | true =>
        show (b ρ1).bind _ = (b ρ1).bind _
        have h2 : isNo ((b ρ1).bind fun fl ρ2 => match fl with | .nx => whN c b n ρ2 | .ct => whN c b n ρ2 | .bk => .ok .nx ρ2 | .rt d => .ok (.rt d) ρ2 | .rl ds => .ok (.rl ds) ρ2) = false := h'
        cases q2 : b ρ1 with
        | no => rfl
        | ex e ρ2 => rfl
        | ok fl ρ2 =>
          rw [q2] at h2
          cases fl with
          | nx => exact whN_succ (n := n) h2
          | ct => exact whN_succ (n := n) h2
          | bk => rfl
          | rt d => rfl
          | rl ds => rfl
theorem whN_le {c : En → R Bool} {b : En → R Fl} {n m : Nat} {ρ : En} (h : isNo (whN c b n ρ) = false) (l : n ≤ m) : whN c b m ρ = whN c b n ρ := by
  induction l with
  | refl => rfl
  | step _ ih => rw [whN_succ (by rw [ih]; exact h), ih]
theorem dWhile_of {c : En → R Bool} {b : En → R Fl} {n : Nat} {ρ : En} (h : isNo (whN c b n ρ) = false) : dWhile c b ρ = whN c b n ρ := by
  unfold dWhile
  have hx : ∃ n, isNo (whN c b n ρ) = false := ⟨n, h⟩
  rw [dif_pos hx]
  rcases Nat.le_total hx.choose n with l | l
  · exact (whN_le hx.choose_spec l).symm
  · exact whN_le h l
theorem dWhile_no {c : En → R Bool} {b : En → R Fl} {ρ : En} (h : isNo (dWhile c b ρ) = false) : ∃ n, whN c b n ρ = dWhile c b ρ := by
  unfold dWhile at h ⊢
  split at h
  · rename_i hx; exact ⟨hx.choose, by rw [dif_pos hx]⟩
  · cases h
/-- one turn -/
theorem dWhile_turn {c : En → R Bool} {b : En → R Fl} {ρ : En} : dWhile c b ρ = (c ρ).bind fun t ρ1 => if t = true then (b ρ1).bind fun fl ρ2 => match fl with
      | .nx => dWhile c b ρ2
      | .ct => dWhile c b ρ2
      | .bk => .ok .nx ρ2
      | .rt d => .ok (.rt d) ρ2
      | .rl ds => .ok (.rl ds) ρ2
    else .ok .nx ρ1 := by
  have key : ∀ {n : Nat}, isNo (whN c b (n + 1) ρ) = false → whN c b (n + 1) ρ = (c ρ).bind fun t ρ1 => if t = true then (b ρ1).bind fun fl ρ2 => match fl with
      | .nx => dWhile c b ρ2
      | .ct => dWhile c b ρ2
      | .bk => .ok .nx ρ2
      | .rt d => .ok (.rt d) ρ2
      | .rl ds => .ok (.rl ds) ρ2
    else .ok .nx ρ1 := fun {n} h => by
    rw [whN] at h ⊢
    cases q : c ρ with
    | no => rfl
    | ex e ρ1 => rfl
    | ok t ρ1 =>
      rw [q] at h
      cases t with
      | false => rfl
      | true =>
        show (b ρ1).bind _ = (b ρ1).bind _
        have h2 : isNo ((b ρ1).bind fun fl ρ2 => match fl with | .nx => whN c b n ρ2 | .ct => whN c b n ρ2 | .bk => .ok .nx ρ2 | .rt d => .ok (.rt d) ρ2 | .rl ds => .ok (.rl ds) ρ2) = false := h
        cases q2 : b ρ1 with
        | no => rfl
        | ex e ρ2 => rfl
        | ok fl ρ2 =>
          rw [q2] at h2
          cases fl with
          | nx => exact (dWhile_of h2).symm
          | ct => exact (dWhile_of h2).symm
          | bk => rfl
          | rt d => rfl
          | rl ds => rfl
  by_cases hx : ∃ n, isNo (whN c b n ρ) = false
  · obtain ⟨n, hn⟩ := hx
    cases n with
    | zero => cases hn
    | succ n => rw [dWhile_of hn, key hn]
  · have e1 : dWhile c b ρ = .no := by unfold dWhile; rw [dif_neg hx]
    rw [e1]
    cases q : c ρ with
    | no => rfl
    | ex e ρ1 => exact absurd ⟨1, by rw [whN, q]; rfl⟩ hx
    | ok t ρ1 =>
      cases t with
      | false => exact absurd ⟨1, by rw [whN, q]; rfl⟩ hx
      | true =>
        show R.no = (b ρ1).bind _
        cases q2 : b ρ1 with
        | no => rfl
        | ex e ρ2 => exact absurd ⟨1, by rw [whN, q]; show isNo ((b ρ1).bind _) = false; rw [q2]; rfl⟩ hx
        | ok fl ρ2 =>
          have hw : ∀ n, isNo (whN c b n ρ2) = false → (fl = .nx ∨ fl = .ct) → False := fun n hn hf => hx ⟨n + 1, by
            rw [whN, q]; show isNo ((b ρ1).bind _) = false; rw [q2]
            rcases hf with rfl | rfl <;> exact hn⟩
          cases fl with
          | nx => show R.no = dWhile c b ρ2; unfold dWhile; rw [dif_neg fun ⟨n, hn⟩ => hw n hn (.inl rfl)]
          | ct => show R.no = dWhile c b ρ2; unfold dWhile; rw [dif_neg fun ⟨n, hn⟩ => hw n hn (.inr rfl)]
          | bk => exact absurd ⟨1, by rw [whN, q]; show isNo ((b ρ1).bind _) = false; rw [q2]; rfl⟩ hx
          | rt d => exact absurd ⟨1, by rw [whN, q]; show isNo ((b ρ1).bind _) = false; rw [q2]; rfl⟩ hx
          | rl d => exact absurd ⟨1, by rw [whN, q]; show isNo ((b ρ1).bind _) = false; rw [q2]; rfl⟩ hx
section
variable {X : Cx} {w : Wh} {pos : Pos}
/-- a loop's body, then what comes -/
theorem FnS.loop {K : PySem.W.Frag} {G H : Hp} {σ : L2.St} {ρ : En} {b : En → R Fl} {k : En → R Fl} {Z : Ends} (rel : Rel K G H σ ρ)
    (h : FnS K w G H σ ρ ((b ρ).bind fun fl ρ2 => match fl with | .nx => k ρ2 | .ct => k ρ2 | .bk => .ok .nx ρ2 | .rt d => .ok (.rt d) ρ2 | .rl ds => .ok (.rl ds) ρ2) Z) {N : L2.St → Hp → Prop}
    (hN : ∀ G1 H1 σ1 ρ1, Rel K G1 H1 σ1 ρ1 → Stp G H σ ρ G1 H1 σ1 ρ1 → FnS K w G1 H1 σ1 ρ1 (k ρ1) Z → N σ1 H1) : FnS K w G H σ ρ (b ρ) { Z with nx := N, ct := N, bk := Z.nx } := by
  cases q : b ρ with
  | no => rw [q] at h; exact h
  | ex c ρ' => rw [q] at h; exact h
  | ok fl ρ' =>
    rw [q] at h
    cases fl with
    | nx => exact fun G1 H1 σ1 r1 s1 => hN _ _ _ _ r1 s1 (FnS.after rel r1 s1 (show FnS K w G H σ ρ (k ρ') Z from h))
    | ct => exact fun G1 H1 σ1 r1 s1 => hN _ _ _ _ r1 s1 (FnS.after rel r1 s1 (show FnS K w G H σ ρ (k ρ') Z from h))
    | bk => exact h
    | rt d => exact h
    | rl ds => exact h
theorem FnS.notNo {K : PySem.W.Frag} {G H : Hp} {σ : L2.St} {ρ : En} {r : R Fl} {Z : Ends} (h : FnS K w G H σ ρ r Z) : isNo r = false := by
  cases r with
  | no => exact h.elim
  | _ => rfl
theorem vs_while {c : Expr} {body : List Stmt} {gc : En → R Bool} {gb : En → R Fl} (hp : PassesOwn (model X.prog X.w) X.A X.env X.xe) (hc : VT X w c gc) (hb : VSs X w body gb) : VS X w (.While c body [] pos) (dWhile gc gb) :=
  PS.imp (ps_while hp hc hb) fun Z σ H ⟨G, ρ, rel, h⟩ => by
    obtain ⟨n, hn⟩ := dWhile_no h.notNo
    rw [← hn] at h
    refine ⟨fun m σ H => ∃ G ρ, Rel X.K G H σ ρ ∧ FnS X.K w G H σ ρ (whN gc gb m ρ) Z, ⟨n, G, ρ, rel, h⟩, ?_⟩
    rintro m σ H ⟨G, ρ, rel, h⟩
    cases m with
    | zero => exact h.elim
    | succ m =>
      rw [whN] at h
      refine ⟨G, ρ, rel, (FnS.bind rel h).imp fun G1 H1 ρ1 t ⟨r1, s1, h1⟩ => ?_⟩
      cases t with
      | false => exact iteF (FnS.nx (show FnS X.K w G1 H1 σ ρ1 (.ok .nx ρ1) Z from h1) r1 Stp.refl)
      | true =>
        refine iteT ⟨fun σ' H' => ∃ G ρ, Rel X.K G H' σ' ρ ∧ FnS X.K w G H' σ' ρ (whN gc gb m ρ) Z, fun σ' H' q => ⟨m, Nat.lt_succ_self m, q⟩, G1, ρ1, r1, ?_⟩
        exact FnS.loop r1 h1 fun G2 H2 σ2 ρ2 r2 s2 h2 => ⟨G2, ρ2, r2, h2⟩
end

/-! ### for -/
structure ItS (K : PySem.W.Frag) (G0 : Hp) (J : It) (ds : List D) : Prop where
  go : ∀ i H, i < ds.length → Same G0 H → J.go i H
  stop : ∀ H, Same G0 H → J.stop ds.length H
  yld : ∀ (i : Nat) (H : Hp) (x : V) (H' : Hp) (d : D), ds[i]? = some d → J.yld i H x H' → ∀ G σ ρ, Same G0 G → Rel K G H σ ρ → ∃ G', Rel K G' H' σ ρ ∧ Stp G H σ ρ G' H' σ ρ ∧ DR K G' x d
abbrev VI (X : Cx) (w : Wh) (tg iter : Expr) (f : En → R (List D)) : Prop := PI X tg iter (fun σ H R => ∃ G ρ, Rel X.K G H σ ρ ∧ Fn X.K w G H σ ρ (f ρ) (fun G1 H1 _ ds => ∀ J, ItS X.K G1 J ds → R J H1))
def dForL (g : D → En → R Unit) (b : En → R Fl) : List D → En → R Fl
  | [], ρ => .ok .nx ρ
  | d :: ds, ρ => (g d ρ).bind fun _ ρ1 => (b ρ1).bind fun fl ρ2 => match fl with
    | .nx => dForL g b ds ρ2
    | .ct => dForL g b ds ρ2
    | .bk => .ok .nx ρ2
    | .rt d => .ok (.rt d) ρ2
    | .rl ds => .ok (.rl ds) ρ2
def dFor (f : En → R (List D)) (g : D → En → R Unit) (b : En → R Fl) : En → R Fl := fun ρ => (f ρ).bind fun ds ρ1 => dForL g b ds ρ1
section
variable {X : Cx} {w : Wh} {pos : Pos}
theorem PI.imp {tg e : Expr} {t t' : TI} (h : PI X tg e t) (i : ∀ σ H R, t' σ H R → t σ H R) : PI X tg e t' := ⟨fun pins s σ H R I q => h.run pins s σ H R I (i _ _ _ q)⟩
theorem vs_for {tg iter : Expr} {body : List Stmt} {fi : En → R (List D)} {g : D → En → R Unit} {gb : En → R Fl} (hp : PassesOwn (model X.prog X.w) X.A X.env X.xe) (hc : X.calm = true) (hi : VI X w tg iter fi) (hg : VG X tg g) (hx : NoX g) (hb : VSs X w body gb)
    (hs : ∀ x, foldedSetIterable iter X.env x = pure x := by intro _; rfl) : VS X w (.For tg iter body [] pos) (dFor fi g gb) :=
  PS.imp (ps_for hp hc hi hg hb hs) fun Z σ H ⟨G, ρ, rel, h⟩ => ⟨G, ρ, rel, (FnS.bind rel h).imp fun G1 H1 ρ1 ds ⟨r1, s1, h1⟩ J hJ => by
    refine ⟨fun i m σ H => m = ds.length - i ∧ i ≤ ds.length ∧ ∃ G ρ, Same G1 G ∧ Rel X.K G H σ ρ ∧ FnS X.K w G H σ ρ (dForL g gb (ds.drop i) ρ) Z, ⟨ds.length, rfl, Nat.zero_le _, G1, ρ1, Same.refl _, r1, by rw [List.drop_zero]; exact h1⟩, ?_⟩
    rintro i m σ H ⟨rfl, hi, G, ρ, sG, r, h⟩
    have sH : Same G1 H := sG.trans r.sub
    by_cases hlt : i < ds.length
    · obtain ⟨d, hd⟩ : ∃ d, ds[i]? = some d := ⟨ds[i], List.getElem?_eq_getElem hlt⟩
      have hdrop : ds.drop i = d :: ds.drop (i + 1) := by
        rw [List.drop_eq_getElem_cons hlt]
        rw [List.getElem?_eq_getElem hlt] at hd; cases hd; rfl
      rw [hdrop] at h
      refine .inr ⟨hJ.go i H hlt sH, fun σ' H' => ∃ G ρ, Same G1 G ∧ Rel X.K G H' σ' ρ ∧ FnS X.K w G H' σ' ρ (dForL g gb (ds.drop (i + 1)) ρ) Z, fun σ' H' q => ⟨_, by omega, rfl, hlt, q⟩, fun x H' hy => ?_⟩
      obtain ⟨G', r', s', hx'⟩ := hJ.yld i H x H' d hd hy G σ ρ sG r
      have h' := FnS.after r r' s' h
      refine ⟨G', ρ, d, r', hx', ?_⟩
      have h2 : FnS X.K w G' H' σ ρ ((g d ρ).bind fun _ ρ1 => (gb ρ1).bind fun fl ρ2 => match fl with | .nx => dForL g gb (ds.drop (i + 1)) ρ2 | .ct => dForL g gb (ds.drop (i + 1)) ρ2 | .bk => .ok .nx ρ2 | .rt d => .ok (.rt d) ρ2 | .rl ds => .ok (.rl ds) ρ2) Z := h'
      cases q : g d ρ with
      | no => rw [q] at h2; exact h2.elim
      | ex c ρ2 => exact absurd q (hx d ρ c ρ2)
      | ok u ρ2 =>
        rw [q] at h2
        intro G2 H2 σ2 r2 s2
        refine ⟨G2, ρ2, r2, FnS.loop r2 (FnS.after r' r2 s2 h2) fun G3 H3 σ3 ρ3 r3 s3 h3 => ⟨G3, ρ3, ((sG.trans s'.g).trans s2.g).trans s3.g, r3, h3⟩⟩
    · have e : i = ds.length := by omega
      subst e
      refine .inl ⟨hJ.stop H sH, ?_⟩
      rw [List.drop_length] at h
      exact FnS.nx (show FnS X.K w G H σ ρ (.ok .nx ρ) Z from h) r Stp.refl⟩
/-! what is walked -/
def iD (f : En → R D) : En → R (List D) := fun ρ => (f ρ).bind fun d ρ1 => match d with
  | .list ds => .ok ds ρ1
  | .tuple ds => .ok ds ρ1
  | .str s => .ok (s.cps.toList.map fun c => .str ⟨#[c]⟩) ρ1
  | _ => .no
theorem its_list {K : PySem.W.Frag} {G0 : Hp} {a : Addr} {vs : List V} {ds : List D} (h : SqL K G0 a vs) (hd : DRs K G0 vs ds) : ItS K G0 (Itl K a) ds where
  go := fun i H hi s => ⟨vs, vs[i]'(by rw [hd.length]; exact hi), s.seq h, List.getElem?_eq_getElem _⟩
  stop := fun H s => ⟨vs, s.seq h, by rw [hd.length]; exact Nat.le_refl _⟩
  yld := fun i H x H' d e y G σ ρ sG r => by
    obtain ⟨rfl, f⟩ := y
    obtain ⟨v, ev, hv⟩ := hd.get e
    have := f vs ((sG.trans r.sub).seq h)
    rw [ev] at this; cases this
    exact ⟨G, r, Stp.refl, hv.mono sG⟩
theorem its_tup {K : PySem.W.Frag} {G0 : Hp} {a : Addr} {vs : List V} {ds : List D} (h : SqT K G0 a vs) (hd : DRs K G0 vs ds) : ItS K G0 (Itt K a) ds where
  go := fun i H hi s => ⟨vs, vs[i]'(by rw [hd.length]; exact hi), Same.tup s h, List.getElem?_eq_getElem _⟩
  stop := fun H s => ⟨vs, Same.tup s h, by rw [hd.length]; exact Nat.le_refl _⟩
  yld := fun i H x H' d e y G σ ρ sG r => by
    obtain ⟨rfl, f⟩ := y
    obtain ⟨v, ev, hv⟩ := hd.get e
    have := f vs (Same.tup (sG.trans r.sub) h)
    rw [ev] at this; cases this
    exact ⟨G, r, Stp.refl, hv.mono sG⟩
def rngD (lo : Int) (n : Nat) : List D := (List.range n).map fun (i : Nat) => PyData.int (lo + (i : Int))
theorem its_range {K : PySem.W.Frag} {G0 : Hp} {lo : Int} {n : Nat} : ItS K G0 (Itr lo n) (rngD lo n) where
  go := fun i H hi s => by show i < n; simpa [rngD] using hi
  stop := fun H s => by show n ≤ _; simp [rngD]
  yld := fun i H x H' d e y G σ ρ sG r => by
    obtain ⟨rfl, rfl⟩ := y
    simp only [rngD, List.getElem?_map, Option.map_eq_some_iff] at e
    obtain ⟨j, ej, rfl⟩ := e
    have hi : i < n := by have := (List.getElem?_eq_some_iff.mp ej).1; simpa using this
    rw [List.getElem?_range hi] at ej
    cases ej; exact ⟨G, r, Stp.refl, .int _⟩
def rngC (lo c : Int) (n : Nat) : List D := (List.range n).map fun (i : Nat) => PyData.int (lo + (i : Int) * c)
theorem its_rangeC {K : PySem.W.Frag} {G0 : Hp} {lo c : Int} {n : Nat} : ItS K G0 (Itc lo c n) (rngC lo c n) where
  go := fun i H hi s => by show i < n; simpa [rngC] using hi
  stop := fun H s => by show n ≤ _; simp [rngC]
  yld := fun i H x H' d e y G σ ρ sG r => by
    obtain ⟨rfl, rfl⟩ := y
    simp only [rngC, List.getElem?_map, Option.map_eq_some_iff] at e
    obtain ⟨j, ej, rfl⟩ := e
    have hi : i < n := by have := (List.getElem?_eq_some_iff.mp ej).1; simpa using this
    rw [List.getElem?_range hi] at ej
    cases ej; exact ⟨G, r, Stp.refl, .int _⟩
def strD (s : Str) : List D := s.cps.toList.map fun c => PyData.str ⟨#[c]⟩
theorem its_str {K : PySem.W.Frag} {G0 : Hp} {s : Str} : ItS K G0 (Its s) (strD s) where
  go := fun i H hi _ => by show i < s.cps.size; simpa [strD] using hi
  stop := fun H _ => by show s.cps.size ≤ _; simp [strD]
  yld := fun i H x H' d e y G σ ρ sG r => by
    obtain ⟨rfl, c, ec, rfl⟩ := y
    simp only [strD, List.getElem?_map, Option.map_eq_some_iff] at e
    obtain ⟨c', ej, rfl⟩ := e
    rw [Array.getElem?_toList, ec] at ej
    cases ej; exact ⟨G, r, Stp.refl, .str _⟩
theorem vi_val {tg e : Expr} {f : En → R D} (he : VE X w e f) : VI X w tg e (iD f) := by
  refine ⟨fun pins s σ H Rr I q => ?_⟩
  obtain ⟨G, ρ, rel, h⟩ := q
  have h0 : Fn X.K w G H σ ρ ((f ρ).bind fun d ρ1 => match d with | .list ds => R.ok ds ρ1 | .tuple ds => .ok ds ρ1 | .str s => .ok (strD s) ρ1 | _ => .no) (fun G1 H1 _ ds => ∀ J, ItS X.K G1 J ds → Rr J H1) := h
  have via : ∀ {t : TI}, PI X tg e t → t σ H Rr → wpAny (model X.prog X.w) X.A (eval e X.env) (fun v s1 => wpAny (model X.prog X.w) X.A (pyIter v) (PIE X pins σ tg Rr) X.xe s1) X.xe s := fun h t => h.run pins s σ H Rr I t
  cases q : f ρ with
  | no => rw [q] at h0; exact h0.elim
  | ex c ρ1 =>
    refine via (pi_list he) ⟨G, ρ, rel, ?_⟩
    rw [q] at h0 ⊢
    exact h0
  | ok d ρ1 =>
    rw [q] at h0
    cases d with
    | list ds =>
      refine via (pi_list he) ⟨G, ρ, rel, ?_⟩
      rw [q]
      intro G1 H1 r1 s1 v hv
      cases hv with
      | lst hr hs => exact ⟨_, rfl, ⟨_, r1.sub.seq hr⟩, h0 G1 H1 r1 s1 _ (its_list hr hs)⟩
    | tuple ds =>
      refine via (pi_tup he) ⟨G, ρ, rel, ?_⟩
      rw [q]
      intro G1 H1 r1 s1 v hv
      cases hv with
      | tup hr hs => exact ⟨_, rfl, ⟨_, Same.tup r1.sub hr⟩, h0 G1 H1 r1 s1 _ (its_tup hr hs)⟩
    | str z =>
      refine via (pi_str he) ⟨G, ρ, rel, ?_⟩
      rw [q]
      intro G1 H1 r1 s1 v hv
      cases hv
      exact ⟨z, rfl, h0 G1 H1 r1 s1 _ its_str⟩
    | _ => exact h0.elim
def inR (j : Int) : Prop := -(2 ^ 62) ≤ j ∧ j < 2 ^ 62
noncomputable instance (j : Int) : Decidable (inR j) := Classical.propDecidable _
noncomputable def iRg1 (ga : En → R (List AV)) : En → R (List D) := fun ρ => (dAll ga ρ).bind fun ds ρ1 => match ds with
  | [.int j] => if inR j then .ok (rngD 0 j.toNat) ρ1 else .no
  | _ => .no
noncomputable def iRg2 (ga : En → R (List AV)) : En → R (List D) := fun ρ => (dAll ga ρ).bind fun ds ρ1 => match ds with
  | [.int i, .int j] => if inR i ∧ inR j then .ok (rngD i (j - i).toNat) ρ1 else .no
  | _ => .no
/-- how many -/
def rgN (i j c : Int) : Nat := (Builtin.Range.rangeSize i j c).toNat
def rgOk (i j c : Int) : Bool := decide (c ≠ 0 ∧ c.natAbs < 1073741824 ∧ 0 ≤ Builtin.Range.rangeSize i j c) && Builtin.Range.small i j c
def iRg3 (ga : En → R (List AV)) : En → R (List D) := fun ρ => (dAll ga ρ).bind fun ds ρ1 => match ds with
  | [.int i, .int j, .int c] => if rgOk i j c = true then .ok (rngC i c (rgN i j c)) ρ1 else .no
  | _ => .no
variable {tg : Expr} {p : Pos} {ga : En → R (List AV)}
theorem vi_range1 {a : Expr} (hg : Gl X "range") (hm : X.mg "range" = none) (ha : VA X w [a] ga) (hs : starEach [a] X.env = [(false, eval a X.env)] := by rfl) : VI X w tg (.Call (.Name "range" p) [a] [] pos) (iRg1 ga) :=
  PI.imp (pi_range1 hg hm ha hs) fun σ H R ⟨G, ρ, rel, h⟩ => ⟨G, ρ, rel, (Fn.all rel h).imp fun G1 H1 ρ1 as ⟨r1, s1, ds, e, h1⟩ vs hvs => by
    have hd := hvs.all e
    split at h1
    · rename_i j
      split at h1
      · rename_i hj
        cases hd with
        | cons h t =>
          cases h; cases t
          exact ⟨j, rfl, hj.1, hj.2, h1.ok r1 _ its_range⟩
      · exact h1.elim
    · exact h1.elim⟩
theorem vi_range2 {a b : Expr} (hg : Gl X "range") (hm : X.mg "range" = none) (ha : VA X w [a, b] ga) (hs : starEach [a, b] X.env = [(false, eval a X.env), (false, eval b X.env)] := by rfl) (hs2 : starEach [b] X.env = [(false, eval b X.env)] := by rfl) : VI X w tg (.Call (.Name "range" p) [a, b] [] pos) (iRg2 ga) :=
  PI.imp (pi_range2 hg hm ha hs hs2) fun σ H R ⟨G, ρ, rel, h⟩ => ⟨G, ρ, rel, (Fn.all rel h).imp fun G1 H1 ρ1 as ⟨r1, s1, ds, e, h1⟩ vs hvs => by
    have hd := hvs.all e
    split at h1
    · rename_i i j
      split at h1
      · rename_i hj
        cases hd with
        | cons h t =>
          cases t with
          | cons h' t =>
            cases h; cases h'; cases t
            exact ⟨i, j, rfl, ⟨hj.1.1, hj.1.2, hj.2.1, hj.2.2⟩, h1.ok r1 _ its_range⟩
      · exact h1.elim
    · exact h1.elim⟩
theorem vi_range3 {a b c : Expr} (hg : Gl X "range") (hm : X.mg "range" = none) (ha : VA X w [a, b, c] ga) (hs : starEach [a, b, c] X.env = (false, eval a X.env) :: starEach [b, c] X.env := by rfl) (hpl : (backTo pos (starEach [b, c] X.env)).any (·.1) = false := by rfl) : VI X w tg (.Call (.Name "range" p) [a, b, c] [] pos) (iRg3 ga) :=
  PI.imp (pi_range3 hg hm ha hs hpl) fun σ H R ⟨G, ρ, rel, h⟩ => ⟨G, ρ, rel, (Fn.all rel h).imp fun G1 H1 ρ1 as ⟨r1, s1, ds, e, h1⟩ vs hvs => by
    have hd := hvs.all e
    split at h1
    · rename_i i j k
      split at h1
      · rename_i hj
        simp only [rgOk, Bool.and_eq_true, decide_eq_true_eq] at hj
        cases hd with
        | cons h t =>
          cases t with
          | cons h' t =>
            cases t with
            | cons h'' t =>
              cases h; cases h'; cases h''; cases t
              exact ⟨i, j, k, rgN i j k, rfl, ⟨hj.1.1, hj.1.2.1, hj.2, (Int.toNat_of_nonneg hj.1.2.2).symm⟩, h1.ok r1 _ its_rangeC⟩
      · exact h1.elim
    · exact h1.elim⟩
end
end Dn
namespace Dn
open PySem PySem.Spec PyProof.Rows L2

/-! ### defs -/
def wh (ca : String → Option Value) (E : XK) : Wh := ⟨ca, fun cls d _ H => E cls d H⟩
theorem ExR.to {K : PySem.W.Frag} {w w' : Wh} {G H : Hp} {c : Exn} {cls : Value} {dx : Option Addr} (h : ExR K w G H c cls dx) (e : w.ca = w'.ca) : ExR K w' G H c cls dx := ⟨by rw [← e]; exact h.hc, h.hn, h.hs⟩
def FnC (K : PySem.W.Frag) (w : Wh) (G H : Hp) (vs : List V) (ls : En) (r : R L) (Q : VK) (E : XK) : Prop :=
  match r with
  | .no => False
  | .ok (.im d) ls' => ∀ G' H' v, Rel K G' H' (vs.map some) ls' → Stp G H (vs.map some) ls G' H' (vs.map some) ls' → DR K G' v d → Q v H'
  | .ok (.ow ds) ls' => ∀ G' H' p, Rel K G' H' (vs.map some) ls' → Stp G H (vs.map some) ls G' H' (vs.map some) ls' → G' p = none → ¬ Own (vs.map some) ls' p → (∃ us, H' p = some (.lst us) ∧ DRs K G' us ds) → H p = none → Q (.ref p) H'
  | .ok (.bo _) _ => False
  | .ex c ls' => ∀ G' H' cls dx, Rel K G' H' (vs.map some) ls' → Stp G H (vs.map some) ls G' H' (vs.map some) ls' → ExR K w G' H' c cls dx → E cls dx H'
def noOw (ls : En) : Prop := ∀ (i : Nat) (ds : List D), ls[i]? ≠ some (some (L.ow ds))
def spD (K : PySem.W.Frag) (ca : String → Option Value) (n : Nat) (den : En → R L) : Sp := fun vs H Q E =>
  ∃ G ls, Rel K G H (vs.map some) ls ∧ noOw ls ∧ vs.length = n ∧ FnC K (wh ca E) G H vs ls (den ls) Q E
def backE : En → En → En
  | some (.bo _) :: ls, c :: ρ => c :: backE ls ρ
  | l :: ls, _ :: ρ => l :: backE ls ρ
  | ls, [] => ls
  | [], _ => []
def dDef (n : Nat) (b : En → R Fl) : En → R L := fun ls => match b (ls ++ List.replicate (n - ls.length) none) with
  | .ok .nx ρ => .ok (.im .none) (backE ls ρ)
  | .ok (.rt d) ρ => .ok (.im d) (backE ls ρ)
  | .ok (.rl ds) ρ => .ok (.ow ds) (backE ls ρ)
  | .ex c ρ => .ex c (backE ls ρ)
  | _ => .no
theorem backE_length : ∀ (ls ρ : En), (backE ls ρ).length = ls.length
  | [], ρ => by cases ρ <;> rfl
  | l :: ls, [] => by cases l with
    | none => rfl
    | some l => cases l <;> rfl
  | l :: ls, c :: ρ => by cases l with
    | none => simp [backE, backE_length ls ρ]
    | some l => cases l <;> simp [backE, backE_length ls ρ]
theorem backE_bo : ∀ {ls ρ : En} {i : Nat} {ds : List D}, ls.length ≤ ρ.length → ls[i]? = some (some (L.bo ds)) → (backE ls ρ)[i]? = ρ[i]?
  | [], _, _, _, _, h => by simp at h
  | l :: ls, [], _, _, hl, _ => by simp at hl
  | l :: ls, c :: ρ, 0, ds, hl, h => by
    simp at h; subst h; rfl
  | l :: ls, c :: ρ, i + 1, ds, hl, h => by
    have h' : ls[i]? = some (some (L.bo ds)) := by simpa using h
    have ih := backE_bo (ρ := ρ) (by simpa using hl) h'
    cases l with
    | none => simpa [backE] using ih
    | some l => cases l <;> simpa [backE] using ih
theorem backE_no : ∀ {ls ρ : En} {i : Nat}, (∀ ds, ls[i]? ≠ some (some (L.bo ds))) → (backE ls ρ)[i]? = ls[i]?
  | [], ρ, i, _ => by cases ρ <;> rfl
  | l :: ls, [], i, _ => by cases l with
    | none => rfl
    | some l => cases l <;> rfl
  | l :: ls, c :: ρ, 0, h => by
    cases l with
    | none => rfl
    | some l => cases l with
      | bo ds => exact absurd rfl (h ds)
      | _ => rfl
  | l :: ls, c :: ρ, i + 1, h => by
    have h' : ∀ ds, ls[i]? ≠ some (some (L.bo ds)) := fun ds e => h ds (by simpa using e)
    have ih := backE_no (ρ := ρ) h'
    cases l with
    | none => simpa [backE] using ih
    | some l => cases l <;> simpa [backE] using ih
section
variable {K : PySem.W.Frag} {w : Wh} {G H G' H' : Hp} {vs : List V} {ls ρ' : En} {σ' : L2.St} {n : Nat}
/-- slots that hold nothing yet -/
theorem Rel.more (r : Rel K G H (vs.map some) ls) : Rel K G H (vs.map some ++ List.replicate (n - vs.length) none) (ls ++ List.replicate (n - ls.length) none) ∧
    (∀ a, Own (vs.map some ++ List.replicate (n - vs.length) none) (ls ++ List.replicate (n - ls.length) none) a → Own (vs.map some) ls a) ∧
    (∀ a, Own (vs.map some) ls a → Own (vs.map some ++ List.replicate (n - vs.length) none) (ls ++ List.replicate (n - ls.length) none) a) := by
  have hl : vs.length = ls.length := by have := r.len; simpa using this
  have old : ∀ (i : Nat) (l : L), (ls ++ List.replicate (n - ls.length) none)[i]? = some (some l) → i < ls.length ∧ ls[i]? = some (some l) := fun i l e => by
    by_cases hi : i < ls.length
    · rw [List.getElem?_append_left hi] at e; exact ⟨hi, e⟩
    · rw [List.getElem?_append_right (by omega), List.getElem?_replicate] at e
      split at e <;> cases e
  have at_ : ∀ (i : Nat), i < ls.length → (vs.map some ++ List.replicate (n - vs.length) none)[i]? = (vs.map some)[i]? := fun i hi => List.getElem?_append_left (by simpa [hl] using hi)
  refine ⟨⟨r.sub, by simp [hl], fun i l e => ?_, fun i j l m a ei ej li mj si sj => ?_⟩, fun a ⟨i, l, e, m, s⟩ => ?_, fun a ⟨i, l, e, m, s⟩ => ?_⟩
  · obtain ⟨hi, e'⟩ := old i l e
    obtain ⟨v, s, c⟩ := r.cell i l e'
    exact ⟨v, by rw [at_ i hi]; exact s, c⟩
  · obtain ⟨hi, ei'⟩ := old i l ei
    obtain ⟨hj, ej'⟩ := old j m ej
    rw [at_ i hi] at si; rw [at_ j hj] at sj
    exact r.apart i j l m a ei' ej' li mj si sj
  · obtain ⟨hi, e'⟩ := old i l e
    rw [at_ i hi] at s
    exact ⟨i, l, e', m, s⟩
  · have hi : i < ls.length := (List.getElem?_eq_some_iff.mp e).1
    exact ⟨i, l, by rw [List.getElem?_append_left hi]; exact e, m, by rw [at_ i hi]; exact s⟩
/-- at a def's end -/
theorem Rel.back (r : Rel K G H (vs.map some) ls) (no : noOw ls) (r' : Rel K G' H' σ' ρ')
    (s : Stp G H (vs.map some ++ List.replicate (n - vs.length) none) (ls ++ List.replicate (n - ls.length) none) G' H' σ' ρ') :
    Rel K G' H' (vs.map some) (backE ls ρ') ∧ Stp G H (vs.map some) ls G' H' (vs.map some) (backE ls ρ') ∧ (∀ a, Own (vs.map some) (backE ls ρ') a → Own σ' ρ' a) := by
  have hl : vs.length = ls.length := by have := r.len; simpa using this
  obtain ⟨_, o1, o2⟩ := r.more (n := n)
  have hn : ls.length ≤ ρ'.length := by rw [s.ln, List.length_append]; exact Nat.le_add_right _ _
  have bo : ∀ (i : Nat) (ds : List D), ls[i]? = some (some (L.bo ds)) → σ'[i]? = (vs.map some)[i]? ∧ ∃ ds', ρ'[i]? = some (some (L.bo ds')) := fun i ds e => by
    have hi : i < ls.length := (List.getElem?_eq_some_iff.mp e).1
    obtain ⟨e1, e2⟩ := s.bo i ds (by rw [List.getElem?_append_left hi]; exact e)
    rw [List.getElem?_append_left (by simpa [hl] using hi)] at e1
    exact ⟨e1, e2⟩
  have cases_ : ∀ (i : Nat) (l : L), (backE ls ρ')[i]? = some (some l) → (∃ d, l = .im d ∧ ls[i]? = some (some (.im d))) ∨ ∃ ds ds', l = .bo ds' ∧ ls[i]? = some (some (.bo ds)) ∧ ρ'[i]? = some (some (.bo ds')) ∧ σ'[i]? = (vs.map some)[i]? := fun i l e => by
    by_cases hb : ∃ ds, ls[i]? = some (some (L.bo ds))
    · obtain ⟨ds, hb⟩ := hb
      obtain ⟨e1, ds', e2⟩ := bo i ds hb
      rw [backE_bo hn hb, e2] at e
      cases e
      exact .inr ⟨ds, ds', rfl, hb, e2, e1⟩
    · rw [backE_no fun ds z => hb ⟨ds, z⟩] at e
      cases l with
      | im d => exact .inl ⟨d, rfl, e⟩
      | ow ds => exact absurd e (no i ds)
      | bo ds => exact absurd ⟨ds, e⟩ hb
  have own' : ∀ a, Own (vs.map some) (backE ls ρ') a → Own σ' ρ' a ∧ Own (vs.map some) ls a := fun a ⟨i, l, e, m, q⟩ => by
    rcases cases_ i l e with ⟨d, rfl, _⟩ | ⟨ds, ds', rfl, e1, e2, e3⟩
    · cases m
    · exact ⟨⟨i, _, e2, rfl, e3.trans q⟩, ⟨i, _, e1, rfl, q⟩⟩
  refine ⟨⟨r'.sub, by rw [backE_length]; exact r.len, fun i l e => ?_, fun i j l m a ei ej li mj si sj => ?_⟩, ⟨s.g, fun a o e n' => s.h a o e fun z => n' (o1 a z), fun a e => ?_, fun a q => .inl (own' a q).2, s.tr, backE_length _ _, fun i ds e => ⟨rfl, ?_⟩⟩, fun a q => (own' a q).1⟩
  · rcases cases_ i l e with ⟨d, rfl, e1⟩ | ⟨ds, ds', rfl, e1, e2, e3⟩
    · obtain ⟨v, q, c⟩ := r.cell i _ e1
      exact ⟨v, q, DR.mono s.g c⟩
    · obtain ⟨v, q, c⟩ := r'.cell i _ e2
      exact ⟨v, e3.symm.trans q, c⟩
  · rcases cases_ i l ei with ⟨d, rfl, _⟩ | ⟨ds, ds', rfl, e1, e2, e3⟩
    · cases li
    · rcases cases_ j m ej with ⟨d, rfl, _⟩ | ⟨es, es', rfl, f1, f2, f3⟩
      · cases mj
      · exact r'.apart i j _ _ a e2 f2 rfl rfl (e3.trans si) (f3.trans sj)
  · rcases s.fr a e with z | z | z
    · exact .inl z
    · exact .inr (.inl z)
    · exact .inr (.inr (o1 a z))
  · obtain ⟨e1, ds', e2⟩ := bo i ds e
    exact ⟨ds', by rw [backE_bo hn e]; exact e2⟩
end
/-- what a body's derivation may lean on -/
structure Gd (X : Cx) (w : Wh) (k : Nat) : Prop where
  calm : X.calm = true
  tk : Takes X w.W
  po : PassesOwn (model X.prog X.w) X.A X.env X.xe
  hr : Room k X.A
theorem fn_den {P : Program} {wd : World} {K : PySem.W.Frag} {mg : Str → Option Value} {base : Heap} {ca : String → Option Value} {x qual : Str} {st : Stmt} {f : Addr} {fd : FuncData} {N ps : List Str} {k : Nat} {b : En → R Fl}
    (F : Fun K x qual st f fd) (S : FnScope N ps (defScope st))
    (hb : ∀ (cdv : Value) (A : Around) (outer : List Env) (s : Shared) (H : Hp) (E : XK), Gd (cxOf (L2.CX P wd) P wd K mg base N qual (defScope st) f cdv A outer s H E) (wh ca E) k →
      VSs (cxOf (L2.CX P wd) P wd K mg base N qual (defScope st) f cdv A outer s H E) (wh ca E) (defBody st) b) :
    FnOk P wd K mg base (L2.CX P wd) (k + 1) f fd ps (spD K ca ps.length (dDef N.length b)) := by
  have hpl : ps.length ≤ N.length := by have := congrArg List.length S.pre; rw [List.length_take] at this; omega
  refine F.okX S (fun vs H Q E h => ?_) (fun cdv A outer s H vs Q E hr h => ?_)
  · obtain ⟨_, _, _, _, e, _⟩ := h; exact e
  · obtain ⟨G, ls, rel, no, hl, h⟩ := h
    have hll : vs.length = ls.length := by have := rel.len; simpa using this
    refine ⟨_, hb cdv A outer s H E ⟨rfl, takes_of rfl rfl rfl rfl, passes_of rfl, hr⟩, ?_⟩
    obtain ⟨r0, o1, o2⟩ := rel.more (n := N.length)
    refine ⟨G, _, r0, ?_⟩
    unfold dDef at h
    show FnS K (wh ca E) G H (vs.map some ++ List.replicate (N.length - vs.length) none) (ls ++ List.replicate (N.length - ls.length) none) (b (ls ++ List.replicate (N.length - ls.length) none)) { nx := fun _ H' => Q .non H', rt := Q }
    cases q : b (ls ++ List.replicate (N.length - ls.length) none) with
    | no => rw [q] at h; exact h
    | ex c ρ' =>
      rw [q] at h
      intro G' H' σ' cls dx r' s' x'
      obtain ⟨r2, s2, _⟩ := rel.back no r' s'
      exact h G' H' cls dx r2 s2 x'
    | ok fl ρ' =>
      rw [q] at h
      cases fl with
      | nx =>
        intro G' H' σ' r' s'
        obtain ⟨r2, s2, _⟩ := rel.back no r' s'
        exact h G' H' .non r2 s2 .non
      | bk => exact h.elim
      | ct => exact h.elim
      | rt d =>
        intro G' H' σ' v r' s' hv
        obtain ⟨r2, s2, _⟩ := rel.back no r' s'
        exact h G' H' v r2 s2 hv
      | rl ds =>
        intro G' H' σ' p r' s' ho
        obtain ⟨r2, s2, o3⟩ := rel.back no r' s'
        refine h G' H' p r2 s2 ho.g (fun z => ho.own (o3 p z)) ho.here ?_
        rcases ho.new with z | ⟨i, es, e, _⟩
        · exact z
        · by_cases hi : i < ls.length
          · rw [List.getElem?_append_left hi] at e; exact absurd e (no i es)
          · rw [List.getElem?_append_right (by omega), List.getElem?_replicate] at e
            split at e <;> cases e
end Dn
namespace Dn
open PySem PySem.Spec PyProof.Rows L2

/-! ### a call of a def -/
def slotsOf : List AV → List Nat
  | [] => []
  | .im _ :: as => slotsOf as
  | .sl i :: as => i :: slotsOf as
def lendL (ρ : En) : List AV → Option En
  | [] => some []
  | .im d :: as => (lendL ρ as).map (some (.im d) :: ·)
  | .sl i :: as => match ρ[i]? with
    | some (some l) => match l.mine with
      | some ds => (lendL ρ as).map (some (.bo ds) :: ·)
      | none => none
    | _ => none
def lend (as : List AV) (ρ : En) : Option En := if (slotsOf as).Nodup then lendL ρ as else none
def giveB : List AV → En → En → En
  | .sl i :: as, some (.bo ds) :: ls, ρ => giveB as ls (match ρ[i]? with
    | some (some l) => ρ.set i (some (l.put ds))
    | _ => ρ)
  | _ :: as, _ :: ls, ρ => giveB as ls ρ
  | _, _, ρ => ρ
theorem giveB_length : ∀ (as : List AV) (ls ρ : En), (giveB as ls ρ).length = ρ.length
  | [], ls, ρ => by cases ls <;> rfl
  | .im d :: as, [], ρ => rfl
  | .sl i :: as, [], ρ => rfl
  | .im d :: as, c :: ls, ρ => by simp [giveB, giveB_length as ls ρ]
  | .sl i :: as, none :: ls, ρ => by simp [giveB, giveB_length as ls ρ]
  | .sl i :: as, some (.im d) :: ls, ρ => by simp [giveB, giveB_length as ls ρ]
  | .sl i :: as, some (.ow d) :: ls, ρ => by simp [giveB, giveB_length as ls ρ]
  | .sl i :: as, some (.bo ds) :: ls, ρ => by
    simp only [giveB]
    rw [giveB_length as ls]
    split
    · rw [List.length_set]
    · rfl
theorem giveB_out : ∀ {as : List AV} {ls ρ : En} {j : Nat}, j ∉ slotsOf as → (giveB as ls ρ)[j]? = ρ[j]?
  | [], ls, ρ, j, _ => by cases ls <;> rfl
  | .im d :: as, [], ρ, j, _ => rfl
  | .sl i :: as, [], ρ, j, _ => rfl
  | .im d :: as, c :: ls, ρ, j, h => by simp only [giveB]; exact giveB_out (as := as) h
  | .sl i :: as, none :: ls, ρ, j, h => by simp only [giveB]; exact giveB_out (as := as) fun z => h (List.mem_cons_of_mem _ z)
  | .sl i :: as, some (.im d) :: ls, ρ, j, h => by simp only [giveB]; exact giveB_out (as := as) fun z => h (List.mem_cons_of_mem _ z)
  | .sl i :: as, some (.ow d) :: ls, ρ, j, h => by simp only [giveB]; exact giveB_out (as := as) fun z => h (List.mem_cons_of_mem _ z)
  | .sl i :: as, some (.bo ds) :: ls, ρ, j, h => by
    have hj : j ≠ i := fun z => h (by rw [z]; exact List.mem_cons_self ..)
    simp only [giveB]
    rw [giveB_out (as := as) fun z => h (List.mem_cons_of_mem _ z)]
    split
    · rw [List.getElem?_set_ne (Ne.symm hj)]
    · rfl
theorem giveB_in : ∀ {as : List AV} {ls ρ : En} {k j : Nat} {ds : List D} {l : L}, (slotsOf as).Nodup → as[k]? = some (.sl j) → ls[k]? = some (some (L.bo ds)) → ρ[j]? = some (some l) → (giveB as ls ρ)[j]? = some (some (l.put ds))
  | [], _, _, k, _, _, _, _, h, _, _ => by simp at h
  | _ :: _, [], _, k, _, _, _, _, _, h, _ => by simp at h
  | .im d :: as, c :: ls, ρ, 0, j, ds, l, _, h, _, _ => by simp at h
  | .im d :: as, c :: ls, ρ, k + 1, j, ds, l, nd, h1, h2, h3 => by simp only [giveB]; exact giveB_in (as := as) (k := k) nd (by simpa using h1) (by simpa using h2) h3
  | .sl i :: as, c :: ls, ρ, 0, j, ds, l, nd, h1, h2, h3 => by
    have e1 : i = j := by simpa using h1
    have e2 : c = some (.bo ds) := by simpa using h2
    subst e1; subst e2
    have nd' := List.nodup_cons.mp nd
    simp only [giveB]
    rw [giveB_out (as := as) nd'.1, h3]
    exact set_same h3
  | .sl i :: as, c :: ls, ρ, k + 1, j, ds, l, nd, h1, h2, h3 => by
    have nd' := List.nodup_cons.mp nd
    have h1' : as[k]? = some (.sl j) := by simpa using h1
    have h2' : ls[k]? = some (some (L.bo ds)) := by simpa using h2
    have hmem : ∀ {as : List AV} {k : Nat}, as[k]? = some (AV.sl j) → j ∈ slotsOf as := by
      intro as
      induction as with
      | nil => intro k h; simp at h
      | cons a as ih =>
        intro k h
        cases k with
        | zero => simp at h; subst h; exact List.mem_cons_self ..
        | succ k =>
          have := ih (k := k) (by simpa using h)
          cases a with
          | im d => exact this
          | sl i => exact List.mem_cons_of_mem _ this
    have hj : i ≠ j := fun z => nd'.1 (z ▸ hmem h1')
    cases c with
    | none => simp only [giveB]; exact giveB_in (as := as) (k := k) nd'.2 h1' h2' h3
    | some c =>
      cases c with
      | im d => simp only [giveB]; exact giveB_in (as := as) (k := k) nd'.2 h1' h2' h3
      | ow d => simp only [giveB]; exact giveB_in (as := as) (k := k) nd'.2 h1' h2' h3
      | bo es =>
        simp only [giveB]
        refine giveB_in (as := as) (k := k) nd'.2 h1' h2' ?_
        split
        · rw [List.getElem?_set_ne hj]; exact h3
        · exact h3
theorem slot_at : ∀ {as : List AV} {j : Nat}, j ∈ slotsOf as → ∃ k : Nat, as[k]? = some (AV.sl j)
  | .im d :: as, j, h => by
    obtain ⟨k, e⟩ := slot_at (as := as) h
    exact ⟨k + 1, by simpa using e⟩
  | .sl i :: as, j, h => by
    rcases List.mem_cons.mp h with rfl | h
    · exact ⟨0, rfl⟩
    · obtain ⟨k, e⟩ := slot_at (as := as) h
      exact ⟨k + 1, by simpa using e⟩
section
variable {K : PySem.W.Frag} {w : Wh} {G H G' H' : Hp} {σ : L2.St} {ρ ρ' : En}
theorem AVs.im_at : ∀ {vs : List V} {as : List AV} {k : Nat} {d : D}, AVs K G σ vs as → as[k]? = some (.im d) → ∃ v, vs[k]? = some v ∧ DR K G v d
  | _, _, 0, _, .im h _, e => by cases e; exact ⟨_, rfl, h⟩
  | _, _, 0, _, .sl _ _, e => by cases e
  | _, _, k + 1, _, .im _ t, e => by obtain ⟨v, h1, h2⟩ := AVs.im_at (k := k) t (by simpa using e); exact ⟨v, by simpa using h1, h2⟩
  | _, _, k + 1, _, .sl _ t, e => by obtain ⟨v, h1, h2⟩ := AVs.im_at (k := k) t (by simpa using e); exact ⟨v, by simpa using h1, h2⟩
theorem AVs.sl_at : ∀ {vs : List V} {as : List AV} {k j : Nat}, AVs K G σ vs as → as[k]? = some (.sl j) → ∃ v, vs[k]? = some v ∧ σ[j]? = some (some v)
  | _, _, 0, _, .sl h _, e => by cases e; exact ⟨_, rfl, h⟩
  | _, _, 0, _, .im _ _, e => by cases e
  | _, _, k + 1, _, .im _ t, e => by obtain ⟨v, h1, h2⟩ := AVs.sl_at (k := k) t (by simpa using e); exact ⟨v, by simpa using h1, h2⟩
  | _, _, k + 1, _, .sl _ t, e => by obtain ⟨v, h1, h2⟩ := AVs.sl_at (k := k) t (by simpa using e); exact ⟨v, by simpa using h1, h2⟩
theorem AVs.length : ∀ {vs : List V} {as : List AV}, AVs K G σ vs as → vs.length = as.length
  | _, _, .nil => rfl
  | _, _, .im _ t => by simp [AVs.length t]
  | _, _, .sl _ t => by simp [AVs.length t]
theorem lendL_length : ∀ {as : List AV} {ls : En}, lendL ρ as = some ls → ls.length = as.length
  | [], _, h => by cases h; rfl
  | .im d :: as, ls, h => by
    simp only [lendL, Option.map_eq_some_iff] at h
    obtain ⟨r, e, rfl⟩ := h
    simp [lendL_length e]
  | .sl i :: as, ls, h => by
    simp only [lendL] at h
    split at h
    · split at h
      · simp only [Option.map_eq_some_iff] at h
        obtain ⟨r, e, rfl⟩ := h
        simp [lendL_length e]
      · cases h
    · cases h
theorem lendL_at : ∀ {as : List AV} {ls : En} {k : Nat} {c : Option L}, lendL ρ as = some ls → ls[k]? = some c →
    (∃ d, c = some (.im d) ∧ as[k]? = some (.im d)) ∨ ∃ j l ds, c = some (.bo ds) ∧ as[k]? = some (.sl j) ∧ ρ[j]? = some (some l) ∧ l.mine = some ds
  | [], _, k, c, h, e => by cases h; simp at e
  | .im d :: as, ls, k, c, h, e => by
    simp only [lendL, Option.map_eq_some_iff] at h
    obtain ⟨r, h, rfl⟩ := h
    cases k with
    | zero => simp at e; subst e; exact .inl ⟨d, rfl, rfl⟩
    | succ k => simpa using lendL_at (k := k) (c := c) h (by simpa using e)
  | .sl i :: as, ls, k, c, h, e => by
    simp only [lendL] at h
    split at h
    · rename_i l el
      split at h
      · rename_i ds m
        simp only [Option.map_eq_some_iff] at h
        obtain ⟨r, h, rfl⟩ := h
        cases k with
        | zero => simp at e; subst e; exact .inr ⟨i, l, ds, rfl, rfl, el, m⟩
        | succ k => simpa using lendL_at (k := k) (c := c) h (by simpa using e)
      · cases h
    · cases h
theorem nodup_sl : ∀ {as : List AV} {i k j : Nat}, (slotsOf as).Nodup → as[i]? = some (.sl j) → as[k]? = some (.sl j) → i = k
  | [], i, k, j, _, h, _ => by simp at h
  | a :: as, 0, 0, j, _, _, _ => rfl
  | a :: as, i + 1, k + 1, j, nd, h1, h2 => by
    have nd' : (slotsOf as).Nodup := by cases a with
      | im d => exact nd
      | sl i => exact (List.nodup_cons.mp nd).2
    exact congrArg (· + 1) (nodup_sl (as := as) nd' (by simpa using h1) (by simpa using h2))
  | a :: as, 0, k + 1, j, nd, h1, h2 => by
    simp at h1; subst h1
    exact absurd (mem_sl (as := as) (k := k) (by simpa using h2)) (List.nodup_cons.mp nd).1
  | a :: as, i + 1, 0, j, nd, h1, h2 => by
    simp at h2; subst h2
    exact absurd (mem_sl (as := as) (k := i) (by simpa using h1)) (List.nodup_cons.mp nd).1
where mem_sl : ∀ {as : List AV} {k j : Nat}, as[k]? = some (AV.sl j) → j ∈ slotsOf as
  | [], k, _, h => by simp at h
  | a :: as, 0, j, h => by simp at h; subst h; exact List.mem_cons_self ..
  | .im d :: as, k + 1, j, h => mem_sl (as := as) (k := k) (by simpa using h)
  | .sl i :: as, k + 1, j, h => List.mem_cons_of_mem _ (mem_sl (as := as) (k := k) (by simpa using h))
/-- the callee's view -/
theorem Rel.lent (r : Rel K G H σ ρ) {vs : List V} {as : List AV} {ls : En} (h : AVs K G σ vs as) (e : lend as ρ = some ls) :
    Rel K G H (vs.map some) ls ∧ noOw ls ∧ ∀ a, Own (vs.map some) ls a → Own σ ρ a := by
  unfold Dn.lend at e
  split at e
  · rename_i nd
    have own : ∀ a (k : Nat) (l : L), ls[k]? = some (some l) → l.mu = true → (vs.map some)[k]? = some (some (V.ref a)) → ∃ j l' ds, as[k]? = some (.sl j) ∧ ρ[j]? = some (some l') ∧ l'.mine = some ds ∧ σ[j]? = some (some (V.ref a)) := fun a k l ek m q => by
      rcases lendL_at e ek with ⟨d, ed, _⟩ | ⟨j, l', ds, ed, e1, e2, e3⟩
      · cases ed; cases m
      · cases ed
        obtain ⟨v, h1, h2⟩ := h.sl_at e1
        rw [List.getElem?_map, h1] at q
        cases q
        exact ⟨j, l', ds, e1, e2, e3, h2⟩
    refine ⟨⟨r.sub, by simp [h.length, lendL_length e], fun k l ek => ?_, fun i k l m a ei ek li mk si sk => ?_⟩, fun k ds ek => ?_, fun a ⟨k, l, ek, m, q⟩ => ?_⟩
    · rcases lendL_at e ek with ⟨d, ed, e1⟩ | ⟨j, l', ds, ed, e1, e2, e3⟩
      · cases ed
        obtain ⟨v, h1, h2⟩ := h.im_at e1
        exact ⟨v, by rw [List.getElem?_map, h1]; rfl, h2⟩
      · cases ed
        obtain ⟨v, h1, h2⟩ := h.sl_at e1
        obtain ⟨o, us, s, go, ho, hd⟩ := r.mine e2 e3
        rw [h2] at s; cases s
        exact ⟨_, by rw [List.getElem?_map, h1]; rfl, o, us, rfl, go, ho, hd⟩
    · obtain ⟨j1, l1, d1, a1, b1, c1, s1⟩ := own a i l ei li si
      obtain ⟨j2, l2, d2, a2, b2, c2, s2⟩ := own a k m ek mk sk
      have := r.apart j1 j2 l1 l2 a b1 b2 (by cases l1 <;> first | (cases c1; done) | rfl) (by cases l2 <;> first | (cases c2; done) | rfl) s1 s2
      subst this
      exact nodup_sl nd a1 a2
    · rcases lendL_at e ek with ⟨d, ed, _⟩ | ⟨j, l', ds', ed, _⟩ <;> cases ed
    · obtain ⟨j1, l1, d1, a1, b1, c1, s1⟩ := own a k l ek m q
      exact ⟨j1, l1, b1, by cases l1 <;> first | (cases c1; done) | rfl, s1⟩
  · cases e
theorem Rel.give (r : Rel K G H σ ρ) {vs : List V} {as : List AV} {ls ls' : En} (h : AVs K G σ vs as) (e : lend as ρ = some ls) (r' : Rel K G' H' (vs.map some) ls') (s : Stp G H (vs.map some) ls G' H' (vs.map some) ls') :
    Rel K G' H' σ (giveB as ls' ρ) ∧ Stp G H σ ρ G' H' σ (giveB as ls' ρ) ∧ ∀ a, Own σ (giveB as ls' ρ) a → Own σ ρ a := by
  obtain ⟨r0, no, own⟩ := r.lent h e
  have nd : (slotsOf as).Nodup := by
    unfold Dn.lend at e
    split at e
    · assumption
    · cases e
  have e0 : lendL ρ as = some ls := by unfold Dn.lend at e; rw [if_pos nd] at e; exact e
  -- what stands at a place behind
  have look : ∀ (j : Nat) (l : L), (giveB as ls' ρ)[j]? = some (some l) → (j ∉ slotsOf as ∧ ρ[j]? = some (some l)) ∨ ∃ (k : Nat) (l0 : L) (ds ds' : List D), as[k]? = some (.sl j) ∧ ρ[j]? = some (some l0) ∧ l0.mine = some ds ∧ l = l0.put ds' ∧ ls'[k]? = some (some (.bo ds')) := fun j l ej => by
    by_cases hj : j ∈ slotsOf as
    · obtain ⟨k, ek⟩ := slot_at hj
      have hk : k < ls.length := by rw [lendL_length e0]; exact (List.getElem?_eq_some_iff.mp ek).1
      rcases lendL_at e0 (List.getElem?_eq_getElem hk) with ⟨d, _, e1⟩ | ⟨j', l', ds, ec, e1, e2, e3⟩
      · rw [ek] at e1; cases e1
      · rw [ek] at e1; cases e1
        obtain ⟨_, ds', e4⟩ := s.bo k ds (by rw [List.getElem?_eq_getElem hk, ec])
        rw [giveB_in nd ek e4 e2] at ej
        cases ej
        exact .inr ⟨k, l', ds, ds', ek, e2, e3, rfl, e4⟩
    · rw [giveB_out hj] at ej; exact .inl ⟨hj, ej⟩
  have mu : ∀ (l0 : L) (ds ds' : List D), l0.mine = some ds → (l0.put ds').mu = true ∧ l0.mu = true := fun l0 ds ds' m => ⟨(L.put_mu m).1, (L.put_mu (es := ds') m).2.1⟩
  have ownb : ∀ a, Own σ (giveB as ls' ρ) a → Own σ ρ a := fun a ⟨j, l, ej, m, q⟩ => by
    rcases look j l ej with ⟨_, e1⟩ | ⟨k, l0, ds, ds', _, e1, e2, rfl, _⟩
    · exact ⟨j, l, e1, m, q⟩
    · exact ⟨j, l0, e1, (mu l0 ds ds' e2).2, q⟩
  refine ⟨⟨r'.sub, by rw [giveB_length]; exact r.len, fun j l ej => ?_, fun i j l m a ei ej li mj si sj => ?_⟩, ⟨s.g, fun a o q n => s.h a o q fun z => n (own a z), fun a q => ?_, fun a q => .inl (ownb a q), s.tr, giveB_length _ _ _, fun j ds ej => ⟨rfl, ?_⟩⟩, ownb⟩
  · rcases look j l ej with ⟨hj, e1⟩ | ⟨k, l0, ds, ds', ek, e1, e2, rfl, e4⟩
    · obtain ⟨v, q, c⟩ := r.cell j l e1
      refine ⟨v, q, ?_⟩
      have away : ∀ o, v = V.ref o → l.mu = true → ¬ Own (vs.map some) ls o := fun o ev ml ⟨k, l2, ek2, m2, q2⟩ => by
        subst ev
        rcases lendL_at e0 ek2 with ⟨d, ed, _⟩ | ⟨j', l', ds, ed, f1, f2, f3⟩
        · cases ed; cases m2
        · obtain ⟨v', h1, h2⟩ := h.sl_at f1
          rw [List.getElem?_map, h1] at q2; cases q2
          have := r.apart j j' l l' o e1 f2 ml (by cases l' <;> first | (cases f3; done) | rfl) q h2
          subst this
          exact hj (nodup_sl.mem_sl f1)
      have gn : ∀ o us, G o = none → H o = some (.lst us) → ¬ Own (vs.map some) ls o → G' o = none := fun o us g hq n => by
        cases z : G' o with
        | none => rfl
        | some u =>
          rcases s.fr o (by rw [z]; exact fun z => nomatch z) with y | y | y
          · exact absurd g y
          · rw [hq] at y; cases y
          · exact absurd y n
      cases l with
      | im d => exact DR.mono s.g c
      | ow es => obtain ⟨o, us, rfl, g, hq, hd⟩ := c; exact ⟨o, us, rfl, gn o us g hq (away o rfl rfl), s.h o _ hq (away o rfl rfl), hd.mono s.g⟩
      | bo es => obtain ⟨o, us, rfl, g, hq, hd⟩ := c; exact ⟨o, us, rfl, gn o us g hq (away o rfl rfl), s.h o _ hq (away o rfl rfl), hd.mono s.g⟩
    · obtain ⟨v, h1, h2⟩ := h.sl_at ek
      obtain ⟨v', q, c⟩ := r'.cell k _ e4
      rw [List.getElem?_map, h1] at q; cases q
      refine ⟨v, h2, ?_⟩
      cases l0 with
      | im d => cases e2
      | ow es => exact c
      | bo es => exact c
  · have up : ∀ (j : Nat) (l : L), (giveB as ls' ρ)[j]? = some (some l) → l.mu = true → ∃ l', ρ[j]? = some (some l') ∧ l'.mu = true := fun j l ej m => by
      rcases look j l ej with ⟨_, e1⟩ | ⟨k, l0, ds, ds', _, e1, e2, rfl, _⟩
      · exact ⟨l, e1, m⟩
      · exact ⟨l0, e1, (mu l0 ds ds' e2).2⟩
    obtain ⟨l', e1, m1⟩ := up i l ei li
    obtain ⟨m', e2, m2⟩ := up j m ej mj
    exact r.apart i j l' m' a e1 e2 m1 m2 si sj
  · rcases s.fr a q with z | z | z
    · exact .inl z
    · exact .inr (.inl z)
    · exact .inr (.inr (own a z))
  · by_cases hj : j ∈ slotsOf as
    · obtain ⟨k, ek⟩ := slot_at hj
      have hk : k < ls.length := by rw [lendL_length e0]; exact (List.getElem?_eq_some_iff.mp ek).1
      rcases lendL_at e0 (List.getElem?_eq_getElem hk) with ⟨d, _, e1⟩ | ⟨j', l', es, ec, e1, e2, e3⟩
      · rw [ek] at e1; cases e1
      · rw [ek] at e1; cases e1
        obtain ⟨_, ds', e4⟩ := s.bo k es (by rw [List.getElem?_eq_getElem hk, ec])
        rw [ej] at e2; cases e2
        exact ⟨ds', giveB_in nd ek e4 ej⟩
    · exact ⟨ds, by rw [giveB_out hj]; exact ej⟩
end
/-- the callee's result in the caller: a datum -/
def dFn (n : Nat) (den : En → R L) (ga : En → R (List AV)) : En → R D := fun ρ => (ga ρ).bind fun as ρ1 => if as.length = n then match lend as ρ1 with
  | none => .no
  | some ls => match den ls with
    | .ok (.im d) ls' => .ok d (giveB as ls' ρ1)
    | .ok (.ow ds) ls' => .ok (.list ds) (giveB as ls' ρ1)
    | .ok (.bo _) _ => .no
    | .ex c ls' => .ex c (giveB as ls' ρ1)
    | .no => .no
  else .no
/-- a new list -/
def nFn (n : Nat) (den : En → R L) (ga : En → R (List AV)) : En → R (List D) := fun ρ => (ga ρ).bind fun as ρ1 => if as.length = n then match lend as ρ1 with
  | none => .no
  | some ls => match den ls with
    | .ok (.ow ds) ls' => .ok ds (giveB as ls' ρ1)
    | .ex c ls' => .ex c (giveB as ls' ρ1)
    | _ => .no
  else .no
section
variable {K : PySem.W.Frag} {G H : Hp} {σ : L2.St} {ρ : En}
/-- a new mutable list becomes immutable -/
theorem Rel.settle (r : Rel K G H σ ρ) {p : Addr} {us : List V} {ds : List D} (hg : G p = none) (ho : ¬ Own σ ρ p) (hp : H p = some (.lst us)) (hd : DRs K G us ds) :
    Rel K (upd G p (.lst us)) H σ ρ ∧ Same G (upd G p (.lst us)) ∧ DR K (upd G p (.lst us)) (.ref p) (.list ds) ∧ ∀ a, upd G p (.lst us) a ≠ none → G a ≠ none ∨ a = p := by
  have sg : Same G (upd G p (.lst us)) := fun b x e => by rw [upd_ne (ne_of_none e hg)]; exact e
  refine ⟨⟨fun b x e => ?_, r.len, fun i l e => ?_, r.apart⟩, sg, .lst (.inl (.inl upd_same)) (hd.mono sg), fun a h => ?_⟩
  · by_cases hb : b = p
    · subst hb; rw [upd_same] at e; cases e; exact hp
    · rw [upd_ne hb] at e; exact r.sub b x e
  · obtain ⟨v, s, c⟩ := r.cell i l e
    refine ⟨v, s, ?_⟩
    have away : ∀ o, v = V.ref o → l.mu = true → o ≠ p := fun o ev m z => by
      subst ev; subst z; exact ho ⟨i, l, e, m, s⟩
    cases l with
    | im d => exact DR.mono sg c
    | ow es => obtain ⟨o, ws, rfl, g, q, hd'⟩ := c; exact ⟨o, ws, rfl, by rw [upd_ne (away o rfl rfl)]; exact g, q, hd'.mono sg⟩
    | bo es => obtain ⟨o, ws, rfl, g, q, hd'⟩ := c; exact ⟨o, ws, rfl, by rw [upd_ne (away o rfl rfl)]; exact g, q, hd'.mono sg⟩
  · by_cases ha : a = p
    · exact .inr ha
    · rw [upd_ne ha] at h; exact .inl h
end
section
variable {X : Cx} {w : Wh} {k n : Nat} {f : Addr} {fd : FuncData} {ps : List Str} {den : En → R L} {ca : String → Option Value} {x : Str} {p pos : Pos} {e : Expr} {es : List Expr} {ga : En → R (List AV)}
theorem call_ok (hca : w.ca = ca) {σ : L2.St} {H : Hp} {Q : VK} {G : Hp} {ρ : En} {vs : List V} {as : List AV} {ls : En} (r : Rel X.K G H σ ρ) (hvs : AVs X.K G σ vs as) (hl : as.length = n) (e : lend as ρ = some ls)
    (h1 : ∀ d ls', den ls = .ok (.im d) ls' → ∀ G' H', Rel X.K G' H' σ (giveB as ls' ρ) → Stp G H σ ρ G' H' σ (giveB as ls' ρ) → ∀ v, DR X.K G' v d → Q v H')
    (h2 : ∀ ds ls', den ls = .ok (.ow ds) ls' → ∀ G' H', Rel X.K G' H' σ (giveB as ls' ρ) → Stp G H σ ρ G' H' σ (giveB as ls' ρ) → ∀ p, G' p = none → ¬ Own σ (giveB as ls' ρ) p → (∃ us, H' p = some (.lst us) ∧ DRs X.K G' us ds) → H p = none → Q (.ref p) H')
    (h3 : ∀ c ls', den ls = .ex c ls' → ∀ G' H' cls dx, Rel X.K G' H' σ (giveB as ls' ρ) → Stp G H σ ρ G' H' σ (giveB as ls' ρ) → ExR X.K w G' H' c cls dx → w.W cls dx σ H')
    (h4 : den ls ≠ .no) (h5 : ∀ ds ls', den ls ≠ .ok (.bo ds) ls') : spD X.K ca n den vs H Q (WE w.W σ) := by
  obtain ⟨r0, no, own⟩ := r.lent hvs e
  refine ⟨G, ls, r0, no, hvs.length.trans hl, ?_⟩
  cases q : den ls with
  | no => exact absurd q h4
  | ex c ls' =>
    intro G' H' cls dx r' s' x'
    obtain ⟨r2, s2, ob⟩ := r.give hvs e r' s'
    exact h3 c ls' q G' H' cls dx r2 s2 (x'.to hca.symm)
  | ok l ls' =>
    cases l with
    | bo ds => exact absurd q (h5 ds ls')
    | im d =>
      intro G' H' v r' s' hv
      obtain ⟨r2, s2, ob⟩ := r.give hvs e r' s'
      exact h1 d ls' q G' H' r2 s2 v hv
    | ow ds =>
      intro G' H' p r' s' hg ho hu hn
      obtain ⟨r2, s2, ob⟩ := r.give hvs e r' s'
      refine h2 ds ls' q G' H' r2 s2 p hg (fun z => ?_) hu hn
      obtain ⟨_, us, y'⟩ := r.own (ob p z)
      rw [hn] at y'; cases y'
theorem ve_call (F : FnOk X.prog X.w X.K X.mg X.base (L2.CX X.prog X.w) k f fd ps (spD X.K ca n den)) (hr : Room k X.A) (tk : Takes X w.W) (hca : w.ca = ca) (hg : Gl X x) (hm : X.mg x = some (.ref f)) (hk : PySem.W.keepIn X.K (.ref f) = true) (hb : Binds X.K fd ps [])
    (ha : VA X w (e :: es) ga) (hdb : (x == ("__debug__" : Str)) = false := by decide) (he : starEach (e :: es) X.env = (false, eval e X.env) :: starEach es X.env := by rfl) (hpl : (backTo pos (starEach es X.env)).any (·.1) = false := by rfl) :
    VE X w (.Call (.Name x p) (e :: es) [] pos) (dFn n den ga) :=
  PE.imp (pe_callS F hr hg hm hk hb (passAt tk) ha hdb he hpl) fun σ H Q ⟨G, ρ, rel, h⟩ => ⟨G, ρ, rel, (Fn.bind rel h).imp fun G1 H1 ρ1 as ⟨r1, s1, h1⟩ vs hvs => by
    split at h1
    · rename_i hl
      cases q : lend as ρ1 with
      | none => rw [q] at h1; exact h1.elim
      | some ls =>
        rw [q] at h1
        have h1' : Fn X.K w G1 H1 σ ρ1 (match den ls with | .ok (.im d) ls' => R.ok d (giveB as ls' ρ1) | .ok (.ow ds) ls' => .ok (.list ds) (giveB as ls' ρ1) | .ok (.bo _) _ => .no | .ex c ls' => .ex c (giveB as ls' ρ1) | .no => .no) (QD X.K Q) := h1
        refine call_ok hca r1 hvs hl q (fun d ls' e => ?_) (fun ds ls' e => ?_) (fun c ls' e => ?_) (fun e => ?_) (fun ds ls' e => ?_)
        · rw [e] at h1'; exact fun G' H' r' s' v hv => h1' G' H' r' s' v hv
        · rw [e] at h1'
          intro G' H' r' s' p hg ho ⟨us, hp, hd⟩ hn
          obtain ⟨r2, sg, hdr, hfr⟩ := r'.settle hg ho hp hd
          refine h1' _ H' r2 ⟨s'.g.trans sg, s'.h, fun a z => ?_, s'.ow, s'.tr, s'.ln, s'.bo⟩ _ hdr
          rcases hfr a z with y | rfl
          · exact s'.fr a y
          · exact .inr (.inl hn)
        · rw [e] at h1'; exact fun G' H' cls dx r' s' x' => h1' G' H' cls dx r' s' x'
        · rw [e] at h1'; exact h1'
        · rw [e] at h1'; exact h1'
    · exact h1.elim⟩
theorem vn_call (F : FnOk X.prog X.w X.K X.mg X.base (L2.CX X.prog X.w) k f fd ps (spD X.K ca n den)) (hr : Room k X.A) (tk : Takes X w.W) (hca : w.ca = ca) (hg : Gl X x) (hm : X.mg x = some (.ref f)) (hk : PySem.W.keepIn X.K (.ref f) = true) (hb : Binds X.K fd ps [])
    (ha : VA X w (e :: es) ga) (hdb : (x == ("__debug__" : Str)) = false := by decide) (he : starEach (e :: es) X.env = (false, eval e X.env) :: starEach es X.env := by rfl) (hpl : (backTo pos (starEach es X.env)).any (·.1) = false := by rfl) :
    VN X w (.Call (.Name x p) (e :: es) [] pos) (nFn n den ga) :=
  PE.imp (pe_callS F hr hg hm hk hb (passAt tk) ha hdb he hpl) fun σ H Q ⟨G, ρ, rel, h⟩ => ⟨G, ρ, rel, (Fn.bind rel h).imp fun G1 H1 ρ1 as ⟨r1, s1, h1⟩ vs hvs => by
    split at h1
    · rename_i hl
      cases q : lend as ρ1 with
      | none => rw [q] at h1; exact h1.elim
      | some ls =>
        rw [q] at h1
        have h1' : Fn X.K w G1 H1 σ ρ1 (match den ls with | .ok (.ow ds) ls' => R.ok ds (giveB as ls' ρ1) | .ex c ls' => .ex c (giveB as ls' ρ1) | _ => .no) (QN X.K H σ Q) := h1
        refine call_ok hca r1 hvs hl q (fun d ls' e => ?_) (fun ds ls' e => ?_) (fun c ls' e => ?_) (fun e => ?_) (fun ds ls' e => ?_)
        · rw [e] at h1'; exact h1'.elim
        · rw [e] at h1'
          intro G' H' r' s' p hg ho hu hn
          refine h1' _ H' r' s' p ⟨hg, ho, hu, ?_⟩
          cases z : H p with
          | none => rfl
          | some o => exact absurd hn (s1.tr p (by rw [z]; exact fun z => nomatch z))
        · rw [e] at h1'; exact fun G' H' cls dx r' s' x' => h1' G' H' cls dx r' s' x'
        · rw [e] at h1'; exact h1'
        · rw [e] at h1'; exact h1'
    · exact h1.elim⟩
end
end Dn
namespace Dn
open PySem PySem.Spec PyProof.Rows L2

/-! ### constants -/
section
variable {X : Cx} {w : Wh}
theorem ve_bl {b : Bool} {j : Nat} {pos : Pos} : VE X w (.Constant (.bool b) j pos) (dC (.bool b)) := PE.imp pe_bl fun _ _ _ ⟨_, _, r, h⟩ => h.ok r _ (.bl b)
theorem ve_non {j : Nat} {pos : Pos} : VE X w (.Constant .none j pos) (dC .none) := PE.imp pe_non fun _ _ _ ⟨_, _, r, h⟩ => h.ok r _ .non
theorem ve_str {x : Str} {j : Nat} {pos : Pos} : VE X w (.Constant (.str x) j pos) (dC (.str x)) := PE.imp pe_str fun _ _ _ ⟨_, _, r, h⟩ => h.ok r _ (.str x)
theorem ve_glS {x : Str} {z : Str} {pos : Pos} (hg : Gl X x) (hm : ∃ t, X.mg x = some (.str z t)) (hd : (x == ("__debug__" : Str)) = false := by decide) : VE X w (.Name x pos) (dC (.str z)) := by
  obtain ⟨t, hm⟩ := hm
  exact PE.imp (pe_glob (v := .str z) hg hm ⟨_, rfl⟩ hd) fun _ _ _ ⟨_, _, r, h⟩ => h.ok r _ (.str z)
theorem ve_glI {x : Str} {z : Int} {pos : Pos} (hg : Gl X x) (hm : ∃ t, X.mg x = some (.int z t)) (hd : (x == ("__debug__" : Str)) = false := by decide) : VE X w (.Name x pos) (dC (.int z)) := by
  obtain ⟨t, hm⟩ := hm
  exact PE.imp (pe_glob (v := .int z) hg hm ⟨_, rfl⟩ hd) fun _ _ _ ⟨_, _, r, h⟩ => h.ok r _ (.int z)
/-- a constant table of the top -/
theorem ve_glO {x : Str} {a : Addr} {d : D} {pos : Pos} (hg : Gl X x) (hm : X.mg x = some (.ref a)) (hd' : ∀ G, DR X.K G (.ref a) d) (hd : (x == ("__debug__" : Str)) = false := by decide) : VE X w (.Name x pos) (dC d) :=
  PE.imp (pe_glob (v := .ref a) hg hm rfl hd) fun _ _ _ ⟨_, _, r, h⟩ => h.ok r _ (hd' _)
end
/-! ### defs by names -/
theorem fn_denD {P : Program} {wd : World} {K : PySem.W.Frag} {mg : Str → Option Value} {base : Heap} {ca : String → Option Value} {x qual : Str} {params : Arguments} {body : List Stmt} {scope : Scope} {dvs : List V} {kws : List (Str × V)} {f : Addr} {fd : FuncData} {N ps : List Str} {k : Nat} {b : En → R Fl}
    (F : FunD K x qual params body scope dvs kws f fd) (S : FnScope N ps scope)
    (hb : ∀ (cdv : Value) (A : Around) (outer : List Env) (s : Shared) (H : Hp) (E : XK), Gd (cxOf (L2.CX P wd) P wd K mg base N qual scope f cdv A outer s H E) (wh ca E) k →
      VSs (cxOf (L2.CX P wd) P wd K mg base N qual scope f cdv A outer s H E) (wh ca E) body b) :
    FnOk P wd K mg base (L2.CX P wd) (k + 1) f fd ps (spD K ca ps.length (dDef N.length b)) := by
  refine F.ok S (fun vs H Q E h => ?_) (fun cdv A outer s H vs Q E hr h => ?_)
  · obtain ⟨_, _, _, _, e, _⟩ := h; exact e
  · obtain ⟨G, ls, rel, no, hl, h⟩ := h
    refine ⟨_, hb cdv A outer s H E ⟨rfl, takes_of rfl rfl rfl rfl, passes_of rfl, hr⟩, ?_⟩
    obtain ⟨r0, o1, o2⟩ := rel.more (n := N.length)
    refine ⟨G, _, r0, ?_⟩
    unfold dDef at h
    show FnS K (wh ca E) G H (vs.map some ++ List.replicate (N.length - vs.length) none) (ls ++ List.replicate (N.length - ls.length) none) (b (ls ++ List.replicate (N.length - ls.length) none)) { nx := fun _ H' => Q .non H', rt := Q }
    cases q : b (ls ++ List.replicate (N.length - ls.length) none) with
    | no => rw [q] at h; exact h
    | ex c ρ' =>
      rw [q] at h
      intro G' H' σ' cls dx r' s' x'
      obtain ⟨r2, s2, _⟩ := rel.back no r' s'
      exact h G' H' cls dx r2 s2 x'
    | ok fl ρ' =>
      rw [q] at h
      cases fl with
      | nx =>
        intro G' H' σ' r' s'
        obtain ⟨r2, s2, _⟩ := rel.back no r' s'
        exact h G' H' .non r2 s2 .non
      | bk => exact h.elim
      | ct => exact h.elim
      | rt d =>
        intro G' H' σ' v r' s' hv
        obtain ⟨r2, s2, _⟩ := rel.back no r' s'
        exact h G' H' v r2 s2 hv
      | rl ds =>
        intro G' H' σ' p r' s' ho
        obtain ⟨r2, s2, o3⟩ := rel.back no r' s'
        refine h G' H' p r2 s2 ho.g (fun z => ho.own (o3 p z)) ho.here ?_
        rcases ho.new with z | ⟨i, es, e, _⟩
        · exact z
        · by_cases hi : i < ls.length
          · rw [List.getElem?_append_left hi] at e; exact absurd e (no i es)
          · rw [List.getElem?_append_right (by omega), List.getElem?_replicate] at e
            split at e <;> cases e
/-- a class's value, by its name -/
def caK (bi : List String) (K : PySem.W.Frag) : String → Option Value := fun s => if bi.contains s = true then some (.type s) else some (.ref (He.ga K (Str.ofString s)))
/-! ### the end of a law's row -/
theorem walk_ofEB {l : PySem.W.OpenLaw} {n k : Nat} {q : Program} {loose : List Str} {XP : (Str → Option Value) → Heap → Prop} {YP : World → Heap → Prop} {d : DefRec} {CX : World → CXT} {x : Str}
    (hn : l.most = some n) (hn2 : n ≤ sizeLine) (hdf : d.params.defaults = []) (hr : Room k callerA)
    (F : ∀ (w : World) (mg : Str → Option Value) (fa : Addr) (h : Heap), YP w h → h.Ns mainGlobals mg → mg d.name = some (.ref fa) →
      ∃ (K : PySem.W.Frag) (fd : FuncData) (sp : Sp), K.In h ∧ (∀ (s : Shared) (u : Value), BindsTo s fd ⟨[u], []⟩ [(x, u)]) ∧
        (∀ (H : Hp) (a : Addr) (ns : List Int), ns.length ≤ n → (∀ z ∈ ns, Builtin.Int.intBits z ≤ 1048576) → SqL K H a (ns.map V.int) → sp [.ref a] H (fun v _ => v = .bl true) fun _ _ _ => False) ∧
        ∀ base : Heap, K.In base → base.Ns mainGlobals mg → FnOk l.prog w K mg base (CX w) k fa fd [x] sp)
    (hCX : ∀ (w : World) (H : Hp) (s : Shared) (e : Value) (s' : Shared), CX w [] H s (fun _ _ _ => False) e s' → False) :
    PySem.W.WalkO q loose XP YP l.row.toRowW d [] (fun f vs => PySem.call f vs) := by
  refine Att.attach_callB hn hdf fun w s₀ s₁ mg mb fa o pm cd doc a vs ns G Y ho hd hcd hmg hobj hints hlen hbits hg => ?_
  obtain ⟨K, fd, sp, KX, hb, hsp, hF⟩ := F w mg fa _ Y G.T.g hmg
  exact law_call KX G.T.g G.T.b G.T.builtins G.T.nolimit hg hobj hints (Nat.le_trans hlen hn2) hr hF hb (fun H hO hS => hsp H a ns hlen hbits hS) fun H e s' => hCX w H s₁ e s'
/-- a script's cell has few bits -/
theorem bits_lt {z : Int} (h : Builtin.Int.intBits z ≤ 1048576) : z.natAbs < 2 ^ 1048576 := by
  unfold Builtin.Int.intBits at h
  split at h
  · rename_i e
    have : z = 0 := by simpa using e
    subst this
    exact Nat.pow_pos (by decide)
  · rename_i e
    have hz : z.natAbs ≠ 0 := by intro q; apply e; simp [Int.natAbs_eq_zero.mp q]
    refine (Nat.log2_lt hz).mp ?_
    omega
def scriptD (ns : List Int) : D := .list (ns.map PyData.int)
/-- the law's def gives True: what the row asks -/
theorem law_sp {K : PySem.W.Frag} {ca : String → Option Value} {den : En → R L} {H : Hp} {a : Addr} {ns : List Int} (hS : SqL K H a (ns.map V.int)) {ls' : En} (h : den [some (.im (scriptD ns))] = .ok (.im (.bool true)) ls') :
    spD K ca 1 den [.ref a] H (fun v _ => v = .bl true) fun _ _ _ => False := by
  have hd : DR K H (.ref a) (scriptD ns) := .lst hS (DRs.ofInts ns)
  refine ⟨H, [some (.im (scriptD ns))], ⟨Same.refl _, rfl, fun i l e => ?_, fun i j l m b ei ej li mj si sj => ?_⟩, fun i ds e => ?_, rfl, ?_⟩
  · cases i with
    | zero => cases e; exact ⟨_, rfl, hd⟩
    | succ i => simp at e
  · cases i with
    | zero => cases ei; cases li
    | succ i => simp at ei
  · cases i with
    | zero => cases e
    | succ i => simp at e
  · rw [h]
    intro G' H' v r s hv
    cases hv
    rfl
end Dn
namespace Dn
open PySem PySem.Spec PyProof.Rows L2
theorem boot_ty_int : bootBuiltins "int" = some (.type "int") := by decide +kernel
theorem boot_ty_bool : bootBuiltins "bool" = some (.type "bool") := by decide +kernel
theorem boot_ty_str : bootBuiltins "str" = some (.type "str") := by decide +kernel
theorem boot_ty_list : bootBuiltins "list" = some (.type "list") := by decide +kernel
theorem boot_ty_tuple : bootBuiltins "tuple" = some (.type "tuple") := by decide +kernel
theorem boot_ty_dict : bootBuiltins "dict" = some (.type "dict") := by decide +kernel
theorem boot_B_abs : bootBuiltins "abs" = some (.builtin "abs") := by decide +kernel
theorem boot_B_max : bootBuiltins "max" = some (.builtin "max") := by decide +kernel
theorem boot_B_min : bootBuiltins "min" = some (.builtin "min") := by decide +kernel
theorem boot_B_sum : bootBuiltins "sum" = some (.builtin "sum") := by decide +kernel
theorem boot_B_all : bootBuiltins "all" = some (.builtin "all") := by decide +kernel
theorem boot_B_any : bootBuiltins "any" = some (.builtin "any") := by decide +kernel
theorem boot_B_sorted : bootBuiltins "sorted" = some (.builtin "sorted") := by decide +kernel
theorem Gd.u65 {X : Cx} {w : Wh} {k : Nat} (g : Gd X w k) : X.A.units + 65 < cLine := by have := g.hr.un; omega
theorem nox_nil : ∀ (d : List D) (ρ : En) (c : Exn) (ρ' : En), gsNil d ρ ≠ .ex c ρ' := fun d ρ c ρ' => by
  cases d <;> exact fun z => nomatch z
theorem nox_cons {g : D → En → R Unit} {h : List D → En → R Unit} (hg : NoX g) (hh : ∀ (d : List D) (ρ : En) (c : Exn) (ρ' : En), h d ρ ≠ .ex c ρ') : ∀ (d : List D) (ρ : En) (c : Exn) (ρ' : En), gsCons g h d ρ ≠ .ex c ρ' := fun d ρ c ρ' => by
  cases d with
  | nil => exact fun z => nomatch z
  | cons a r =>
    show (g a ρ).bind _ ≠ _
    cases q : g a ρ with
    | no => exact fun z => nomatch z
    | ex c1 ρ1 => exact absurd q (hg a ρ c1 ρ1)
    | ok u ρ1 => exact hh r ρ1 c ρ'
theorem nox_tup {n : Nat} {h : List D → En → R Unit} (hh : ∀ (d : List D) (ρ : En) (c : Exn) (ρ' : En), h d ρ ≠ .ex c ρ') : NoX (gTupD n h) := fun d ρ c ρ' => by
  unfold gTupD
  split
  · split
    · exact hh _ _ _ _
    · exact fun z => nomatch z
  · exact fun z => nomatch z
section
variable {X : Cx} {w : Wh} {a b c : Expr} {fa fb fc : En → R D} {ga : En → R Bool} {pos : Pos}
/-- a truth's value as a test -/
theorem vt_b (ha : VE X w a (dB ga)) (he : ∀ whole, isTrue a X.env whole = (do let v ← whole; standAt a.pos; holding [v] (truthy v)) := by intro _; rfl) : VT X w a ga :=
  PT.imp (pt_truth ha he) fun σ H Q ⟨G, ρ, rel, h⟩ => ⟨G, ρ, rel, Fn.toB rel (h.imp fun G1 H1 ρ1 b q v hv => by
    cases hv
    exact ⟨b, rfl, q⟩)⟩
/-- a < b < c -/
def dChain (g g' : D → D → Option Bool) (fa fb fc : En → R D) : En → R Bool := fun ρ => (fa ρ).bind fun x ρ1 => (fb ρ1).bind fun y ρ2 => (lift (g x y) ρ2).bind fun t ρ3 => if t = true then (fc ρ3).bind fun z ρ4 => lift (g' y z) ρ4 else .ok false ρ3
theorem chain_core {K : PySem.W.Frag} {r r' : R2} {g g' : D → D → Option Bool} (h1 : OpB K r g) (h2 : OpB K r' g') {G H : Hp} {σ : L2.St} {ρ : En} {P : Bool → Hp → Prop} (rel : Rel K G H σ ρ) (h : Fn K w G H σ ρ (dChain g g' fa fb fc ρ) (QB P)) :
    tChain r r' (teD K w fa) (teD K w fb) (teD K w fc) σ H (fun v H1 => ∃ k, v = .bl k ∧ P k H1) :=
  ⟨G, ρ, rel, (Fn.bind rel h).imp fun G1 H1 ρ1 dx ⟨r1, s1, h1'⟩ x hx => ⟨G1, ρ1, r1, (Fn.bind r1 h1').imp fun G2 H2 ρ2 dy ⟨r2, s2, h2'⟩ y hy => by
    obtain ⟨t, e, q⟩ := Fn.lift (Fn.bind r2 h2')
    obtain ⟨r3, s3, h3⟩ := q _ _ r2 Stp.refl
    refine h1 x y dx dy t H2 _ ((hx.mono s2.g).mono r2.sub) (hy.mono r2.sub) e ⟨t, rfl, ?_⟩
    cases t with
    | false => exact iteF ⟨false, rfl, Fn.ok (show Fn K w G2 H2 σ ρ2 (.ok false ρ2) (QB P) from h3) r2⟩
    | true =>
      refine iteT ⟨G2, ρ2, r2, (Fn.bind r2 (show Fn K w G2 H2 σ ρ2 ((fc ρ2).bind fun z ρ4 => lift (g' dy z) ρ4) (QB P) from h3)).imp fun G4 H4 ρ4 dz ⟨r4, s4, h4⟩ z hz => ?_⟩
      obtain ⟨b, e', q'⟩ := Fn.lift h4
      exact h2 y z dy dz b H4 _ ((hy.mono s4.g).mono r4.sub) (hz.mono r4.sub) e' ⟨b, rfl, q' _ _ r4 Stp.refl⟩⟩⟩
theorem vt_chain {op op' : CmpOp} {r r' : R2} {g g' : D → D → Option Bool} (ho : OpR X (compareOp op) r) (hs : OpB X.K r g) (ho' : OpR X (compareOp op') r') (hs' : OpB X.K r' g') (ha : VE X w a fa) (hb : VE X w b fb) (hc : VE X w c fc)
    (hm : lastMarks [op, op'] [b, c] = false := by with_unfolding_all rfl) : VT X w (.Compare a [op, op'] [b, c] pos) (dChain g g' fa fb fc) :=
  PT.imp (pt_chain ho ho' ha hb hc hm) fun σ H Q ⟨G, ρ, rel, h⟩ => chain_core hs hs' rel h
theorem tChain_imp {r r' : R2} {ta tb tc : TE} {σ : L2.St} {H : Hp} {Q : VK} (h : tChain r r' ta tb tc σ H Q) : tChain r r' ta tb tc σ H Q := h
theorem ve_chain {op op' : CmpOp} {r r' : R2} {g g' : D → D → Option Bool} (ho : OpR X (compareOp op) r) (hs : OpB X.K r g) (ho' : OpR X (compareOp op') r') (hs' : OpB X.K r' g') (ha : VE X w a fa) (hb : VE X w b fb) (hc : VE X w c fc)
    (hm : lastMarks [op, op'] [b, c] = false := by with_unfolding_all rfl) : VE X w (.Compare a [op, op'] [b, c] pos) (dB (dChain g g' fa fb fc)) := by
  refine ⟨fun pins s σ H Q I q => ?_⟩
  obtain ⟨G, ρ, rel, h⟩ := q
  refine thn ((pe_chain ho ho' ha hb hc hm).run pins s σ H _ I (chain_core (P := fun b H1 => Q (.bl b) H1) hs hs' rel ((Fn.dB rel h).imp fun G1 H1 ρ1 b q => q.2.2))) fun u s1 ⟨v, H1, I1, rv, k, e, q⟩ => ?_
  subst e
  exact ⟨_, H1, I1, rv, q⟩
end
end Dn
namespace Dn
open PySem PySem.Spec PyProof.Rows L2
/-! ### reckoning with denotations -/
section
variable {α β : Type}
@[simp] theorem bind_ok (a : α) (ρ : En) (g : α → En → R β) : (R.ok a ρ).bind g = g a ρ := rfl
@[simp] theorem bind_ex (c : Exn) (ρ : En) (g : α → En → R β) : (R.ex c ρ : R α).bind g = .ex c ρ := rfl
@[simp] theorem bind_no (g : α → En → R β) : (R.no : R α).bind g = .no := rfl
@[simp] theorem bind_ite (c : Prop) [Decidable c] (x y : R α) (g : α → En → R β) : (if c then x else y).bind g = if c then x.bind g else y.bind g := by split <;> rfl
@[simp] theorem lift_some (a : α) (ρ : En) : lift (some a) ρ = .ok a ρ := rfl
@[simp] theorem lift_none (ρ : En) : (lift none ρ : R α) = .no := rfl
@[simp] theorem lift_ite (c : Prop) [Decidable c] (x y : Option α) (ρ : En) : lift (if c then x else y) ρ = if c then lift x ρ else lift y ρ := by split <;> rfl
end
/-- a block goes on -/
def thn' (r : R Fl) (g : En → R Fl) : R Fl := match r with
  | .ok .nx ρ => g ρ
  | .ok fl ρ => .ok fl ρ
  | .ex c ρ => .ex c ρ
  | .no => .no
@[simp] theorem thn_nx (ρ : En) (g : En → R Fl) : thn' (.ok .nx ρ) g = g ρ := rfl
@[simp] theorem thn_rt (d : D) (ρ : En) (g : En → R Fl) : thn' (.ok (.rt d) ρ) g = .ok (.rt d) ρ := rfl
@[simp] theorem thn_rl (d : List D) (ρ : En) (g : En → R Fl) : thn' (.ok (.rl d) ρ) g = .ok (.rl d) ρ := rfl
@[simp] theorem thn_bk (ρ : En) (g : En → R Fl) : thn' (.ok .bk ρ) g = .ok .bk ρ := rfl
@[simp] theorem thn_ct (ρ : En) (g : En → R Fl) : thn' (.ok .ct ρ) g = .ok .ct ρ := rfl
@[simp] theorem thn_ex (c : Exn) (ρ : En) (g : En → R Fl) : thn' (.ex c ρ) g = .ex c ρ := rfl
@[simp] theorem thn_no (g : En → R Fl) : thn' .no g = .no := rfl
@[simp] theorem thn_ite (c : Prop) [Decidable c] (x y : R Fl) (g : En → R Fl) : thn' (if c then x else y) g = if c then thn' x g else thn' y g := by split <;> rfl
/-- a def ends -/
def finD (ls : En) (r : R Fl) : R L := match r with
  | .ok .nx ρ => .ok (.im .none) (backE ls ρ)
  | .ok (.rt d) ρ => .ok (.im d) (backE ls ρ)
  | .ok (.rl ds) ρ => .ok (.ow ds) (backE ls ρ)
  | .ex c ρ => .ex c (backE ls ρ)
  | _ => .no
@[simp] theorem fin_nx (ls ρ : En) : finD ls (.ok .nx ρ) = .ok (.im .none) (backE ls ρ) := rfl
@[simp] theorem fin_rt (ls ρ : En) (d : D) : finD ls (.ok (.rt d) ρ) = .ok (.im d) (backE ls ρ) := rfl
@[simp] theorem fin_rl (ls ρ : En) (d : List D) : finD ls (.ok (.rl d) ρ) = .ok (.ow d) (backE ls ρ) := rfl
@[simp] theorem fin_ex (ls ρ : En) (c : Exn) : finD ls (.ex c ρ) = .ex c (backE ls ρ) := rfl
@[simp] theorem fin_ite (c : Prop) [Decidable c] (ls : En) (x y : R Fl) : finD ls (if c then x else y) = if c then finD ls x else finD ls y := by split <;> rfl
@[simp] theorem dDef_eq (n : Nat) (b : En → R Fl) (ls : En) : dDef n b ls = finD ls (b (ls ++ List.replicate (n - ls.length) none)) := rfl
@[simp] theorem dSeq_eq (f g : En → R Fl) (ρ : En) : dSeq f g ρ = thn' (f ρ) g := by
  unfold dSeq thn'
  cases q : f ρ with
  | ok fl ρ1 => cases fl <;> rfl
  | _ => rfl
section
variable (f g : En → R D) (p q : En → R Bool) (s t : En → R Fl) (ga : En → R (List AV)) (ρ : En) (i j : Nat) (d : D)
@[simp] theorem dNx_eq : dNx ρ = .ok .nx ρ := rfl
@[simp] theorem dBk_eq : dBk ρ = .ok .bk ρ := rfl
@[simp] theorem dCt_eq : dCt ρ = .ok .ct ρ := rfl
@[simp] theorem dRet_eq : dRet f ρ = (f ρ).bind fun d ρ1 => .ok (.rt d) ρ1 := rfl
@[simp] theorem dDrop_eq : dDrop f ρ = (f ρ).bind fun _ ρ1 => .ok .nx ρ1 := rfl
@[simp] theorem dIf_eq : dIf p s t ρ = (p ρ).bind fun b ρ1 => if b = true then s ρ1 else t ρ1 := rfl
@[simp] theorem dC_eq : dC d ρ = .ok d ρ := rfl
@[simp] theorem dOp_eq (h : D → D → Option D) : dOp h f g ρ = (f ρ).bind fun x ρ1 => (g ρ1).bind fun y ρ2 => lift (h x y) ρ2 := rfl
@[simp] theorem d1_eq (h : D → Option D) : d1 h f ρ = (f ρ).bind fun x ρ1 => lift (h x) ρ1 := rfl
@[simp] theorem dCmp_eq (h : D → D → Option Bool) : dCmp h f g ρ = (f ρ).bind fun x ρ1 => (g ρ1).bind fun y ρ2 => lift (h x y) ρ2 := rfl
@[simp] theorem dB_eq : dB p ρ = (p ρ).bind fun b ρ1 => .ok (.bool b) ρ1 := rfl
@[simp] theorem dNot_eq : dNot p ρ = (p ρ).bind fun b ρ1 => .ok (!b) ρ1 := rfl
@[simp] theorem dAnd_eq : dAnd p q ρ = (p ρ).bind fun b ρ1 => if b = true then q ρ1 else .ok false ρ1 := rfl
@[simp] theorem dOr_eq : dOr p q ρ = (p ρ).bind fun b ρ1 => if b = true then .ok true ρ1 else q ρ1 := rfl
@[simp] theorem dAndV_eq : dAndV p f ρ = (p ρ).bind fun b ρ1 => if b = true then f ρ1 else .ok (.bool false) ρ1 := rfl
@[simp] theorem dOrV_eq : dOrV p f ρ = (p ρ).bind fun b ρ1 => if b = true then .ok (.bool true) ρ1 else f ρ1 := rfl
@[simp] theorem dIfE_eq : dIfE p f g ρ = (p ρ).bind fun b ρ1 => if b = true then f ρ1 else g ρ1 := rfl
@[simp] theorem dIsi_eq (t : String) : dIsi t f ρ = (f ρ).bind fun d ρ1 => .ok (isTy t d) ρ1 := rfl
@[simp] theorem dUB_eq : dUB f ρ = (f ρ).bind fun d ρ1 => lift (asB d) ρ1 := rfl
@[simp] theorem dTru_eq : dTru f ρ = (f ρ).bind fun d ρ1 => lift (truD d) ρ1 := rfl
@[simp] theorem dChain_eq (h h' : D → D → Option Bool) (k : En → R D) : dChain h h' f g k ρ = (f ρ).bind fun x ρ1 => (g ρ1).bind fun y ρ2 => (lift (h x y) ρ2).bind fun t ρ3 => if t = true then (k ρ3).bind fun z ρ4 => lift (h' y z) ρ4 else .ok false ρ3 := rfl
@[simp] theorem aNil_eq : aNil ρ = .ok [] ρ := rfl
@[simp] theorem aIm_eq : aIm f ga ρ = (f ρ).bind fun d ρ1 => (ga ρ1).bind fun as ρ2 => .ok (.im d :: as) ρ2 := rfl
@[simp] theorem dAll_eq : dAll ga ρ = (ga ρ).bind fun as ρ1 => lift (allIm as) ρ1 := rfl
@[simp] theorem dTup_eq : dTup ga ρ = (dAll ga ρ).bind fun ds ρ1 => if ds.length ≤ sizeLine then .ok (.tuple ds) ρ1 else .no := rfl
@[simp] theorem dLst_eq : dLst ga ρ = (dAll ga ρ).bind fun ds ρ1 => if ds.length ≤ sizeLine then .ok (.list ds) ρ1 else .no := rfl
@[simp] theorem nLst_eq : nLst ga ρ = (dAll ga ρ).bind fun ds ρ1 => if ds.length ≤ sizeLine then .ok ds ρ1 else .no := rfl
@[simp] theorem dCall_eq (h : List D → Option D) : dCall h ga ρ = (dAll ga ρ).bind fun ds ρ1 => lift (h ds) ρ1 := rfl
@[simp] theorem dAsg_eq (h : D → En → R Unit) : dAsg h f ρ = (f ρ).bind fun d ρ1 => (h d ρ1).bind fun _ ρ2 => .ok .nx ρ2 := rfl
@[simp] theorem putIm_eq : putIm i d ρ = if free ρ[i]? = true then .ok () (ρ.set i (some (.im d))) else .no := rfl
@[simp] theorem putOw_eq (ds : List D) : putOw i ds ρ = if free ρ[i]? = true then .ok () (ρ.set i (some (.ow ds))) else .no := rfl
@[simp] theorem dSl_eq (l u : En → R (Option Int)) : dSl f l u ρ = (f ρ).bind fun x ρ1 => (l ρ1).bind fun lo ρ2 => (u ρ2).bind fun hi ρ3 => lift (gSl x lo hi) ρ3 := rfl
@[simp] theorem oN_eq : oN ρ = .ok none ρ := rfl
@[simp] theorem oI_eq : oI f ρ = (f ρ).bind fun d ρ1 => lift ((asI d).map some) ρ1 := rfl
@[simp] theorem dPair_eq {α β : Type} (f : En → R α) (g : En → R β) : dPair f g ρ = (f ρ).bind fun a ρ1 => (g ρ1).bind fun b ρ2 => .ok (a, b) ρ2 := rfl
@[simp] theorem dPar_eq : dPar i j ga ρ = (dAll ga ρ).bind fun ds ρ1 => match ds with
  | [a, b] => (putIm i a ρ1).bind fun _ ρ2 => (putIm j b ρ2).bind fun _ ρ3 => .ok .nx ρ3
  | _ => .no := rfl
end
/-- a slot read -/
def rdSlot (c : Option (Option L)) (i : Nat) (ρ : En) : R D := match c with
  | some (some (.im d)) => .ok d ρ
  | some (some (.ow ds)) => .ok (.list ds) (frz i ds ρ)
  | _ => .no
@[simp] theorem dVar_eq (i : Nat) (ρ : En) : dVar i ρ = rdSlot ρ[i]? i ρ := by
  unfold dVar rdSlot
  split <;> simp_all
@[simp] theorem rdSlot_im (d : D) (i : Nat) (ρ : En) : rdSlot (some (some (.im d))) i ρ = .ok d ρ := rfl
@[simp] theorem rdSlot_ow (ds : List D) (i : Nat) (ρ : En) : rdSlot (some (some (.ow ds))) i ρ = .ok (.list ds) (frz i ds ρ) := rfl
/-- at a slot, what follows -/
def slotK {α : Type} (c : Option (Option L)) (k : L → R α) : R α := match c with
  | some (some l) => k l
  | _ => .no
@[simp] theorem slotK_some {α : Type} (l : L) (k : L → R α) : slotK (some (some l)) k = k l := rfl
@[simp] theorem atSlot_eq {α β : Type} (i : Nat) (f : En → R β) (g : L → β → En → R α) (ρ : En) : atSlot i f g ρ = slotK ρ[i]? fun _ => (f ρ).bind fun y ρ1 => slotK ρ1[i]? fun l => g l y ρ1 := by
  unfold atSlot slotK
  cases ρ[i]? with
  | none => rfl
  | some o =>
    cases o with
    | none => rfl
    | some l =>
      show (f ρ).bind _ = (f ρ).bind _
      cases f ρ with
      | ok y ρ1 =>
        show (match ρ1[i]? with | some (some l) => g l y ρ1 | _ => R.no) = _
        show _ = (match ρ1[i]? with | some (some l) => g l y ρ1 | _ => R.no)
        rfl
      | _ => rfl
@[simp] theorem toD_im (d : D) : (L.im d).toD = d := rfl
@[simp] theorem toD_ow (d : List D) : (L.ow d).toD = .list d := rfl
@[simp] theorem toD_bo (d : List D) : (L.bo d).toD = .list d := rfl
@[simp] theorem dIxN_eq (i : Nat) (f : En → R D) (ρ : En) : dIxN i f ρ = atSlot i f (fun l y ρ => lift (gIx l.toD y) ρ) ρ := rfl
@[simp] theorem dSlN_eq (i : Nat) (l u : En → R (Option Int)) (ρ : En) : dSlN i l u ρ = atSlot i (dPair l u) (fun x p ρ => lift (gSl x.toD p.1 p.2) ρ) ρ := rfl
@[simp] theorem dLenN_eq (i : Nat) (ρ : En) : dLenN i ρ = atSlot i (fun ρ => .ok () ρ) (fun l _ ρ => lift (gLen1 l.toD) ρ) ρ := rfl
/-! calls -/
def resD (as : List AV) (ρ : En) (r : R L) : R D := match r with
  | .ok (.im d) ls' => .ok d (giveB as ls' ρ)
  | .ok (.ow ds) ls' => .ok (.list ds) (giveB as ls' ρ)
  | .ok (.bo _) _ => .no
  | .ex c ls' => .ex c (giveB as ls' ρ)
  | .no => .no
@[simp] theorem resD_im (as : List AV) (ρ ls : En) (d : D) : resD as ρ (.ok (.im d) ls) = .ok d (giveB as ls ρ) := rfl
@[simp] theorem resD_ow (as : List AV) (ρ ls : En) (d : List D) : resD as ρ (.ok (.ow d) ls) = .ok (.list d) (giveB as ls ρ) := rfl
@[simp] theorem resD_ex (as : List AV) (ρ ls : En) (c : Exn) : resD as ρ (.ex c ls) = .ex c (giveB as ls ρ) := rfl
def lentK {α : Type} (o : Option En) (k : En → R α) : R α := match o with
  | some ls => k ls
  | none => .no
@[simp] theorem lentK_some {α : Type} (ls : En) (k : En → R α) : lentK (some ls) k = k ls := rfl
@[simp] theorem dFn_eq (n : Nat) (den : En → R L) (ga : En → R (List AV)) (ρ : En) : dFn n den ga ρ = (ga ρ).bind fun as ρ1 => if as.length = n then lentK (lend as ρ1) fun ls => resD as ρ1 (den ls) else .no := by
  unfold dFn
  congr 1
  funext as ρ1
  split
  · unfold lentK resD
    cases lend as ρ1 with
    | none => rfl
    | some ls =>
      cases den ls with
      | ok l ls' => cases l <;> rfl
      | _ => rfl
  · rfl
/-- arguments that are data -/
theorem lend_im : ∀ (ds : List D) (ρ : En), lend (ds.map AV.im) ρ = some (ds.map fun d => some (L.im d)) := fun ds ρ => by
  have h1 : ∀ ds : List D, slotsOf (ds.map AV.im) = [] := fun ds => by
    induction ds with
    | nil => rfl
    | cons d r ih => exact ih
  have h2 : ∀ ds : List D, lendL ρ (ds.map AV.im) = some (ds.map fun d => some (L.im d)) := fun ds => by
    induction ds with
    | nil => rfl
    | cons d r ih =>
      show (lendL ρ (r.map AV.im)).map _ = _
      rw [ih]; rfl
  unfold lend
  rw [h1, if_pos List.nodup_nil, h2]
@[simp] theorem lend1 (a : D) (ρ : En) : lend [.im a] ρ = some [some (.im a)] := lend_im [a] ρ
@[simp] theorem lend2 (a b : D) (ρ : En) : lend [.im a, .im b] ρ = some [some (.im a), some (.im b)] := lend_im [a, b] ρ
@[simp] theorem lend3 (a b c : D) (ρ : En) : lend [.im a, .im b, .im c] ρ = some [some (.im a), some (.im b), some (.im c)] := lend_im [a, b, c] ρ
@[simp] theorem lend4 (a b c d : D) (ρ : En) : lend [.im a, .im b, .im c, .im d] ρ = some [some (.im a), some (.im b), some (.im c), some (.im d)] := lend_im [a, b, c, d] ρ
@[simp] theorem lend5 (a b c d e : D) (ρ : En) : lend [.im a, .im b, .im c, .im d, .im e] ρ = some [some (.im a), some (.im b), some (.im c), some (.im d), some (.im e)] := lend_im [a, b, c, d, e] ρ
@[simp] theorem give_nil (ls ρ : En) : giveB [] ls ρ = ρ := by cases ls <;> rfl
@[simp] theorem give_im (d : D) (as : List AV) (c : Option L) (ls ρ : En) : giveB (.im d :: as) (c :: ls) ρ = giveB as ls ρ := rfl
@[simp] theorem give_e (as : List AV) (ρ : En) : giveB as [] ρ = ρ := by
  cases as with
  | nil => rfl
  | cons a as => cases a <;> rfl
@[simp] theorem backE_im (d : D) (ls : En) (c : Option L) (ρ : En) : backE (some (.im d) :: ls) (c :: ρ) = some (.im d) :: backE ls ρ := rfl
@[simp] theorem backE_bo' (d : List D) (ls : En) (c : Option L) (ρ : En) : backE (some (.bo d) :: ls) (c :: ρ) = c :: backE ls ρ := rfl
@[simp] theorem backE_nil (ρ : En) : backE [] ρ = [] := by cases ρ <;> rfl
@[simp] theorem allIm_nil : allIm [] = some [] := rfl
@[simp] theorem allIm_cons (d : D) (as : List AV) : allIm (.im d :: as) = (allIm as).map (d :: ·) := rfl
@[simp] theorem free_none : free (some none) = true := rfl
@[simp] theorem free_im (d : D) : free (some (some (.im d))) = true := rfl
@[simp] theorem free_ow (d : List D) : free (some (some (.ow d))) = true := rfl
/-! operators -/
section
variable (i j : Int) (a b : Str)
@[simp] theorem gAdd_int : gAdd (.int i) (.int j) = some (.int (i + j)) := rfl
@[simp] theorem gSub_int : gSub (.int i) (.int j) = some (.int (i - j)) := rfl
@[simp] theorem gNeg_int : gNeg (.int i) = some (.int (-i)) := rfl
@[simp] theorem gLt_int : gLt (.int i) (.int j) = some (decide (i < j)) := rfl
@[simp] theorem gLe_int : gLe (.int i) (.int j) = some (decide (i ≤ j)) := rfl
@[simp] theorem gGt_int : gGt (.int i) (.int j) = some (decide (j < i)) := rfl
@[simp] theorem gGe_int : gGe (.int i) (.int j) = some (decide (j ≤ i)) := rfl
@[simp] theorem gAbs_int : gAbs [.int i] = some (.int (if i < 0 then -i else i)) := rfl
@[simp] theorem gInt_int : gInt [.int i] = some (.int i) := rfl
@[simp] theorem gInt_bool (k : Bool) : gInt [.bool k] = some (.int (if k then 1 else 0)) := rfl
@[simp] theorem gMax2_int : gMax2 [.int i, .int j] = some (.int (if j > i then j else i)) := rfl
@[simp] theorem gMin2_int : gMin2 [.int i, .int j] = some (.int (if j < i then j else i)) := rfl
@[simp] theorem truD_bool (k : Bool) : truD (.bool k) = some k := rfl
@[simp] theorem truD_none : truD .none = some false := rfl
@[simp] theorem truD_int : truD (.int i) = some (i != 0) := rfl
@[simp] theorem truD_list (l : List D) : truD (.list l) = some (!l.isEmpty) := rfl
@[simp] theorem truD_tuple (l : List D) : truD (.tuple l) = some (!l.isEmpty) := rfl
@[simp] theorem asB_bool (k : Bool) : asB (.bool k) = some k := rfl
@[simp] theorem asI_int : asI (.int i) = some i := rfl
theorem shp_int : shp (.int i) = true := rfl
theorem shp_bool (k : Bool) : shp (.bool k) = true := rfl
theorem shp_none : shp .none = true := rfl
@[simp] theorem gEq_int : gEq (.int i) (.int j) = some (decide (i = j)) := by
  show some (PyData.eqv (.int i) (.int j)) = _
  simp [PyData.eqv, Bool.beq_eq_decide_eq]
@[simp] theorem gNe_int : gNe (.int i) (.int j) = some (!decide (i = j)) := by
  show (gEq (.int i) (.int j)).map _ = _
  rw [gEq_int]; rfl
@[simp] theorem gIs_none (d : D) : gIs d .none = some (match d with | .none => true | _ => false) := by cases d <;> rfl
@[simp] theorem gIsNot_none (d : D) : gIsNot d .none = some (match d with | .none => false | _ => true) := by cases d <;> rfl
@[simp] theorem gEq_bool (k l : Bool) : gEq (.bool k) (.bool l) = some (k == l) := by
  show some (PyData.eqv (.bool k) (.bool l)) = _
  simp only [PyData.eqv]
@[simp] theorem gNe_bool (k l : Bool) : gNe (.bool k) (.bool l) = some (!(k == l)) := by
  show (gEq (.bool k) (.bool l)).map _ = _
  rw [gEq_bool]; rfl
theorem eqv_ii (a b : Int) : PyData.eqv (.int a) (.int b) = decide (a = b) := by simp only [PyData.eqv, Bool.beq_eq_decide_eq]
theorem eqv_ss (a b : Str) : PyData.eqv (.str a) (.str b) = decide (a = b) := by simp only [PyData.eqv, Bool.beq_eq_decide_eq]
theorem eqv_bb (a b : Bool) : PyData.eqv (.bool a) (.bool b) = decide (a = b) := by simp only [PyData.eqv, Bool.beq_eq_decide_eq]
theorem eqv_tt (a b : List D) : PyData.eqv (.tuple a) (.tuple b) = PyData.eqvAll a b := by simp only [PyData.eqv]
theorem eqv_ll (a b : List D) : PyData.eqv (.list a) (.list b) = PyData.eqvAll a b := by simp only [PyData.eqv]
theorem eqv_cc (x y : D) (a b : List D) : PyData.eqvAll (x :: a) (y :: b) = (PyData.eqv x y && PyData.eqvAll a b) := by simp only [PyData.eqvAll]
theorem eqv_nn : PyData.eqvAll [] [] = true := by simp only [PyData.eqvAll]
theorem eqv_nc (y : D) (b : List D) : PyData.eqvAll [] (y :: b) = false := by simp only [PyData.eqvAll]
theorem eqv_cn (y : D) (b : List D) : PyData.eqvAll (y :: b) [] = false := by simp only [PyData.eqvAll]
theorem gEq_of {a b : D} (ha : shp a = true) (hb : shp b = true) : gEq a b = some (PyData.eqv a b) := if_pos ⟨ha, hb⟩
theorem gNe_of {a b : D} (ha : shp a = true) (hb : shp b = true) : gNe a b = some (!PyData.eqv a b) := by
  show (gEq a b).map _ = _
  rw [gEq_of ha hb]; rfl
theorem gMul_of {i j : Int} {m n : Nat} (hi : i.natAbs < 2 ^ m) (hj : j.natAbs < 2 ^ n) (hm : 0 < m) (hn : 0 < n) (h : m + n ≤ 1000000) : gMul (.int i) (.int j) = some (.int (i * j)) := by
  have h1 : i.natAbs.log2 + j.natAbs.log2 < 1000000 := wide_mul hi hj hm hn h
  exact if_pos (show i.natAbs.log2 + j.natAbs.log2 < 100000000 by omega)
theorem gMul_big {i j : Int} {m n : Nat} (hi : i.natAbs < 2 ^ m) (hj : j.natAbs < 2 ^ n) (hm : 0 < m) (hn : 0 < n) (h : m + n ≤ 100000000) : gMul (.int i) (.int j) = some (.int (i * j)) := by
  have h1 := PySem.Flt.log2_lt_of hm hi
  have h2 := PySem.Flt.log2_lt_of hn hj
  exact if_pos (show i.natAbs.log2 + j.natAbs.log2 < 100000000 by omega)
theorem gFdiv_of {i j : Int} {n : Nat} (h : j ≠ 0) (hj : j.natAbs < 2 ^ n) (hn : 0 < n) (h9 : n ≤ 9000) : gFdiv (.int i) (.int j) = some (.int (i.fdiv j)) := by
  have h1 : j ≠ 0 ∧ j.natAbs.log2 < 9000 := ⟨h, Nat.lt_of_lt_of_le (PySem.Flt.log2_lt_of hn hj) h9⟩
  exact if_pos h1
theorem gFdiv_pos {i j : Int} {n : Nat} (h : 0 < j) (hj : j.natAbs < 2 ^ n) (hn : 0 < n) (h9 : n ≤ 9000) : gFdiv (.int i) (.int j) = some (.int (i / j)) := by
  rw [gFdiv_of (by omega) hj hn h9, Int.fdiv_eq_ediv_of_nonneg i (by omega)]
theorem gMod_pos {i j : Int} (h : 0 < j) : gMod (.int i) (.int j) = some (.int (i % j)) := by
  rw [← Int.fmod_eq_emod_of_nonneg i (by omega : 0 ≤ j)]
  have h1 : j ≠ 0 := by omega
  exact if_pos h1
theorem gMod_of {i j : Int} (h : j ≠ 0) : gMod (.int i) (.int j) = some (.int (i.fmod j)) := by
  exact if_pos h
theorem gPow_of {i j : Int} (h0 : 0 ≤ j) (h1 : j ≤ 1000000) (h2 : i.natAbs < 2 ^ 64) : gPow (.int i) (.int j) = some (.int (i ^ j.toNat)) := by
  have h3 : 0 ≤ j ∧ j ≤ 1000000 ∧ i.natAbs < 2 ^ 64 := ⟨h0, h1, h2⟩
  exact if_pos h3
end
/-! places -/
@[simp] theorem gIx_tup (l : List D) (i : Int) : gIx (.tuple l) (.int i) = L2.atI l i := rfl
@[simp] theorem gIx_lst (l : List D) (i : Int) : gIx (.list l) (.int i) = L2.atI l i := rfl
@[simp] theorem atI_0 (a : D) (l : List D) : L2.atI (a :: l) 0 = some a := by
  unfold L2.atI L2.ixN
  rw [if_pos (by decide), if_pos (by rw [List.length_cons]; omega)]; rfl
@[simp] theorem atI_1 (a b : D) (l : List D) : L2.atI (a :: b :: l) 1 = some b := by
  unfold L2.atI L2.ixN
  rw [if_pos (by decide), if_pos (by rw [List.length_cons, List.length_cons]; omega)]; rfl
@[simp] theorem atI_2 (a b c : D) (l : List D) : L2.atI (a :: b :: c :: l) 2 = some c := by
  unfold L2.atI L2.ixN
  rw [if_pos (by decide), if_pos (by rw [List.length_cons, List.length_cons, List.length_cons]; omega)]; rfl
theorem atI_of {l : List D} {i : Nat} {d : D} (h : l[i]? = some d) : L2.atI l (i : Int) = some d := atI_nat h
@[simp] theorem sizeLine_ge (n : Nat) (h : n ≤ 1000) : n ≤ sizeLine := Nat.le_of_lt (small1000 h)
theorem gSl_take (ds : List D) (k : Nat) : gSl (.list ds) none (some (k : Int)) = some (.list (ds.take k)) := by
  show some (PyData.list _) = _
  rw [HT.sIx_none, HT.sIx_nat, List.drop_zero, Nat.sub_zero]
  congr 2
  by_cases h : k ≤ ds.length
  · rw [Nat.min_eq_left h]
  · rw [Nat.min_eq_right (by omega), List.take_of_length_le (by omega), List.take_of_length_le (by omega)]
theorem gSl_drop (ds : List D) (k : Nat) : gSl (.list ds) (some (k : Int)) none = some (.list (ds.drop k)) := by
  show some (PyData.list _) = _
  rw [HT.sIx_none, HT.sIx_nat]
  congr 2
  by_cases h : k ≤ ds.length
  · rw [Nat.min_eq_left h, List.take_of_length_le (by rw [List.length_drop]; omega)]
  · rw [Nat.min_eq_right (by omega), Nat.sub_self, List.take_zero, List.drop_eq_nil_of_le (by omega)]
theorem rgOk_up {i j c : Int} (hc : 0 < c) (hc2 : c < 1000000) (h1 : -1000000000000 < i) (h2 : i < 1000000000000) (h3 : -1000000000000 < j) (h4 : j < 1000000000000) : rgOk i j c = true := by
  have hr : 0 ≤ Builtin.Range.rangeSize i j c ∧ Builtin.Range.rangeSize i j c ≤ 2000000000001 := by
    unfold Builtin.Range.rangeSize
    rw [if_pos hc]
    split
    · have h5 : (j - i - 1) / c ≤ j - i - 1 := Int.ediv_le_self _ (by omega)
      have h6 : 0 ≤ (j - i - 1) / c := Int.ediv_nonneg (by omega) (by omega)
      omega
    · omega
  unfold rgOk Builtin.Range.small
  simp only [Builtin.Range.rangeFitsLong, Bool.and_eq_true, Bool.or_eq_true, decide_eq_true_eq, beq_iff_eq]
  refine ⟨⟨by omega, by omega, hr.1⟩, ?_⟩
  generalize Builtin.Range.rangeSize i j c = n at hr
  simp [hc]
  omega
noncomputable def rg1 (ds : List D) (ρ1 : En) : R (List D) := match ds with
  | [.int j] => if inR j then .ok (rngD 0 j.toNat) ρ1 else .no
  | _ => .no
noncomputable def rg2 (ds : List D) (ρ1 : En) : R (List D) := match ds with
  | [.int i, .int j] => if inR i ∧ inR j then .ok (rngD i (j - i).toNat) ρ1 else .no
  | _ => .no
@[simp] theorem iRg1_eq (ga : En → R (List AV)) (ρ : En) : iRg1 ga ρ = (dAll ga ρ).bind fun ds ρ1 => rg1 ds ρ1 := rfl
@[simp] theorem iRg2_eq (ga : En → R (List AV)) (ρ : En) : iRg2 ga ρ = (dAll ga ρ).bind fun ds ρ1 => rg2 ds ρ1 := rfl
@[simp] theorem rg1_ok {j : Int} {ρ : En} (h : inR j) : rg1 [.int j] ρ = .ok (rngD 0 j.toNat) ρ := if_pos h
@[simp] theorem rg2_ok {i j : Int} {ρ : En} (h : inR i) (h2 : inR j) : rg2 [.int i, .int j] ρ = .ok (rngD i (j - i).toNat) ρ := if_pos ⟨h, h2⟩
theorem inR_of {j : Int} (h : -1000000 ≤ j) (h2 : j ≤ 1000000) : inR j := ⟨by omega, by omega⟩
@[simp] theorem iRg3_eq (ga : En → R (List AV)) (ρ : En) : iRg3 ga ρ = (dAll ga ρ).bind fun ds ρ1 => match ds with
  | [.int i, .int j, .int c] => if rgOk i j c = true then .ok (rngC i c (rgN i j c)) ρ1 else .no
  | _ => .no := rfl
@[simp] theorem dFor_eq (f : En → R (List D)) (g : D → En → R Unit) (b : En → R Fl) (ρ : En) : dFor f g b ρ = (f ρ).bind fun ds ρ1 => dForL g b ds ρ1 := rfl
@[simp] theorem iD_eq (f : En → R D) (ρ : En) : iD f ρ = (f ρ).bind fun d ρ1 => match d with
  | .list ds => .ok ds ρ1
  | .tuple ds => .ok ds ρ1
  | .str s => .ok (strD s) ρ1
  | _ => .no := rfl
theorem mem_rngC {lo c : Int} {n : Nat} {d : D} (h : d ∈ rngC lo c n) : ∃ i : Nat, i < n ∧ d = .int (lo + i * c) := by
  unfold rngC at h
  obtain ⟨i, hi, rfl⟩ := List.mem_map.mp h
  exact ⟨i, by simpa using hi, rfl⟩
theorem mem_rngD {lo : Int} {n : Nat} {d : D} (h : d ∈ rngD lo n) : ∃ i : Nat, i < n ∧ d = .int (lo + i) := by
  unfold rngD at h
  obtain ⟨i, hi, rfl⟩ := List.mem_map.mp h
  exact ⟨i, by simpa using hi, rfl⟩
/-! loops -/
theorem forL_all {g : D → En → R Unit} {b : En → R Fl} {P : En → Prop} : ∀ {ds : List D}, (∀ d ∈ ds, ∀ ρ, P ρ → ∃ ρ1 ρ2, g d ρ = .ok () ρ1 ∧ (b ρ1 = .ok .nx ρ2 ∨ b ρ1 = .ok .ct ρ2) ∧ P ρ2) → ∀ ρ, P ρ → ∃ ρ', dForL g b ds ρ = .ok .nx ρ' ∧ P ρ'
  | [], _, ρ, hp => ⟨ρ, rfl, hp⟩
  | d :: ds, h, ρ, hp => by
    obtain ⟨ρ1, ρ2, e1, e2, p2⟩ := h d (List.mem_cons_self ..) ρ hp
    obtain ⟨ρ', e3, p3⟩ := forL_all (ds := ds) (fun d hd => h d (List.mem_cons_of_mem _ hd)) ρ2 p2
    refine ⟨ρ', ?_, p3⟩
    show (g d ρ).bind _ = _
    rw [e1]
    show (b ρ1).bind _ = _
    rcases e2 with e2 | e2
    · rw [e2]; exact e3
    · rw [e2]; exact e3
end Dn
namespace Dn
open PySem PySem.Spec PyProof.Rows L2
/-! ### raise and try -/
def noX {α : Type} : R α → R α
  | .ex _ _ => .no
  | r => r
def dRaise (c : String) : En → R Fl := fun ρ => .ex ⟨c, none⟩ ρ
/-- cat: whether the clause takes an exception of that class -/
def dTry (b : En → R Fl) (cat : String → Option Bool) (s : En → R Fl) : En → R Fl := fun ρ => match b ρ with
  | .ex e ρ1 => match cat e.cls with
    | some true => noX (s ρ1)
    | some false => .ex e ρ1
    | none => .no
  | r => r
section
variable {X : Cx} {w : Wh} {x : Str} {p p2 pos np pos' : Pos} {C : Addr} {B newId initId : String} {bmB : List Value}
theorem vs_raise {nm : String} {m : Str} {j : Nat} (hc : X.calm = true) (tk : Takes X w.W) (hca : w.ca nm = some (.ref C)) (F : ExcBaseFacts B newId initId bmB) (q : PySem.W.excIn X.K C bmB newId = true) (gC : X.mg x = some (.ref C)) (kC : PySem.W.keepIn X.K (.ref C) = true) (r : Raises X (.ref C)) (hg : Gl X x)
    (hdb : (x == ("__debug__" : Str)) = false := by decide) : VS X w (.Raise (some (.Call (.Name x p) [.Constant (.str m) j p2] [] pos)) none pos') (dRaise nm) :=
  PS.imp (ps_raise hc tk (pmk_own F q gC kC r hg hdb)) fun Z σ H ⟨G, ρ, rel, h⟩ => by
    have h' : FnS X.K w G H σ ρ (.ex ⟨nm, none⟩ ρ) Z := h
    exact h' G H σ _ none rel Stp.refl ⟨hca, fun _ => .inl rfl, fun f d e => nomatch e⟩
theorem FnS.noX {K : PySem.W.Frag} {w0 : Wh} {G H : Hp} {σ : L2.St} {ρ : En} {r : R Fl} {Z : Ends} (h : FnS K w G H σ ρ (Dn.noX r) Z) : FnS K w0 G H σ ρ r Z := by
  cases r with
  | no => exact h
  | ex c ρ' => exact h.elim
  | ok f ρ' => cases f <;> exact h
abbrev w0 (w : Wh) : Wh := ⟨w.ca, fun _ _ _ _ => False⟩
theorem vs_try {c : Value} {b₀ : Stmt} {body suite : List Stmt} {fb fs : En → R Fl} {cat : String → Option Bool} (hs : X.stack = X.env :: X.outer) (hf : X.env.frame = some X.env.locals) (hc : Names X x c) (tk : Takes X w.W) (hcalm : X.calm = true) {k : Nat} (hr : Room k X.A)
    (hcat : ∀ e b cls, cat e = some b → w.ca e = some cls → PySem.W.exmOne X.K cls c = some b)
    (hb : ∀ (W : WX) (pn : List (Addr × Obj)) (xe : Value → Shared → Prop), Gd (X.tr pn xe) ⟨w.ca, W⟩ k → VSs (X.tr pn xe) ⟨w.ca, W⟩ body fb)
    (hsu : ∀ (a : Addr) (oe : Obj) (pn : List (Addr × Obj)), VSs (X.suite a ((a, oe) :: pn)) (w0 w) (b₀ :: suite) fs) :
    VS X w (.Try body [.ExceptHandler (some (.Name x np)) none (b₀ :: suite) pos'] [] [] pos) (dTry fb cat fs) :=
  PS.imp (ps_try_only (tb := fun W => tsS X.K ⟨w.ca, W⟩ fb) (ts := fun _ _ _ => tsS X.K (w0 w) fs) hs hf hc tk (fun W pn xe t po => hb W pn xe ⟨hcalm, t, po, hr⟩) (fun a oe cls d pn _ _ => hsu a oe pn)) fun Z σ H ⟨G, ρ, rel, h⟩ => by
    refine ⟨G, ρ, rel, ?_⟩
    unfold dTry at h
    cases q : fb ρ with
    | no => rw [q] at h; exact h
    | ok f ρ1 => rw [q] at h; cases f <;> exact h
    | ex e ρ1 =>
      rw [q] at h
      have h2 : FnS X.K w G H σ ρ (match cat e.cls with | some true => noX (fs ρ1) | some false => .ex e ρ1 | none => .no) Z := h
      intro G' H' σ' cls dx r' s' x'
      cases q2 : cat e.cls with
      | none => rw [q2] at h2; exact h2.elim
      | some b =>
        rw [q2] at h2
        refine ⟨b, hcat e.cls b cls q2 x'.hc, fun hb a ha => ?_, fun hb => ?_⟩
        · subst hb
          exact ⟨G', ρ1, r', FnS.noX (FnS.after rel r' s' h2)⟩
        · subst hb
          exact h2 G' H' σ' cls dx r' s' (x'.to rfl)
@[simp] theorem dRaise_eq (c : String) (ρ : En) : dRaise c ρ = .ex ⟨c, none⟩ ρ := rfl
def tryK (r : R Fl) (cat : String → Option Bool) (s : En → R Fl) : R Fl := match r with
  | .ex e ρ1 => match cat e.cls with
    | some true => noX (s ρ1)
    | some false => .ex e ρ1
    | none => .no
  | r => r
@[simp] theorem dTry_eq (b : En → R Fl) (cat : String → Option Bool) (s : En → R Fl) (ρ : En) : dTry b cat s ρ = tryK (b ρ) cat s := rfl
@[simp] theorem tryK_ok (f : Fl) (ρ : En) (cat : String → Option Bool) (s : En → R Fl) : tryK (.ok f ρ) cat s = .ok f ρ := rfl
theorem tryK_ex {e : Exn} {ρ : En} {cat : String → Option Bool} {s : En → R Fl} (h : cat e.cls = some true) : tryK (.ex e ρ) cat s = noX (s ρ) := by
  show (match cat e.cls with | some true => noX (s ρ) | some false => R.ex e ρ | none => .no) = _
  rw [h]
@[simp] theorem noX_ok {α : Type} (a : α) (ρ : En) : noX (.ok a ρ) = .ok a ρ := rfl
end
end Dn
namespace Dn
open PySem PySem.Spec PyProof.Rows L2
/-! ### list comprehensions -/
def wipeE (ρ : En) : List Nat → En
  | [] => ρ
  | v :: vs => (wipeE ρ vs).set v none
def restE (ρ ρ2 : En) : List Nat → En
  | [] => ρ2
  | v :: vs => (restE ρ ρ2 vs).set v (ρ[v]?.getD none)
def immE (ρ : En) (vs : List Nat) : Bool := vs.all fun i => match ρ[i]? with
  | some (some (.im _)) => true
  | some none => true
  | _ => false
theorem wipeE_length (ρ : En) : ∀ vs, (wipeE ρ vs).length = ρ.length
  | [] => rfl
  | v :: vs => by unfold wipeE; rw [List.length_set, wipeE_length ρ vs]
theorem wipeE_some {ρ : En} {i : Nat} {x : L} : ∀ {vs : List Nat}, (wipeE ρ vs)[i]? = some (some x) → ρ[i]? = some (some x) ∧ i ∉ vs
  | [], h => ⟨h, by simp⟩
  | v :: vs, h => by
    unfold wipeE at h
    by_cases hi : v = i
    · subst hi
      by_cases hv : v < (wipeE ρ vs).length
      · rw [List.getElem?_set_self hv] at h; cases h
      · rw [List.getElem?_eq_none (by simpa using hv)] at h; cases h
    · rw [List.getElem?_set_ne hi] at h
      obtain ⟨h1, h2⟩ := wipeE_some h
      exact ⟨h1, by simp only [List.mem_cons, not_or]; exact ⟨fun e => hi e.symm, h2⟩⟩
theorem wipeE_out {ρ : En} {i : Nat} : ∀ {vs : List Nat}, i ∉ vs → (wipeE ρ vs)[i]? = ρ[i]?
  | [], _ => rfl
  | v :: vs, h => by
    simp only [List.mem_cons, not_or] at h
    unfold wipeE
    rw [List.getElem?_set_ne (fun e => h.1 e.symm)]
    exact wipeE_out h.2
theorem restE_length (ρ ρ2 : En) : ∀ vs, (restE ρ ρ2 vs).length = ρ2.length
  | [] => rfl
  | v :: vs => by unfold restE; rw [List.length_set, restE_length ρ ρ2 vs]
theorem restE_out {ρ ρ2 : En} {i : Nat} : ∀ {vs : List Nat}, i ∉ vs → (restE ρ ρ2 vs)[i]? = ρ2[i]?
  | [], _ => rfl
  | v :: vs, h => by
    simp only [List.mem_cons, not_or] at h
    unfold restE
    rw [List.getElem?_set_ne (fun e => h.1 e.symm)]
    exact restE_out h.2
theorem restE_in {ρ ρ2 : En} {i : Nat} (hl : ρ2.length = ρ.length) : ∀ {vs : List Nat}, i ∈ vs → (restE ρ ρ2 vs)[i]? = ρ[i]?
  | [], h => by simp at h
  | v :: vs, h => by
    unfold restE
    by_cases hi : v = i
    · subst hi
      by_cases hv : v < (restE ρ ρ2 vs).length
      · rw [List.getElem?_set_self hv]
        rw [restE_length, hl] at hv
        rw [List.getElem?_eq_getElem hv]; rfl
      · rw [List.getElem?_eq_none (by simpa using hv)]
        rw [restE_length, hl] at hv
        rw [List.getElem?_eq_none (by omega)]
    · rw [List.getElem?_set_ne hi]
      rcases List.mem_cons.mp h with e | e
      · exact absurd e.symm hi
      · exact restE_in hl e
theorem wipe_outS {σ : L2.St} {i : Nat} : ∀ {vs : List Nat}, i ∉ vs → (L2.wipe σ vs)[i]? = σ[i]?
  | [], _ => rfl
  | v :: vs, h => by
    simp only [List.mem_cons, not_or] at h
    unfold L2.wipe
    rw [List.getElem?_set_ne (fun e => h.1 e.symm)]
    exact wipe_outS h.2
theorem wipe_in {σ : L2.St} {i : Nat} : ∀ {vs : List Nat}, i ∈ vs → i < σ.length → (L2.wipe σ vs)[i]? = some none
  | [], h, _ => by simp at h
  | v :: vs, h, hl => by
    unfold L2.wipe
    by_cases hi : v = i
    · subst hi
      rw [List.getElem?_set_self (by rw [L2.wipe_length]; exact hl)]
    · rw [List.getElem?_set_ne hi]
      rcases List.mem_cons.mp h with e | e
      · exact absurd e.symm hi
      · exact wipe_in e hl
theorem wipe_ext {σ σ' : L2.St} {vs : List Nat} (hl : σ.length = σ'.length) (h : ∀ i, i ∉ vs → σ[i]? = σ'[i]?) : L2.wipe σ vs = L2.wipe σ' vs := by
  apply List.ext_getElem?
  intro i
  by_cases hi : i ∈ vs
  · by_cases hb : i < σ.length
    · rw [wipe_in hi hb, wipe_in hi (by omega)]
    · rw [List.getElem?_eq_none (by rw [L2.wipe_length]; omega), List.getElem?_eq_none (by rw [L2.wipe_length]; omega)]
  · rw [wipe_outS hi, wipe_outS hi, h i hi]
theorem wipe_wipe (σ : L2.St) (vs : List Nat) : L2.wipe (L2.wipe σ vs) vs = L2.wipe σ vs := wipe_ext (L2.wipe_length _ _) fun i hi => wipe_outS hi
theorem wipe_back {σ σ2 : L2.St} {vs : List Nat} {i : Nat} (h : L2.wipe σ2 vs = L2.wipe σ vs) (hi : i ∉ vs) : σ2[i]? = σ[i]? := by
  rw [← wipe_outS (σ := σ2) hi, h, wipe_outS hi]
section
variable {K : PySem.W.Frag} {G H G1 H1 G' H' : Hp} {σ σ2 : L2.St} {ρ ρ1 ρ2 : En} {vs : List Nat}
theorem immE_at (h : immE ρ vs = true) {i : Nat} (hi : i ∈ vs) : ρ[i]? = some none ∨ ∃ d, ρ[i]? = some (some (L.im d)) := by
  unfold immE at h
  have := List.all_eq_true.mp h i hi
  split at this
  · exact .inr ⟨_, by assumption⟩
  · exact .inl (by assumption)
  · cases this
theorem Rel.wipe (r : Rel K G H σ ρ) : Rel K G H (L2.wipe σ vs) (wipeE ρ vs) ∧ ∀ a, Own (L2.wipe σ vs) (wipeE ρ vs) a → Own σ ρ a := by
  refine ⟨⟨r.sub, by rw [L2.wipe_length, wipeE_length]; exact r.len, fun i l e => ?_, fun i j l m a ei ej li mj si sj => ?_⟩, fun a ⟨i, l, e, m, s⟩ => ?_⟩
  · obtain ⟨e', hi⟩ := wipeE_some e
    obtain ⟨v, s, c⟩ := r.cell i l e'
    exact ⟨v, by rw [wipe_outS hi]; exact s, c⟩
  · exact r.apart i j l m a (wipeE_some ei).1 (wipeE_some ej).1 li mj (L2.wipe_some si).1 (L2.wipe_some sj).1
  · exact ⟨i, l, (wipeE_some e).1, m, (L2.wipe_some s).1⟩
/-- at a turn's end -/
theorem Rel.unwipe (r : Rel K G H σ ρ) (im : immE ρ vs = true) (hw : L2.wipe σ2 vs = L2.wipe σ vs) (r2 : Rel K G' H' σ2 ρ2) (s : Stp G H (L2.wipe σ vs) (wipeE ρ vs) G' H' σ2 ρ2) :
    Rel K G' H' σ (restE ρ ρ2 vs) ∧ Stp G H σ ρ G' H' σ (restE ρ ρ2 vs) ∧ immE (restE ρ ρ2 vs) vs = true := by
  have hl : ρ2.length = ρ.length := by rw [s.ln, wipeE_length]
  obtain ⟨rw_, ow_⟩ := r.wipe (vs := vs)
  have own' : ∀ (i : Nat) (l : L), (restE ρ ρ2 vs)[i]? = some (some l) → l.mu = true → i ∉ vs ∧ ρ2[i]? = some (some l) := fun i l e m => by
    by_cases hi : i ∈ vs
    · rw [restE_in hl hi] at e
      rcases immE_at im hi with z | ⟨d, z⟩
      · rw [z] at e; cases e
      · rw [z] at e; cases e; cases m
    · rw [restE_out hi] at e; exact ⟨hi, e⟩
  refine ⟨⟨r2.sub, by rw [restE_length, hl]; exact r.len, fun i l e => ?_, fun i j l m a ei ej li mj si sj => ?_⟩, ⟨s.g, fun a o e n => s.h a o e fun z => n (ow_ a z), fun a e => ?_, fun a ⟨i, l, e, m, q⟩ => ?_, s.tr, by rw [restE_length]; exact hl, fun i ds e => ?_⟩, ?_⟩
  · by_cases hi : i ∈ vs
    · rw [restE_in hl hi] at e
      rcases immE_at im hi with z | ⟨d, z⟩
      · rw [z] at e; cases e
      · rw [z] at e; cases e
        obtain ⟨v, q, c⟩ := r.cell i _ z
        exact ⟨v, q, DR.mono s.g c⟩
    · rw [restE_out hi] at e
      obtain ⟨v, q, c⟩ := r2.cell i l e
      exact ⟨v, by rw [← wipe_back hw hi]; exact q, c⟩
  · obtain ⟨hi, ei'⟩ := own' i l ei li
    obtain ⟨hj, ej'⟩ := own' j m ej mj
    exact r2.apart i j l m a ei' ej' li mj (by rw [wipe_back hw hi]; exact si) (by rw [wipe_back hw hj]; exact sj)
  · rcases s.fr a e with z | z | z
    · exact .inl z
    · exact .inr (.inl z)
    · exact .inr (.inr (ow_ a z))
  · obtain ⟨hi, e'⟩ := own' i l e m
    rcases s.ow a ⟨i, l, e', m, by rw [wipe_back hw hi]; exact q⟩ with z | z
    · exact .inl (ow_ a z)
    · exact .inr z
  · have hi : i ∉ vs := fun hi => by
      rcases immE_at im hi with z | ⟨d, z⟩
      · rw [z] at e; cases e
      · rw [z] at e; cases e
    obtain ⟨_, ds', e2⟩ := s.bo i ds (by rw [wipeE_out hi]; exact e)
    exact ⟨rfl, ds', by rw [restE_out hi]; exact e2⟩
  · unfold immE
    rw [List.all_eq_true]
    intro i hi
    rw [restE_in hl hi]
    exact List.all_eq_true.mp im i hi
/-- a list that is nobody's yet -/
structure NewAt (K : PySem.W.Frag) (G H : Hp) (σ : L2.St) (ρ : En) (p : Addr) (ds : List D) : Prop where
  g : G p = none
  own : ¬ Own σ ρ p
  here : ∃ us, H p = some (.lst us) ∧ DRs K G us ds
theorem NewAt.step {p : Addr} {ds : List D} (n : NewAt K G H σ ρ p ds) (s : Stp G H σ ρ G' H' σ2 ρ2) : NewAt K G' H' σ2 ρ2 p ds := by
  obtain ⟨us, h1, h2⟩ := n.here
  refine ⟨?_, fun z => ?_, us, s.h p _ h1 n.own, h2.mono s.g⟩
  · cases q : G' p with
    | none => rfl
    | some o =>
      rcases s.fr p (by rw [q]; exact fun z => nomatch z) with z | z | z
      · exact absurd n.g z
      · rw [h1] at z; cases z
      · exact absurd z n.own
  · rcases s.ow p z with z | z
    · exact n.own z
    · rw [h1] at z; cases z
theorem Rel.updN (r : Rel K G H σ ρ) {p : Addr} {o : HO} (hg : G p = none) (ho : ¬ Own σ ρ p) : Rel K G (upd H p o) σ ρ := by
  refine ⟨fun b x e => ?_, r.len, fun i l e => ?_, r.apart⟩
  · by_cases hb : b = p
    · subst hb; rw [hg] at e; cases e
    · rw [upd_ne hb]; exact r.sub b x e
  · obtain ⟨v, s, c⟩ := r.cell i l e
    refine ⟨v, s, ?_⟩
    cases l with
    | im d => exact c
    | ow ds =>
      obtain ⟨q, us, e', g, hq, hd⟩ := c
      subst e'
      have hne : q ≠ p := fun z => by subst z; exact ho ⟨i, _, e, rfl, s⟩
      exact ⟨q, us, rfl, g, by rw [upd_ne hne]; exact hq, hd⟩
    | bo ds =>
      obtain ⟨q, us, e', g, hq, hd⟩ := c
      subst e'
      have hne : q ≠ p := fun z => by subst z; exact ho ⟨i, _, e, rfl, s⟩
      exact ⟨q, us, rfl, g, by rw [upd_ne hne]; exact hq, hd⟩
theorem Stp.updN (s : Stp G1 H1 σ ρ1 G H σ ρ) {p : Addr} {o : HO} (hp : H1 p = none) : Stp G1 H1 σ ρ1 G (upd H p o) σ ρ :=
  ⟨s.g, fun a x e n => by rw [upd_ne fun z => by subst z; rw [hp] at e; cases e]; exact s.h a x e n, s.fr, s.ow, fun a h => tracked_upd a (s.tr a h), s.ln, s.bo⟩
end
/-! targets that stay within the block's own names -/
def FnGC (vs : List Nat) (K : PySem.W.Frag) (G H : Hp) (σ : L2.St) (ρ : En) (r : R Unit) (Q : L2.St → Hp → Prop) : Prop :=
  match r with
  | .ok _ ρ' => ∀ G' H' σ', Rel K G' H' σ' ρ' → Stp G H σ ρ G' H' σ' ρ' → L2.wipe σ' vs = L2.wipe σ vs → Q σ' H'
  | _ => False
abbrev VGc (X : Cx) (vs : List Nat) (tg : Expr) (g : D → En → R Unit) : Prop := PG X tg (fun v σ H Q => ∃ G ρ d, Rel X.K G H σ ρ ∧ DR X.K G v d ∧ FnGC vs X.K G H σ ρ (g d ρ) Q)
abbrev VGcs (X : Cx) (vs : List Nat) (tgs : List Expr) (g : List D → En → R Unit) : Prop := PGs X tgs (fun us σ H Q => ∃ G ρ ds, Rel X.K G H σ ρ ∧ DRs X.K G us ds ∧ FnGC vs X.K G H σ ρ (g ds ρ) Q)
section
variable {X : Cx} {w : Wh} {x : Str} {pos : Pos} {e : Expr} {es : List Expr} {g : D → En → R Unit} {h : List D → En → R Unit} {vs : List Nat}
theorem wipe_set {σ : L2.St} {i : Nat} {v : Option V} (hi : i ∈ vs) : L2.wipe (σ.set i v) vs = L2.wipe σ vs := wipe_ext (by simp) fun j hj => List.getElem?_set_ne (fun z => by subst z; exact hj hi)
theorem vgc_name (i : Nat) (hv : i ∈ vs) (hN : X.N.Nodup) (hi : X.N[i]? = some x := by rfl) (hx : Loc X.env.scope x := by first | exact Or.inl rfl | exact Or.inr rfl) (hf : X.fn x = true ∨ X.env.scope.names.lookup x = some .local := by first | exact .inl rfl | exact .inr rfl | assumption) : VGc X vs (.Name x pos) (putIm i) :=
  PG.imp (pg_name hN hi hx hf) fun v σ H Q ⟨G, ρ, d, rel, hvd, q⟩ => by
    unfold putIm at q
    split at q
    · rename_i hf
      obtain ⟨c, hc, hb⟩ := free_ok hf
      obtain ⟨r1, s1⟩ := rel.put hc hb hvd
      exact q _ _ _ r1 s1 (wipe_set hv)
    · exact q.elim
theorem vgcs_nil : VGcs X vs [] gsNil := PGs.imp pgs_nil fun us σ H Q ⟨G, ρ, ds, rel, hv, q⟩ => by
  cases hv with
  | nil => exact ⟨rfl, q _ _ _ rel Stp.refl rfl⟩
  | cons _ _ => exact q.elim
theorem vgcs_cons (h1 : VGc X vs e g) (h2 : VGcs X vs es h) (hs : (assignEach (e :: es) X.env).map (·.2) = assign e X.env :: (assignEach es X.env).map (·.2) := by rfl) : VGcs X vs (e :: es) (gsCons g h) :=
  PGs.imp (pgs_cons h1 h2 hs) fun us σ H Q ⟨G, ρ, ds, rel, hv, q⟩ => by
    cases hv with
    | nil => exact q.elim
    | @cons v us d ds hv1 hvs =>
      have q' : FnGC vs X.K G H σ ρ ((g d ρ).bind fun _ ρ1 => h ds ρ1) Q := q
      refine ⟨v, us, rfl, G, ρ, d, rel, hv1, ?_⟩
      cases e1 : g d ρ with
      | no => rw [e1] at q'; exact q'
      | ex c ρ' => rw [e1] at q'; exact q'
      | ok u ρ' =>
        rw [e1] at q'
        intro G1 H1 σ1 r1 s1 w1
        refine ⟨G1, ρ', ds, r1, hvs.mono s1.g, ?_⟩
        have q2 : FnGC vs X.K G H σ ρ (h ds ρ') Q := q'
        cases e2 : h ds ρ' with
        | no => rw [e2] at q2; exact q2
        | ex c ρ'' => rw [e2] at q2; exact q2
        | ok u' ρ'' => rw [e2] at q2; exact fun G2 H2 σ2 r2 s2 w2 => q2 G2 H2 σ2 r2 (s1.trans rel s2) (w2.trans w1)
theorem vgc_tup {k : Nat} {n : Nat} (hc : X.calm = true) (hs : VGcs X vs es h) (hn : (assignEach es X.env).length = n := by rfl) (hst : (assignEach es X.env).findIdx? (·.1) = none := by rfl) : VGc X vs (.Tuple es k pos) (gTupD n h) :=
  PG.imp (pg_tup hc hs hn hst) fun v σ H Q ⟨G, ρ, d, rel, hv, q⟩ => by
    cases hv with
    | @tup a xs ds hq hds =>
      have q' : FnGC vs X.K G H σ ρ (if ds.length = n then h ds ρ else .no) Q := q
      split at q'
      · rename_i hl
        exact ⟨a, xs, rfl, Same.tup rel.sub hq, by rw [hds.length]; exact hl, G, ρ, ds, rel, hds, q'⟩
      · exact q'.elim
    | _ => exact q.elim
/-- one turn -/
def lcT (g : D → En → R Unit) (ft : En → R Bool) (fe : En → R D) : D → En → R (Option D) := fun d ρ =>
  (g d ρ).bind fun _ ρ1 => (ft ρ1).bind fun b ρ2 => if b = true then (fe ρ2).bind fun y ρ3 => .ok (some y) ρ3 else .ok none ρ2
def lcL (t : D → En → R (Option D)) (vs : List Nat) : List D → List D → En → R (List D)
  | [], acc, ρ => .ok acc ρ
  | d :: ds, acc, ρ => match t d (wipeE ρ vs) with
    | .ok (some y) ρ3 => if acc.length < sizeLine then lcL t vs ds (acc ++ [y]) (restE ρ ρ3 vs) else .no
    | .ok none ρ3 => lcL t vs ds acc (restE ρ ρ3 vs)
    | _ => .no
def nLc (fi : En → R (List D)) (t : D → En → R (Option D)) (vs : List Nat) : En → R (List D) := fun ρ => (fi ρ).bind fun ds ρ1 => if immE ρ1 vs = true then lcL t vs ds [] ρ1 else .no
def tT : En → R Bool := fun ρ => .ok true ρ
theorem PTs.imp {X : Cx} {e : List Expr} {t t' : TT} (h : PTs X e t) (i : ∀ σ H Q, t' σ H Q → t σ H Q) : PTs X e t' := ⟨fun pins s σ H Q I q => h.run pins s σ H Q I (i _ _ _ q)⟩
theorem vts_nil : PTs X [] (teB X.K w tT) := PTs.imp pts_nil fun σ H Q ⟨G, ρ, rel, h⟩ => h G H rel Stp.refl
theorem vts_one {c : Expr} {f : En → R Bool} (h : VT X w c f) : PTs X [c] (teB X.K w f) := pts_one h
/-- the rule's main step -/
theorem lc_go {fi : En → R (List D)} {g : D → En → R Unit} {ft : En → R Bool} {fe : En → R D} {Kf : PySem.W.Frag} {σ : L2.St} {H0 G1 H1 : Hp} {ρ1 : En} {ds : List D} {J : It} {Q : VK} (hJ : ItS Kf G1 J ds) (r1 : Rel Kf G1 H1 σ ρ1) (hH : ∀ p, H1 p = none → H0 p = none)
    (h1 : Fn Kf w G1 H1 σ ρ1 (if immE ρ1 vs = true then lcL (lcT g ft fe) vs ds [] ρ1 else .no) (QN Kf H0 σ Q)) (D0 : Addr) (hD : H1 D0 = none) :
    ∃ W : Nat → Nat → Hp → Prop, (∃ m, W 0 m (upd H1 D0 (.lst []))) ∧ ∀ i m H, W i m H →
      (J.stop i H ∧ Q (.ref D0) H) ∨ (J.go i H ∧ ∃ Nx : Hp → Prop, (∀ H', Nx H' → ∃ m', m' < m ∧ W (i + 1) m' H') ∧ ∀ x H', J.yld i H x H' →
        (fun v σ H Q => ∃ G ρ d, Rel Kf G H σ ρ ∧ DR Kf G v d ∧ FnGC vs Kf G H σ ρ (g d ρ) Q) x (L2.wipe σ vs) H' fun σ2 H2 => L2.wipe σ2 vs = L2.wipe σ vs ∧ teB Kf (w0 w) ft σ2 H2 fun b H3 =>
        if b = true then teD Kf (w0 w) fe σ2 H3 fun y H4 => ∃ acc, H4 D0 = some (.lst acc) ∧ acc.length < sizeLine ∧ Nx (upd H4 D0 (.lst (acc ++ [y]))) else Nx H3) := by
  have im : immE ρ1 vs = true := by
    cases q : immE ρ1 vs with
    | true => rfl
    | false => rw [q, if_neg (by decide)] at h1; exact h1.elim
  rw [if_pos im] at h1
  have gD : G1 D0 = none := Same.free r1.sub hD
  have oD : ¬ Own σ ρ1 D0 := fun z => by obtain ⟨_, us, e⟩ := r1.own z; rw [hD] at e; cases e
  refine ⟨fun i m H => m = ds.length - i ∧ i ≤ ds.length ∧ ∃ G ρ acc, Rel Kf G H σ ρ ∧ Stp G1 H1 σ ρ1 G H σ ρ ∧ immE ρ vs = true ∧ NewAt Kf G H σ ρ D0 acc ∧ Fn Kf w G1 H1 σ ρ1 (lcL (lcT g ft fe) vs (ds.drop i) acc ρ) (QN Kf H0 σ Q),
    ⟨ds.length, rfl, Nat.zero_le _, G1, ρ1, [], r1.updN gD oD, Stp.refl.updN hD, im, ⟨gD, oD, [], upd_same, .nil⟩, by rw [List.drop_zero]; exact h1⟩, ?_⟩
  rintro i m H ⟨rfl, hi, G, ρ, acc, r, s, im, na, h⟩
  have sH : Same G1 H := s.g.trans r.sub
  by_cases hlt : i < ds.length
  · obtain ⟨d, hd⟩ : ∃ d, ds[i]? = some d := ⟨ds[i], List.getElem?_eq_getElem hlt⟩
    have hdrop : ds.drop i = d :: ds.drop (i + 1) := by
      rw [List.drop_eq_getElem_cons hlt]
      rw [List.getElem?_eq_getElem hlt] at hd; cases hd; rfl
    rw [hdrop] at h
    refine .inr ⟨hJ.go i H hlt sH, fun H' => ∃ G ρ acc, Rel Kf G H' σ ρ ∧ Stp G1 H1 σ ρ1 G H' σ ρ ∧ immE ρ vs = true ∧ NewAt Kf G H' σ ρ D0 acc ∧ Fn Kf w G1 H1 σ ρ1 (lcL (lcT g ft fe) vs (ds.drop (i + 1)) acc ρ) (QN Kf H0 σ Q), fun H' q => ⟨_, by omega, rfl, hlt, q⟩, fun x H' hy => ?_⟩
    obtain ⟨G', r', s', hx'⟩ := hJ.yld i H x H' d hd hy G σ ρ s.g r
    have na' := na.step s'
    obtain ⟨rw_, ow_⟩ := r'.wipe (vs := vs)
    have naw : NewAt Kf G' H' (L2.wipe σ vs) (wipeE ρ vs) D0 acc := ⟨na'.g, fun z => na'.own (ow_ _ z), na'.here⟩
    have h' : Fn Kf w G1 H1 σ ρ1 (match lcT g ft fe d (wipeE ρ vs) with
      | .ok (some y) ρ3 => if acc.length < sizeLine then lcL (lcT g ft fe) vs (ds.drop (i + 1)) (acc ++ [y]) (restE ρ ρ3 vs) else .no
      | .ok none ρ3 => lcL (lcT g ft fe) vs (ds.drop (i + 1)) acc (restE ρ ρ3 vs)
      | _ => .no) (QN Kf H0 σ Q) := h
    refine ⟨G', wipeE ρ vs, d, rw_, hx', ?_⟩
    unfold lcT at h'
    cases q1 : g d (wipeE ρ vs) with
    | no => rw [q1] at h'; exact h'.elim
    | ex c ρ' => rw [q1] at h'; exact h'.elim
    | ok u ρa =>
      rw [q1] at h'
      intro G2 H2 σ2 r2 s2 w2
      have w2' : L2.wipe σ2 vs = L2.wipe σ vs := w2.trans (wipe_wipe _ _)
      refine ⟨w2', G2, ρa, r2, ?_⟩
      have h2 : Fn Kf w G1 H1 σ ρ1 (match (ft ρa).bind fun b ρ2 => if b = true then (fe ρ2).bind fun y ρ3 => R.ok (some y) ρ3 else R.ok none ρ2 with
        | .ok (some y) ρ3 => if acc.length < sizeLine then lcL (lcT g ft fe) vs (ds.drop (i + 1)) (acc ++ [y]) (restE ρ ρ3 vs) else .no
        | .ok none ρ3 => lcL (lcT g ft fe) vs (ds.drop (i + 1)) acc (restE ρ ρ3 vs)
        | _ => .no) (QN Kf H0 σ Q) := h'
      cases q2 : ft ρa with
      | no => rw [q2] at h2; exact h2.elim
      | ex c ρ' => rw [q2] at h2; exact h2.elim
      | ok b ρb =>
        rw [q2] at h2
        intro G3 H3 r3 s3
        cases b with
        | false =>
          have S := s2.trans rw_ s3
          obtain ⟨rb, sb, ib⟩ := Rel.unwipe r' im w2' r3 S
          exact iteF ⟨G3, restE ρ ρb vs, acc, rb, (s.trans r1 s').trans r1 sb, ib, na'.step sb, h2⟩
        | true =>
          refine iteT ⟨G3, ρb, r3, ?_⟩
          have h3 : Fn Kf w G1 H1 σ ρ1 (match (fe ρb).bind fun y ρ3 => R.ok (some y) ρ3 with
            | .ok (some y) ρ3 => if acc.length < sizeLine then lcL (lcT g ft fe) vs (ds.drop (i + 1)) (acc ++ [y]) (restE ρ ρ3 vs) else .no
            | .ok none ρ3 => lcL (lcT g ft fe) vs (ds.drop (i + 1)) acc (restE ρ ρ3 vs)
            | _ => .no) (QN Kf H0 σ Q) := h2
          cases q3 : fe ρb with
          | no => rw [q3] at h3; exact h3.elim
          | ex c ρ' => rw [q3] at h3; exact h3.elim
          | ok y ρc =>
            rw [q3] at h3
            intro G4 H4 r4 s4 v hv
            have h4 : Fn Kf w G1 H1 σ ρ1 (if acc.length < sizeLine then lcL (lcT g ft fe) vs (ds.drop (i + 1)) (acc ++ [y]) (restE ρ ρc vs) else .no) (QN Kf H0 σ Q) := h3
            by_cases hz : acc.length < sizeLine
            · rw [if_pos hz] at h4
              have S := s2.trans rw_ (s3.trans r2 s4)
              obtain ⟨rb, sb, ib⟩ := Rel.unwipe r' im w2' r4 S
              have nb := na'.step sb
              obtain ⟨us, hu, hds⟩ := nb.here
              have sN : Stp G1 H1 σ ρ1 G4 H4 σ (restE ρ ρc vs) := (s.trans r1 s').trans r1 sb
              exact ⟨us, hu, by rw [hds.length]; exact hz, G4, restE ρ ρc vs, acc ++ [y], rb.updN nb.g nb.own, sN.updN hD, ib, ⟨nb.g, nb.own, us ++ [v], upd_same, hds.append (.cons hv .nil)⟩, h4⟩
            · rw [if_neg hz] at h4; exact h4.elim
  · have e : i = ds.length := by omega
    subst e
    refine .inl ⟨hJ.stop H sH, ?_⟩
    rw [List.drop_length] at h
    exact h G H r s D0 ⟨na.g, na.own, na.here, hH D0 hD⟩
theorem lc_imp {fi : En → R (List D)} {g : D → En → R Unit} {ft : En → R Bool} {fe : En → R D} {K : PySem.W.Frag} {σ : L2.St} {H : Hp} {Q : VK} (h : teN K w (nLc fi (lcT g ft fe) vs) σ H Q) :
    tLc (fun σ H R => ∃ G ρ, Rel K G H σ ρ ∧ Fn K w G H σ ρ (fi ρ) (fun G1 H1 _ ds => ∀ J, ItS K G1 J ds → R J H1)) (fun v σ H Q => ∃ G ρ d, Rel K G H σ ρ ∧ DR K G v d ∧ FnGC vs K G H σ ρ (g d ρ) Q) (teB K (w0 w) ft) (teD K (w0 w) fe) vs σ H Q := by
  obtain ⟨G, ρ, rel, h⟩ := h
  exact ⟨G, ρ, rel, (Fn.bind rel h).imp fun G1 H1 ρ1 ds ⟨r1, s1, h1⟩ J hJ D0 hD =>
    lc_go (fi := fi) hJ r1 (fun p hp => by cases q : H p with | none => rfl | some o => exact absurd hp (s1.tr p (by rw [q]; exact fun z => nomatch z))) h1 D0 hD⟩
theorem vn_lc {tg iter elt : Expr} {ifs : List Expr} {scope : Scope} {own : List (Str × Nat)} {fi : En → R (List D)} {g : D → En → R Unit} {ft : En → R Bool} {fe : En → R D} (hc : X.calm = true) (hN : X.N.Nodup) (hi : VI X w tg iter fi) (ok : blkC X.N X.env.scope scope own = true)
    (hg : ∀ (s : Shared) (H : Hp) (C : Addr) (cl : List (Str × Addr)) (fp : List Addr), VGc (X.blk s H scope (compEnvC scope cl C X.env) fp) (own.map (·.2)) tg g) (ht : ∀ (s : Shared) (H : Hp) (C : Addr) (cl : List (Str × Addr)) (fp : List Addr), PTs (X.blk s H scope (compEnvC scope cl C X.env) fp) ifs (teB X.K (w0 w) ft))
    (he : ∀ (s : Shared) (H : Hp) (C : Addr) (cl : List (Str × Addr)) (fp : List Addr), VE (X.blk s H scope (compEnvC scope cl C X.env) fp) (w0 w) elt fe) (hs : ∀ x, foldedSetIterable iter X.env x = pure x := by intro _; rfl) :
    VN X w (.ListComp elt [⟨tg, iter, ifs, 0⟩] scope pos) (nLc fi (lcT g ft fe) (own.map (·.2))) :=
  PE.imp (pe_lc hc hN hi (blkOk_by ok) hg ht he hs) fun σ H Q h => lc_imp h
theorem setL_fn {K : PySem.W.Frag} {G H : Hp} {σ : L2.St} {ρ : En} {fl : En → R (List D)} {i : Nat} {Z : Ends} (rel : Rel K G H σ ρ) (h : FnS K w G H σ ρ (dAsgL i fl ρ) Z) : Fn K w G H σ ρ (fl ρ) (QN K H σ fun x H1 => gName i x σ H1 Z.nx) := by
  unfold dAsgL at h
  cases q : fl ρ with
  | no => rw [q] at h; exact h
  | ex c ρ' => rw [q] at h; exact fun G' H' cls dx r1 s1 x => h G' H' σ cls dx r1 s1 x
  | ok ds ρ' =>
    rw [q] at h
    intro G1 H1 r1 s1 p n
    have h' : FnS K w G H σ ρ ((putOw i ds ρ').bind fun _ ρ2 => .ok .nx ρ2) Z := h
    unfold putOw at h'
    split at h'
    · rename_i hf
      obtain ⟨c, hc, hb⟩ := free_ok hf
      exact FnS.nx (show FnS K w G H σ ρ (.ok .nx (ρ'.set i (some (.ow ds)))) Z from h') (r1.putL hc hb n.g n.own n.here) (s1.putL hc hb n.new)
    · exact h'.elim
def dFz (f : En → R (List D)) : En → R D := fun ρ => (f ρ).bind fun ds ρ1 => .ok (.list ds) ρ1
theorem Rel.fixN {K : PySem.W.Frag} {G0 H0 G H : Hp} {σ : L2.St} {ρ0 ρ : En} {p : Addr} {us : List V} {ds : List D} (r : Rel K G H σ ρ) (s : Stp G0 H0 σ ρ0 G H σ ρ) (hg : G p = none) (ho : ¬ Own σ ρ p) (hu : H p = some (.lst us)) (hd : DRs K G us ds) (hp : H0 p = none) :
    Rel K (upd G p (.lst us)) H σ ρ ∧ Stp G0 H0 σ ρ0 (upd G p (.lst us)) H σ ρ ∧ DR K (upd G p (.lst us)) (.ref p) (.list ds) := by
  have sg : Same G (upd G p (.lst us)) := fun b x e => by rw [upd_ne (ne_of_none e hg)]; exact e
  refine ⟨⟨fun b x e => ?_, r.len, fun i l e => ?_, r.apart⟩, ⟨s.g.trans sg, s.h, fun a e => ?_, s.ow, s.tr, s.ln, s.bo⟩, .lst (.inl (.inl upd_same)) (hd.mono sg)⟩
  · by_cases hb : b = p
    · subst hb; rw [upd_same] at e; cases e; exact hu
    · rw [upd_ne hb] at e; exact r.sub b x e
  · obtain ⟨v, q, c⟩ := r.cell i l e
    refine ⟨v, q, ?_⟩
    cases l with
    | im d => exact DR.mono sg c
    | ow es =>
      obtain ⟨o, ws, e', g, hq, hd'⟩ := c
      subst e'
      have hne : o ≠ p := fun z => by subst z; exact ho ⟨i, _, e, rfl, q⟩
      exact ⟨o, ws, rfl, by rw [upd_ne hne]; exact g, hq, DRs.mono sg hd'⟩
    | bo es =>
      obtain ⟨o, ws, e', g, hq, hd'⟩ := c
      subst e'
      have hne : o ≠ p := fun z => by subst z; exact ho ⟨i, _, e, rfl, q⟩
      exact ⟨o, ws, rfl, by rw [upd_ne hne]; exact g, hq, DRs.mono sg hd'⟩
  · by_cases hb : a = p
    · subst hb; exact .inr (.inl hp)
    · rw [upd_ne hb] at e; exact s.fr a e
theorem ve_fz {f : En → R (List D)} (h : VN X w e f) : VE X w e (dFz f) := PE.imp h fun σ H Q ⟨G, ρ, rel, h⟩ => ⟨G, ρ, rel, by
  unfold dFz at h
  cases q : f ρ with
  | no => rw [q] at h; exact h
  | ex c ρ' => rw [q] at h; exact h
  | ok ds ρ' =>
    rw [q] at h
    have h' : Fn X.K w G H σ ρ (.ok (.list ds) ρ') (QD X.K Q) := h
    intro G1 H1 r1 s1 p n
    obtain ⟨us, hu, hd⟩ := n.here
    obtain ⟨r2, s2, hv⟩ := r1.fixN s1 n.g n.own hu hd n.new
    exact h' _ _ r2 s2 _ hv⟩
/-- a new list, a datum at once -/
theorem setI_fn {K : PySem.W.Frag} {G H : Hp} {σ : L2.St} {ρ : En} {fl : En → R (List D)} {i : Nat} {Z : Ends} (rel : Rel K G H σ ρ) (h : FnS K w G H σ ρ (dAsg (putIm i) (dFz fl) ρ) Z) : Fn K w G H σ ρ (fl ρ) (QN K H σ fun x H1 => gName i x σ H1 Z.nx) := by
  unfold dAsg dFz at h
  cases q : fl ρ with
  | no => rw [q] at h; exact h
  | ex c ρ' => rw [q] at h; exact fun G' H' cls dx r1 s1 x => h G' H' σ cls dx r1 s1 x
  | ok ds ρ' =>
    rw [q] at h
    intro G1 H1 r1 s1 p n
    have h' : FnS K w G H σ ρ ((putIm i (.list ds) ρ').bind fun _ ρ2 => .ok .nx ρ2) Z := h
    unfold putIm at h'
    split at h'
    · rename_i hf
      obtain ⟨c, hc, hb⟩ := free_ok hf
      have hi : i < ρ'.length := (List.getElem?_eq_some_iff.mp hc).1
      have r2 := r1.putL hc hb n.g n.own n.here
      have s2 := s1.putL (ds := ds) hc hb n.new
      obtain ⟨G3, o, sv, r3, s3, _⟩ := r2.freeze (i := i) (ds := ds) (List.getElem?_set_self hi)
      have e : frz i ds (ρ'.set i (some (.ow ds))) = ρ'.set i (some (.im (.list ds))) := by unfold frz; rw [List.set_set]
      rw [e] at r3 s3
      exact FnS.nx (show FnS K w G H σ ρ (.ok .nx (ρ'.set i (some (.im (.list ds))))) Z from h') r3 (s2.trans rel s3)
    · exact h'.elim
section
variable {tg iter elt : Expr} {ifs : List Expr} {scope : Scope} {own : List (Str × Nat)} {fi : En → R (List D)} {gt : D → En → R Unit} {ft : En → R Bool} {fe : En → R D} {py spos : Pos}
/-- name = [..] on one line -/
theorem vs_setLc (i : Nat) (hc : X.calm = true) (hN : X.N.Nodup) (hsw : swapsWith (.ListComp elt [⟨tg, iter, ifs, 0⟩] scope pos) (some (.Name x py)) spos.line X.env = pure true) (hi : VI X w tg iter fi) (ok : blkC X.N X.env.scope scope own = true)
    (hg : ∀ (s : Shared) (H : Hp) (C : Addr) (cl : List (Str × Addr)) (fp : List Addr), VGc (X.blk s H scope (compEnvC scope cl C X.env) fp) (own.map (·.2)) tg gt) (ht : ∀ (s : Shared) (H : Hp) (C : Addr) (cl : List (Str × Addr)) (fp : List Addr), PTs (X.blk s H scope (compEnvC scope cl C X.env) fp) ifs (teB X.K (w0 w) ft))
    (he : ∀ (s : Shared) (H : Hp) (C : Addr) (cl : List (Str × Addr)) (fp : List Addr), VE (X.blk s H scope (compEnvC scope cl C X.env) fp) (w0 w) elt fe) (hy : X.N[i]? = some x := by rfl) (hyl : X.env.scope.names.lookup x = some .local := by rfl) (hs : ∀ x, foldedSetIterable iter X.env x = pure x := by intro _; rfl) :
    VS X w (.Assign [.Name x py] (.ListComp elt [⟨tg, iter, ifs, 0⟩] scope pos) spos) (dAsgL i (nLc fi (lcT gt ft fe) (own.map (·.2)))) :=
  PS.imp (ps_setLc hc hN hy hyl hsw hi (blkOk_by ok) hg ht he hs) fun Z σ H ⟨G, ρ, rel, h⟩ => lc_imp ⟨G, ρ, rel, setL_fn rel h⟩
theorem vs_setLi (i : Nat) (hc : X.calm = true) (hN : X.N.Nodup) (hsw : swapsWith (.ListComp elt [⟨tg, iter, ifs, 0⟩] scope pos) (some (.Name x py)) spos.line X.env = pure true) (hi : VI X w tg iter fi) (ok : blkC X.N X.env.scope scope own = true)
    (hg : ∀ (s : Shared) (H : Hp) (C : Addr) (cl : List (Str × Addr)) (fp : List Addr), VGc (X.blk s H scope (compEnvC scope cl C X.env) fp) (own.map (·.2)) tg gt) (ht : ∀ (s : Shared) (H : Hp) (C : Addr) (cl : List (Str × Addr)) (fp : List Addr), PTs (X.blk s H scope (compEnvC scope cl C X.env) fp) ifs (teB X.K (w0 w) ft))
    (he : ∀ (s : Shared) (H : Hp) (C : Addr) (cl : List (Str × Addr)) (fp : List Addr), VE (X.blk s H scope (compEnvC scope cl C X.env) fp) (w0 w) elt fe) (hy : X.N[i]? = some x := by rfl) (hyl : X.env.scope.names.lookup x = some .local := by rfl) (hs : ∀ x, foldedSetIterable iter X.env x = pure x := by intro _; rfl) :
    VS X w (.Assign [.Name x py] (.ListComp elt [⟨tg, iter, ifs, 0⟩] scope pos) spos) (dAsg (putIm i) (dFz (nLc fi (lcT gt ft fe) (own.map (·.2))))) :=
  PS.imp (ps_setLc hc hN hy hyl hsw hi (blkOk_by ok) hg ht he hs) fun Z σ H ⟨G, ρ, rel, h⟩ => lc_imp ⟨G, ρ, rel, setI_fn rel h⟩
end
/-! reckoning -/
theorem lcL_fm {t : D → En → R (Option D)} {vs : List Nat} {f : D → Option D} {ρ : En} : ∀ {ds acc : List D}, (∀ d ∈ ds, ∃ ρ3, t d (wipeE ρ vs) = .ok (f d) ρ3 ∧ restE ρ ρ3 vs = ρ) → acc.length + ds.length ≤ sizeLine → lcL t vs ds acc ρ = .ok (acc ++ ds.filterMap f) ρ
  | [], acc, _, _ => by rw [lcL, List.filterMap_nil, List.append_nil]
  | d :: ds, acc, h, hl => by
    obtain ⟨ρ3, e1, e2⟩ := h d List.mem_cons_self
    rw [lcL, e1]
    have hl' : acc.length + (ds.length + 1) ≤ sizeLine := hl
    cases q : f d with
    | none =>
      show lcL t vs ds acc (restE ρ ρ3 vs) = _
      rw [e2, lcL_fm (fun d hd => h d (List.mem_cons_of_mem _ hd)) (by omega), List.filterMap_cons, q]
    | some y =>
      show (if acc.length < sizeLine then lcL t vs ds (acc ++ [y]) (restE ρ ρ3 vs) else .no) = _
      rw [if_pos (by omega), e2, lcL_fm (fun d hd => h d (List.mem_cons_of_mem _ hd)) (by rw [List.length_append]; simp; omega), List.filterMap_cons, q]
      simp
theorem lcL_map {t : D → En → R (Option D)} {vs : List Nat} {f : D → D} {ρ : En} {ds : List D} (h : ∀ d ∈ ds, ∃ ρ3, t d (wipeE ρ vs) = .ok (some (f d)) ρ3 ∧ restE ρ ρ3 vs = ρ) (hl : ds.length ≤ sizeLine) : lcL t vs ds [] ρ = .ok (ds.map f) ρ := by
  rw [lcL_fm (f := fun d => some (f d)) h (by simpa using hl), List.nil_append, List.filterMap_eq_map']
@[simp] theorem nLc_eq (fi : En → R (List D)) (t : D → En → R (Option D)) (vs : List Nat) (ρ : En) : nLc fi t vs ρ = (fi ρ).bind fun ds ρ1 => if immE ρ1 vs = true then lcL t vs ds [] ρ1 else .no := rfl
@[simp] theorem dFz_eq (f : En → R (List D)) (ρ : En) : dFz f ρ = (f ρ).bind fun ds ρ1 => .ok (.list ds) ρ1 := rfl
@[simp] theorem lcT_eq (g : D → En → R Unit) (ft : En → R Bool) (fe : En → R D) (d : D) (ρ : En) : lcT g ft fe d ρ = (g d ρ).bind fun _ ρ1 => (ft ρ1).bind fun b ρ2 => if b = true then (fe ρ2).bind fun y ρ3 => .ok (some y) ρ3 else .ok none ρ2 := rfl
@[simp] theorem tT_eq (ρ : En) : tT ρ = .ok true ρ := rfl
end
end Dn
namespace Dn
open PySem PySem.Spec PyProof.Rows L2
/-! ### calls over lists -/
def asInt : D → Option Int
  | .int i => some i
  | _ => none
def asBool : D → Option Bool
  | .bool i => some i
  | _ => none
def asStr : D → Option Str
  | .str i => some i
  | _ => none
def allOf {α : Type} (f : D → Option α) : List D → Option (List α)
  | [] => some []
  | d :: r => (f d).bind fun a => (allOf f r).map (a :: ·)
theorem allOf_eq {α : Type} {f : D → Option α} {g : α → D} (hg : ∀ d a, f d = some a → d = g a) : ∀ {ds : List D} {ns : List α}, allOf f ds = some ns → ds = ns.map g
  | [], ns, h => by cases h; rfl
  | d :: ds, ns, h => by
    simp only [allOf, Option.bind_eq_some_iff, Option.map_eq_some_iff] at h
    obtain ⟨a, h1, r, h2, rfl⟩ := h
    rw [hg d a h1, allOf_eq hg h2]; rfl
theorem allOf_map {α : Type} {f : D → Option α} {g : α → D} (hg : ∀ a, f (g a) = some a) : ∀ l : List α, allOf f (l.map g) = some l
  | [] => rfl
  | a :: l => by rw [List.map_cons, allOf, hg, allOf_map hg l]; rfl
theorem mapM_ints {ds : List D} {ns : List Int} (h : allOf asInt ds = some ns) : ds = ns.map .int := allOf_eq (fun d a e => by cases d <;> cases e; rfl) h
theorem mapM_bools {ds : List D} {ns : List Bool} (h : allOf asBool ds = some ns) : ds = ns.map .bool := allOf_eq (fun d a e => by cases d <;> cases e; rfl) h
theorem mapM_strs {ds : List D} {ns : List Str} (h : allOf asStr ds = some ns) : ds = ns.map .str := allOf_eq (fun d a e => by cases d <;> cases e; rfl) h
@[simp] theorem ints_map (l : List Int) : allOf asInt (l.map PyData.int) = some l := allOf_map (g := PyData.int) (fun _ => rfl) l
@[simp] theorem ints_map' {α : Type} (f : α → Int) (l : List α) : allOf asInt (l.map fun x => PyData.int (f x)) = some (l.map f) := by
  have : (l.map fun x => PyData.int (f x)) = (l.map f).map PyData.int := by rw [List.map_map]; rfl
  rw [this, ints_map]
@[simp] theorem bools_map (l : List Bool) : allOf asBool (l.map PyData.bool) = some l := allOf_map (g := PyData.bool) (fun _ => rfl) l
@[simp] theorem bools_map' {α : Type} (f : α → Bool) (l : List α) : allOf asBool (l.map fun x => PyData.bool (f x)) = some (l.map f) := by
  have : (l.map fun x => PyData.bool (f x)) = (l.map f).map PyData.bool := by rw [List.map_map]; rfl
  rw [this, bools_map]
@[simp] theorem strs_map (l : List Str) : allOf asStr (l.map PyData.str) = some l := allOf_map (g := PyData.str) (fun _ => rfl) l
@[simp] theorem strs_map' {α : Type} (f : α → Str) (l : List α) : allOf asStr (l.map fun x => PyData.str (f x)) = some (l.map f) := by
  have : (l.map fun x => PyData.str (f x)) = (l.map f).map PyData.str := by rw [List.map_map]; rfl
  rw [this, strs_map]
@[simp] theorem ints_comp {α : Type} (f : α → Int) (l : List α) : allOf asInt (l.map (PyData.int ∘ f)) = some (l.map f) := ints_map' f l
@[simp] theorem bools_comp {α : Type} (f : α → Bool) (l : List α) : allOf asBool (l.map (PyData.bool ∘ f)) = some (l.map f) := bools_map' f l
@[simp] theorem strs_comp {α : Type} (f : α → Str) (l : List α) : allOf asStr (l.map (PyData.str ∘ f)) = some (l.map f) := strs_map' f l
def gSum : List D → Option D
  | [.list ds] => (allOf asInt ds).map fun ns => .int ns.sum
  | _ => none
def gMaxL : List D → Option D
  | [.list ds] => (allOf asInt ds).bind fun ns => ns.max?.map .int
  | _ => none
def gMinL : List D → Option D
  | [.list ds] => (allOf asInt ds).bind fun ns => ns.min?.map .int
  | _ => none
def gAll : List D → Option D
  | [.list ds] => (allOf asBool ds).map fun bs => .bool (bs.all id)
  | _ => none
def gAny : List D → Option D
  | [.list ds] => (allOf asBool ds).map fun bs => .bool (bs.any id)
  | _ => none
def gList : List D → Option D
  | [.list ds] => some (.list ds)
  | [.tuple ds] => some (.list ds)
  | _ => none
def gTuple : List D → Option D
  | [.list ds] => some (.tuple ds)
  | [.tuple ds] => some (.tuple ds)
  | _ => none
section
variable {K : PySem.W.Frag}
theorem DR.lst' {G : Hp} {v : V} {ds : List D} (h : DR K G v (.list ds)) : ∃ a vs, v = .ref a ∧ SqL K G a vs ∧ DRs K G vs ds := by
  cases h with
  | lst h hs => exact ⟨_, _, rfl, h, hs⟩
theorem DR.tup' {G : Hp} {v : V} {ds : List D} (h : DR K G v (.tuple ds)) : ∃ a vs, v = .ref a ∧ SqT K G a vs ∧ DRs K G vs ds := by
  cases h with
  | tup h hs => exact ⟨_, _, rfl, h, hs⟩
theorem one_of {α : Type} {g : List D → Option α} {ds : List D} {d : α} (h : ∀ a b t, g (a :: b :: t) = none) (h0 : g [] = none) (e : g ds = some d) : ∃ x, ds = [x] := by
  rcases ds with _ | ⟨x, _ | ⟨y, t⟩⟩
  · rw [h0] at e; cases e
  · exact ⟨x, rfl⟩
  · rw [h] at e; cases e
theorem cs_sum : CallS K (rSum K) gSum := cs1 (fun ds d e => one_of (fun a b t => by cases a <;> rfl) rfl e) fun v x d G H σ ρ Q rel h e q => by
  cases x with
  | list ds =>
    simp only [gSum, Option.map_eq_some_iff] at e
    obtain ⟨ns, e, rfl⟩ := e
    obtain ⟨a, vs, rfl, h, hs⟩ := h.lst'
    rw [mapM_ints e] at hs
    rw [hs.ints] at h
    exact ⟨a, ns, rfl, rel.sub.seq h, q _ (.int _)⟩
  | _ => cases e
theorem cs_maxL : CallS K (rMax K) gMaxL := cs1 (fun ds d e => one_of (fun a b t => by cases a <;> rfl) rfl e) fun v x d G H σ ρ Q rel h e q => by
  cases x with
  | list ds =>
    simp only [gMaxL, Option.bind_eq_some_iff, Option.map_eq_some_iff] at e
    obtain ⟨ns, e, m, hm, rfl⟩ := e
    obtain ⟨a, vs, rfl, h, hs⟩ := h.lst'
    rw [mapM_ints e] at hs
    rw [hs.ints] at h
    have hne : ns ≠ [] := by intro z; subst z; cases hm
    refine ⟨a, ns, rfl, rel.sub.seq h, List.length_pos_iff.mpr hne, fun k hk hle => ?_⟩
    have : k = m := by
      rw [List.max?_eq_some_iff] at hm
      have h1 := hle m hm.1
      have h2 := hm.2 k hk
      omega
    subst this
    exact q _ (.int _)
  | _ => cases e
theorem cs_minL : CallS K (rMin K) gMinL := cs1 (fun ds d e => one_of (fun a b t => by cases a <;> rfl) rfl e) fun v x d G H σ ρ Q rel h e q => by
  cases x with
  | list ds =>
    simp only [gMinL, Option.bind_eq_some_iff, Option.map_eq_some_iff] at e
    obtain ⟨ns, e, m, hm, rfl⟩ := e
    obtain ⟨a, vs, rfl, h, hs⟩ := h.lst'
    rw [mapM_ints e] at hs
    rw [hs.ints] at h
    have hne : ns ≠ [] := by intro z; subst z; cases hm
    refine ⟨a, ns, rfl, rel.sub.seq h, List.length_pos_iff.mpr hne, fun k hk hle => ?_⟩
    have : k = m := by
      rw [List.min?_eq_some_iff] at hm
      have h1 := hle m hm.1
      have h2 := hm.2 k hk
      omega
    subst this
    exact q _ (.int _)
  | _ => cases e
theorem cs_all : CallS K (rAll K) gAll := cs1 (fun ds d e => one_of (fun a b t => by cases a <;> rfl) rfl e) fun v x d G H σ ρ Q rel h e q => by
  cases x with
  | list ds =>
    simp only [gAll, Option.map_eq_some_iff] at e
    obtain ⟨ns, e, rfl⟩ := e
    obtain ⟨a, vs, rfl, h, hs⟩ := h.lst'
    rw [mapM_bools e] at hs
    rw [hs.bools] at h
    exact ⟨a, ns, rfl, rel.sub.seq h, q _ (.bl _)⟩
  | _ => cases e
theorem cs_any : CallS K (rAny K) gAny := cs1 (fun ds d e => one_of (fun a b t => by cases a <;> rfl) rfl e) fun v x d G H σ ρ Q rel h e q => by
  cases x with
  | list ds =>
    simp only [gAny, Option.map_eq_some_iff] at e
    obtain ⟨ns, e, rfl⟩ := e
    obtain ⟨a, vs, rfl, h, hs⟩ := h.lst'
    rw [mapM_bools e] at hs
    rw [hs.bools] at h
    exact ⟨a, ns, rfl, rel.sub.seq h, q _ (.bl _)⟩
  | _ => cases e
abbrev rListOf (K : PySem.W.Frag) : List V → Hp → VK → Prop := fun xs H Q => ∃ p ys, xs = [.ref p] ∧ (SqL K H p ys ∨ SqT K H p ys) ∧ ∀ l, H l = none → Q (.ref l) (upd H l (.lst ys))
theorem cs_list : CallS K (rListOf K) gList := fun vs ds d G H σ ρ Q rel h e q => by
  obtain ⟨x, rfl⟩ := one_of (fun a b t => by cases a <;> rfl) rfl e
  cases h with
  | cons h t =>
    cases t
    cases x with
    | list ds =>
      cases e
      obtain ⟨a, vs, rfl, h, hs⟩ := h.lst'
      exact ⟨a, vs, rfl, .inl (rel.sub.seq h), hand_new rel q (DR.newL rel hs)⟩
    | tuple ds =>
      cases e
      obtain ⟨a, vs, rfl, h, hs⟩ := h.tup'
      exact ⟨a, vs, rfl, .inr (Same.tup rel.sub h), hand_new rel q (DR.newL rel hs)⟩
    | _ => cases e
abbrev rTupleOf (K : PySem.W.Frag) : List V → Hp → VK → Prop := fun xs H Q => ∃ p ys, xs = [.ref p] ∧ ((SqL K H p ys ∧ ∀ l, H l = none → Q (.ref l) (upd H l (.tup ys))) ∨ (SqT K H p ys ∧ Q (.ref p) H))
theorem cs_tuple : CallS K (rTupleOf K) gTuple := fun vs ds d G H σ ρ Q rel h e q => by
  obtain ⟨x, rfl⟩ := one_of (fun a b t => by cases a <;> rfl) rfl e
  cases h with
  | cons h t =>
    cases t
    cases x with
    | list ds =>
      cases e
      obtain ⟨a, vs, rfl, h, hs⟩ := h.lst'
      exact ⟨a, vs, rfl, .inl ⟨rel.sub.seq h, hand_new rel q (DR.newT rel hs)⟩⟩
    | tuple ds =>
      cases e
      obtain ⟨a, vs, rfl, h, hs⟩ := h.tup'
      exact ⟨a, vs, rfl, .inr ⟨Same.tup rel.sub h, q _ _ rel Stp.refl _ (.tup h hs)⟩⟩
    | _ => cases e
end
/-! list(..) as a new list of one's own -/
def asL : D → Option (List D)
  | .list ds => some ds
  | .tuple ds => some ds
  | _ => none
def nList (f : En → R D) : En → R (List D) := fun ρ => (f ρ).bind fun d ρ1 => lift (asL d) ρ1
section
variable {X : Cx} {w : Wh} {p pos : Pos} {e o : Expr} {fe fo : En → R D}
theorem vn_list (hg : Gl X "list") (hm : X.mg "list" = none) (ha : VE X w e fe) (he : starEach [e] X.env = (false, eval e X.env) :: starEach [] X.env := by rfl) (hpl : (backTo pos (starEach [] X.env)).any (·.1) = false := by rfl) : VN X w (.Call (.Name "list" p) [e] [] pos) (nList fe) :=
  PE.imp (pe_callTy call_list_of hg hm boot_ty_list (pa_cons ha pa_nil he) (by decide) (by decide) he hpl) fun σ H Q ⟨G, ρ, rel, h⟩ => ⟨G, ρ, rel, (Fn.bind rel h).imp fun G1 H1 ρ1 d ⟨r1, s1, h1⟩ v hv => by
    obtain ⟨ds, e, q⟩ := Fn.lift h1
    have fin : ∀ us, DRs X.K G1 us ds → ∀ l, H1 l = none → Q (.ref l) (upd H1 l (.lst us)) := fun us hd l hl => by
      obtain ⟨r2, s2⟩ := r1.laidM (o := .lst us) hl
      exact q _ _ r2 s2 l (NewL.of rel r1 s1 hl hd)
    cases d with
    | list ds' =>
      cases e
      obtain ⟨a, vs, rfl, h, hs⟩ := hv.lst'
      exact ⟨a, vs, rfl, .inl (r1.sub.seq h), fin _ hs⟩
    | tuple ds' =>
      cases e
      obtain ⟨a, vs, rfl, h, hs⟩ := hv.tup'
      exact ⟨a, vs, rfl, .inr (Same.tup r1.sub h), fin _ hs⟩
    | _ => cases e⟩
/-! ### a text's methods -/
def MS0 (K : PySem.W.Frag) (r : V → List V → Hp → VK → Prop) (g : Str → Option D) : Prop :=
  ∀ (a : Str) (d : D) (G H : Hp) (σ : L2.St) (ρ : En) (Q : VK), Rel K G H σ ρ → g a = some d → (∀ G' H', Rel K G' H' σ ρ → Stp G H σ ρ G' H' σ ρ → ∀ v, DR K G' v d → Q v H') → r (.str a) [] H Q
def MS1 (K : PySem.W.Frag) (r : V → List V → Hp → VK → Prop) (g : Str → D → Option D) : Prop :=
  ∀ (a : Str) (v : V) (y d : D) (G H : Hp) (σ : L2.St) (ρ : En) (Q : VK), Rel K G H σ ρ → DR K G v y → g a y = some d → (∀ G' H', Rel K G' H' σ ρ → Stp G H σ ρ G' H' σ ρ → ∀ v, DR K G' v d → Q v H') → r (.str a) [v] H Q
def dM0 (g : Str → Option D) (fo : En → R D) : En → R D := fun ρ => (fo ρ).bind fun x ρ1 => (lift (asStr x) ρ1).bind fun a ρ2 => lift (g a) ρ2
def dM1 (g : Str → D → Option D) (fo fe : En → R D) : En → R D := fun ρ => (fo ρ).bind fun x ρ1 => (lift (asStr x) ρ1).bind fun a ρ2 => (fe ρ2).bind fun y ρ3 => lift (g a y) ρ3
theorem DR.str' {K : PySem.W.Frag} {G : Hp} {v : V} {d : D} {a : Str} (h : DR K G v d) (e : asStr d = some a) : v = .str a := by
  cases h with
  | str x => cases e; rfl
  | _ => cases e
theorem ve_m0 {id : String} {name : Str} {apos : Pos} {r : V → List V → Hp → VK → Prop} {g : Str → Option D} (slot : Slot "str" name id) (ty : typeOf (.builtin id) = pure (.type "method_descriptor")) (rule : MtR X id r) (sp : MS0 X.K r g) (ho : VE X w o fo)
    (hbase : attributeBase o name X.env (eval o X.env) = eval o X.env := by rfl) (hline : (apos.endLine == pos.line) = true := by rfl) : VE X w (.Call (.Attribute o name apos) [] [] pos) (dM0 g fo) :=
  PE.imp (pe_m0 slot ty rule ho hbase hline) fun σ H Q ⟨G, ρ, rel, h⟩ => ⟨G, ρ, rel, (Fn.bind rel h).imp fun G1 H1 ρ1 x ⟨r1, s1, h1⟩ v hv => by
    obtain ⟨a, e1, h3⟩ : ∃ a, asStr x = some a ∧ Fn X.K w G1 H1 σ ρ1 (lift (g a) ρ1) (QD X.K Q) := by
      cases q : asStr x with
      | none => rw [q] at h1; exact h1.elim
      | some a => rw [q] at h1; exact ⟨a, rfl, h1⟩

    have := hv.str' e1
    subst this
    obtain ⟨d, e, q⟩ := Fn.lift h3
    exact ⟨⟨_, rfl⟩, sp _ d G1 H1 σ ρ1 Q r1 e q⟩⟩
theorem ve_m1 {id : String} {name : Str} {apos : Pos} {r : V → List V → Hp → VK → Prop} {g : Str → D → Option D} (slot : Slot "str" name id) (ty : typeOf (.builtin id) = pure (.type "method_descriptor")) (rule : MtR X id r) (sp : MS1 X.K r g) (ho : VE X w o fo) (he : VE X w e fe)
    (hs : starEach [e] X.env = [(false, eval e X.env)] := by rfl) (hbase : attributeBase o name X.env (eval o X.env) = eval o X.env := by rfl) (hline : (apos.endLine == pos.line) = true := by rfl) : VE X w (.Call (.Attribute o name apos) [e] [] pos) (dM1 g fo fe) :=
  PE.imp (pe_m1 slot ty rule ho he hs hbase hline) fun σ H Q ⟨G, ρ, rel, h⟩ => ⟨G, ρ, rel, (Fn.bind rel h).imp fun G1 H1 ρ1 x ⟨r1, s1, h1⟩ v hv => by
    obtain ⟨a, e1, h2⟩ : ∃ a, asStr x = some a ∧ Fn X.K w G1 H1 σ ρ1 ((fe ρ1).bind fun y ρ3 => lift (g a y) ρ3) (QD X.K Q) := by
      cases q : asStr x with
      | none => rw [q] at h1; exact h1.elim
      | some a => rw [q] at h1; exact ⟨a, rfl, h1⟩
    have := hv.str' e1
    subst this
    refine ⟨⟨_, rfl⟩, G1, ρ1, r1, (Fn.bind r1 h2).imp fun G2 H2 ρ2 y ⟨r2, s2, h3⟩ u hu => ?_⟩
    obtain ⟨d, e, q⟩ := Fn.lift h3
    exact sp a u y d G2 H2 σ ρ2 Q r2 hu e q⟩
end
section
variable {K : PySem.W.Frag}
theorem newStrs {G H : Hp} {σ : L2.St} {ρ : En} {Q : VK} {ys : List Str} (rel : Rel K G H σ ρ) (q : ∀ G' H', Rel K G' H' σ ρ → Stp G H σ ρ G' H' σ ρ → ∀ v, DR K G' v (.list (ys.map .str)) → Q v H') : rNewStrs ys H Q := hand_new rel q (DR.newL rel (DRs.ofStrs ys))
def gPart (a : Str) : D → Option D
  | .str b => if (b.length == 0) = false ∧ a.length ≤ sizeLine then some (.tuple [.str (Txt.partition a b).1, .str (Txt.partition a b).2.1, .str (Txt.partition a b).2.2]) else none
  | _ => none
theorem ms_part : MS1 K (fun x xs H Q => ∃ a b, x = .str a ∧ xs = [.str b] ∧ (b.length == 0) = false ∧ a.length ≤ sizeLine ∧
    ∀ p, H p = none → Q (.ref p) (upd H p (.tup [.str (Txt.partition a b).1, .str (Txt.partition a b).2.1, .str (Txt.partition a b).2.2]))) gPart := fun a v y d G H σ ρ Q rel hv e q => by
  cases hv with
  | str b =>
    simp only [gPart] at e
    split at e
    · rename_i h; cases e
      exact ⟨a, b, rfl, rfl, h.1, h.2, hand_new rel q (DR.newT rel (.cons (.str _) (.cons (.str _) (.cons (.str _) .nil))))⟩
    · cases e
  | _ => cases e
def gJoinL (a : Str) (ds : List D) : Option D := (allOf asStr ds).bind fun ys => if (ys.map (·.length)).sum + ys.length * a.length ≤ 16777216 then some (.str (Txt.join a ys)) else none
def gJoin (a : Str) : D → Option D
  | .list ds => gJoinL a ds
  | .tuple ds => gJoinL a ds
  | _ => none
theorem gJoinL_ok {a : Str} {ds : List D} {d : D} (e : gJoinL a ds = some d) : ∃ ys : List Str, ds = ys.map .str ∧ (ys.map (·.length)).sum + ys.length * a.length ≤ 16777216 ∧ d = .str (Txt.join a ys) := by
  simp only [gJoinL, Option.bind_eq_some_iff] at e
  obtain ⟨ys, e1, e⟩ := e
  split at e
  · cases e; exact ⟨ys, mapM_strs e1, ‹_›, rfl⟩
  · cases e
theorem ms_join : MS1 K (fun x xs H Q => ∃ a p, ∃ ys : List Str, x = .str a ∧ xs = [.ref p] ∧ (SqL K H p (ys.map V.str) ∨ SqT K H p (ys.map V.str)) ∧
    (ys.map (·.length)).sum + ys.length * a.length ≤ 16777216 ∧ Q (.str (Txt.join a ys)) H) gJoin := fun a v y d G H σ ρ Q rel hv e q => by
  cases y with
  | list ds =>
    obtain ⟨ys, rfl, hz, rfl⟩ := gJoinL_ok e
    obtain ⟨p, vs, rfl, h, hs⟩ := hv.lst'
    rw [hs.strs] at h
    exact ⟨a, p, ys, rfl, rfl, .inl (rel.sub.seq h), hz, q _ _ rel Stp.refl _ (.str _)⟩
  | tuple ds =>
    obtain ⟨ys, rfl, hz, rfl⟩ := gJoinL_ok e
    obtain ⟨p, vs, rfl, h, hs⟩ := hv.tup'
    rw [hs.strs] at h
    exact ⟨a, p, ys, rfl, rfl, .inr (Same.tup rel.sub h), hz, q _ _ rel Stp.refl _ (.str _)⟩
  | _ => cases e
def gZfill (a : Str) : D → Option D
  | .int i => if PadOk i = true then some (.str (Txt.zfill a i)) else none
  | _ => none
theorem ms_zfill : MS1 K (fun x xs H Q => ∃ (a : Str) (i : Int), x = .str a ∧ xs = [.int i] ∧ PadOk i = true ∧ Q (.str (Txt.zfill a i)) H) gZfill := fun a v y d G H σ ρ Q rel hv e q => by
  cases hv with
  | int i =>
    simp only [gZfill] at e
    split at e
    · cases e; exact ⟨a, i, rfl, rfl, ‹_›, q _ _ rel Stp.refl _ (.str _)⟩
    · cases e
  | _ => cases e
def gSplit (a : Str) : D → Option D
  | .str b => if (b.length == 0) = false ∧ a.length + 2 ≤ sizeLine then some (.list ((Txt.split a b).map .str)) else none
  | _ => none
theorem ms_split : MS1 K (fun x xs H Q => ∃ a b, x = .str a ∧ xs = [.str b] ∧ (b.length == 0) = false ∧ a.length + 2 ≤ sizeLine ∧ rNewStrs (Txt.split a b) H Q) gSplit := fun a v y d G H σ ρ Q rel hv e q => by
  cases hv with
  | str b =>
    simp only [gSplit] at e
    split at e
    · rename_i h; cases e
      exact ⟨a, b, rfl, rfl, h.1, h.2, newStrs rel q⟩
    · cases e
  | _ => cases e
def gCountS (a : Str) : D → Option D
  | .str b => some (.int (Txt.count a b))
  | _ => none
theorem ms_count : MS1 K (fun x xs H Q => ∃ a b, x = .str a ∧ xs = [.str b] ∧ Q (.int (Txt.count a b)) H) gCountS := fun a v y d G H σ ρ Q rel hv e q => by
  cases hv with
  | str b => cases e; exact ⟨a, b, rfl, rfl, q _ _ rel Stp.refl _ (.int _)⟩
  | _ => cases e
def gStarts (a : Str) : D → Option D
  | .str b => some (.bool (Txt.startswith a b))
  | _ => none
theorem ms_starts : MS1 K (fun x xs H Q => ∃ a b, x = .str a ∧ xs = [.str b] ∧ Q (.bl (Txt.startswith a b)) H) gStarts := fun a v y d G H σ ρ Q rel hv e q => by
  cases hv with
  | str b => cases e; exact ⟨a, b, rfl, rfl, q _ _ rel Stp.refl _ (.bl _)⟩
  | _ => cases e
def gUpper (a : Str) : Option D := if a.length ≤ 5592405 then some (.str (Txt.upper a)) else none
theorem ms_upper : MS0 K (fun x xs H Q => ∃ a, x = .str a ∧ xs = [] ∧ a.length ≤ 5592405 ∧ Q (.str (Txt.upper a)) H) gUpper := fun a d G H σ ρ Q rel e q => by
  simp only [gUpper] at e
  split at e
  · cases e; exact ⟨a, rfl, rfl, ‹_›, q _ _ rel Stp.refl _ (.str _)⟩
  · cases e
end
@[simp] theorem dM0_eq (g : Str → Option D) (fo : En → R D) (ρ : En) : dM0 g fo ρ = (fo ρ).bind fun x ρ1 => (lift (asStr x) ρ1).bind fun a ρ2 => lift (g a) ρ2 := rfl
@[simp] theorem dM1_eq (g : Str → D → Option D) (fo fe : En → R D) (ρ : En) : dM1 g fo fe ρ = (fo ρ).bind fun x ρ1 => (lift (asStr x) ρ1).bind fun a ρ2 => (fe ρ2).bind fun y ρ3 => lift (g a y) ρ3 := rfl
@[simp] theorem asStr_str (a : Str) : asStr (.str a) = some a := rfl
@[simp] theorem nList_eq (f : En → R D) (ρ : En) : nList f ρ = (f ρ).bind fun d ρ1 => lift (asL d) ρ1 := rfl
@[simp] theorem asL_list (ds : List D) : asL (.list ds) = some ds := rfl
@[simp] theorem asL_tuple (ds : List D) : asL (.tuple ds) = some ds := rfl
@[simp] theorem gSum_list (ds : List D) : gSum [.list ds] = (allOf asInt ds).map fun ns => .int ns.sum := rfl
@[simp] theorem gMaxL_list (ds : List D) : gMaxL [.list ds] = (allOf asInt ds).bind fun ns => ns.max?.map .int := rfl
@[simp] theorem gMinL_list (ds : List D) : gMinL [.list ds] = (allOf asInt ds).bind fun ns => ns.min?.map .int := rfl
@[simp] theorem gAll_list (ds : List D) : gAll [.list ds] = (allOf asBool ds).map fun bs => .bool (bs.all id) := rfl
@[simp] theorem gAny_list (ds : List D) : gAny [.list ds] = (allOf asBool ds).map fun bs => .bool (bs.any id) := rfl
@[simp] theorem gList_list (ds : List D) : gList [.list ds] = some (.list ds) := rfl
@[simp] theorem gList_tuple (ds : List D) : gList [.tuple ds] = some (.list ds) := rfl
@[simp] theorem gTuple_list (ds : List D) : gTuple [.list ds] = some (.tuple ds) := rfl
@[simp] theorem gTuple_tuple (ds : List D) : gTuple [.tuple ds] = some (.tuple ds) := rfl
end Dn
namespace Dn
open PySem PySem.Spec PyProof.Rows L2
section
variable {X : Cx} {w : Wh} {x : Str} {pos py spos : Pos} {k : Nat} {tg iter elt : Expr} {ifs : List Expr} {scope : Scope} {own : List (Str × Nat)} {fi : En → R (List D)} {gt : D → En → R Unit} {ft : En → R Bool} {fe : En → R D}
theorem Gd.blk (g : Gd X w k) {s : Shared} {H : Hp} {C : Addr} {cl : List (Str × Addr)} {fp : List Addr} : Gd (X.blk s H scope (compEnvC scope cl C X.env) fp) (w0 w) k :=
  ⟨g.calm, fun u s' x => by obtain ⟨a, B, sI, pins, σ, H, cls, d, e, I, nb, up, sky, na, os, ag, w⟩ := x; exact w.elim, PassesOwn.never, g.hr⟩
theorem vn_lcG (own : List (Str × Nat)) (g : Gd X w k) (hN : X.N.Nodup) (hi : VI X w tg iter fi) (ok : blkC X.N X.env.scope scope own = true)
    (hg : ∀ (s : Shared) (H : Hp) (C : Addr) (cl : List (Str × Addr)) (fp : List Addr), Gd (X.blk s H scope (compEnvC scope cl C X.env) fp) (w0 w) k → VGc (X.blk s H scope (compEnvC scope cl C X.env) fp) (own.map (·.2)) tg gt)
    (ht : ∀ (s : Shared) (H : Hp) (C : Addr) (cl : List (Str × Addr)) (fp : List Addr), Gd (X.blk s H scope (compEnvC scope cl C X.env) fp) (w0 w) k → PTs (X.blk s H scope (compEnvC scope cl C X.env) fp) ifs (teB X.K (w0 w) ft))
    (he : ∀ (s : Shared) (H : Hp) (C : Addr) (cl : List (Str × Addr)) (fp : List Addr), Gd (X.blk s H scope (compEnvC scope cl C X.env) fp) (w0 w) k → VE (X.blk s H scope (compEnvC scope cl C X.env) fp) (w0 w) elt fe) (hs : ∀ x, foldedSetIterable iter X.env x = pure x := by intro _; rfl) :
    VN X w (.ListComp elt [⟨tg, iter, ifs, 0⟩] scope pos) (nLc fi (lcT gt ft fe) (own.map (·.2))) :=
  vn_lc g.calm hN hi ok (fun s H C cl fp => hg s H C cl fp g.blk) (fun s H C cl fp => ht s H C cl fp g.blk) (fun s H C cl fp => he s H C cl fp g.blk) hs
theorem vs_setLcG (i : Nat) (own : List (Str × Nat)) (g : Gd X w k) (hN : X.N.Nodup) (hi : VI X w tg iter fi) (ok : blkC X.N X.env.scope scope own = true)
    (hg : ∀ (s : Shared) (H : Hp) (C : Addr) (cl : List (Str × Addr)) (fp : List Addr), Gd (X.blk s H scope (compEnvC scope cl C X.env) fp) (w0 w) k → VGc (X.blk s H scope (compEnvC scope cl C X.env) fp) (own.map (·.2)) tg gt)
    (ht : ∀ (s : Shared) (H : Hp) (C : Addr) (cl : List (Str × Addr)) (fp : List Addr), Gd (X.blk s H scope (compEnvC scope cl C X.env) fp) (w0 w) k → PTs (X.blk s H scope (compEnvC scope cl C X.env) fp) ifs (teB X.K (w0 w) ft))
    (he : ∀ (s : Shared) (H : Hp) (C : Addr) (cl : List (Str × Addr)) (fp : List Addr), Gd (X.blk s H scope (compEnvC scope cl C X.env) fp) (w0 w) k → VE (X.blk s H scope (compEnvC scope cl C X.env) fp) (w0 w) elt fe)
    (hsw : swapsWith (.ListComp elt [⟨tg, iter, ifs, 0⟩] scope pos) (some (.Name x py)) spos.line X.env = pure true := by exact sw_true (by rfl) (by rfl) (by rfl) (by rfl))
    (hy : X.N[i]? = some x := by rfl) (hyl : X.env.scope.names.lookup x = some .local := by rfl) (hs : ∀ x, foldedSetIterable iter X.env x = pure x := by intro _; rfl) :
    VS X w (.Assign [.Name x py] (.ListComp elt [⟨tg, iter, ifs, 0⟩] scope pos) spos) (dAsgL i (nLc fi (lcT gt ft fe) (own.map (·.2)))) :=
  vs_setLc i g.calm hN hsw hi ok (fun s H C cl fp => hg s H C cl fp g.blk) (fun s H C cl fp => ht s H C cl fp g.blk) (fun s H C cl fp => he s H C cl fp g.blk) hy hyl hs
theorem vs_setLiG (i : Nat) (own : List (Str × Nat)) (g : Gd X w k) (hN : X.N.Nodup) (hi : VI X w tg iter fi) (ok : blkC X.N X.env.scope scope own = true)
    (hg : ∀ (s : Shared) (H : Hp) (C : Addr) (cl : List (Str × Addr)) (fp : List Addr), Gd (X.blk s H scope (compEnvC scope cl C X.env) fp) (w0 w) k → VGc (X.blk s H scope (compEnvC scope cl C X.env) fp) (own.map (·.2)) tg gt)
    (ht : ∀ (s : Shared) (H : Hp) (C : Addr) (cl : List (Str × Addr)) (fp : List Addr), Gd (X.blk s H scope (compEnvC scope cl C X.env) fp) (w0 w) k → PTs (X.blk s H scope (compEnvC scope cl C X.env) fp) ifs (teB X.K (w0 w) ft))
    (he : ∀ (s : Shared) (H : Hp) (C : Addr) (cl : List (Str × Addr)) (fp : List Addr), Gd (X.blk s H scope (compEnvC scope cl C X.env) fp) (w0 w) k → VE (X.blk s H scope (compEnvC scope cl C X.env) fp) (w0 w) elt fe)
    (hsw : swapsWith (.ListComp elt [⟨tg, iter, ifs, 0⟩] scope pos) (some (.Name x py)) spos.line X.env = pure true := by exact sw_true (by rfl) (by rfl) (by rfl) (by rfl))
    (hy : X.N[i]? = some x := by rfl) (hyl : X.env.scope.names.lookup x = some .local := by rfl) (hs : ∀ x, foldedSetIterable iter X.env x = pure x := by intro _; rfl) :
    VS X w (.Assign [.Name x py] (.ListComp elt [⟨tg, iter, ifs, 0⟩] scope pos) spos) (dAsg (putIm i) (dFz (nLc fi (lcT gt ft fe) (own.map (·.2))))) :=
  vs_setLi i g.calm hN hsw hi ok (fun s H C cl fp => hg s H C cl fp g.blk) (fun s H C cl fp => ht s H C cl fp g.blk) (fun s H C cl fp => he s H C cl fp g.blk) hy hyl hs
end
end Dn
namespace Dn
open PySem PySem.Spec PyProof.Rows L2
def asLi : D → Option (List D)
  | .list ds => some ds
  | _ => none
/-- l.index(x) -/
def gIndex (ds : List D) (d : D) : Option D := if shp (.list ds) = true ∧ shp d = true then (ds.findIdx? fun z => PyData.eqv z d).map fun (j : Nat) => .int j else none
def dLM1 (g : List D → D → Option D) (fo fe : En → R D) : En → R D := fun ρ => (fo ρ).bind fun x ρ1 => (lift (asLi x) ρ1).bind fun ds ρ2 => (fe ρ2).bind fun y ρ3 => lift (g ds y) ρ3
@[simp] theorem dLM1_eq (g : List D → D → Option D) (fo fe : En → R D) (ρ : En) : dLM1 g fo fe ρ = (fo ρ).bind fun x ρ1 => (lift (asLi x) ρ1).bind fun ds ρ2 => (fe ρ2).bind fun y ρ3 => lift (g ds y) ρ3 := rfl
@[simp] theorem asLi_list (ds : List D) : asLi (.list ds) = some ds := rfl
section
variable {X : Cx} {w : Wh} {pos : Pos} {e o : Expr} {fe fo : En → R D}
theorem ve_index {apos : Pos} (hu : X.A.units + 65 < cLine) (ho : VE X w o fo) (he : VE X w e fe)
    (hbase : attributeBase o "index" X.env (eval o X.env) = eval o X.env := by rfl)
    (hfew : ((backTo pos (starEach [e] X.env)).all (fun x => !x.1) && (backToKw pos (keywordEach [] X.env)).all (fun x => x.1.isSome) && decide (([e] : List Expr).length + ([] : List Keyword).length + (if ([] : List Keyword).isEmpty then 0 else 1) < 30)) = true := by rfl)
    (hline : (apos.endLine == pos.line) = true := by rfl) (hs : starEach [e] X.env = (false, eval e X.env) :: starEach [] X.env := by rfl) (hplain : (backTo pos (starEach [] X.env)).any (·.1) = false := by rfl) :
    VE X w (.Call (.Attribute o "index" apos) [e] [] pos) (dLM1 gIndex fo fe) :=
  PE.imp (pe_bm PySem.F.plainAttrs_list PySem.F.slot_list_index PySem.F.type_list_index (mt_indexD hu) ho (pa_cons he pa_nil hs) hbase hfew hline hs hplain) fun σ H Q ⟨G, ρ, rel, h⟩ => ⟨G, ρ, rel, (Fn.bind rel h).imp fun G1 H1 ρ1 x ⟨r1, s1, h1⟩ v hv => by
    cases x with
    | list ds =>
      have h2 : Fn X.K w G1 H1 σ ρ1 ((fe ρ1).bind fun y ρ3 => lift (gIndex ds y) ρ3) (QD X.K Q) := h1
      obtain ⟨a, vs, rfl, hl, hds⟩ := hv.lst'
      refine ⟨.inl ⟨rfl, vs, r1.sub.seq hl⟩, G1, ρ1, r1, (Fn.bind r1 h2).imp fun G2 H2 ρ2 y ⟨r2, s2, h3⟩ u hu2 => ?_⟩
      obtain ⟨d, e, q⟩ := Fn.lift h3
      simp only [gIndex] at e
      split at e
      · rename_i hsh
        simp only [Option.map_eq_some_iff] at e
        obtain ⟨j, ej, rfl⟩ := e
        rw [List.findIdx?_eq_some_iff_getElem] at ej
        obtain ⟨hj, e1, e2⟩ := ej
        have D1 : DR X.K H2 (.ref a) (.list ds) := ((DR.lst hl hds).mono s2.g).mono r2.sub
        refine ⟨a, u, y, ds, j, ds[j], rfl, rfl, D1.dp (SeqAt.canLay_of_shaped hsh.1), (hu2.mono r2.sub).dp (SeqAt.canLay_of_shaped hsh.2), hsh.1, hsh.2, List.getElem?_eq_getElem hj, e1, fun m z hm hz => ?_, q _ _ r2 Stp.refl _ (.int _)⟩
        have hml : m < ds.length := by omega
        rw [List.getElem?_eq_getElem hml] at hz
        cases hz
        have := e2 m hm
        simpa using this
      · cases e
    | _ => exact h1.elim⟩
end
end Dn
namespace Dn
open PySem PySem.Spec PyProof.Rows L2
/-! ### one's own lists, looked at for a while -/
section
variable {K : PySem.W.Frag} {G H G' H' : Hp} {σ : L2.St} {ρ : En}
theorem DV.dr (r : Rel K G H σ ρ) {v : V} {d : D} (h : DV K G H v d) : DR K H v d := by
  cases h with
  | im h => exact h.mono r.sub
  | mu e h => exact .lst (.inl (.inl e)) (h.mono r.sub)
end
/-- compared: the left one a name -/
def dCmpL (g : D → D → Option Bool) (i : Nat) (fb : En → R D) : En → R Bool := atSlot i fb fun l y ρ => lift (g l.toD y) ρ
/-- compared: the right one a name -/
def dCmpR (g : D → D → Option Bool) (fa : En → R D) (i : Nat) : En → R Bool := fun ρ => (fa ρ).bind fun x ρ1 => atSlot i (fun ρ => .ok () ρ) (fun l _ ρ => lift (g x l.toD) ρ) ρ1
@[simp] theorem dCmpL_eq (g : D → D → Option Bool) (i : Nat) (fb : En → R D) (ρ : En) : dCmpL g i fb ρ = slotK ρ[i]? fun _ => (fb ρ).bind fun y ρ1 => slotK ρ1[i]? fun l => lift (g l.toD y) ρ1 := by unfold dCmpL; rw [atSlot_eq]
@[simp] theorem dCmpR_eq (g : D → D → Option Bool) (fa : En → R D) (i : Nat) (ρ : En) : dCmpR g fa i ρ = (fa ρ).bind fun x ρ1 => slotK ρ1[i]? fun l => lift (g x l.toD) ρ1 := by
  unfold dCmpR
  cases fa ρ with
  | ok x ρ1 =>
    show atSlot i _ _ ρ1 = slotK ρ1[i]? _
    rw [atSlot_eq]
    show (slotK ρ1[i]? fun _ => slotK ρ1[i]? fun l => lift (g x l.toD) ρ1) = _
    generalize ρ1[i]? = o
    cases o with
    | none => rfl
    | some o => cases o <;> rfl
  | _ => rfl
section
variable {X : Cx} {w : Wh} {op : CmpOp} {r : R2} {g : D → D → Option Bool} {a b : Expr} {fa fb : En → R D} {pos p : Pos} {x : Str}
theorem vt_cmpL (i : Nat) (ho : OpR X (compareOp op) r) (hs : OpB X.K r g) (hb : VE X w b fb) (hm : behindInMarks op b = false) (hN : X.N[i]? = some x := by rfl) (hv : Vis X.env.scope x := by first | exact Or.inl rfl | exact Or.inr (Or.inl rfl) | exact Or.inr (Or.inr rfl))
    (hd : (x == ("__debug__" : Str)) = false := by decide) (hcd : (x == ("__classdict__" : Str)) = false := by decide) : VT X w (.Compare (.Name x p) [op] [b] pos) (dCmpL g i fb) :=
  PT.imp (pt_cmpR ho (pe_var hN hv hd hcd) hb hm) fun σ H Q ⟨G, ρ, rel, h⟩ => by
    obtain ⟨v, s, h⟩ := Fn.slot rel h
    refine ⟨v, s, G, ρ, rel, h.imp fun G1 H1 ρ1 y ⟨l, e, dv, r1, s1, h1⟩ u hu => ?_⟩
    obtain ⟨d, e', q⟩ := Fn.lift h1
    exact hs v u l.toD y d H1 _ (dv.dr r1) (hu.mono r1.sub) e' ⟨d, rfl, q _ _ r1 Stp.refl⟩
theorem vt_cmpRN (i : Nat) (ho : OpR X (compareOp op) r) (hs : OpB X.K r g) (ha : VE X w a fa) (hm : behindInMarks op (.Name x p) = false) (hN : X.N[i]? = some x := by rfl) (hv : Vis X.env.scope x := by first | exact Or.inl rfl | exact Or.inr (Or.inl rfl) | exact Or.inr (Or.inr rfl))
    (hd : (x == ("__debug__" : Str)) = false := by decide) (hcd : (x == ("__classdict__" : Str)) = false := by decide) : VT X w (.Compare a [op] [.Name x p] pos) (dCmpR g fa i) :=
  PT.imp (pt_cmpR ho ha (pe_var hN hv hd hcd) hm) fun σ H Q ⟨G, ρ, rel, h⟩ => ⟨G, ρ, rel, (Fn.bind rel h).imp fun G1 H1 ρ1 dx ⟨r1, s1, h1⟩ u hu => by
    obtain ⟨v, s, h⟩ := Fn.slot r1 h1
    obtain ⟨l, e, dv, r2, s2, h2⟩ := h.ok r1
    obtain ⟨d, e', q⟩ := Fn.lift h2
    exact ⟨v, s, hs u v dx l.toD d H1 _ (hu.mono r1.sub) (dv.dr r2) e' ⟨d, rfl, q _ _ r2 Stp.refl⟩⟩⟩
theorem ve_cmpL (i : Nat) (ho : OpR X (compareOp op) r) (hs : OpB X.K r g) (hb : VE X w b fb) (hm : behindInMarks op b = false) (hN : X.N[i]? = some x := by rfl) (hv : Vis X.env.scope x := by first | exact Or.inl rfl | exact Or.inr (Or.inl rfl) | exact Or.inr (Or.inr rfl))
    (hd : (x == ("__debug__" : Str)) = false := by decide) (hcd : (x == ("__classdict__" : Str)) = false := by decide) : VE X w (.Compare (.Name x p) [op] [b] pos) (dB (dCmpL g i fb)) :=
  PE.imp (pe_cmpR ho (pe_var hN hv hd hcd) hb hm) fun σ H Q ⟨G, ρ, rel, h⟩ => by
    obtain ⟨v, s, h⟩ := Fn.slot rel (Fn.dB rel h)
    refine ⟨v, s, G, ρ, rel, h.imp fun G1 H1 ρ1 y ⟨l, e, dv, r1, s1, h1⟩ u hu => ?_⟩
    obtain ⟨d, e', q⟩ := Fn.lift h1
    exact hs v u l.toD y d H1 _ (dv.dr r1) (hu.mono r1.sub) e' (q _ _ r1 Stp.refl).2.2
theorem ve_cmpRN (i : Nat) (ho : OpR X (compareOp op) r) (hs : OpB X.K r g) (ha : VE X w a fa) (hm : behindInMarks op (.Name x p) = false) (hN : X.N[i]? = some x := by rfl) (hv : Vis X.env.scope x := by first | exact Or.inl rfl | exact Or.inr (Or.inl rfl) | exact Or.inr (Or.inr rfl))
    (hd : (x == ("__debug__" : Str)) = false := by decide) (hcd : (x == ("__classdict__" : Str)) = false := by decide) : VE X w (.Compare a [op] [.Name x p] pos) (dB (dCmpR g fa i)) :=
  PE.imp (pe_cmpR ho ha (pe_var hN hv hd hcd) hm) fun σ H Q ⟨G, ρ, rel, h⟩ => ⟨G, ρ, rel, (Fn.bind rel (Fn.dB rel h)).imp fun G1 H1 ρ1 dx ⟨r1, s1, h1⟩ u hu => by
    obtain ⟨v, s, h⟩ := Fn.slot r1 h1
    obtain ⟨l, e, dv, r2, s2, h2⟩ := h.ok r1
    obtain ⟨d, e', q⟩ := Fn.lift h2
    exact ⟨v, s, hs u v dx l.toD d H1 _ (hu.mono r1.sub) (dv.dr r2) e' (q _ _ r2 Stp.refl).2.2⟩⟩
end
/-! #### a call that only looks -/
def lendT (ρ : En) : List AV → Option En
  | [] => some []
  | .im d :: as => (lendT ρ as).map (some (.im d) :: ·)
  | .sl i :: as => match ρ[i]? with
    | some (some l) => (lendT ρ as).map (some (.im l.toD) :: ·)
    | _ => none
def flat : D → Bool
  | .none => true
  | .bool _ => true
  | .int _ => true
  | .str _ => true
  | _ => false
/-- the callee's view, then the caller as ahead -/
def dFnT (n : Nat) (den : En → R L) (ga : En → R (List AV)) : En → R D := fun ρ => (ga ρ).bind fun as ρ1 => if as.length = n then match lendT ρ1 as with
  | none => .no
  | some ls => match den ls with
    | .ok (.im d) _ => if flat d = true then .ok d ρ1 else .no
    | .ex c _ => if c.arg.isNone = true then .ex c ρ1 else .no
    | _ => .no
  else .no
open Classical in
noncomputable def Gt (G H : Hp) (σ : L2.St) (ρ : En) : Hp := fun a => if G a = none ∧ Own σ ρ a then H a else G a
section
variable {K : PySem.W.Frag} {G H G' H' : Hp} {σ : L2.St} {ρ : En}
theorem Gt_g : Same G (Gt G H σ ρ) := fun a x e => by
  unfold Gt
  rw [if_neg (fun z => by rw [e] at z; cases z.1)]; exact e
theorem Gt_h (r : Rel K G H σ ρ) : Same (Gt G H σ ρ) H := fun a x e => by
  unfold Gt at e
  split at e
  · exact e
  · exact r.sub a x e
theorem lendT_ok (r : Rel K G H σ ρ) : ∀ {vs : List V} {as : List AV} {ls : En}, AVs K G σ vs as → lendT ρ as = some ls → ls.length = vs.length ∧ ∀ (k : Nat) (l : L), ls[k]? = some (some l) → ∃ d v, l = .im d ∧ (vs.map some)[k]? = some (some v) ∧ DR K (Gt G H σ ρ) v d
  | _, _, _, .nil, e => by cases e; exact ⟨rfl, fun k l h => by simp at h⟩
  | _, _, _, .im h t, e => by
    simp only [lendT, Option.map_eq_some_iff] at e
    obtain ⟨ls, e, rfl⟩ := e
    obtain ⟨h1, h2⟩ := lendT_ok r t e
    refine ⟨by simp [h1], fun k l hk => ?_⟩
    cases k with
    | zero => simp at hk; subst hk; exact ⟨_, _, rfl, rfl, h.mono Gt_g⟩
    | succ k => simpa using h2 k l (by simpa using hk)
  | _, _, _, .sl (v := v) (i := i) h t, e => by
    simp only [lendT] at e
    split at e
    · rename_i l0 e0
      simp only [Option.map_eq_some_iff] at e
      obtain ⟨ls, e, rfl⟩ := e
      obtain ⟨h1, h2⟩ := lendT_ok r t e
      refine ⟨by simp [h1], fun k l hk => ?_⟩
      cases k with
      | zero =>
        simp at hk; subst hk
        obtain ⟨v', s, c⟩ := r.cell i l0 e0
        rw [h] at s; cases s
        refine ⟨_, v, rfl, rfl, ?_⟩
        have here : ∀ o us ds, l0.mu = true → v = V.ref o → G o = none → H o = some (.lst us) → DRs K G us ds → DR K (Gt G H σ ρ) v (.list ds) := fun o us ds m ev g hq hd => by
          subst ev
          refine .lst (.inl (.inl ?_)) (hd.mono Gt_g)
          unfold Gt
          rw [if_pos ⟨g, i, l0, e0, m, h⟩]; exact hq
        cases l0 with
        | im d => exact DR.mono Gt_g c
        | ow ds => obtain ⟨o, us, ev, g, hq, hd⟩ := c; exact here o us ds rfl ev g hq hd
        | bo ds => obtain ⟨o, us, ev, g, hq, hd⟩ := c; exact here o us ds rfl ev g hq hd
      | succ k => simpa using h2 k l (by simpa using hk)
    · cases e
theorem flat_dr {v : V} {d : D} (h : DR K G v d) (hf : flat d = true) : DR K G' v d := by
  cases h with
  | non => exact .non
  | bl b => exact .bl b
  | int i => exact .int i
  | str s => exact .str s
  | _ => cases hf
/-- nothing old was changed -/
theorem Rel.still (r : Rel K G H σ ρ) (h : Same H H') : Rel K G H' σ ρ ∧ Stp G H σ ρ G H' σ ρ := by
  refine ⟨⟨r.sub.trans h, r.len, fun i l e => ?_, r.apart⟩, ⟨Same.refl _, fun a x e _ => h a x e, fun a z => .inl z, fun a z => .inl z, fun a z => ?_, rfl, fun i ds e => ⟨rfl, ds, e⟩⟩⟩
  · obtain ⟨v, s, c⟩ := r.cell i l e
    refine ⟨v, s, ?_⟩
    cases l with
    | im d => exact c
    | ow ds => obtain ⟨o, us, ev, g, hq, hd⟩ := c; exact ⟨o, us, ev, g, h _ _ hq, hd⟩
    | bo ds => obtain ⟨o, us, ev, g, hq, hd⟩ := c; exact ⟨o, us, ev, g, h _ _ hq, hd⟩
  · cases q : H a with
    | none => exact absurd q z
    | some x => rw [h a x q]; exact fun z => nomatch z
end
section
variable {X : Cx} {w : Wh} {k n : Nat} {f : Addr} {fd : FuncData} {ps : List Str} {den : En → R L} {ca : String → Option Value} {x : Str} {p pos : Pos} {e : Expr} {es : List Expr} {ga : En → R (List AV)}
theorem ve_callT (F : FnOk X.prog X.w X.K X.mg X.base (L2.CX X.prog X.w) k f fd ps (spD X.K ca n den)) (hr : Room k X.A) (tk : Takes X w.W) (hca : w.ca = ca) (hg : Gl X x) (hm : X.mg x = some (.ref f)) (hk : PySem.W.keepIn X.K (.ref f) = true) (hb : Binds X.K fd ps [])
    (ha : VA X w (e :: es) ga) (hdb : (x == ("__debug__" : Str)) = false := by decide) (he : starEach (e :: es) X.env = (false, eval e X.env) :: starEach es X.env := by rfl) (hpl : (backTo pos (starEach es X.env)).any (·.1) = false := by rfl) :
    VE X w (.Call (.Name x p) (e :: es) [] pos) (dFnT n den ga) :=
  PE.imp (pe_callS F hr hg hm hk hb (passAt tk) ha hdb he hpl) fun σ H Q ⟨G, ρ, rel, h⟩ => ⟨G, ρ, rel, (Fn.bind rel h).imp fun G1 H1 ρ1 as ⟨r1, s1, h1⟩ vs hvs => by
    split at h1
    · rename_i hl
      cases q : lendT ρ1 as with
      | none => rw [q] at h1; exact h1.elim
      | some ls =>
        rw [q] at h1
        have h1' : Fn X.K w G1 H1 σ ρ1 (match den ls with | .ok (.im d) _ => if flat d = true then R.ok d ρ1 else .no | .ex c _ => if c.arg.isNone = true then .ex c ρ1 else .no | _ => .no) (QD X.K Q) := h1
        obtain ⟨l1, l2⟩ := lendT_ok r1 hvs q
        have r0 : Rel X.K (Gt G1 H1 σ ρ1) H1 (vs.map some) ls := ⟨Gt_h r1, by simp [l1], fun i l ei => by
          obtain ⟨d, v, rfl, hv, hd⟩ := l2 i l ei
          exact ⟨v, hv, hd⟩, fun i j l m a ei ej li mj si sj => by
          obtain ⟨d, v, rfl, _⟩ := l2 i l ei; cases li⟩
        have no : ∀ a, ¬ Own (vs.map some) ls a := fun a ⟨i, l, ei, m, _⟩ => by
          obtain ⟨d, v, rfl, _⟩ := l2 i l ei; cases m
        refine ⟨Gt G1 H1 σ ρ1, ls, r0, fun i ds ei => (by obtain ⟨d, v, ed, _⟩ := l2 i _ ei; cases ed), hvs.length.trans hl, ?_⟩
        cases q2 : den ls with
        | no => rw [q2] at h1'; exact h1'.elim
        | ex c ls' =>
          rw [q2] at h1'
          intro G' H' cls dx r' s' x'
          have sH : Same H1 H' := fun a o ea => s'.h a o ea (no a)
          obtain ⟨r2, s2⟩ := r1.still sH
          have h2 : Fn X.K w G1 H1 σ ρ1 (if c.arg.isNone = true then .ex c ρ1 else .no) (QD X.K Q) := h1'
          split at h2
          · rename_i hn
            exact h2 G1 H' cls dx r2 s2 ⟨by rw [hca]; exact x'.hc, x'.hn, fun f d ea => by rw [ea] at hn; cases hn⟩
          · exact h2.elim
        | ok l ls' =>
          rw [q2] at h1'
          cases l with
          | bo ds => exact h1'.elim
          | ow ds => exact h1'.elim
          | im d =>
            intro G' H' v r' s' hv
            have sH : Same H1 H' := fun a o ea => s'.h a o ea (no a)
            obtain ⟨r2, s2⟩ := r1.still sH
            have h2 : Fn X.K w G1 H1 σ ρ1 (if flat d = true then R.ok d ρ1 else .no) (QD X.K Q) := h1'
            split at h2
            · rename_i hf
              exact h2 G1 H' r2 s2 v (flat_dr hv hf)
            · exact h2.elim
    · exact h1.elim⟩
end
/-! reckoning -/
def lookK (o : Option En) (k : En → R D) : R D := match o with
  | some ls => k ls
  | none => .no
def resT (r : R L) (ρ : En) : R D := match r with
  | .ok (.im d) _ => if flat d = true then .ok d ρ else .no
  | .ex c _ => if c.arg.isNone = true then .ex c ρ else .no
  | _ => .no
@[simp] theorem dFnT_eq (n : Nat) (den : En → R L) (ga : En → R (List AV)) (ρ : En) : dFnT n den ga ρ = (ga ρ).bind fun as ρ1 => if as.length = n then lookK (lendT ρ1 as) fun ls => resT (den ls) ρ1 else .no := by
  unfold dFnT
  cases ga ρ with
  | ok as ρ1 =>
    show (if as.length = n then _ else _) = (if as.length = n then _ else _)
    split
    · cases lendT ρ1 as with
      | none => rfl
      | some ls => rfl
    · rfl
  | _ => rfl
@[simp] theorem lookK_some (ls : En) (k : En → R D) : lookK (some ls) k = k ls := rfl
@[simp] theorem resT_im (d : D) (ls ρ : En) (h : flat d = true) : resT (.ok (.im d) ls) ρ = .ok d ρ := if_pos h
@[simp] theorem resT_ex (c : String) (ls ρ : En) : resT (.ex ⟨c, none⟩ ls) ρ = .ex ⟨c, none⟩ ρ := rfl
@[simp] theorem lendT_nil (ρ : En) : lendT ρ [] = some [] := rfl
@[simp] theorem lendT_im (ρ : En) (d : D) (as : List AV) : lendT ρ (.im d :: as) = (lendT ρ as).map (some (.im d) :: ·) := rfl
theorem lendT_sl {ρ : En} {i : Nat} {as : List AV} {l : L} (h : ρ[i]? = some (some l)) : lendT ρ (.sl i :: as) = (lendT ρ as).map (some (.im l.toD) :: ·) := by
  simp only [lendT, h]
@[simp] theorem flat_bool (b : Bool) : flat (.bool b) = true := rfl
@[simp] theorem flat_int (b : Int) : flat (.int b) = true := rfl
@[simp] theorem flat_str (b : Str) : flat (.str b) = true := rfl
@[simp] theorem flat_none : flat .none = true := rfl
/-- at one's own list -/
def mineK {α : Type} (c : Option (Option L)) (k : L → List D → R α) : R α := match c with
  | some (some (.ow ds)) => k (.ow ds) ds
  | some (some (.bo ds)) => k (.bo ds) ds
  | _ => .no
@[simp] theorem mineK_ow {α : Type} (ds : List D) (k : L → List D → R α) : mineK (some (some (.ow ds))) k = k (.ow ds) ds := rfl
@[simp] theorem mineK_bo {α : Type} (ds : List D) (k : L → List D → R α) : mineK (some (some (.bo ds))) k = k (.bo ds) ds := rfl
@[simp] theorem put_ow (ds es : List D) : (L.ow ds).put es = .ow es := rfl
@[simp] theorem put_bo (ds es : List D) : (L.bo ds).put es = .bo es := rfl
theorem atMine_eq {α β : Type} (i : Nat) (f : En → R β) (g : L → List D → β → En → R α) (ρ : En) : atMine i f g ρ = mineK ρ[i]? fun _ _ => (f ρ).bind fun y ρ1 => mineK ρ1[i]? fun l ds => g l ds y ρ1 := by
  unfold atMine
  have inner : ∀ (y : β) (ρ1 : En), (match ρ1[i]? with
      | some (some l) => match l.mine with
        | some ds => g l ds y ρ1
        | none => .no
      | _ => .no) = mineK ρ1[i]? fun l ds => g l ds y ρ1 := fun y ρ1 => by
    generalize ρ1[i]? = o
    cases o with
    | none => rfl
    | some o => cases o with
      | none => rfl
      | some l => cases l <;> rfl
  generalize ρ[i]? = o
  cases o with
  | none => rfl
  | some o => cases o with
    | none => rfl
    | some l =>
      cases l with
      | im d => rfl
      | ow ds => exact congrArg ((f ρ).bind) (funext fun y => funext fun ρ1 => inner y ρ1)
      | bo ds => exact congrArg ((f ρ).bind) (funext fun y => funext fun ρ1 => inner y ρ1)
@[simp] theorem dApp_eq (i : Nat) (f : En → R D) (ρ : En) : dApp i f ρ = mineK ρ[i]? fun _ _ => (f ρ).bind fun d ρ1 => mineK ρ1[i]? fun l ds => if ds.length < sizeLine then .ok .nx (ρ1.set i (some (l.put (ds ++ [d])))) else .no := atMine_eq i f _ ρ
def setK (z : Option Int) (l : L) (ds : List D) (d : D) (i : Nat) (ρ : En) : R Fl := match z with
  | some z => match ixN ds.length z with
    | some j => .ok .nx (ρ.set i (some (l.put (ds.set j d))))
    | none => .no
  | none => .no
@[simp] theorem dSetI_eq (i : Nat) (f k : En → R D) (ρ : En) : dSetI i f k ρ = (f ρ).bind fun d ρ0 => mineK ρ0[i]? fun _ _ => (k ρ0).bind fun y ρ1 => mineK ρ1[i]? fun l ds => setK (asI y) l ds d i ρ1 := by
  unfold dSetI
  cases f ρ with
  | ok d ρ0 => exact atMine_eq i k _ ρ0
  | _ => rfl
@[simp] theorem dAsgL_eq (i : Nat) (f : En → R (List D)) (ρ : En) : dAsgL i f ρ = (f ρ).bind fun ds ρ1 => (putOw i ds ρ1).bind fun _ ρ2 => .ok .nx ρ2 := rfl
@[simp] theorem dRetL_eq (f : En → R (List D)) (ρ : En) : dRetL f ρ = (f ρ).bind fun d ρ1 => .ok (.rl d) ρ1 := rfl
def retK (c : Option (Option L)) (i : Nat) (ρ : En) : R Fl := match c with
  | some (some (.ow ds)) => .ok (.rl ds) (ρ.set i none)
  | some (some (.im d)) => .ok (.rt d) ρ
  | _ => .no
@[simp] theorem dRetV_eq (i : Nat) (ρ : En) : dRetV i ρ = retK ρ[i]? i ρ := by
  unfold dRetV retK
  generalize ρ[i]? = o
  cases o with
  | none => rfl
  | some o => cases o with
    | none => rfl
    | some l => cases l <;> rfl
@[simp] theorem retK_ow (ds : List D) (i : Nat) (ρ : En) : retK (some (some (.ow ds))) i ρ = .ok (.rl ds) (ρ.set i none) := rfl
@[simp] theorem retK_im (d : D) (i : Nat) (ρ : En) : retK (some (some (.im d))) i ρ = .ok (.rt d) ρ := rfl
def resN (as : List AV) (ρ : En) (r : R L) : R (List D) := match r with
  | .ok (.ow ds) ls' => .ok ds (giveB as ls' ρ)
  | .ex c ls' => .ex c (giveB as ls' ρ)
  | _ => .no
@[simp] theorem resN_ow (as : List AV) (ρ ls : En) (d : List D) : resN as ρ (.ok (.ow d) ls) = .ok d (giveB as ls ρ) := rfl
@[simp] theorem resN_ex (as : List AV) (ρ ls : En) (c : Exn) : resN as ρ (.ex c ls) = .ex c (giveB as ls ρ) := rfl
@[simp] theorem nFn_eq (n : Nat) (den : En → R L) (ga : En → R (List AV)) (ρ : En) : nFn n den ga ρ = (ga ρ).bind fun as ρ1 => if as.length = n then lentK (lend as ρ1) fun ls => resN as ρ1 (den ls) else .no := by
  unfold nFn
  congr 1
  funext as ρ1
  split
  · unfold lentK resN
    cases lend as ρ1 with
    | none => rfl
    | some ls =>
      cases den ls with
      | ok l ls' => cases l <;> rfl
      | _ => rfl
  · rfl
def slA (c : Option (Option L)) (i : Nat) (r : R (List AV)) : R (List AV) := match c with
  | some (some _) => r.bind fun as ρ2 => .ok (.sl i :: as) ρ2
  | _ => .no
@[simp] theorem aSl_eq (i : Nat) (g : En → R (List AV)) (ρ : En) : aSl i g ρ = slA ρ[i]? i (g ρ) := by
  unfold aSl slA
  generalize ρ[i]? = o
  cases o with
  | none => rfl
  | some o => cases o <;> rfl
@[simp] theorem slA_some (l : L) (i : Nat) (r : R (List AV)) : slA (some (some l)) i r = r.bind fun as ρ2 => .ok (.sl i :: as) ρ2 := rfl
def lookL (c : Option (Option L)) (r : Option En) : Option En := match c with
  | some (some l) => r.map (some (.im l.toD) :: ·)
  | _ => none
@[simp] theorem lendT_slK (ρ : En) (i : Nat) (as : List AV) : lendT ρ (.sl i :: as) = lookL ρ[i]? (lendT ρ as) := by
  simp only [lendT, lookL]
@[simp] theorem lookL_some (l : L) (r : Option En) : lookL (some (some l)) r = r.map (some (.im l.toD) :: ·) := rfl
@[simp] theorem resT_bool (b : Bool) (ls ρ : En) : resT (.ok (.im (.bool b)) ls) ρ = .ok (.bool b) ρ := rfl
@[simp] theorem resT_int (b : Int) (ls ρ : En) : resT (.ok (.im (.int b)) ls) ρ = .ok (.int b) ρ := rfl
@[simp] theorem resT_str (b : Str) (ls ρ : En) : resT (.ok (.im (.str b)) ls) ρ = .ok (.str b) ρ := rfl
@[simp] theorem resT_non (ls ρ : En) : resT (.ok (.im .none) ls) ρ = .ok .none ρ := rfl
end Dn
namespace Dn
open PySem PySem.Spec PyProof.Rows L2
/-! ### more of lists of one's own -/
section
variable {X : Cx} {w : Wh} {x : Str} {p pos : Pos} {e e2 : Expr} {fe fi : En → R D} {apos pos2 : Pos}
/-- x.insert(i, e) -/
def dIns (i : Nat) (fi fe : En → R D) : En → R Fl := atMine i (fun ρ => (fi ρ).bind fun a ρ1 => (fe ρ1).bind fun b ρ2 => .ok (a, b) ρ2) fun l ds y ρ => match y.1 with
  | .int k => if ds.length < sizeLine ∧ 0 ≤ k ∧ k < 2 ^ 62 then .ok .nx (ρ.set i (some (l.put (ds.take k.toNat ++ [y.2] ++ ds.drop k.toNat)))) else .no
  | _ => .no
theorem vs_insert (i : Nat) (hi : VE X w e2 fi) (he : VE X w e fe) (hN : X.N[i]? = some x := by rfl) (hv : Vis X.env.scope x := by first | exact Or.inl rfl | exact Or.inr (Or.inl rfl) | exact Or.inr (Or.inr rfl)) (hd : (x == ("__debug__" : Str)) = false := by decide) (hcd : (x == ("__classdict__" : Str)) = false := by decide)
    (hbase : attributeBase (.Name x p) "insert" X.env (eval (.Name x p) X.env) = eval (.Name x p) X.env := by rfl) (hline : (apos.endLine == pos.line) = true := by rfl)
    (hfew : ((backTo pos (starEach [e2, e] X.env)).all (fun x => !x.1) && (backToKw pos (keywordEach [] X.env)).all (fun x => x.1.isSome) && decide (([e2, e] : List Expr).length + ([] : List Keyword).length + (if ([] : List Keyword).isEmpty then 0 else 1) < 30)) = true := by rfl)
    (hs : starEach [e2, e] X.env = (false, eval e2 X.env) :: starEach [e] X.env := by rfl) (hs2 : starEach [e] X.env = (false, eval e X.env) :: starEach [] X.env := by rfl) (hpl : (backTo pos (starEach [e] X.env)).any (·.1) = false := by rfl)
    (hsw : swapsWith (.Call (.Attribute (.Name x p) "insert" apos) [e2, e] [] pos) none pos2.line X.env = pure false := by rfl) :
    VS X w (.Expr (.Call (.Attribute (.Name x p) "insert" apos) [e2, e] [] pos) pos2) (dIns i fi fe) :=
  PS.imp (ps_expr (pe_bm PySem.F.plainAttrs_list PySem.F.slot_list_insert PySem.F.type_list_insert mt_insert (pe_var hN hv hd hcd) (pa_cons hi (pa_cons he pa_nil hs2) hs) hbase hfew hline hs hpl) hsw) fun Z σ H ⟨G, ρ, rel, h⟩ => by
    obtain ⟨o, s, ⟨vs, ho⟩, h⟩ := FnS.mine rel h
    refine ⟨.ref o, s, .inl ⟨rfl, vs, .inl (.inl ho)⟩, G, ρ, rel, (Fn.bind rel h).imp fun G1 H1 ρ1 a ⟨r1, s1, h1⟩ va hva => ⟨G1, ρ1, r1, (Fn.bind r1 h1).imp fun G2 H2 ρ2 b ⟨r2, s2, h2⟩ vb hvb => ?_⟩⟩
    obtain ⟨l, ds, e1, m, r3, s3, h3⟩ := h2.ok r2
    obtain ⟨o', ws, s', go, hw, hd⟩ := r3.mine e1 m
    rw [s] at s'; cases s'
    cases hva with
    | int k =>
      have h4 : FnS X.K w G2 H2 σ ρ2 (if ds.length < sizeLine ∧ 0 ≤ k ∧ k < 2 ^ 62 then .ok .nx (ρ2.set i (some (l.put (ds.take k.toNat ++ [b] ++ ds.drop k.toNat)))) else .no) Z := h3
      split at h4
      · rename_i hc
        obtain ⟨r4, s4⟩ := r3.change e1 m s (((hd.take k.toNat).append (.cons hvb .nil)).append (hd.drop k.toNat))
        exact ⟨o, ws, k, vb, rfl, rfl, hw, by rw [hd.length]; exact hc.1, hc.2.1, by omega, FnS.nx h4 r4 s4⟩
      · exact h4.elim
    | _ => exact h3.elim
/-- x.pop() -/
def dPop (i : Nat) : En → R D := atMine i (fun ρ => .ok () ρ) fun l ds _ ρ => match ds[ds.length - 1]? with
  | some d => .ok d (ρ.set i (some (l.put ds.dropLast)))
  | none => .no
theorem ve_pop (i : Nat) (hN : X.N[i]? = some x := by rfl) (hv : Vis X.env.scope x := by first | exact Or.inl rfl | exact Or.inr (Or.inl rfl) | exact Or.inr (Or.inr rfl)) (hd : (x == ("__debug__" : Str)) = false := by decide) (hcd : (x == ("__classdict__" : Str)) = false := by decide)
    (hbase : attributeBase (.Name x p) "pop" X.env (eval (.Name x p) X.env) = eval (.Name x p) X.env := by rfl) (hline : (apos.endLine == pos.line) = true := by rfl) :
    VE X w (.Call (.Attribute (.Name x p) "pop" apos) [] [] pos) (dPop i) :=
  PE.imp (pe_bm0 PySem.F.plainAttrs_list PySem.F.slot_list_pop PySem.F.type_list_pop mt_pop (pe_var hN hv hd hcd) hbase hline) fun σ H Q ⟨G, ρ, rel, h⟩ => by
    obtain ⟨o, s, ⟨vs, ho⟩, h⟩ := Fn.mine rel h
    obtain ⟨l, ds, e1, m, r3, s3, h3⟩ := h.ok rel
    obtain ⟨o', ws, s', go, hw, hd⟩ := r3.mine e1 m
    rw [s] at s'; cases s'
    refine ⟨.ref o, s, .inl ⟨rfl, vs, .inl (.inl ho)⟩, ?_⟩
    have h4 : Fn X.K w G H σ ρ (match ds[ds.length - 1]? with | some d => R.ok d (ρ.set i (some (l.put ds.dropLast))) | none => .no) (QD X.K Q) := h3
    cases q : ds[ds.length - 1]? with
    | none => rw [q] at h4; exact h4.elim
    | some d =>
      rw [q] at h4
      obtain ⟨y, ey, hy⟩ := hd.get q
      obtain ⟨r4, s4⟩ := r3.change e1 m s hd.dropLast
      exact ⟨o, ws, y, rfl, rfl, hw, by rw [hd.length]; exact ey, h4 _ _ r4 s4 y hy⟩
/-- x.pop(k) -/
def dPopAt (i : Nat) (fk : En → R D) : En → R D := atMine i fk fun l ds y ρ => match y with
  | .int k => if -(2 ^ 62) ≤ k ∧ k < 2 ^ 62 then match ixN ds.length k with
    | some j => match ds[j]? with
      | some d => .ok d (ρ.set i (some (l.put (ds.eraseIdx j))))
      | none => .no
    | none => .no
    else .no
  | _ => .no
theorem ve_popAt (i : Nat) (hk : VE X w e fi) (hN : X.N[i]? = some x := by rfl) (hv : Vis X.env.scope x := by first | exact Or.inl rfl | exact Or.inr (Or.inl rfl) | exact Or.inr (Or.inr rfl)) (hd : (x == ("__debug__" : Str)) = false := by decide) (hcd : (x == ("__classdict__" : Str)) = false := by decide)
    (hbase : attributeBase (.Name x p) "pop" X.env (eval (.Name x p) X.env) = eval (.Name x p) X.env := by rfl) (hline : (apos.endLine == pos.line) = true := by rfl)
    (hfew : ((backTo pos (starEach [e] X.env)).all (fun x => !x.1) && (backToKw pos (keywordEach [] X.env)).all (fun x => x.1.isSome) && decide (([e] : List Expr).length + ([] : List Keyword).length + (if ([] : List Keyword).isEmpty then 0 else 1) < 30)) = true := by rfl)
    (hs : starEach [e] X.env = (false, eval e X.env) :: starEach [] X.env := by rfl) :
    VE X w (.Call (.Attribute (.Name x p) "pop" apos) [e] [] pos) (dPopAt i fi) :=
  PE.imp (pe_bm PySem.F.plainAttrs_list PySem.F.slot_list_pop PySem.F.type_list_pop mt_popAt (pe_var hN hv hd hcd) (pa_cons hk pa_nil hs) hbase hfew hline hs (by rfl)) fun σ H Q ⟨G, ρ, rel, h⟩ => by
    obtain ⟨o, s, ⟨vs, ho⟩, h⟩ := Fn.mine rel h
    refine ⟨.ref o, s, .inl ⟨rfl, vs, .inl (.inl ho)⟩, G, ρ, rel, h.imp fun G1 H1 ρ1 y ⟨l, ds, e1, m, r3, s3, h3⟩ v hv => ?_⟩
    obtain ⟨o', ws, s', go, hw, hd⟩ := r3.mine e1 m
    rw [s] at s'; cases s'
    cases hv with
    | int k =>
      have h4 : Fn X.K w G1 H1 σ ρ1 (if -(2 ^ 62) ≤ k ∧ k < 2 ^ 62 then match ixN ds.length k with
        | some j => match ds[j]? with
          | some d => R.ok d (ρ1.set i (some (l.put (ds.eraseIdx j))))
          | none => .no
        | none => .no
        else .no) (QD X.K Q) := h3
      split at h4
      · rename_i hc
        cases q : ixN ds.length k with
        | none => rw [q] at h4; exact h4.elim
        | some j =>
          rw [q] at h4
          have h5 : Fn X.K w G1 H1 σ ρ1 (match ds[j]? with | some d => R.ok d (ρ1.set i (some (l.put (ds.eraseIdx j)))) | none => .no) (QD X.K Q) := h4
          cases q2 : ds[j]? with
          | none => rw [q2] at h5; exact h5.elim
          | some d =>
            rw [q2] at h5
            obtain ⟨z, ez, hz⟩ := hd.get q2
            obtain ⟨r4, s4⟩ := r3.change e1 m s (hd.erase j)
            have hq := (ixN_seq q).1
            exact ⟨o, ws, k, j, z, rfl, rfl, hw, by omega, by omega, by rw [hd.length]; exact hq, ez, h5 _ _ r4 s4 z hz⟩
      · exact h4.elim
    | _ => exact h3.elim
/-- x.clear() -/
def dClear (i : Nat) : En → R Fl := atMine i (fun ρ => .ok () ρ) fun l _ _ ρ => .ok .nx (ρ.set i (some (l.put [])))
theorem vs_clear (i : Nat) (hN : X.N[i]? = some x := by rfl) (hv : Vis X.env.scope x := by first | exact Or.inl rfl | exact Or.inr (Or.inl rfl) | exact Or.inr (Or.inr rfl)) (hd : (x == ("__debug__" : Str)) = false := by decide) (hcd : (x == ("__classdict__" : Str)) = false := by decide)
    (hbase : attributeBase (.Name x p) "clear" X.env (eval (.Name x p) X.env) = eval (.Name x p) X.env := by rfl) (hline : (apos.endLine == pos.line) = true := by rfl)
    (hsw : swapsWith (.Call (.Attribute (.Name x p) "clear" apos) [] [] pos) none pos2.line X.env = pure false := by rfl) :
    VS X w (.Expr (.Call (.Attribute (.Name x p) "clear" apos) [] [] pos) pos2) (dClear i) :=
  PS.imp (ps_expr (pe_bm0 PySem.F.plainAttrs_list PySem.F.slot_list_clear PySem.F.type_list_clear mt_clear (pe_var hN hv hd hcd) hbase hline) hsw) fun Z σ H ⟨G, ρ, rel, h⟩ => by
    obtain ⟨o, s, ⟨vs, ho⟩, h⟩ := FnS.mine rel h
    obtain ⟨l, ds, e1, m, r3, s3, h3⟩ := h.ok rel
    obtain ⟨o', ws, s', go, hw, hd⟩ := r3.mine e1 m
    rw [s] at s'; cases s'
    obtain ⟨r4, s4⟩ := r3.change (es := []) e1 m s (vs := []) .nil
    exact ⟨.ref o, s, .inl ⟨rfl, vs, .inl (.inl ho)⟩, o, ws, rfl, rfl, hw, FnS.nx (show FnS X.K w G H σ ρ (.ok .nx (ρ.set i (some (l.put [])))) Z from h3) r4 s4⟩
end
/-! reckoning -/
def insK (k : D) (l : L) (ds : List D) (d : D) (i : Nat) (ρ : En) : R Fl := match k with
  | .int k => if ds.length < sizeLine ∧ 0 ≤ k ∧ k < 2 ^ 62 then .ok .nx (ρ.set i (some (l.put (ds.take k.toNat ++ [d] ++ ds.drop k.toNat)))) else .no
  | _ => .no
theorem insK_of {k : Nat} {l : L} {ds : List D} {d : D} {i : Nat} {ρ : En} (h : ds.length < sizeLine) (hk : k ≤ 1000000) : insK (.int (k : Int)) l ds d i ρ = .ok .nx (ρ.set i (some (l.put (ds.take k ++ [d] ++ ds.drop k)))) := by
  unfold insK
  show (if _ then _ else _) = _
  rw [if_pos ⟨h, by omega, by omega⟩, Int.toNat_natCast]
@[simp] theorem dIns_eq (i : Nat) (fi fe : En → R D) (ρ : En) : dIns i fi fe ρ = mineK ρ[i]? fun _ _ => (fi ρ).bind fun a ρ1 => (fe ρ1).bind fun b ρ2 => mineK ρ2[i]? fun l ds => insK a l ds b i ρ2 := by
  unfold dIns
  rw [atMine_eq]
  congr 1
  funext _ _
  cases fi ρ with
  | ok a ρ1 =>
    show ((fe ρ1).bind fun b ρ2 => R.ok (a, b) ρ2).bind _ = (fe ρ1).bind _
    cases fe ρ1 with
    | ok b ρ2 => rfl
    | _ => rfl
  | _ => rfl
def popK (o : Option D) (l : L) (es : List D) (i : Nat) (ρ : En) : R D := match o with
  | some d => .ok d (ρ.set i (some (l.put es)))
  | none => .no
@[simp] theorem popK_some (d : D) (l : L) (es : List D) (i : Nat) (ρ : En) : popK (some d) l es i ρ = .ok d (ρ.set i (some (l.put es))) := rfl
@[simp] theorem dPop_eq (i : Nat) (ρ : En) : dPop i ρ = mineK ρ[i]? fun _ _ => mineK ρ[i]? fun l ds => popK ds[ds.length - 1]? l ds.dropLast i ρ := by
  unfold dPop
  rw [atMine_eq]
  rfl
@[simp] theorem dClear_eq (i : Nat) (ρ : En) : dClear i ρ = mineK ρ[i]? fun _ _ => mineK ρ[i]? fun l _ => .ok .nx (ρ.set i (some (l.put []))) := by
  unfold dClear
  rw [atMine_eq]
  rfl
end Dn
/-! max(xs, default=d): the kit's walk of max, turned to the call with that keyword -/
namespace DnMax
open PySem PySem.Spec
open Sem (wp)
section
variable {prog : Program} {w : World} {A : Around} {R : Result → Shared → Prop} {I : Addr} {fp wr : List Addr} {n : Nat} {P : Nat → Value → Prop} {St : Nat → Heap → Prop} {dv : Value}
abbrev kwD (dv : Value) : List (Str × Value) := [(Str.ofString "default", dv)]
theorem loop (W : Walks prog w A.in1 I fp wr n P St) (bt : Nat → Nat → Bool) (hcmp : CmpOf prog w A.in1 .Gt P bt) (S : Addr) (hSf : S ∉ fp) :
    ∀ (k j : Nat) (s : Shared) (vb : Value) (c : Nat), n - (j + 1) = k → j + 1 ≤ n → St (j + 1) s.heap → P (argBest bt j) vb →
    s.heap.get? S = some { cls := .type "list", dict := none, data := .seq #[vb, vb] c, slots := #[] } →
    (∀ v h' tk, P (argBest bt (n - 1)) v → (∀ b o, b ∉ wr → b ≠ S → s.heap.get? b = some o → h'.get? b = some o) → R (.ok (.ret v)) { s with heap := h', toks := tk }) →
    codeAny (model prog w) A (.builtin "max.loop" ⟨[.ref I, .none, .ref S], kwD dv⟩) R s := by
  have hSw : S ∉ wr := fun h => hSf (W.sub _ h)
  have hname : (toString "max" ++ toString ".loop" : String) = "max.loop" := by decide
  intro k
  induction k with
  | zero =>
    intro j s vb c hk hj hst hPb hS hR
    have hin : j + 1 = n := by omega
    refine codeAny_builtin F.entry_max_loop ?_
    rw [Around.under_plainId F.plain_max_loop _]
    show wpAny _ A.in1 (seqItems? (.ref S) >>= _) _ _ s
    refine wpAny_bind (wpAny_seqItems hS rfl ?_)
    show wpAny _ A.in1 (tryCatch (pyNext (.ref I)) _ >>= _) _ _ s
    refine wpAny_bind (wpAny_tryCatch (W.done s _ _ (hin ▸ hst) fun h' tk hk' => ?_))
    have hS' := hk' S _ hSw hS
    show wpAny _ A.in1 (updateSeq S (fun _ => #[]) >>= _) _ _ _
    refine wpAny_bind ?_
    refine wpAny_updateSeq hS' rfl (wpAny_bind (wpAny_letGo (wpAny_pure ?_)))
    refine hR vb _ tk (by rw [← hin]; exact hPb) fun b o hbw hbS e => (Heap.get?_update_other _ _ (Ne.symm hbS)).trans (hk' b o hbw e)
  | succ k ih =>
    intro j s vb c hk hj hst hPb hS hR
    have hlt : j + 1 < n := by omega
    refine codeAny_builtin F.entry_max_loop ?_
    rw [Around.under_plainId F.plain_max_loop _]
    show wpAny _ A.in1 (seqItems? (.ref S) >>= _) _ _ s
    refine wpAny_bind (wpAny_seqItems hS rfl ?_)
    show wpAny _ A.in1 (tryCatch (pyNext (.ref I)) _ >>= _) _ _ s
    refine wpAny_bind (wpAny_tryCatch (W.item (j + 1) s _ _ hlt hst fun v h' tk hP hst' hk' => ?_))
    have hS' := hk' S _ hSw hS
    show wpAny _ A.in1 (tryCatch (holding [v, v] (richCompare .Gt v vb >>= _)) _ >>= _) _ _ _
    refine wpAny_bind (wpAny_tryCatch (wpAny_holding (wpAny_bind (hcmp (j + 1) (argBest bt j) v vb _ _ _ hP hPb ?_))))
    refine wpAny_bind (wpAny_holding (wpAny_truthy_bool ?_))
    refine wpAny_bind (wpAny_letGo (wpAny_pure ?_))
    cases hb : bt (j + 1) (argBest bt j) with
    | true =>
      simp only [if_true]
      refine wpAny_bind ?_
      refine wpAny_updateSeq hS' rfl (wpAny_bind (wpAny_letGo ?_))
      rw [hname]
      refine wpAny_pure ⟨plainId_quiet F.plain_max_loop _, ih (j + 1) _ v _ (by omega) hlt (W.frame _ _ _ hst' fun b hbf o e => ?_) (by simp only [argBest, hb, if_true]; exact hP) (Heap.get?_update_self _ hS' rfl)
        fun v' h'' tk'' hP' hk'' => ?_⟩
      · exact (Heap.get?_update_other _ _ (fun h : S = b => hSf (by rw [h]; exact hbf))).trans e
      · exact hR v' h'' tk'' hP' fun b o hbw hbS e => hk'' b o hbw hbS ((Heap.get?_update_other _ _ (Ne.symm hbS)).trans (hk' b o hbw e))
    | false =>
      simp only [Bool.false_eq_true, if_false]
      refine wpAny_bind (wpAny_letGo ?_)
      rw [hname]
      refine wpAny_pure ⟨plainId_quiet F.plain_max_loop _, ih (j + 1) _ vb c (by omega) hlt hst' (by simp only [argBest, hb, Bool.false_eq_true, if_false]; exact hPb) hS' fun v' h'' tk'' hP' hk'' => ?_⟩
      exact hR v' h'' tk'' hP' fun b o hbw hbS e => hk'' b o hbw hbS (hk' b o hbw e)
theorem first (W : Walks prog w A.in1 I fp wr n P St) (bt : Nat → Nat → Bool) (hcmp : CmpOf prog w A.in1 .Gt P bt) (S : Addr) (hSf : S ∉ fp) {s : Shared} {c : Nat} (hst : St 0 s.heap)
    (hS : s.heap.get? S = some { cls := .type "list", dict := none, data := .seq #[] c, slots := #[] })
    (h0 : n = 0 → ∀ h' tk, (∀ b o, b ∉ wr → b ≠ S → s.heap.get? b = some o → h'.get? b = some o) → R (.ok (.ret dv)) { s with heap := h', toks := tk })
    (hR : 0 < n → ∀ v h' tk, P (argBest bt (n - 1)) v → (∀ b o, b ∉ wr → b ≠ S → s.heap.get? b = some o → h'.get? b = some o) → R (.ok (.ret v)) { s with heap := h', toks := tk }) :
    codeAny (model prog w) A (.builtin "max.loop" ⟨[.ref I, .none, .ref S], kwD dv⟩) R s := by
  have hSw : S ∉ wr := fun h => hSf (W.sub _ h)
  have hname : (toString "max" ++ toString ".loop" : String) = "max.loop" := by decide
  refine codeAny_builtin F.entry_max_loop ?_
  rw [Around.under_plainId F.plain_max_loop _]
  show wpAny _ A.in1 (seqItems? (.ref S) >>= _) _ _ s
  refine wpAny_bind (wpAny_seqItems hS rfl ?_)
  show wpAny _ A.in1 (tryCatch (pyNext (.ref I)) _ >>= _) _ _ s
  by_cases hn : 0 < n
  · refine wpAny_bind (wpAny_tryCatch (W.item 0 s _ _ hn hst fun v h' tk hP hst' hk' => ?_))
    have hS' := hk' S _ hSw hS
    show wpAny _ A.in1 (updateSeq S (fun _ => #[v, v]) >>= _) _ _ _
    refine wpAny_bind ?_
    refine wpAny_updateSeq hS' rfl ?_
    rw [hname]
    refine wpAny_pure ⟨plainId_quiet F.plain_max_loop _, loop W bt hcmp S hSf _ 0 _ v _ rfl hn (W.frame _ _ _ hst' fun b hbf o e => ?_) hP (Heap.get?_update_self _ hS' rfl) fun v' h'' tk'' hP' hk'' => ?_⟩
    · exact (Heap.get?_update_other _ _ (fun h : S = b => hSf (by rw [h]; exact hbf))).trans e
    · exact hR hn v' h'' tk'' hP' fun b o hbw hbS e => hk'' b o hbw hbS ((Heap.get?_update_other _ _ (Ne.symm hbS)).trans (hk' b o hbw e))
  · have hz : 0 = n := by omega
    refine wpAny_bind (wpAny_tryCatch (W.done s _ _ (hz ▸ hst) fun h' tk hk' => ?_))
    show wpAny _ A.in1 (rule _ >>= _) _ _ _
    refine wpAny_bind (wpAny_rule (wpAny_pure ?_))
    exact h0 hz.symm h' tk fun b o hbw _ e => hk' b o hbw e
end
end DnMax
namespace DnMax
open PySem PySem.Spec
open Sem (wp)
theorem args_maxD (a d : Value) : argsOk "max" ⟨[a], kwD d⟩ := by unfold argsOk; kernel_rfl
section
variable {prog : Program} {w : World} {A : Around} {E : Value → Shared → Prop} {s : Shared} {dv : Value}
theorem call_walk {x : Value} {Q : Value → Shared → Prop}
    (h : wpAny (model prog w) A.in1 (pyIter x) (fun it s₂ => ∃ I fp wr n P St bt, it = .ref I ∧ Walks prog w A.in1 I fp wr n P St ∧ St 0 s₂.heap ∧ (∀ b ∈ fp, b < s₂.heap.objs.size) ∧ CmpOf prog w A.in1 .Gt P bt ∧
      (n = 0 → ∀ h' tk, (∀ b o, b ∉ wr → s₂.heap.get? b = some o → h'.get? b = some o) → Q dv { s₂ with heap := h', toks := tk }) ∧
      (0 < n → ∀ v h' tk, P (argBest bt (n - 1)) v → (∀ b o, b ∉ wr → s₂.heap.get? b = some o → h'.get? b = some o) → Q v { s₂ with heap := h', toks := tk })) E s) :
    wpAny (model prog w) A (call (.builtin "max") [x] (kwD dv)) Q E s := by
  have hname : (toString "max" ++ toString ".loop" : String) = "max.loop" := by decide
  have hc : wpAny (model prog w) A.in1 (Builtin.«max» ⟨[x], kwD dv⟩) (fun fin s' => match fin with
      | .done f => (match (Except.ok f : Result) with | .ok (.ret v) => Q v s' | .ok _ => False | .error e => E e s')
      | .again c' => c'.quiet = true ∧ codeAny (model prog w) A c' (fun r s' => match r with | .ok (.ret v) => Q v s' | .ok _ => False | .error e => E e s') s') E s := by
    show wpAny _ A.in1 (Builtin.Builtins.bindParams "max" ["key", "default"] 0 ⟨[], kwD dv⟩ >>= _) _ _ s
    refine wpAny_bind (wpAny_of_eq (show Builtin.Builtins.bindParams "max" ["key", "default"] 0 ⟨[], kwD dv⟩ = pure [none, some dv] from rfl) ?_)
    refine wpAny_bind (wpAny_pure ?_)
    refine wpAny_bind (wpAny_mono h (fun it s₂ h₂ => ?_) fun _ _ e => e)
    obtain ⟨I, fp, wr, n, P, St, bt, rfl, W, hst, hfp, hcmp, hQ0, hQ⟩ := h₂
    refine wpAny_bind (wpAny_newObj_type ?_)
    have hSf : s₂.heap.objs.size ∉ fp := fun hm => Nat.lt_irrefl _ (hfp _ hm)
    rw [hname]
    refine wpAny_pure ⟨plainId_quiet F.plain_max_loop _, first W bt hcmp s₂.heap.objs.size hSf (W.frame _ _ _ hst fun b _ o e => Heap.get?_push_of_some _ e) (Heap.get?_push_size _ rfl) (fun hn h' tk hk => ?_) (fun hn v h' tk hP hk => ?_)⟩
    · exact hQ0 hn h' tk fun b o hbw e => hk b o hbw (Nat.ne_of_lt (Heap.lt_size e)) (Heap.get?_push_of_some _ e)
    · exact hQ hn v h' tk hP fun b o hbw e => hk b o hbw (Nat.ne_of_lt (Heap.lt_size e)) (Heap.get?_push_of_some _ e)
  have ha := args_maxD x dv
  refine wpAny_call (codeAny_call_builtin F.plain_max F.entry_max ?_)
  simp only [checkBuiltinCall, F.kind_max]
  cases hsig : Manifest.signature? "max" with
  | none => exact wpAny_pure hc
  | some sig =>
    simp only [argsOk, hsig] at ha
    have h2 : Bind.checkArgs "max" sig ⟨[x], kwD dv⟩ = pure () := ha
    show wpAny _ A.in1 (Bind.checkArgs "max" sig ⟨[x], kwD dv⟩) _ _ s
    rw [h2]; exact wpAny_pure hc
end
end DnMax
namespace Dn
open PySem PySem.Spec PyProof.Rows L2
/-- max(xs, default=d) of a list of ints -/
def rMaxDf (K : PySem.W.Frag) : List V → List V → Hp → VK → Prop := fun vs zs H Q => ∃ (a : Addr) (ns : List Int) (z : V), vs = [V.ref a] ∧ zs = [z] ∧ SqL K H a (ns.map V.int) ∧ (ns = [] → Q z H) ∧ ∀ m, m ∈ ns → (∀ y, y ∈ ns → y ≤ m) → Q (.int m) H
theorem cr_maxDf {X : Cx} (hc : X.calm = true) : CallRK X (.builtin "max") [Str.ofString "default"] (rMaxDf X.K) := by
  intro pins s σ H vs zs us ws Q I r rz h
  obtain ⟨a, ns, z, rfl, rfl, hs, q0, q⟩ := h
  obtain ⟨its, rv, hl, _⟩ := I.list hs
  rw [Vals.ref1 r]
  obtain ⟨dv, rfl, rd⟩ := vals1 rz
  have hi := rv.ints
  obtain ⟨xs, e⟩ := hi.allInts.items
  have hn : numsOf (intItems xs).toList = ns := by rw [← e]; exact hi.numsOf
  rw [nums_intItems] at hn
  subst hn
  have hl' := hl.isList
  rw [e] at hl'
  show wpAny _ _ (call (.builtin "max") [.ref a] (DnMax.kwD dv)) _ _ s
  refine DnMax.call_walk (iter_intList hl' fun s₂ e2 st hfp hlI => ?_)
  subst e2
  refine ⟨_, _, _, _, _, _, _, rfl, Walks.list (A := X.A.in1) (I.ok.hd hc) _ a hlI (intItems xs), st, hfp, CmpOf.ints_gt (numAt xs) (fun _ _ => intItems_at), fun h0 h' tk hk => ?_, fun hn0 v h' tk hP hk => ?_⟩
  · have hz : xs.size = 0 := by simpa [intItems] using h0
    refine ⟨z, H, I.kept (old_kept hk), rd, q0 ?_⟩
    apply List.eq_nil_of_length_eq_zero
    rw [List.length_map, Array.length_toList, hz]
  · have hz : 0 < xs.size := by simpa [intItems] using hn0
    have hP' : (intItems xs)[argBest (fun i j => decide (numAt xs i > numAt xs j)) (xs.size - 1)]? = some v := by simpa [intItems] using hP
    obtain ⟨t, rfl⟩ := intItems_at hP'
    obtain ⟨h1, h2⟩ := argBest_gt (numAt xs) (xs.size - 1)
    refine ⟨.int _, H, I.kept (old_kept hk), ⟨_, rfl⟩, q _ ?_ fun y hy => ?_⟩
    · rw [numAt_eq]; exact PySem.getD_mem (by rw [List.length_map, Array.length_toList]; omega)
    · obtain ⟨j, hj, rfl⟩ := mem_getD hy
      rw [List.length_map, Array.length_toList] at hj
      rw [← numAt_eq]; exact h2 j (by omega)
def gMaxDf : D → D → Option D
  | .list ds, z => (allOf asInt ds).bind fun ns => some (match ns.max? with | some m => .int m | none => z)
  | _, _ => none
section
variable {X : Cx} {w : Wh} {p pos kpos : Pos} {e d : Expr} {fe fd : En → R D}
theorem ve_maxDf (hc : X.calm = true) (hg : Gl X "max") (hm : X.mg "max" = none) (he : VE X w e fe) (hd : VE X w d fd)
    (hs : starEach [e] X.env = (false, eval e X.env) :: starEach [] X.env := by rfl) (hpl : (backTo pos (starEach [e] X.env)).any (·.1) = false := by rfl) (hb : backTo pos (starEach [e] X.env) = (false, eval e X.env) :: backTo pos (starEach [] X.env) := by rfl)
    (hall : (backToKw pos (keywordEach [⟨some (Str.ofString "default"), d, kpos⟩] X.env)).all (·.1.isSome) = true := by rfl) (hnone : (backToKw pos (keywordEach [⟨some (Str.ofString "default"), d, kpos⟩] X.env)).any (·.1.isNone) = false := by rfl) (hks : (backToKw pos (keywordEach [⟨some (Str.ofString "default"), d, kpos⟩] X.env)).filterMap (·.1) = [Str.ofString "default"] := by rfl) :
    VE X w (.Call (.Name "max" p) [e] [⟨some (Str.ofString "default"), d, kpos⟩] pos) (dOp gMaxDf fe fd) :=
  PE.imp (pe_callBK (cr_maxDf hc) hg hm boot_B_max (pa_cons he pa_nil hs) (pk_cons hd pk_nil) (by decide) (by decide) hb hpl hall hnone hks) fun σ H Q ⟨G, ρ, rel, h⟩ => ⟨G, ρ, rel, (Fn.bind rel h).imp fun G1 H1 ρ1 dx ⟨r1, s1, h1⟩ x hx => ⟨G1, ρ1, r1, (Fn.bind r1 h1).imp fun G2 H2 ρ2 dz ⟨r2, s2, h2⟩ z hz => by
    obtain ⟨dd, e1, q⟩ := Fn.lift h2
    cases dx with
    | list ds =>
      simp only [gMaxDf, Option.bind_eq_some_iff] at e1
      obtain ⟨ns, e1, e2⟩ := e1
      cases e2
      obtain ⟨a, vs, rfl, hl, hds⟩ := (hx.mono s2.g).lst'
      rw [mapM_ints e1] at hds
      rw [hds.ints] at hl
      refine ⟨a, ns, z, rfl, rfl, r2.sub.seq hl, fun hn => ?_, fun k hk hle => ?_⟩
      · subst hn
        exact q _ _ r2 Stp.refl _ hz
      · have hm : ns.max? = some k := by
          rw [List.max?_eq_some_iff]
          exact ⟨hk, fun b hb => hle b hb⟩
        rw [hm] at q
        exact q _ _ r2 Stp.refl _ (.int _)
    | _ => cases e1⟩⟩
end
@[simp] theorem gMaxDf_list (ds : List D) (z : D) : gMaxDf (.list ds) z = (allOf asInt ds).bind fun ns => some (match ns.max? with | some m => .int m | none => z) := rfl
end Dn
namespace Lw
open PySem PySem.Spec PyProof.Rows L2 Dn
def topS (i : Nat) : Stmt := PySem.Challenge.pw_twobytwo_k26_labels_that_fit.main.body.getD i (.Pass ⟨0, 0, 0, 0⟩)
def dd_under : He.DefD := ⟨("under", none), "under", "under", defArgs (topS 1), defBody (topS 1), defScope (topS 1), [], []⟩
def dd_widest_of : He.DefD := ⟨("widest_of", none), "widest_of", "widest_of", defArgs (topS 6), defBody (topS 6), defScope (topS 6), [], []⟩
def dd_labels_fit : He.DefD := ⟨("labels_fit", none), "labels_fit", "labels_fit", defArgs (topS 7), defBody (topS 7), defScope (topS 7), [], []⟩
def dd_law_cell_at : He.DefD := ⟨("_law_cell_at", none), "_law_cell_at", "_law_cell_at", defArgs (topS 9), defBody (topS 9), defScope (topS 9), [], []⟩
def dd_law_source : He.DefD := ⟨("_law_source", none), "_law_source", "_law_source", defArgs (topS 10), defBody (topS 10), defScope (topS 10), [], []⟩
def dd_law_draw : He.DefD := ⟨("_law_draw", none), "_law_draw", "_law_draw", defArgs (topS 11), defBody (topS 11), defScope (topS 11), [], []⟩
def dd_law_great : He.DefD := ⟨("_law_great", none), "_law_great", "_law_great", defArgs (topS 12), defBody (topS 12), defScope (topS 12), [], []⟩
def dd_law_low : He.DefD := ⟨("_law_low", none), "_law_low", "_law_low", defArgs (topS 13), defBody (topS 13), defScope (topS 13), [], []⟩
def dd_law_labels : He.DefD := ⟨("_law_labels", none), "_law_labels", "_law_labels", defArgs (topS 14), defBody (topS 14), defScope (topS 14), [], []⟩
def dd_law_gap : He.DefD := ⟨("_law_gap", none), "_law_gap", "_law_gap", defArgs (topS 15), defBody (topS 15), defScope (topS 15), [], []⟩
def dd_law_right : He.DefD := ⟨("_law_right", none), "_law_right", "_law_right", defArgs (topS 16), defBody (topS 16), defScope (topS 16), [], []⟩
def dd_law : He.DefD := ⟨("law", none), "law", "law", defArgs (topS 17), defBody (topS 17), defScope (topS 17), [], []⟩
def fnL : List He.DefD := [dd_under, dd_widest_of, dd_labels_fit, dd_law_cell_at, dd_law_source, dd_law_draw, dd_law_great, dd_law_low, dd_law_labels, dd_law_gap, dd_law_right, dd_law]
def faL : List He.Fa := [.glo "under", .glo "widest_of", .glo "labels_fit", .glo "_law_cell_at", .glo "_law_source", .glo "_law_draw", .glo "_law_great", .glo "_law_low", .glo "_law_labels", .glo "_law_gap", .glo "_law_right", .glo "law", .free "len", .free "max", .free "int", .free "range", .free "abs", .free "isinstance", .free "bool", .free "min", .free "list", .int "SIGN" 6, .int "LEAST" 12, .int "WIDEST" 60]
structure Tx (K : PySem.W.Frag) (mg : Str → Option Value) : Prop where
  says : He.SaysD faL fnL K
  glo : ∀ x, (He.Fa.glo x).ok K = true → mg x = some (.ref (He.ga K x))
  free : ∀ x, (He.Fa.free x).ok K = true → mg x = none
  str : ∀ x z, (He.Fa.str x z).ok K = true → ∃ t, mg x = some (.str z t)
  int : ∀ x z, (He.Fa.int x z).ok K = true → ∃ t, mg x = some (.int z t)
section
variable {K : PySem.W.Frag} {mg : Str → Option Value}
theorem x_under (T : Tx K mg) : ∃ fd, FunD K "under" "under" (defArgs (topS 1)) (defBody (topS 1)) (defScope (topS 1)) [] [] (He.ga K "under") fd := T.says.def_ 0 (d := dd_under) rfl
noncomputable def fd_under (T : Tx K mg) : FuncData := (x_under T).choose
theorem F_under (T : Tx K mg) : FunD K "under" "under" (defArgs (topS 1)) (defBody (topS 1)) (defScope (topS 1)) [] [] (He.ga K "under") (fd_under T) := (x_under T).choose_spec
theorem g_under (T : Tx K mg) : mg "under" = some (.ref (He.ga K "under")) := T.glo _ (T.says.fact 0 (f := .glo "under") rfl)
theorem bi_under (T : Tx K mg) : Binds K (fd_under T) ["one", "other"] [] := (F_under T).bindsN fun _ _ _ _ _ _ us hl => match us, hl with | [_, _], _ => rfl
theorem x_widest_of (T : Tx K mg) : ∃ fd, FunD K "widest_of" "widest_of" (defArgs (topS 6)) (defBody (topS 6)) (defScope (topS 6)) [] [] (He.ga K "widest_of") fd := T.says.def_ 1 (d := dd_widest_of) rfl
noncomputable def fd_widest_of (T : Tx K mg) : FuncData := (x_widest_of T).choose
theorem F_widest_of (T : Tx K mg) : FunD K "widest_of" "widest_of" (defArgs (topS 6)) (defBody (topS 6)) (defScope (topS 6)) [] [] (He.ga K "widest_of") (fd_widest_of T) := (x_widest_of T).choose_spec
theorem g_widest_of (T : Tx K mg) : mg "widest_of" = some (.ref (He.ga K "widest_of")) := T.glo _ (T.says.fact 1 (f := .glo "widest_of") rfl)
theorem bi_widest_of (T : Tx K mg) : Binds K (fd_widest_of T) ["labels"] [] := (F_widest_of T).bindsN fun _ _ _ _ _ _ us hl => match us, hl with | [_], _ => rfl
theorem x_labels_fit (T : Tx K mg) : ∃ fd, FunD K "labels_fit" "labels_fit" (defArgs (topS 7)) (defBody (topS 7)) (defScope (topS 7)) [] [] (He.ga K "labels_fit") fd := T.says.def_ 2 (d := dd_labels_fit) rfl
noncomputable def fd_labels_fit (T : Tx K mg) : FuncData := (x_labels_fit T).choose
theorem F_labels_fit (T : Tx K mg) : FunD K "labels_fit" "labels_fit" (defArgs (topS 7)) (defBody (topS 7)) (defScope (topS 7)) [] [] (He.ga K "labels_fit") (fd_labels_fit T) := (x_labels_fit T).choose_spec
theorem g_labels_fit (T : Tx K mg) : mg "labels_fit" = some (.ref (He.ga K "labels_fit")) := T.glo _ (T.says.fact 2 (f := .glo "labels_fit") rfl)
theorem bi_labels_fit (T : Tx K mg) : Binds K (fd_labels_fit T) ["labels", "gap", "way"] [] := (F_labels_fit T).bindsN fun _ _ _ _ _ _ us hl => match us, hl with | [_, _, _], _ => rfl
theorem x_law_cell_at (T : Tx K mg) : ∃ fd, FunD K "_law_cell_at" "_law_cell_at" (defArgs (topS 9)) (defBody (topS 9)) (defScope (topS 9)) [] [] (He.ga K "_law_cell_at") fd := T.says.def_ 3 (d := dd_law_cell_at) rfl
noncomputable def fd_law_cell_at (T : Tx K mg) : FuncData := (x_law_cell_at T).choose
theorem F_law_cell_at (T : Tx K mg) : FunD K "_law_cell_at" "_law_cell_at" (defArgs (topS 9)) (defBody (topS 9)) (defScope (topS 9)) [] [] (He.ga K "_law_cell_at") (fd_law_cell_at T) := (x_law_cell_at T).choose_spec
theorem g_law_cell_at (T : Tx K mg) : mg "_law_cell_at" = some (.ref (He.ga K "_law_cell_at")) := T.glo _ (T.says.fact 3 (f := .glo "_law_cell_at") rfl)
theorem bi_law_cell_at (T : Tx K mg) : Binds K (fd_law_cell_at T) ["script", "k"] [] := (F_law_cell_at T).bindsN fun _ _ _ _ _ _ us hl => match us, hl with | [_, _], _ => rfl
theorem x_law_source (T : Tx K mg) : ∃ fd, FunD K "_law_source" "_law_source" (defArgs (topS 10)) (defBody (topS 10)) (defScope (topS 10)) [] [] (He.ga K "_law_source") fd := T.says.def_ 4 (d := dd_law_source) rfl
noncomputable def fd_law_source (T : Tx K mg) : FuncData := (x_law_source T).choose
theorem F_law_source (T : Tx K mg) : FunD K "_law_source" "_law_source" (defArgs (topS 10)) (defBody (topS 10)) (defScope (topS 10)) [] [] (He.ga K "_law_source") (fd_law_source T) := (x_law_source T).choose_spec
theorem g_law_source (T : Tx K mg) : mg "_law_source" = some (.ref (He.ga K "_law_source")) := T.glo _ (T.says.fact 4 (f := .glo "_law_source") rfl)
theorem bi_law_source (T : Tx K mg) : Binds K (fd_law_source T) ["script", "k"] [] := (F_law_source T).bindsN fun _ _ _ _ _ _ us hl => match us, hl with | [_, _], _ => rfl
theorem x_law_draw (T : Tx K mg) : ∃ fd, FunD K "_law_draw" "_law_draw" (defArgs (topS 11)) (defBody (topS 11)) (defScope (topS 11)) [] [] (He.ga K "_law_draw") fd := T.says.def_ 5 (d := dd_law_draw) rfl
noncomputable def fd_law_draw (T : Tx K mg) : FuncData := (x_law_draw T).choose
theorem F_law_draw (T : Tx K mg) : FunD K "_law_draw" "_law_draw" (defArgs (topS 11)) (defBody (topS 11)) (defScope (topS 11)) [] [] (He.ga K "_law_draw") (fd_law_draw T) := (x_law_draw T).choose_spec
theorem g_law_draw (T : Tx K mg) : mg "_law_draw" = some (.ref (He.ga K "_law_draw")) := T.glo _ (T.says.fact 5 (f := .glo "_law_draw") rfl)
theorem bi_law_draw (T : Tx K mg) : Binds K (fd_law_draw T) ["source", "many"] [] := (F_law_draw T).bindsN fun _ _ _ _ _ _ us hl => match us, hl with | [_, _], _ => rfl
theorem x_law_great (T : Tx K mg) : ∃ fd, FunD K "_law_great" "_law_great" (defArgs (topS 12)) (defBody (topS 12)) (defScope (topS 12)) [] [] (He.ga K "_law_great") fd := T.says.def_ 6 (d := dd_law_great) rfl
noncomputable def fd_law_great (T : Tx K mg) : FuncData := (x_law_great T).choose
theorem F_law_great (T : Tx K mg) : FunD K "_law_great" "_law_great" (defArgs (topS 12)) (defBody (topS 12)) (defScope (topS 12)) [] [] (He.ga K "_law_great") (fd_law_great T) := (x_law_great T).choose_spec
theorem g_law_great (T : Tx K mg) : mg "_law_great" = some (.ref (He.ga K "_law_great")) := T.glo _ (T.says.fact 6 (f := .glo "_law_great") rfl)
theorem bi_law_great (T : Tx K mg) : Binds K (fd_law_great T) ["source", "many"] [] := (F_law_great T).bindsN fun _ _ _ _ _ _ us hl => match us, hl with | [_, _], _ => rfl
theorem x_law_low (T : Tx K mg) : ∃ fd, FunD K "_law_low" "_law_low" (defArgs (topS 13)) (defBody (topS 13)) (defScope (topS 13)) [] [] (He.ga K "_law_low") fd := T.says.def_ 7 (d := dd_law_low) rfl
noncomputable def fd_law_low (T : Tx K mg) : FuncData := (x_law_low T).choose
theorem F_law_low (T : Tx K mg) : FunD K "_law_low" "_law_low" (defArgs (topS 13)) (defBody (topS 13)) (defScope (topS 13)) [] [] (He.ga K "_law_low") (fd_law_low T) := (x_law_low T).choose_spec
theorem g_law_low (T : Tx K mg) : mg "_law_low" = some (.ref (He.ga K "_law_low")) := T.glo _ (T.says.fact 7 (f := .glo "_law_low") rfl)
theorem bi_law_low (T : Tx K mg) : Binds K (fd_law_low T) ["top", "bottom"] [] := (F_law_low T).bindsN fun _ _ _ _ _ _ us hl => match us, hl with | [_, _], _ => rfl
theorem x_law_labels (T : Tx K mg) : ∃ fd, FunD K "_law_labels" "_law_labels" (defArgs (topS 14)) (defBody (topS 14)) (defScope (topS 14)) [] [] (He.ga K "_law_labels") fd := T.says.def_ 8 (d := dd_law_labels) rfl
noncomputable def fd_law_labels (T : Tx K mg) : FuncData := (x_law_labels T).choose
theorem F_law_labels (T : Tx K mg) : FunD K "_law_labels" "_law_labels" (defArgs (topS 14)) (defBody (topS 14)) (defScope (topS 14)) [] [] (He.ga K "_law_labels") (fd_law_labels T) := (x_law_labels T).choose_spec
theorem g_law_labels (T : Tx K mg) : mg "_law_labels" = some (.ref (He.ga K "_law_labels")) := T.glo _ (T.says.fact 8 (f := .glo "_law_labels") rfl)
theorem bi_law_labels (T : Tx K mg) : Binds K (fd_law_labels T) ["source"] [] := (F_law_labels T).bindsN fun _ _ _ _ _ _ us hl => match us, hl with | [_], _ => rfl
theorem x_law_gap (T : Tx K mg) : ∃ fd, FunD K "_law_gap" "_law_gap" (defArgs (topS 15)) (defBody (topS 15)) (defScope (topS 15)) [] [] (He.ga K "_law_gap") fd := T.says.def_ 9 (d := dd_law_gap) rfl
noncomputable def fd_law_gap (T : Tx K mg) : FuncData := (x_law_gap T).choose
theorem F_law_gap (T : Tx K mg) : FunD K "_law_gap" "_law_gap" (defArgs (topS 15)) (defBody (topS 15)) (defScope (topS 15)) [] [] (He.ga K "_law_gap") (fd_law_gap T) := (x_law_gap T).choose_spec
theorem g_law_gap (T : Tx K mg) : mg "_law_gap" = some (.ref (He.ga K "_law_gap")) := T.glo _ (T.says.fact 9 (f := .glo "_law_gap") rfl)
theorem bi_law_gap (T : Tx K mg) : Binds K (fd_law_gap T) ["source", "longest"] [] := (F_law_gap T).bindsN fun _ _ _ _ _ _ us hl => match us, hl with | [_, _], _ => rfl
theorem x_law_right (T : Tx K mg) : ∃ fd, FunD K "_law_right" "_law_right" (defArgs (topS 16)) (defBody (topS 16)) (defScope (topS 16)) [] [] (He.ga K "_law_right") fd := T.says.def_ 10 (d := dd_law_right) rfl
noncomputable def fd_law_right (T : Tx K mg) : FuncData := (x_law_right T).choose
theorem F_law_right (T : Tx K mg) : FunD K "_law_right" "_law_right" (defArgs (topS 16)) (defBody (topS 16)) (defScope (topS 16)) [] [] (He.ga K "_law_right") (fd_law_right T) := (x_law_right T).choose_spec
theorem g_law_right (T : Tx K mg) : mg "_law_right" = some (.ref (He.ga K "_law_right")) := T.glo _ (T.says.fact 10 (f := .glo "_law_right") rfl)
theorem bi_law_right (T : Tx K mg) : Binds K (fd_law_right T) ["found", "due"] [] := (F_law_right T).bindsN fun _ _ _ _ _ _ us hl => match us, hl with | [_, _], _ => rfl
theorem x_law (T : Tx K mg) : ∃ fd, FunD K "law" "law" (defArgs (topS 17)) (defBody (topS 17)) (defScope (topS 17)) [] [] (He.ga K "law") fd := T.says.def_ 11 (d := dd_law) rfl
noncomputable def fd_law (T : Tx K mg) : FuncData := (x_law T).choose
theorem F_law (T : Tx K mg) : FunD K "law" "law" (defArgs (topS 17)) (defBody (topS 17)) (defScope (topS 17)) [] [] (He.ga K "law") (fd_law T) := (x_law T).choose_spec
theorem g_law (T : Tx K mg) : mg "law" = some (.ref (He.ga K "law")) := T.glo _ (T.says.fact 11 (f := .glo "law") rfl)
theorem bi_law (T : Tx K mg) : Binds K (fd_law T) ["script"] [] := (F_law T).bindsN fun _ _ _ _ _ _ us hl => match us, hl with | [_], _ => rfl
theorem Tx.n_len (T : Tx K mg) : mg "len" = none := T.free _ (T.says.fact 12 (f := .free "len") rfl)
theorem Tx.n_max (T : Tx K mg) : mg "max" = none := T.free _ (T.says.fact 13 (f := .free "max") rfl)
theorem Tx.n_int (T : Tx K mg) : mg "int" = none := T.free _ (T.says.fact 14 (f := .free "int") rfl)
theorem Tx.n_range (T : Tx K mg) : mg "range" = none := T.free _ (T.says.fact 15 (f := .free "range") rfl)
theorem Tx.n_abs (T : Tx K mg) : mg "abs" = none := T.free _ (T.says.fact 16 (f := .free "abs") rfl)
theorem Tx.n_isinstance (T : Tx K mg) : mg "isinstance" = none := T.free _ (T.says.fact 17 (f := .free "isinstance") rfl)
theorem Tx.n_bool (T : Tx K mg) : mg "bool" = none := T.free _ (T.says.fact 18 (f := .free "bool") rfl)
theorem Tx.n_min (T : Tx K mg) : mg "min" = none := T.free _ (T.says.fact 19 (f := .free "min") rfl)
theorem Tx.n_list (T : Tx K mg) : mg "list" = none := T.free _ (T.says.fact 20 (f := .free "list") rfl)
theorem Tx.c_SIGN (T : Tx K mg) : ∃ t, mg "SIGN" = some (.int 6 t) := T.int _ _ (T.says.fact 21 (f := .int "SIGN" 6) rfl)
theorem Tx.c_LEAST (T : Tx K mg) : ∃ t, mg "LEAST" = some (.int 12 t) := T.int _ _ (T.says.fact 22 (f := .int "LEAST" 12) rfl)
theorem Tx.c_WIDEST (T : Tx K mg) : ∃ t, mg "WIDEST" = some (.int 60 t) := T.int _ _ (T.says.fact 23 (f := .int "WIDEST" 60) rfl)
end
/-! under -/
abbrev s_under : Stmt := topS 1
theorem sc_under : FnScope ["one", "other"] ["one", "other"] (defScope s_under) := ⟨rfl, rfl, rfl, by decide +kernel, rfl, by decide +kernel, by decide +kernel⟩
noncomputable def b_under : En → R Fl :=
  (dRet (dB (dCmp gLt (dOp gMul (dIxN 0 (dC (.int 0))) (dIxN 1 (dC (.int 1)))) (dOp gMul (dIxN 1 (dC (.int 0))) (dIxN 0 (dC (.int 1)))))))
noncomputable def m_under : En → R L := dDef 2 b_under
section
variable {P : Program} {wd : World} {K : PySem.W.Frag} {mg : Str → Option Value} {base : Heap}
theorem ok_under (T : Tx K mg) : FnOk P wd K mg base (L2.CX P wd) 1 (He.ga K "under") (fd_under T) ["one", "other"] (spD K (caK [] K) 2 m_under) :=
  fn_denD (F_under T) sc_under fun cdv A outer s H E g =>
  (vss_one (vs_ret (ve_cmp op_ltA ob_lt (ve_mul (ve_ixN 0 ve_int) (ve_ixN 1 ve_int)) (ve_mul (ve_ixN 1 ve_int) (ve_ixN 0 ve_int)) (nomark _))))
end
/-! widest_of -/
abbrev s_widest_of : Stmt := topS 6
theorem sc_widest_of : FnScope ["labels", "label"] ["labels"] (defScope s_widest_of) := ⟨rfl, rfl, rfl, by decide +kernel, rfl, by decide +kernel, by decide +kernel⟩
noncomputable def b_widest_of_l1 : D → En → R (Option D) :=
  (lcT (putIm 1) tT
   (dLenN 1))
noncomputable def b_widest_of : En → R Fl :=
  (dRet (dOp gMul (dC (.int 6)) (dOp gMaxDf (dFz (nLc (iD (dVar 0)) b_widest_of_l1 [1])) (dC (.int 0)))))
noncomputable def m_widest_of : En → R L := dDef 2 b_widest_of
section
variable {P : Program} {wd : World} {K : PySem.W.Frag} {mg : Str → Option Value} {base : Heap}
theorem ok_widest_of (T : Tx K mg) : FnOk P wd K mg base (L2.CX P wd) 1 (He.ga K "widest_of") (fd_widest_of T) ["labels"] (spD K (caK [] K) 1 m_widest_of) :=
  fn_denD (F_widest_of T) sc_widest_of fun cdv A outer s H E g =>
  (vss_one (vs_ret (ve_mul (ve_glI (by rfl) T.c_SIGN) (ve_maxDf g.calm (by rfl) T.n_max (ve_fz (vn_lcG [("label", 1)] g sc_widest_of.nd (vi_val (ve_var 0)) (by kernel_rfl)
   (fun s H C cl fp g => (vgc_name 1 (by decide) sc_widest_of.nd)) (fun s H C cl fp g => vts_nil)
   (fun s H C cl fp g => (ve_lenN 1 (by rfl) T.n_len)))) ve_int))))
end
/-! labels_fit -/
abbrev s_labels_fit : Stmt := topS 7
theorem sc_labels_fit : FnScope ["labels", "gap", "way", "wide"] ["labels", "gap", "way"] (defScope s_labels_fit) := ⟨rfl, rfl, rfl, by decide +kernel, rfl, by decide +kernel, by decide +kernel⟩
noncomputable def b_labels_fit : En → R Fl :=
  (dSeq (dIf (dCmp gEq (dVar 2) (dC (.str "upright")))
   (dRet (dB (dNot (dUB (dFn 2 m_under (aIm (dVar 1) (aIm (dTup (aIm (dC (.int 12)) (aIm (dC (.int 1)) aNil))) aNil)))))))
   dNx)
  (dSeq (dAsg (putIm 3) (dFn 1 m_widest_of (aIm (dVar 0) aNil)))
  (dRet (dAndV (dCmp gLe (dVar 3) (dC (.int 60))) (dB (dNot (dUB (dFn 2 m_under (aIm (dVar 1) (aIm (dTup (aIm (dOp gAdd (dC (.int 6)) (dVar 3)) (aIm (dC (.int 1)) aNil))) aNil))))))))))
noncomputable def m_labels_fit : En → R L := dDef 4 b_labels_fit
section
variable {P : Program} {wd : World} {K : PySem.W.Frag} {mg : Str → Option Value} {base : Heap}
theorem ok_labels_fit (T : Tx K mg) : FnOk P wd K mg base (L2.CX P wd) 2 (He.ga K "labels_fit") (fd_labels_fit T) ["labels", "gap", "way"] (spD K (caK [] K) 3 m_labels_fit) :=
  fn_denD (F_labels_fit T) sc_labels_fit fun cdv A outer s H E g =>
  (vss_cons (vs_if (vt_cmp (op_eqD g.hr.units) ob_eq (ve_var 2) ve_str (nomark _))
   (vss_one (vs_ret (ve_not (ve_ub (ve_call (ok_under T) (g.hr.mono (by decide)) g.tk rfl (by rfl) (g_under T) (F_under T).kp (bi_under T) (va_im (ve_var 1) (va_im (ve_tup (va_im (ve_glI (by rfl) T.c_LEAST) (va_im ve_int va_nil))) va_nil)))))))
   vss_nil)
  (vss_cons (vs_set 3 sc_labels_fit.nd (ve_call (ok_widest_of T) (g.hr.mono (by decide)) g.tk rfl (by rfl) (g_widest_of T) (F_widest_of T).kp (bi_widest_of T) (va_im (ve_var 0) va_nil)))
  (vss_one (vs_ret (ve_and (ve_cmp op_leA ob_le (ve_var 3) (ve_glI (by rfl) T.c_WIDEST) (nomark _)) (ve_and1 (ve_not (ve_ub (ve_call (ok_under T) (g.hr.mono (by decide)) g.tk rfl (by rfl) (g_under T) (F_under T).kp (bi_under T) (va_im (ve_var 1) (va_im (ve_tup (va_im (ve_add (ve_glI (by rfl) T.c_SIGN) (ve_var 3)) (va_im ve_int va_nil))) va_nil)))))))))))
end
/-! _law_cell_at -/
abbrev s_law_cell_at : Stmt := topS 9
theorem sc_law_cell_at : FnScope ["script", "k"] ["script", "k"] (defScope s_law_cell_at) := ⟨rfl, rfl, rfl, by decide +kernel, rfl, by decide +kernel, by decide +kernel⟩
noncomputable def b_law_cell_at : En → R Fl :=
  (dSeq (dIf (dCmp gLt (dVar 1) (dLenN 0))
   (dRet (dIxN 0 (dVar 1)))
   dNx)
  (dRet (dC (.int 0))))
noncomputable def m_law_cell_at : En → R L := dDef 2 b_law_cell_at
section
variable {P : Program} {wd : World} {K : PySem.W.Frag} {mg : Str → Option Value} {base : Heap}
theorem ok_law_cell_at (T : Tx K mg) : FnOk P wd K mg base (L2.CX P wd) 1 (He.ga K "_law_cell_at") (fd_law_cell_at T) ["script", "k"] (spD K (caK [] K) 2 m_law_cell_at) :=
  fn_denD (F_law_cell_at T) sc_law_cell_at fun cdv A outer s H E g =>
  (vss_cons (vs_if (vt_cmp op_ltA ob_lt (ve_var 1) (ve_lenN 0 (by rfl) T.n_len) (nomark _))
   (vss_one (vs_ret (ve_ixN 0 (ve_var 1))))
   vss_nil)
  (vss_one (vs_ret ve_int)))
end
/-! _law_source -/
abbrev s_law_source : Stmt := topS 10
theorem sc_law_source : FnScope ["script", "k", "cell", "seed"] ["script", "k"] (defScope s_law_source) := ⟨rfl, rfl, rfl, by decide +kernel, rfl, by decide +kernel, by decide +kernel⟩
noncomputable def b_law_source : En → R Fl :=
  (dSeq (dAsg (putIm 2) (dFn 2 m_law_cell_at (aIm (dVar 0) (aIm (dVar 1) aNil))))
  (dSeq (dAsg (putIm 3) (dOp gMod (dOp gMul (dOp gAdd (dOp gAdd (dOp gMod (dVar 2) (dC (.int 2147483647))) (dOp gMul (dC (.int 104729)) (dVar 1))) (dC (.int 7))) (dC (.int 48271))) (dC (.int 2147483629))))
  (dRetL (nLst (aIm (dOp gMul (dVar 2) (dCall gInt (aIm (dB (dCmp gGe (dVar 2) (dOp gPow (dC (.int 10)) (dC (.int 18))))) aNil))) (aIm (dOp gMod (dOp gMul (dVar 3) (dVar 3)) (dC (.int 2147483587))) aNil))))))
noncomputable def m_law_source : En → R L := dDef 4 b_law_source
section
variable {P : Program} {wd : World} {K : PySem.W.Frag} {mg : Str → Option Value} {base : Heap}
theorem ok_law_source (T : Tx K mg) : FnOk P wd K mg base (L2.CX P wd) 2 (He.ga K "_law_source") (fd_law_source T) ["script", "k"] (spD K (caK [] K) 2 m_law_source) :=
  fn_denD (F_law_source T) sc_law_source fun cdv A outer s H E g =>
  (vss_cons (vs_set 2 sc_law_source.nd (ve_call (ok_law_cell_at T) (g.hr.mono (by decide)) g.tk rfl (by rfl) (g_law_cell_at T) (F_law_cell_at T).kp (bi_law_cell_at T) (va_im (ve_var 0) (va_im (ve_var 1) va_nil))))
  (vss_cons (vs_set 3 sc_law_source.nd (ve_mod (ve_mul (ve_add (ve_add (ve_mod (ve_var 2) ve_int) (ve_mul ve_int (ve_var 1))) ve_int) ve_int) ve_int))
  (vss_one (vs_retL (vn_lst (va_im (ve_mul (ve_var 2) (ve_cT call_intA cs_int (by rfl) T.n_int boot_ty_int (va_im (ve_cmp op_geA ob_ge (ve_var 2) (ve_pow ve_int ve_int) (nomark _)) va_nil))) (va_im (ve_mod (ve_mul (ve_var 3) (ve_var 3)) ve_int) va_nil)))))))
end
/-! _law_draw -/
abbrev s_law_draw : Stmt := topS 11
theorem sc_law_draw : FnScope ["source", "many", "digit"] ["source", "many"] (defScope s_law_draw) := ⟨rfl, rfl, rfl, by decide +kernel, rfl, by decide +kernel, by decide +kernel⟩
noncomputable def b_law_draw : En → R Fl :=
  (dSeq (dIf (dCmp gGt (dIxN 0 (dC (.int 0))) (dC (.int 0)))
   (dSeq (dAsg (putIm 2) (dOp gMod (dIxN 0 (dC (.int 0))) (dVar 1)))
   (dSeq (dSetI 0 (dOp gFdiv (dIxN 0 (dC (.int 0))) (dVar 1)) (dC (.int 0)))
   (dRet (dVar 2))))
   dNx)
  (dSeq (dSetI 0 (dOp gMod (dOp gAdd (dOp gMul (dIxN 0 (dC (.int 1))) (dC (.int 48271))) (dC (.int 11))) (dC (.int 2147483647))) (dC (.int 1)))
  (dRet (dOp gMod (dOp gFdiv (dOp gMod (dOp gMul (dIxN 0 (dC (.int 1))) (dIxN 0 (dC (.int 1)))) (dC (.int 2147483629))) (dC (.int 64))) (dVar 1)))))
noncomputable def m_law_draw : En → R L := dDef 3 b_law_draw
section
variable {P : Program} {wd : World} {K : PySem.W.Frag} {mg : Str → Option Value} {base : Heap}
theorem ok_law_draw (T : Tx K mg) : FnOk P wd K mg base (L2.CX P wd) 1 (He.ga K "_law_draw") (fd_law_draw T) ["source", "many"] (spD K (caK [] K) 2 m_law_draw) :=
  fn_denD (F_law_draw T) sc_law_draw fun cdv A outer s H E g =>
  (vss_cons (vs_if (vt_cmp op_gtA ob_gt (ve_ixN 0 ve_int) ve_int (nomark _))
   (vss_cons (vs_set 2 sc_law_draw.nd (ve_mod (ve_ixN 0 ve_int) (ve_var 1)))
   (vss_cons (vs_setI 0 (ve_fdiv (ve_ixN 0 ve_int) (ve_var 1)) ve_int)
   (vss_one (vs_ret (ve_var 2)))))
   vss_nil)
  (vss_cons (vs_setI 0 (ve_mod (ve_add (ve_mul (ve_ixN 0 ve_int) ve_int) ve_int) ve_int) ve_int)
  (vss_one (vs_ret (ve_mod (ve_fdiv (ve_mod (ve_mul (ve_ixN 0 ve_int) (ve_ixN 0 ve_int)) ve_int) ve_int) (ve_var 1))))))
end
/-! _law_great -/
abbrev s_law_great : Stmt := topS 12
theorem sc_law_great : FnScope ["source", "many", "found", "turn"] ["source", "many"] (defScope s_law_great) := ⟨rfl, rfl, rfl, by decide +kernel, rfl, by decide +kernel, by decide +kernel⟩
noncomputable def b_law_great_l1 : En → R Fl :=
  (dAsg (putIm 2) (dOp gAdd (dOp gMul (dVar 2) (dC (.int 1000003))) (dFn 2 m_law_draw (aSl 0 (aIm (dC (.int 1000003)) aNil)))))
noncomputable def b_law_great : En → R Fl :=
  (dSeq (dAsg (putIm 2) (dC (.int 0)))
  (dSeq (dFor (iRg1 (aIm (dC (.int 4)) aNil)) (putIm 3) b_law_great_l1)
  (dRet (dOp gMod (dVar 2) (dVar 1)))))
noncomputable def m_law_great : En → R L := dDef 4 b_law_great
section
variable {P : Program} {wd : World} {K : PySem.W.Frag} {mg : Str → Option Value} {base : Heap}
theorem ok_law_great (T : Tx K mg) : FnOk P wd K mg base (L2.CX P wd) 2 (He.ga K "_law_great") (fd_law_great T) ["source", "many"] (spD K (caK [] K) 2 m_law_great) :=
  fn_denD (F_law_great T) sc_law_great fun cdv A outer s H E g =>
  (vss_cons (vs_set 2 sc_law_great.nd ve_int)
  (vss_cons (vs_for g.po g.calm (vi_range1 (by rfl) T.n_range (va_im ve_int va_nil)) (vg_name 3 sc_law_great.nd) nox_put
   (vss_one (vs_set 2 sc_law_great.nd (ve_add (ve_mul (ve_var 2) ve_int) (ve_call (ok_law_draw T) (g.hr.mono (by decide)) g.tk rfl (by rfl) (g_law_draw T) (F_law_draw T).kp (bi_law_draw T) (va_sl 0 (va_im ve_int va_nil)))))))
  (vss_one (vs_ret (ve_mod (ve_var 2) (ve_var 1))))))
end
/-! _law_low -/
abbrev s_law_low : Stmt := topS 13
theorem sc_law_low : FnScope ["top", "bottom", "one", "other"] ["top", "bottom"] (defScope s_law_low) := ⟨rfl, rfl, rfl, by decide +kernel, rfl, by decide +kernel, by decide +kernel⟩
noncomputable def b_law_low_l1 : En → R Fl :=
  (dPar 2 3 (aIm (dVar 3) (aIm (dOp gMod (dVar 2) (dVar 3)) aNil)))
noncomputable def b_law_low : En → R Fl :=
  (dSeq (dAsg (putIm 2) (dCall gAbs (aIm (dVar 0) aNil)))
  (dSeq (dAsg (putIm 3) (dVar 1))
  (dSeq (dWhile (dCmp gGt (dVar 3) (dC (.int 0))) b_law_low_l1)
  (dRet (dTup (aIm (dOp gFdiv (dVar 0) (dVar 2)) (aIm (dOp gFdiv (dVar 1) (dVar 2)) aNil)))))))
noncomputable def m_law_low : En → R L := dDef 4 b_law_low
section
variable {P : Program} {wd : World} {K : PySem.W.Frag} {mg : Str → Option Value} {base : Heap}
theorem ok_law_low (T : Tx K mg) : FnOk P wd K mg base (L2.CX P wd) 1 (He.ga K "_law_low") (fd_law_low T) ["top", "bottom"] (spD K (caK [] K) 2 m_law_low) :=
  fn_denD (F_law_low T) sc_law_low fun cdv A outer s H E g =>
  (vss_cons (vs_set 2 sc_law_low.nd (ve_cB call_abs cs_abs (by rfl) T.n_abs boot_B_abs (va_im (ve_var 0) va_nil)))
  (vss_cons (vs_set 3 sc_law_low.nd (ve_var 1))
  (vss_cons (vs_while g.po (vt_cmp op_gtA ob_gt (ve_var 3) ve_int (nomark _))
   (vss_one (vs_par 2 3 g.calm sc_law_low.nd (va_im (ve_var 3) (va_im (ve_mod (ve_var 2) (ve_var 3)) va_nil)))))
  (vss_one (vs_ret (ve_tup (va_im (ve_fdiv (ve_var 0) (ve_var 2)) (va_im (ve_fdiv (ve_var 1) (ve_var 2)) va_nil))))))))
end
/-! _law_labels -/
abbrev s_law_labels : Stmt := topS 14
theorem sc_law_labels : FnScope ["source", "signs", "found", "k", "j"] ["source"] (defScope s_law_labels) := ⟨rfl, rfl, rfl, by decide +kernel, rfl, by decide +kernel, by decide +kernel⟩
noncomputable def b_law_labels_l1 : D → En → R (Option D) :=
  (lcT (putIm 4) tT
   (dIxN 1 (dFn 2 m_law_draw (aSl 0 (aIm (dC (.int 18)) aNil)))))
noncomputable def b_law_labels_l2 : En → R Fl :=
  (dApp 2 (dM1 gJoin (dC (.str "")) (dFz (nLc (iRg1 (aIm (dFn 2 m_law_draw (aSl 0 (aIm (dC (.int 17)) aNil))) aNil)) b_law_labels_l1 [4]))))
noncomputable def b_law_labels : En → R Fl :=
  (dSeq (dAsg (putIm 1) (dC (.str "0123456789-/abcxyz")))
  (dSeq (dAsgL 2 (nLst aNil))
  (dSeq (dFor (iRg1 (aIm (dFn 2 m_law_draw (aSl 0 (aIm (dC (.int 11)) aNil))) aNil)) (putIm 3) b_law_labels_l2)
  (dRetV 2))))
noncomputable def m_law_labels : En → R L := dDef 5 b_law_labels
section
variable {P : Program} {wd : World} {K : PySem.W.Frag} {mg : Str → Option Value} {base : Heap}
theorem ok_law_labels (T : Tx K mg) : FnOk P wd K mg base (L2.CX P wd) 2 (He.ga K "_law_labels") (fd_law_labels T) ["source"] (spD K (caK [] K) 1 m_law_labels) :=
  fn_denD (F_law_labels T) sc_law_labels fun cdv A outer s H E g =>
  (vss_cons (vs_set 1 sc_law_labels.nd ve_str)
  (vss_cons (vs_setL 2 sc_law_labels.nd (vn_lst va_nil))
  (vss_cons (vs_for g.po g.calm (vi_range1 (by rfl) T.n_range (va_im (ve_call (ok_law_draw T) (g.hr.mono (by decide)) g.tk rfl (by rfl) (g_law_draw T) (F_law_draw T).kp (bi_law_draw T) (va_sl 0 (va_im ve_int va_nil))) va_nil)) (vg_name 3 sc_law_labels.nd) nox_put
   (vss_one (vs_append 2 (ve_m1 PySem.F.slot_str_join PySem.F.type_str_join mt_join ms_join ve_str (ve_fz (vn_lcG [("j", 4)] g sc_law_labels.nd (vi_range1 (by rfl) T.n_range (va_im (ve_call (ok_law_draw T) (g.hr.mono (by decide)) g.tk rfl (by rfl) (g_law_draw T) (F_law_draw T).kp (bi_law_draw T) (va_sl 0 (va_im ve_int va_nil))) va_nil)) (by kernel_rfl)
   (fun s H C cl fp g => (vgc_name 4 (by decide) sc_law_labels.nd)) (fun s H C cl fp g => vts_nil)
   (fun s H C cl fp g => (ve_ixN 1 (ve_call (ok_law_draw T) (g.hr.mono (by decide)) g.tk rfl (by rfl) (g_law_draw T) (F_law_draw T).kp (bi_law_draw T) (va_sl 0 (va_im ve_int va_nil)))))))))))
  (vss_one (vs_retV 2)))))
end
/-! _law_gap -/
abbrev s_law_gap : Stmt := topS 15
theorem sc_law_gap : FnScope ["source", "longest", "way", "bottom", "near"] ["source", "longest"] (defScope s_law_gap) := ⟨rfl, rfl, rfl, by decide +kernel, rfl, by decide +kernel, by decide +kernel⟩
noncomputable def b_law_gap : En → R Fl :=
  (dSeq (dAsg (putIm 2) (dFn 2 m_law_draw (aSl 0 (aIm (dC (.int 4)) aNil))))
  (dSeq (dAsg (putIm 3) (dOp gAdd (dC (.int 1)) (dFn 2 m_law_draw (aSl 0 (aIm (dC (.int 60)) aNil)))))
  (dSeq (dIf (dCmp gEq (dVar 2) (dC (.int 0)))
   (dRet (dFn 2 m_law_low (aIm (dFn 2 m_law_draw (aSl 0 (aIm (dOp gAdd (dOp gMul (dC (.int 100)) (dVar 3)) (dC (.int 1))) aNil))) (aIm (dVar 3) aNil))))
   dNx)
  (dSeq (dAsg (putIm 4) (dOp gIx (dLst (aIm (dC (.int 12)) (aIm (dOp gAdd (dC (.int 6)) (dOp gMul (dC (.int 6)) (dVar 1))) (aIm (dC (.int 72)) aNil)))) (dOp gSub (dVar 2) (dC (.int 1)))))
  (dRet (dFn 2 m_law_low (aIm (dOp gSub (dOp gAdd (dOp gMul (dVar 4) (dVar 3)) (dFn 2 m_law_draw (aSl 0 (aIm (dC (.int 3)) aNil)))) (dC (.int 1))) (aIm (dVar 3) aNil))))))))
noncomputable def m_law_gap : En → R L := dDef 5 b_law_gap
section
variable {P : Program} {wd : World} {K : PySem.W.Frag} {mg : Str → Option Value} {base : Heap}
theorem ok_law_gap (T : Tx K mg) : FnOk P wd K mg base (L2.CX P wd) 2 (He.ga K "_law_gap") (fd_law_gap T) ["source", "longest"] (spD K (caK [] K) 2 m_law_gap) :=
  fn_denD (F_law_gap T) sc_law_gap fun cdv A outer s H E g =>
  (vss_cons (vs_set 2 sc_law_gap.nd (ve_call (ok_law_draw T) (g.hr.mono (by decide)) g.tk rfl (by rfl) (g_law_draw T) (F_law_draw T).kp (bi_law_draw T) (va_sl 0 (va_im ve_int va_nil))))
  (vss_cons (vs_set 3 sc_law_gap.nd (ve_add ve_int (ve_call (ok_law_draw T) (g.hr.mono (by decide)) g.tk rfl (by rfl) (g_law_draw T) (F_law_draw T).kp (bi_law_draw T) (va_sl 0 (va_im ve_int va_nil)))))
  (vss_cons (vs_if (vt_cmp (op_eqD g.hr.units) ob_eq (ve_var 2) ve_int (nomark _))
   (vss_one (vs_ret (ve_call (ok_law_low T) (g.hr.mono (by decide)) g.tk rfl (by rfl) (g_law_low T) (F_law_low T).kp (bi_law_low T) (va_im (ve_call (ok_law_draw T) (g.hr.mono (by decide)) g.tk rfl (by rfl) (g_law_draw T) (F_law_draw T).kp (bi_law_draw T) (va_sl 0 (va_im (ve_add (ve_mul ve_int (ve_var 3)) ve_int) va_nil))) (va_im (ve_var 3) va_nil)))))
   vss_nil)
  (vss_cons (vs_set 4 sc_law_gap.nd (ve_ix (ve_lst (va_im ve_int (va_im (ve_add ve_int (ve_mul ve_int (ve_var 1))) (va_im ve_int va_nil)))) (ve_sub (ve_var 2) ve_int)))
  (vss_one (vs_ret (ve_call (ok_law_low T) (g.hr.mono (by decide)) g.tk rfl (by rfl) (g_law_low T) (F_law_low T).kp (bi_law_low T) (va_im (ve_sub (ve_add (ve_mul (ve_var 4) (ve_var 3)) (ve_call (ok_law_draw T) (g.hr.mono (by decide)) g.tk rfl (by rfl) (g_law_draw T) (F_law_draw T).kp (bi_law_draw T) (va_sl 0 (va_im ve_int va_nil)))) ve_int) (va_im (ve_var 3) va_nil)))))))))
end
/-! _law_right -/
abbrev s_law_right : Stmt := topS 16
theorem sc_law_right : FnScope ["found", "due"] ["found", "due"] (defScope s_law_right) := ⟨rfl, rfl, rfl, by decide +kernel, rfl, by decide +kernel, by decide +kernel⟩
noncomputable def b_law_right : En → R Fl :=
  (dRet (dAndV (dIsi "bool" (dVar 0)) (dB (dCmp gEq (dVar 0) (dVar 1)))))
noncomputable def m_law_right : En → R L := dDef 2 b_law_right
section
variable {P : Program} {wd : World} {K : PySem.W.Frag} {mg : Str → Option Value} {base : Heap}
theorem ok_law_right (T : Tx K mg) : FnOk P wd K mg base (L2.CX P wd) 1 (He.ga K "_law_right") (fd_law_right T) ["found", "due"] (spD K (caK [] K) 2 m_law_right) :=
  fn_denD (F_law_right T) sc_law_right fun cdv A outer s H E g =>
  (vss_one (vs_ret (ve_and (ve_isi (by rfl) T.n_isinstance (ve_var 0) (by rfl) T.n_bool boot_ty_bool) (ve_and1 (ve_cmp (op_eqD g.hr.units) ob_eq (ve_var 0) (ve_var 1) (nomark _))))))
end
/-! law -/
abbrev s_law : Stmt := topS 17
theorem sc_law : FnScope ["script", "k", "source", "labels", "longest", "top", "bottom", "handed", "turn", "due", "label"] ["script"] (defScope s_law) := ⟨rfl, rfl, rfl, by decide +kernel, rfl, by decide +kernel, by decide +kernel⟩
noncomputable def b_law_l1 : D → En → R (Option D) :=
  (lcT (putIm 10) tT
   (dLenN 10))
noncomputable def b_law_l2 : En → R Fl :=
  (dSeq (dIf (dNot (dTru (dFn 2 m_law_right (aIm (dFn 3 m_labels_fit (aIm (dVar 7) (aIm (dTup (aIm (dVar 5) (aIm (dVar 6) aNil))) (aIm (dC (.str "upright")) aNil)))) (aIm (dB (dCmp gGe (dVar 5) (dOp gMul (dC (.int 12)) (dVar 6)))) aNil)))))
   (dRet (dC (.bool false)))
   dNx)
  (dSeq (dAsg (putIm 9) (dAndV (dCmp gLe (dVar 4) (dC (.int 10))) (dB (dCmp gGe (dVar 5) (dOp gMul (dOp gAdd (dC (.int 6)) (dOp gMul (dC (.int 6)) (dVar 4))) (dVar 6))))))
  (dIf (dNot (dTru (dFn 2 m_law_right (aIm (dFn 3 m_labels_fit (aIm (dVar 7) (aIm (dTup (aIm (dVar 5) (aIm (dVar 6) aNil))) (aIm (dC (.str "level")) aNil)))) (aIm (dVar 9) aNil)))))
   (dRet (dC (.bool false)))
   dNx)))
noncomputable def b_law_l3 : En → R Fl :=
  (dSeq (dAsgL 2 (nFn 2 m_law_source (aIm (dVar 0) (aIm (dVar 1) aNil))))
  (dSeq (dAsg (putIm 3) (dFn 1 m_law_labels (aSl 2 aNil)))
  (dSeq (dAsg (putIm 4) (dCall gMaxL (aIm (dOp gAdd (dLst (aIm (dC (.int 0)) aNil)) (dFz (nLc (iD (dVar 3)) b_law_l1 [10]))) aNil)))
  (dSeq (dAsg (gTupD 2 (gsCons (putIm 5) (gsCons (putIm 6) gsNil))) (dFn 2 m_law_gap (aSl 2 (aIm (dVar 4) aNil))))
  (dSeq (dAsg (putIm 7) (dCall gList (aIm (dVar 3) aNil)))
  (dSeq (dFor (iRg1 (aIm (dC (.int 2)) aNil)) (putIm 8) b_law_l2)
  (dIf (dCmp gNe (dVar 7) (dVar 3))
   (dRet (dC (.bool false)))
   dNx)))))))
noncomputable def b_law : En → R Fl :=
  (dSeq (dFor (iRg1 (aIm (dCall gMax2 (aIm (dC (.int 1)) (aIm (dCall gMin2 (aIm (dLenN 0) (aIm (dC (.int 20)) aNil))) aNil))) aNil)) (putIm 1) b_law_l3)
  (dRet (dAndV (dCmp gIs (dFn 3 m_labels_fit (aIm (dLst (aIm (dC (.str "a")) aNil)) (aIm (dTup (aIm (dC (.int 12)) (aIm (dC (.int 1)) aNil))) (aIm (dC (.str "level")) aNil)))) (dC (.bool true))) (dB (dCmp gIs (dFn 3 m_labels_fit (aIm (dLst aNil) (aIm (dTup (aIm (dC (.int 6)) (aIm (dC (.int 1)) aNil))) (aIm (dC (.str "level")) aNil)))) (dC (.bool true)))))))
noncomputable def m_law : En → R L := dDef 11 b_law
section
variable {P : Program} {wd : World} {K : PySem.W.Frag} {mg : Str → Option Value} {base : Heap}
theorem ok_law (T : Tx K mg) : FnOk P wd K mg base (L2.CX P wd) 3 (He.ga K "law") (fd_law T) ["script"] (spD K (caK [] K) 1 m_law) :=
  fn_denD (F_law T) sc_law fun cdv A outer s H E g =>
  (vss_cons (vs_for g.po g.calm (vi_range1 (by rfl) T.n_range (va_im (ve_cB (call_max2 g.calm) cs_max2 (by rfl) T.n_max boot_B_max (va_im ve_int (va_im (ve_cB (call_min2 g.calm) cs_min2 (by rfl) T.n_min boot_B_min (va_im (ve_lenN 0 (by rfl) T.n_len) (va_im ve_int va_nil))) va_nil))) va_nil)) (vg_name 1 sc_law.nd) nox_put
   (vss_cons (vs_setL 2 sc_law.nd (vn_call (ok_law_source T) (g.hr.mono (by decide)) g.tk rfl (by rfl) (g_law_source T) (F_law_source T).kp (bi_law_source T) (va_im (ve_var 0) (va_im (ve_var 1) va_nil))))
  (vss_cons (vs_set 3 sc_law.nd (ve_call (ok_law_labels T) (g.hr.mono (by decide)) g.tk rfl (by rfl) (g_law_labels T) (F_law_labels T).kp (bi_law_labels T) (va_sl 2 va_nil)))
  (vss_cons (vs_set 4 sc_law.nd (ve_cB (cr_max g.calm) cs_maxL (by rfl) T.n_max boot_B_max (va_im (ve_add (ve_lst (va_im ve_int va_nil)) (ve_fz (vn_lcG [("label", 10)] g sc_law.nd (vi_val (ve_var 3)) (by kernel_rfl)
   (fun s H C cl fp g => (vgc_name 10 (by decide) sc_law.nd)) (fun s H C cl fp g => vts_nil)
   (fun s H C cl fp g => (ve_lenN 10 (by rfl) T.n_len))))) va_nil)))
  (vss_cons (vs_asg (ve_call (ok_law_gap T) (g.hr.mono (by decide)) g.tk rfl (by rfl) (g_law_gap T) (F_law_gap T).kp (bi_law_gap T) (va_sl 2 (va_im (ve_var 4) va_nil))) (vg_tup g.calm (vgs_cons (vg_name 5 sc_law.nd) (vgs_cons (vg_name 6 sc_law.nd) vgs_nil))) (nox_tup (nox_cons nox_put (nox_cons nox_put nox_nil))))
  (vss_cons (vs_set 7 sc_law.nd (ve_cT call_list_of cs_list (by rfl) T.n_list boot_ty_list (va_im (ve_var 3) va_nil)))
  (vss_cons (vs_for g.po g.calm (vi_range1 (by rfl) T.n_range (va_im ve_int va_nil)) (vg_name 8 sc_law.nd) nox_put
   (vss_cons (vs_if (vt_not (vt_tru (ve_call (ok_law_right T) (g.hr.mono (by decide)) g.tk rfl (by rfl) (g_law_right T) (F_law_right T).kp (bi_law_right T) (va_im (ve_call (ok_labels_fit T) (g.hr.mono (by decide)) g.tk rfl (by rfl) (g_labels_fit T) (F_labels_fit T).kp (bi_labels_fit T) (va_im (ve_var 7) (va_im (ve_tup (va_im (ve_var 5) (va_im (ve_var 6) va_nil))) (va_im ve_str va_nil)))) (va_im (ve_cmp op_geA ob_ge (ve_var 5) (ve_mul ve_int (ve_var 6)) (nomark _)) va_nil)))))
   (vss_one (vs_ret ve_bl))
   vss_nil)
  (vss_cons (vs_set 9 sc_law.nd (ve_and (ve_cmp op_leA ob_le (ve_var 4) ve_int (nomark _)) (ve_and1 (ve_cmp op_geA ob_ge (ve_var 5) (ve_mul (ve_add ve_int (ve_mul ve_int (ve_var 4))) (ve_var 6)) (nomark _)))))
  (vss_one (vs_if (vt_not (vt_tru (ve_call (ok_law_right T) (g.hr.mono (by decide)) g.tk rfl (by rfl) (g_law_right T) (F_law_right T).kp (bi_law_right T) (va_im (ve_call (ok_labels_fit T) (g.hr.mono (by decide)) g.tk rfl (by rfl) (g_labels_fit T) (F_labels_fit T).kp (bi_labels_fit T) (va_im (ve_var 7) (va_im (ve_tup (va_im (ve_var 5) (va_im (ve_var 6) va_nil))) (va_im ve_str va_nil)))) (va_im (ve_var 9) va_nil)))))
   (vss_one (vs_ret ve_bl))
   vss_nil)))))
  (vss_one (vs_if (vt_cmp (op_neD g.hr.units) ob_ne (ve_var 7) (ve_var 3) (nomark _))
   (vss_one (vs_ret ve_bl))
   vss_nil)))))))))
  (vss_one (vs_ret (ve_and (ve_cmp op_isP ob_is (ve_call (ok_labels_fit T) (g.hr.mono (by decide)) g.tk rfl (by rfl) (g_labels_fit T) (F_labels_fit T).kp (bi_labels_fit T) (va_im (ve_lst (va_im ve_str va_nil)) (va_im (ve_tup (va_im ve_int (va_im ve_int va_nil))) (va_im ve_str va_nil)))) ve_bl (nomark _)) (ve_and1 (ve_cmp op_isP ob_is (ve_call (ok_labels_fit T) (g.hr.mono (by decide)) g.tk rfl (by rfl) (g_labels_fit T) (F_labels_fit T).kp (bi_labels_fit T) (va_im (ve_lst va_nil) (va_im (ve_tup (va_im ve_int (va_im ve_int va_nil))) (va_im ve_str va_nil)))) ve_bl (nomark _)))))))
end
end Lw
namespace Dn
open PySem PySem.Spec PyProof.Rows L2
abbrev cI (i : Int) : Option L := some (.im (.int i))
abbrev cD (d : D) : Option L := some (.im d)
/-- the greatest divisor, by the loop -/
theorem gcd_loop : ∀ (n : Nat) (a b : Int), b.natAbs ≤ n → ∃ g : Int, g.natAbs = Int.gcd a b ∧
    dWhile (dCmp gNe (dVar 1) (dC (.int 0))) (dPar 0 1 (aIm (dVar 1) (aIm (dOp gMod (dVar 0) (dVar 1)) aNil))) [cI a, cI b] = .ok .nx [cI g, cI 0]
  | n, a, b, h => by
    rw [dWhile_turn]
    by_cases hb : b = 0
    · subst hb
      exact ⟨a, by simp, by simp⟩
    · cases n with
      | zero => omega
      | succ n =>
        have hlt : (a.fmod b).natAbs < b.natAbs := by
          rcases Int.lt_trichotomy b 0 with h1 | h1 | h1
          · have e : a.fmod b = -((-a).fmod (-b)) := by rw [Int.neg_fmod_neg]; omega
            rw [e, Int.natAbs_neg, Int.fmod_eq_emod_of_nonneg _ (by omega)]
            have h2 := Int.emod_nonneg (-a) (show -b ≠ 0 by omega)
            have h3 := Int.emod_lt_of_pos (-a) (show 0 < -b by omega)
            omega
          · exact absurd h1 hb
          · rw [Int.fmod_eq_emod_of_nonneg _ (by omega)]
            have h2 := Int.emod_nonneg a hb
            have h3 := Int.emod_lt_of_pos a h1
            omega
        obtain ⟨g, hg, e⟩ := gcd_loop n b (a.fmod b) (by omega)
        refine ⟨g, ?_, ?_⟩
        · rw [hg]
          have e1 : a.fmod b = a - b * a.fdiv b := by have := Int.fmod_add_mul_fdiv a b; omega
          rw [e1, Int.gcd_sub_mul_left_right, Int.gcd_comm]
        · simp [hb, gMod_of hb, e]
theorem pow60 : gPow (.int 10) (.int 60) = some (.int (10 ^ 60)) := gPow_of (by decide) (by decide) (by decide)
theorem pow59 : gPow (.int 10) (.int 59) = some (.int (10 ^ 59)) := gPow_of (by decide) (by decide) (by decide)
/-- a number in lowest terms, made of two ints -/
theorem lowest_of (top bottom : Int) (hb : 0 < bottom) (M : Nat) (h1 : top.natAbs < M) (h2 : bottom.natAbs < M) {n : Nat} (hM : M ≤ 2 ^ n) (hn : 0 < n) (h9 : n ≤ 9000) : ∃ t b : Int, 0 < b ∧ t.natAbs < M ∧ b.natAbs < M ∧ Int.gcd t b = 1 ∧ t * bottom = top * b ∧
    gFdiv (.int top) (.int (Int.gcd top bottom)) = some (.int t) ∧ gFdiv (.int bottom) (.int (Int.gcd top bottom)) = some (.int b) := by
  have hg : 0 < Int.gcd top bottom := Int.gcd_pos_of_ne_zero_right _ (by omega)
  have d1 := Int.gcd_dvd_left top bottom
  have d2 := Int.gcd_dvd_right top bottom
  have hle : Int.gcd top bottom ≤ bottom.natAbs := Nat.le_of_dvd (by omega) (by have := Int.natAbs_dvd_natAbs.mpr d2; simpa using this)
  have hgl : (Int.gcd top bottom : Int).natAbs < 2 ^ n := by
    rw [Int.natAbs_natCast]
    exact Nat.lt_of_le_of_lt hle (Nat.lt_of_lt_of_le h2 hM)
  refine ⟨top / Int.gcd top bottom, bottom / Int.gcd top bottom, ?_, ?_, ?_, ?_, ?_, gFdiv_pos (by omega) hgl hn h9, gFdiv_pos (by omega) hgl hn h9⟩
  · exact Int.ediv_pos_of_pos_of_dvd hb (by omega) d2
  · obtain ⟨q, hq⟩ := d1
    have e : top / (Int.gcd top bottom : Int) = q := by
      conv => lhs; lhs; rw [hq]
      exact Int.mul_ediv_cancel_left q (by omega)
    rw [e]
    have : top.natAbs = Int.gcd top bottom * q.natAbs := by
      conv => lhs; rw [hq]
      rw [Int.natAbs_mul]; rfl
    have h3 : q.natAbs ≤ Int.gcd top bottom * q.natAbs := Nat.le_mul_of_pos_left _ hg
    omega
  · obtain ⟨q, hq⟩ := d2
    have e : bottom / (Int.gcd top bottom : Int) = q := by
      conv => lhs; lhs; rw [hq]
      exact Int.mul_ediv_cancel_left q (by omega)
    rw [e]
    have : bottom.natAbs = Int.gcd top bottom * q.natAbs := by
      conv => lhs; rw [hq]
      rw [Int.natAbs_mul]; rfl
    have h3 : q.natAbs ≤ Int.gcd top bottom * q.natAbs := Nat.le_mul_of_pos_left _ hg
    omega
  · exact Int.gcd_ediv_gcd_ediv_gcd hg
  · obtain ⟨q, hq⟩ := d1
    obtain ⟨r, hr⟩ := d2
    have e1 : top / (Int.gcd top bottom : Int) = q := by
      conv => lhs; lhs; rw [hq]
      exact Int.mul_ediv_cancel_left q (by omega)
    have e2 : bottom / (Int.gcd top bottom : Int) = r := by
      conv => lhs; lhs; rw [hr]
      exact Int.mul_ediv_cancel_left r (by omega)
    rw [e1, e2]
    generalize (Int.gcd top bottom : Int) = g at hq hr
    rw [hq, hr]
    rw [Int.mul_comm g r, ← Int.mul_assoc, Int.mul_comm (q * r) g, ← Int.mul_assoc]
/-- the same over any bottom but 0 -/
theorem lowest_any (top bottom : Int) (hb : bottom ≠ 0) (M : Nat) (h1 : top.natAbs < M) (h2 : bottom.natAbs < M) {n : Nat} (hM : M ≤ 2 ^ n) (hn : 0 < n) (h9 : n ≤ 9000) : ∃ t b : Int, 0 < b ∧ t.natAbs < M ∧ b.natAbs < M ∧ Int.gcd t b = 1 ∧ t * bottom = top * b ∧
    gFdiv (.int top) (.int (if bottom < 0 then 0 - (Int.gcd top bottom : Int) else Int.gcd top bottom)) = some (.int t) ∧ gFdiv (.int bottom) (.int (if bottom < 0 then 0 - (Int.gcd top bottom : Int) else Int.gcd top bottom)) = some (.int b) := by
  by_cases h : bottom < 0
  · obtain ⟨t, b, c1, c2, c3, c4, c5, c6, c7⟩ := lowest_of (-top) (-bottom) (by omega) M (by omega) (by omega) hM hn h9
    rw [Int.neg_gcd, Int.gcd_neg] at c6 c7
    refine ⟨t, b, c1, c2, c3, c4, ?_, ?_, ?_⟩
    · rw [Int.mul_neg, Int.neg_mul] at c5; omega
    · have hg : (Int.gcd top bottom : Int) ≠ 0 := by have := Int.gcd_pos_of_ne_zero_right top hb; omega
      rw [if_pos h]
      have hl : (Int.gcd top bottom : Int).natAbs < 2 ^ n := by
        rw [Int.natAbs_natCast]
        have := Int.gcd_dvd_right top bottom
        have hle : Int.gcd top bottom ≤ bottom.natAbs := Nat.le_of_dvd (by omega) (by have := Int.natAbs_dvd_natAbs.mpr this; simpa using this)
        exact Nat.lt_of_le_of_lt hle (Nat.lt_of_lt_of_le h2 hM)
      rw [gFdiv_of (by omega) (show (0 - (Int.gcd top bottom : Int)).natAbs < 2 ^ n by rw [Int.zero_sub, Int.natAbs_neg]; exact hl) hn h9]
      rw [gFdiv_of hg hl hn h9] at c6
      have e : top.fdiv (0 - (Int.gcd top bottom : Int)) = (-top).fdiv (Int.gcd top bottom) := by
        rw [Int.zero_sub, ← Int.neg_fdiv_neg (-top), Int.neg_neg]
      rw [e]; exact c6
    · have hg : (Int.gcd top bottom : Int) ≠ 0 := by have := Int.gcd_pos_of_ne_zero_right top hb; omega
      rw [if_pos h]
      have hl : (Int.gcd top bottom : Int).natAbs < 2 ^ n := by
        rw [Int.natAbs_natCast]
        have := Int.gcd_dvd_right top bottom
        have hle : Int.gcd top bottom ≤ bottom.natAbs := Nat.le_of_dvd (by omega) (by have := Int.natAbs_dvd_natAbs.mpr this; simpa using this)
        exact Nat.lt_of_le_of_lt hle (Nat.lt_of_lt_of_le h2 hM)
      rw [gFdiv_of (by omega) (show (0 - (Int.gcd top bottom : Int)).natAbs < 2 ^ n by rw [Int.zero_sub, Int.natAbs_neg]; exact hl) hn h9]
      rw [gFdiv_of hg hl hn h9] at c7
      have e : bottom.fdiv (0 - (Int.gcd top bottom : Int)) = (-bottom).fdiv (Int.gcd top bottom) := by
        rw [Int.zero_sub, ← Int.neg_fdiv_neg (-bottom), Int.neg_neg]
      rw [e]; exact c7
  · rw [if_neg h]
    exact lowest_of top bottom (by omega) M h1 h2 hM hn h9
/-- a number as data -/
abbrev nD (t d : Int) : D := .tuple [.int t, .int d]
/-- over a range, by the turn -/
theorem forL_ix {g : D → En → R Unit} {b : En → R Fl} {f : Nat → D} {P : Nat → En → Prop} : ∀ (n k : Nat), (∀ i, k ≤ i → i < k + n → ∀ ρ, P i ρ → ∃ ρ1 ρ2, g (f i) ρ = .ok () ρ1 ∧ b ρ1 = .ok .nx ρ2 ∧ P (i + 1) ρ2) → ∀ ρ, P k ρ →
    ∃ ρ', dForL g b ((List.range' k n).map f) ρ = .ok .nx ρ' ∧ P (k + n) ρ'
  | 0, k, _, ρ, h => ⟨ρ, rfl, h⟩
  | n + 1, k, h, ρ, hp => by
    obtain ⟨ρ1, ρ2, e1, e2, p2⟩ := h k (Nat.le_refl _) (by omega) ρ hp
    obtain ⟨ρ', e, p'⟩ := forL_ix n (k + 1) (fun i h1 h2 => h i (by omega) (by omega)) ρ2 p2
    refine ⟨ρ', ?_, by rw [show k + (n + 1) = k + 1 + n by omega]; exact p'⟩
    rw [List.range'_succ, List.map_cons]
    show (g (f k) ρ).bind _ = _
    rw [e1]
    show (b ρ1).bind _ = _
    rw [e2]
    exact e
theorem forL_rng {g : D → En → R Unit} {b : En → R Fl} {lo : Int} {n : Nat} {P : Nat → En → Prop} (h : ∀ i, i < n → ∀ ρ, P i ρ → ∃ ρ1 ρ2, g (.int (lo + (i : Int))) ρ = .ok () ρ1 ∧ b ρ1 = .ok .nx ρ2 ∧ P (i + 1) ρ2) (ρ : En) (hp : P 0 ρ) :
    ∃ ρ', dForL g b (rngD lo n) ρ = .ok .nx ρ' ∧ P n ρ' := by
  obtain ⟨ρ', e, p⟩ := forL_ix (f := fun i => PyData.int (lo + (i : Int))) n 0 (fun i _ h2 => h i (by omega)) ρ hp
  refine ⟨ρ', ?_, by simpa using p⟩
  rw [rngD, List.range_eq_range']
  exact e
/-! what is the same is equal -/
mutual
theorem eqv_refl : ∀ {d : PyData}, d.canLay0 = true → PyData.eqv d d = true
  | .none, _ => by simp only [PyData.eqv]
  | .bool b, _ => by simp only [PyData.eqv]; simp
  | .int i, _ => by simp only [PyData.eqv]; simp
  | .str s, _ => by simp only [PyData.eqv]; simp
  | .list l, h => by
    simp only [PyData.eqv]
    exact eqvAll_refl (by simpa [PyData.canLay0] using h)
  | .tuple l, h => by
    simp only [PyData.eqv]
    exact eqvAll_refl (by simpa [PyData.canLay0] using h)
  | .dict l, h => by simp [PyData.canLay0] at h
theorem eqvAll_refl : ∀ {l : List PyData}, PyData.canLayAll0 l = true → PyData.eqvAll l l = true
  | [], _ => by simp only [PyData.eqvAll]
  | d :: l, h => by
    simp only [PyData.canLayAll0, Bool.and_eq_true] at h
    simp only [PyData.eqvAll, eqv_refl h.1, eqvAll_refl h.2, Bool.and_true]
end
theorem gEq_self {d : D} (h : shp d = true) : gEq d d = some true := by rw [gEq_of h h, eqv_refl (SeqAt.canLay_of_shaped h)]
theorem gNe_self {d : D} (h : shp d = true) : gNe d d = some false := by rw [gNe_of h h, eqv_refl (SeqAt.canLay_of_shaped h)]; rfl
theorem fm_congr {α β : Type} {f g : α → Option β} : ∀ {l : List α}, (∀ x ∈ l, f x = g x) → l.filterMap f = l.filterMap g
  | [], _ => rfl
  | a :: l, h => by rw [List.filterMap_cons, List.filterMap_cons, h a List.mem_cons_self, fm_congr fun x hx => h x (List.mem_cons_of_mem _ hx)]
/-- a comprehension whose turns change what stands about -/
theorem lcL_inv {t : D → En → R (Option D)} {vs : List Nat} {P : En → Prop} {S : D → Prop} : ∀ {ds acc : List D} {ρ : En}, (∀ d ∈ ds, ∀ ρ, P ρ → ∃ y ρ3, t d (wipeE ρ vs) = .ok (some y) ρ3 ∧ S y ∧ P (restE ρ ρ3 vs)) → P ρ → acc.length + ds.length ≤ sizeLine →
    ∃ ys ρ', lcL t vs ds acc ρ = .ok (acc ++ ys) ρ' ∧ ys.length = ds.length ∧ (∀ y ∈ ys, S y) ∧ P ρ'
  | [], acc, ρ, _, p, _ => ⟨[], ρ, by rw [lcL, List.append_nil], rfl, fun y h => by simp at h, p⟩
  | d :: ds, acc, ρ, h, p, hl => by
    obtain ⟨y, ρ3, e1, s1, p1⟩ := h d List.mem_cons_self ρ p
    have hl' : acc.length + (ds.length + 1) ≤ sizeLine := hl
    obtain ⟨ys, ρ', e2, l2, s2, p2⟩ := lcL_inv (acc := acc ++ [y]) (fun d hd => h d (List.mem_cons_of_mem _ hd)) p1 (by rw [List.length_append]; simp; omega)
    refine ⟨y :: ys, ρ', ?_, by simp [l2], fun z hz => ?_, p2⟩
    · rw [lcL, e1]
      show (if acc.length < sizeLine then lcL t vs ds (acc ++ [y]) (restE ρ ρ3 vs) else .no) = _
      rw [if_pos (by omega), e2]
      simp
    · rcases List.mem_cons.mp hz with q | q
      · subst q; exact s1
      · exact s2 z q
end Dn
namespace Dn
open PySem PySem.Spec PyProof.Rows L2
/-! ### texts by their signs -/
abbrev cS (a : List Nat) : Option L := some (.im (.str (SX.S a)))
theorem sLine {n : Nat} (h : n ≤ 1000000) : n ≤ sizeLine := by have := PySem.sizeLine_eq; omega
/-- signs below 128 -/
def okS (a : List Nat) : Prop := ∀ c ∈ a, c < 128
theorem okS.app {a b : List Nat} (h : okS a) (h2 : okS b) : okS (a ++ b) := fun c hc => (List.mem_append.mp hc).elim (h c) (h2 c)
theorem okS.take {a : List Nat} (h : okS a) (k : Nat) : okS (a.take k) := fun c hc => h c (List.mem_of_mem_take hc)
theorem okS.drop {a : List Nat} (h : okS a) (k : Nat) : okS (a.drop k) := fun c hc => h c (List.mem_of_mem_drop hc)
theorem okS.num (n : Nat) : okS (TL.numL n) := fun c hc => by have := TL.numL_digits n c hc; omega
theorem shpS {a : List Nat} (h : okS a) : shp (.str (SX.S a)) = true := by
  have : PyData.strOk (SX.S a) = true := by
    show (SX.S a).cps.all (· < 0x110000) = true
    rw [← Array.all_toList, List.all_eq_true]
    intro c hc
    have := h c hc
    exact decide_eq_true (by omega)
  unfold shp SeqAt.shaped
  simp only [PyData.canLay0, PyData.depth, this]
  rfl
theorem S_iff {a b : List Nat} : SX.S a = SX.S b ↔ a = b := ⟨SX.S_inj, fun h => by rw [h]⟩
theorem gEq_S {a b : List Nat} (ha : okS a) (hb : okS b) : gEq (.str (SX.S a)) (.str (SX.S b)) = some (decide (a = b)) := by rw [gEq_of (shpS ha) (shpS hb), eqv_ss]; simp only [S_iff]
theorem gNe_S {a b : List Nat} (ha : okS a) (hb : okS b) : gNe (.str (SX.S a)) (.str (SX.S b)) = some (!decide (a = b)) := by rw [gNe_of (shpS ha) (shpS hb), eqv_ss]; simp only [S_iff]
theorem gLen_S {a : List Nat} (h : a.length ≤ 1000000) : gLen1 (.str (SX.S a)) = some (.int a.length) := by
  show (if (SX.S a).length ≤ sizeLine then some (PyData.int (SX.S a).length) else none) = _
  rw [SX.S_len, if_pos (sLine h)]
theorem gAdd_S {a b : List Nat} (h : a.length + b.length ≤ 1000000) : gAdd (.str (SX.S a)) (.str (SX.S b)) = some (.str (SX.S (a ++ b))) := by
  show (if (SX.S a).length + (SX.S b).length ≤ sizeLine then some (PyData.str (SX.S a ++ SX.S b)) else none) = _
  rw [SX.S_len, SX.S_len, if_pos (sLine h), SX.S_cat]
theorem cut_take {α : Type} (ds : List α) (k : Nat) : (ds.drop (HT.sIx ds.length 0 none)).take (HT.sIx ds.length ds.length (some (k : Int)) - HT.sIx ds.length 0 none) = ds.take k := by
  rw [HT.sIx_none, HT.sIx_nat, List.drop_zero, Nat.sub_zero]
  by_cases h : k ≤ ds.length
  · rw [Nat.min_eq_left h]
  · rw [Nat.min_eq_right (by omega), List.take_of_length_le (by omega), List.take_of_length_le (by omega)]
theorem cut_drop {α : Type} (ds : List α) (k : Nat) : (ds.drop (HT.sIx ds.length 0 (some (k : Int)))).take (HT.sIx ds.length ds.length none - HT.sIx ds.length 0 (some (k : Int))) = ds.drop k := by
  rw [HT.sIx_none, HT.sIx_nat]
  by_cases h : k ≤ ds.length
  · rw [Nat.min_eq_left h, List.take_of_length_le (by rw [List.length_drop]; omega)]
  · rw [Nat.min_eq_right (by omega), Nat.sub_self, List.take_zero, List.drop_eq_nil_of_le (by omega)]
theorem gSl_to {a : List Nat} (h : a.length ≤ 1000000) (k : Nat) : gSl (.str (SX.S a)) none (some (k : Int)) = some (.str (SX.S (a.take k))) := by
  show (if (SX.S a).length ≤ sizeLine then some (PyData.str (cutS (SX.S a) none (some (k : Int)))) else none) = _
  rw [SX.S_len, if_pos (sLine h)]
  exact congrArg (fun z => some (PyData.str (SX.S z))) (cut_take a k)
theorem gSl_from {a : List Nat} (h : a.length ≤ 1000000) (k : Nat) : gSl (.str (SX.S a)) (some (k : Int)) none = some (.str (SX.S (a.drop k))) := by
  show (if (SX.S a).length ≤ sizeLine then some (PyData.str (cutS (SX.S a) (some (k : Int)) none)) else none) = _
  rw [SX.S_len, if_pos (sLine h)]
  exact congrArg (fun z => some (PyData.str (SX.S z))) (cut_drop a k)
theorem cut_mid {α : Type} (ds : List α) (i j : Nat) : (ds.drop (HT.sIx ds.length 0 (some (i : Int)))).take (HT.sIx ds.length ds.length (some (j : Int)) - HT.sIx ds.length 0 (some (i : Int))) = (ds.take j).drop i := by
  rw [HT.sIx_nat, HT.sIx_nat, List.drop_take]
  by_cases h : i ≤ ds.length
  · rw [Nat.min_eq_left h]
    by_cases h2 : j ≤ ds.length
    · rw [Nat.min_eq_left h2]
    · rw [Nat.min_eq_right (by omega), List.take_of_length_le (by rw [List.length_drop]; omega), List.take_of_length_le (by rw [List.length_drop]; omega)]
  · have e2 : ds.drop i = [] := List.drop_eq_nil_of_le (by omega)
    rw [Nat.min_eq_right (show ds.length ≤ i by omega), List.drop_length, e2]
    simp
theorem gSl_mid {a : List Nat} (h : a.length ≤ 1000000) (i j : Nat) : gSl (.str (SX.S a)) (some (i : Int)) (some (j : Int)) = some (.str (SX.S ((a.take j).drop i))) := by
  show (if (SX.S a).length ≤ sizeLine then some (PyData.str (cutS (SX.S a) (some (i : Int)) (some (j : Int)))) else none) = _
  rw [SX.S_len, if_pos (sLine h)]
  exact congrArg (fun z => some (PyData.str (SX.S z))) (cut_mid a i j)
theorem gIx_S {a : List Nat} (h : a.length ≤ 1000000) {k : Nat} (hk : k < a.length) : gIx (.str (SX.S a)) (.int (k : Int)) = some (.str (SX.S [a[k]])) := by
  show (if (SX.S a).length ≤ sizeLine then (L2.atI a (k : Int)).map (fun c => PyData.str ⟨#[c]⟩) else none) = _
  rw [SX.S_len, if_pos (sLine h), L2.atI_nat (List.getElem?_eq_getElem hk)]
  rfl
theorem gIn_S (c : Nat) (b : List Nat) : gIn (.str (SX.S [c])) (.str (SX.S b)) = some (decide (c ∈ b)) := rfl
theorem gNotIn_S (c : Nat) (b : List Nat) : gNotIn (.str (SX.S [c])) (.str (SX.S b)) = some (!decide (c ∈ b)) := rfl
theorem iD_S {f : En → R D} {ρ ρ' : En} {a : List Nat} (h : f ρ = .ok (.str (SX.S a)) ρ') : iD f ρ = .ok (a.map fun c => .str (SX.S [c])) ρ' := by
  rw [iD_eq, h]; rfl
theorem strD_S (a : List Nat) : strD (SX.S a) = a.map fun c => PyData.str (SX.S [c]) := rfl
theorem gInt_S {a : List Nat} (h : NumText.AllDigits a) (hne : a ≠ []) (hl : a.length ≤ 640) : gInt [.str (SX.S a)] = some (.int (NumText.digitsVal a)) := by
  show (if (SX.S a).length ≤ 640 then (PySem.intText? (SX.S a)).map PyData.int else none) = _
  rw [SX.S_len, if_pos hl, SX.int_S (by rw [List.all_eq_true]; intro c hc; have := h c hc; simp; omega) hne (by omega)]
  rfl
theorem log2_of {n k : Nat} (h : n < 2 ^ k) (hk : 0 < k) : n.log2 < k := by
  by_cases h0 : n = 0
  · subst h0; simpa using hk
  · exact (Nat.log2_lt h0).mpr h
theorem gStr_nat {n : Nat} {k : Nat} (h : n < 2 ^ k) (hk : 0 < k) (h9 : k ≤ 1920) : gStr [.int (n : Int)] = some (.str (SX.S (TL.numL n))) := by
  show (if (n : Int).natAbs.log2 < 1920 then some (PyData.str (toString (n : Int))) else none) = _
  have : (n : Int).natAbs.log2 < 1920 := Nat.lt_of_lt_of_le (log2_of (by simpa using h) hk) h9
  rw [if_pos this]
  exact congrArg (fun z => some (PyData.str z)) (SX.num_S n)
theorem gPart_S {a b : List Nat} (hb : b ≠ []) (h : a.length ≤ 1000000) : gPart (SX.S a) (.str (SX.S b)) = some (match TL.par b [] a with
    | some (p, q) => .tuple [.str (SX.S p), .str (SX.S b), .str (SX.S q)]
    | none => .tuple [.str (SX.S a), .str (SX.S []), .str (SX.S [])]) := by
  have h1 : ((SX.S b).length == 0) = false := by
    rw [SX.S_len]
    cases b with
    | nil => exact absurd rfl hb
    | cons c r => rfl
  show (if ((SX.S b).length == 0) = false ∧ (SX.S a).length ≤ sizeLine then some (PyData.tuple [.str (Txt.partition (SX.S a) (SX.S b)).1, .str (Txt.partition (SX.S a) (SX.S b)).2.1, .str (Txt.partition (SX.S a) (SX.S b)).2.2]) else none) = _
  rw [if_pos ⟨h1, by rw [SX.S_len]; exact sLine h⟩]
  cases q : TL.par b [] a with
  | none => rw [SX.partition_none hb q]
  | some z => obtain ⟨p, r⟩ := z; rw [SX.partition_some hb q]
def intL (t : Int) : List Nat := if t < 0 then 45 :: TL.numL t.natAbs else TL.numL t.natAbs
theorem toS_neg (n : Nat) : Str.ofString (toString (Int.negSucc n)) = SX.S (45 :: TL.numL (n + 1)) := by
  refine TL.ext_tl ?_
  show (Str.ofString _).cps.toList = _
  rw [PyProof.Rows.signs_ofString]
  show (("-" : String) ++ Nat.repr (n + 1)).toList.map Char.toNat = _
  rw [String.toList_append, List.map_append, Nat.toList_repr]
  rfl
theorem toS_int (t : Int) : Str.ofString (toString t) = SX.S (intL t) := by
  cases t with
  | ofNat n => exact SX.num_S n
  | negSucc n =>
    have e : intL (Int.negSucc n) = 45 :: TL.numL (n + 1) := by unfold intL; rw [if_pos (Int.negSucc_lt_zero n)]; rfl
    rw [toS_neg, e]
theorem gStr_int {t : Int} {k : Nat} (h : t.natAbs < 2 ^ k) (hk : 0 < k) (h9 : k ≤ 1920) : gStr [.int t] = some (.str (SX.S (intL t))) := by
  show (if t.natAbs.log2 < 1920 then some (PyData.str (toString t)) else none) = _
  have : t.natAbs.log2 < 1920 := Nat.lt_of_lt_of_le (log2_of h hk) h9
  rw [if_pos this]
  exact congrArg (fun z => some (PyData.str z)) (toS_int t)
theorem okS.int (t : Int) : okS (intL t) := fun c hc => by
  unfold intL at hc
  split at hc
  · rcases List.mem_cons.mp hc with h | h
    · omega
    · exact okS.num _ c h
  · exact okS.num _ c hc
@[simp] theorem gIs_bool (a b : Bool) : gIs (.bool a) (.bool b) = some (decide (a = b)) := rfl
@[simp] theorem gIsNot_bool (a b : Bool) : gIsNot (.bool a) (.bool b) = some (!decide (a = b)) := rfl
theorem gSl_any {a : List Nat} (h : a.length ≤ 1000000) (ok : okS a) (lo hi : Option Int) : ∃ b, okS b ∧ b.length ≤ a.length ∧ gSl (.str (SX.S a)) lo hi = some (.str (SX.S b)) := by
  refine ⟨(a.drop (HT.sIx a.length 0 lo)).take (HT.sIx a.length a.length hi - HT.sIx a.length 0 lo), (ok.drop _).take _, ?_, ?_⟩
  · rw [List.length_take, List.length_drop]; omega
  · show (if (SX.S a).length ≤ sizeLine then some (PyData.str (cutS (SX.S a) lo hi)) else none) = _
    rw [SX.S_len, if_pos (sLine h)]
    rfl
end Dn
namespace Lw
open PySem PySem.Spec PyProof.Rows L2 Dn
theorem law_cell_at_eq (ns : List Int) (k : Nat) : m_law_cell_at [cD (scriptD ns), cI k] = .ok (.im (.int (ns.getD k 0))) [cD (scriptD ns), cI k] := by
  simp only [m_law_cell_at, b_law_cell_at, dDef_eq, dSeq_eq]
  simp [scriptD, gLen1]
  by_cases h : k < ns.length
  · rw [if_pos h]
    have : L2.atI (ns.map PyData.int) (k : Int) = some (.int ns[k]) := atI_of (by simp [h])
    simp [this, h]
  · rw [if_neg h]
    simp [h]
/-- a source: what is left of a cell, a seed -/
abbrev srcD (r s : Int) : List D := [.int r, .int s]
theorem setI0 (r s : Int) (c : Int) (ρ : En) : setK (some 0) (.bo (srcD r s)) (srcD r s) (.int c) 0 ρ = .ok .nx (ρ.set 0 (some (.bo (srcD c s)))) := rfl
theorem setI1 (r s : Int) (c : Int) (ρ : En) : setK (some 1) (.bo (srcD r s)) (srcD r s) (.int c) 0 ρ = .ok .nx (ρ.set 0 (some (.bo (srcD r c)))) := rfl
theorem draw_eq (r s many : Int) (hr : 0 ≤ r) (hs : 0 ≤ s) (hs2 : s < 2147483648) (hm : 0 < many) (hm2 : many.natAbs < 2 ^ 200) : ∃ r' s' v : Int, 0 ≤ r' ∧ 0 ≤ s' ∧ s' < 2147483648 ∧ 0 ≤ v ∧ v < many ∧
    m_law_draw [some (.bo (srcD r s)), cI many] = .ok (.im (.int v)) [some (.bo (srcD r' s')), cI many] := by
  simp only [m_law_draw, b_law_draw, dDef_eq, dSeq_eq]
  by_cases h : 0 < r
  · have q : gMod (.int r) (.int many) = some (.int (r % many)) := gMod_pos hm
    have f : gFdiv (.int r) (.int many) = some (.int (r / many)) := gFdiv_pos (n := 200) hm hm2 (by decide) (by decide)
    refine ⟨r / many, s, r % many, Int.ediv_nonneg hr (by omega), hs, hs2, Int.emod_nonneg r (by omega), Int.emod_lt_of_pos r hm, ?_⟩
    simp [h, q, f, setI0]
  · have g : gMul (.int s) (.int 48271) = some (.int (s * 48271)) := gMul_of (m := 40) (n := 40) (by omega) (by decide) (by decide) (by decide) (by decide)
    have q : gMod (.int (s * 48271 + 11)) (.int 2147483647) = some (.int ((s * 48271 + 11) % 2147483647)) := gMod_pos (by decide)
    have p1 := Int.emod_nonneg (s * 48271 + 11) (show (2147483647 : Int) ≠ 0 by decide)
    have p2 := Int.emod_lt_of_pos (s * 48271 + 11) (show (0 : Int) < 2147483647 by decide)
    generalize (s * 48271 + 11) % 2147483647 = z at q p1 p2
    have g2 : gMul (.int z) (.int z) = some (.int (z * z)) := gMul_of (m := 40) (n := 40) (by omega) (by omega) (by decide) (by decide) (by decide)
    have q2 : gMod (.int (z * z)) (.int 2147483629) = some (.int (z * z % 2147483629)) := gMod_pos (by decide)
    have f2 : gFdiv (.int (z * z % 2147483629)) (.int 64) = some (.int (z * z % 2147483629 / 64)) := gFdiv_pos (n := 10) (by decide) (by decide) (by decide) (by decide)
    have q3 : gMod (.int (z * z % 2147483629 / 64)) (.int many) = some (.int (z * z % 2147483629 / 64 % many)) := gMod_pos hm
    refine ⟨r, z, z * z % 2147483629 / 64 % many, hr, p1, by omega, Int.emod_nonneg _ (by omega), Int.emod_lt_of_pos _ hm, ?_⟩
    simp [h, g, q, g2, q2, f2, q3, setI1]
/-- a draw in a def that has the source at its first slot -/
theorem drawn (x : Option L) (ρ : En) (r s : Int) (hρ : ρ[0]? = some (some (.bo (srcD r s)))) (fm : En → R D) (many : Int) (hf : fm ρ = .ok (.int many) ρ) (hr : 0 ≤ r) (hs : 0 ≤ s) (hs2 : s < 2147483648) (hm : 0 < many) (hm2 : many.natAbs < 2 ^ 200) :
    ∃ r' s' v : Int, 0 ≤ r' ∧ 0 ≤ s' ∧ s' < 2147483648 ∧ 0 ≤ v ∧ v < many ∧ dFn 2 m_law_draw (aSl 0 (aIm fm aNil)) ρ = .ok (.int v) (ρ.set 0 (some (.bo (srcD r' s')))) := by
  obtain ⟨r', s', v, h1, h2, h3, h4, h5, e⟩ := draw_eq r s many hr hs hs2 hm hm2
  refine ⟨r', s', v, h1, h2, h3, h4, h5, ?_⟩
  simp [hρ, hf, lend, slotsOf, lendL, giveB, L.mine, e]
theorem joinL_one : ∀ cs : List Nat, TL.joinL [] (cs.map fun c => [c]) = cs
  | [] => rfl
  | [c] => rfl
  | c :: d :: r => by
    have ih := joinL_one (d :: r)
    show [c] ++ [] ++ TL.joinL [] ((d :: r).map fun c => [c]) = _
    rw [ih]; rfl
theorem join_signs (cs : List Nat) : Txt.join (SX.S []) (cs.map fun c => SX.S [c]) = SX.S cs := by
  have := SX.join_S [] (cs.map fun c => [c])
  rw [List.map_map, joinL_one] at this
  exact this
theorem signs_of : ∀ {ys : List D}, (∀ y ∈ ys, ∃ c, c < 128 ∧ y = .str (SX.S [c])) → ∃ cs : List Nat, okS cs ∧ cs.length = ys.length ∧ ys = cs.map fun c => .str (SX.S [c])
  | [], _ => ⟨[], fun c h => by simp at h, rfl, rfl⟩
  | y :: ys, h => by
    obtain ⟨c, hc, rfl⟩ := h y List.mem_cons_self
    obtain ⟨cs, h1, h2, rfl⟩ := signs_of (ys := ys) fun y hy => h y (List.mem_cons_of_mem _ hy)
    refine ⟨c :: cs, fun d hd => ?_, by simp, rfl⟩
    rcases List.mem_cons.mp hd with q | q
    · subst q; exact hc
    · exact h1 d q
theorem gJoin_signs {cs : List Nat} (h : cs.length ≤ 1000) : gJoin (SX.S []) (.list (cs.map fun c => .str (SX.S [c]))) = some (.str (SX.S cs)) := by
  show gJoinL _ _ = _
  unfold gJoinL
  rw [strs_map' (fun c => SX.S [c])]
  show (if _ then _ else _) = _
  rw [join_signs, if_pos]
  have : ((cs.map fun c => SX.S [c]).map (·.length)).sum = cs.length := by
    induction cs with
    | nil => rfl
    | cons c r ih =>
      rw [List.map_cons, List.map_cons, List.sum_cons, ih (by simp at h; omega), SX.S_len]
      simp; omega
  rw [this, SX.S_len]
  simp; omega
def sgL : List Nat := [48, 49, 50, 51, 52, 53, 54, 55, 56, 57, 45, 47, 97, 98, 99, 120, 121, 122]
theorem strSgL : ("0123456789-/abcxyz" : Str) = SX.S sgL := by rfl
theorem str0 : ("" : Str) = SX.S [] := by rfl
/-- a source that stands at a slot -/
structure Src (c : Option (Option L)) : Prop where
  ex : ∃ r s : Int, 0 ≤ r ∧ 0 ≤ s ∧ s < 2147483648 ∧ c = some (some (.bo (srcD r s)))
theorem sign_turn (ls : List D) (x3 : Option L) (d : D) (ρ : En) (hp : ∃ r s : Int, 0 ≤ r ∧ 0 ≤ s ∧ s < 2147483648 ∧ ρ = [some (.bo (srcD r s)), cS sgL, some (.ow ls), x3, none]) :
    ∃ y ρ3, b_law_labels_l1 d (wipeE ρ [4]) = .ok (some y) ρ3 ∧ (∃ c, c < 128 ∧ y = .str (SX.S [c])) ∧ (∃ r s : Int, 0 ≤ r ∧ 0 ≤ s ∧ s < 2147483648 ∧ restE ρ ρ3 [4] = [some (.bo (srcD r s)), cS sgL, some (.ow ls), x3, none]) := by
  obtain ⟨r, s, h1, h2, h3, rfl⟩ := hp
  obtain ⟨r', s', v, k1, k2, k3, k4, k5, e⟩ := drawn none [some (.bo (srcD r s)), cS sgL, some (.ow ls), x3, cD d] r s rfl (dC (.int 18)) 18 rfl h1 h2 h3 (by decide) (by decide)
  obtain ⟨n, rfl⟩ : ∃ n : Nat, v = n := ⟨v.toNat, by omega⟩
  have hn : n < sgL.length := by show n < 18; omega
  have ix := gIx_S (a := sgL) (by decide) (k := n) hn
  have hs : sgL[n]'hn < 128 := by
    have : ∀ j : Fin 18, sgL[j.val]'j.isLt < 128 := by decide
    exact this ⟨n, by omega⟩
  generalize sgL[n]'hn = c at ix hs
  refine ⟨.str (SX.S [c]), [some (.bo (srcD r' s')), cS sgL, some (.ow ls), x3, cD d], ?_, ⟨c, hs, rfl⟩, r', s', k1, k2, k3, by simp [restE]⟩
  unfold b_law_labels_l1
  rw [lcT_eq]
  simp only [wipeE]
  show (putIm 4 d [some (.bo (srcD r s)), cS sgL, some (.ow ls), x3, none]).bind _ = _
  simp only [putIm_eq]
  show (dIxN 1 (dFn 2 m_law_draw (aSl 0 (aIm (dC (.int 18)) aNil))) [some (.bo (srcD r s)), cS sgL, some (.ow ls), x3, cD d]).bind _ = _
  unfold dIxN
  rw [atSlot_eq, e]
  simp [ix]
theorem label_turn (ls : List D) (hls : ls.length < 1000) (x3 : Option L) (ρ : En) (hp : ∃ r s : Int, 0 ≤ r ∧ 0 ≤ s ∧ s < 2147483648 ∧ ρ = [some (.bo (srcD r s)), cS sgL, some (.ow ls), x3, none]) :
    ∃ cs : List Nat, okS cs ∧ cs.length ≤ 16 ∧ ∃ ρ', b_law_labels_l2 ρ = .ok .nx ρ' ∧ ∃ r s : Int, 0 ≤ r ∧ 0 ≤ s ∧ s < 2147483648 ∧ ρ' = [some (.bo (srcD r s)), cS sgL, some (.ow (ls ++ [.str (SX.S cs)])), x3, none] := by
  obtain ⟨r, s, h1, h2, h3, rfl⟩ := hp
  obtain ⟨r', s', v, k1, k2, k3, k4, k5, e⟩ := drawn none [some (.bo (srcD r s)), cS sgL, some (.ow ls), x3, none] r s rfl (dC (.int 17)) 17 rfl h1 h2 h3 (by decide) (by decide)
  obtain ⟨n, rfl⟩ : ∃ n : Nat, v = n := ⟨v.toNat, by omega⟩
  have hl : (rngD 0 n).length = n := by simp [rngD]
  obtain ⟨ys, ρ', L, l2, s2, r2, t2, q1, q2, q3, rfl⟩ := lcL_inv (t := b_law_labels_l1) (vs := [4]) (ds := rngD 0 n) (acc := []) (ρ := [some (.bo (srcD r' s')), cS sgL, some (.ow ls), x3, none])
    (P := fun ρ => ∃ r s : Int, 0 ≤ r ∧ 0 ≤ s ∧ s < 2147483648 ∧ ρ = [some (.bo (srcD r s)), cS sgL, some (.ow ls), x3, none]) (S := fun y => ∃ c, c < 128 ∧ y = .str (SX.S [c]))
    (fun d _ ρ hp => sign_turn ls x3 d ρ hp) ⟨r', s', k1, k2, k3, rfl⟩ (by have := PySem.sizeLine_eq; rw [hl]; simp; omega)
  obtain ⟨cs, o1, o2, rfl⟩ := signs_of s2
  have hz : ls.length < sizeLine := by have := PySem.sizeLine_eq; omega
  have hcs : cs.length ≤ 16 := by rw [o2, l2, hl]; omega
  have J := gJoin_signs (cs := cs) (by omega)
  have r1 : Dn.inR (n : Int) := inR_of (by omega) (by omega)
  rw [List.nil_append] at L
  refine ⟨cs, o1, hcs, _, ?_, r2, t2, q1, q2, q3, rfl⟩
  have I : iRg1 (aIm (dFn 2 m_law_draw (aSl 0 (aIm (dC (.int 17)) aNil))) aNil) [some (.bo (srcD r s)), cS sgL, some (.ow ls), x3, none] = .ok (rngD 0 n) [some (.bo (srcD r' s')), cS sgL, some (.ow ls), x3, none] := by
    rw [iRg1_eq]
    simp [-dFn_eq, e, r1]
  have N : nLc (iRg1 (aIm (dFn 2 m_law_draw (aSl 0 (aIm (dC (.int 17)) aNil))) aNil)) b_law_labels_l1 [4] [some (.bo (srcD r s)), cS sgL, some (.ow ls), x3, none] = .ok (cs.map fun c => .str (SX.S [c])) [some (.bo (srcD r2 t2)), cS sgL, some (.ow ls), x3, none] := by
    rw [nLc_eq, I]
    simp [immE, L]
  have M : dM1 gJoin (dC (.str "")) (dFz (nLc (iRg1 (aIm (dFn 2 m_law_draw (aSl 0 (aIm (dC (.int 17)) aNil))) aNil)) b_law_labels_l1 [4])) [some (.bo (srcD r s)), cS sgL, some (.ow ls), x3, none] = .ok (.str (SX.S cs)) [some (.bo (srcD r2 t2)), cS sgL, some (.ow ls), x3, none] := by
    rw [dM1_eq, str0]
    show (dFz _ _).bind _ = _
    rw [dFz_eq, N]
    simp [J]
  unfold b_law_labels_l2
  rw [dApp_eq]
  simp [-dM1_eq, M, hz]
def wD (ws : List (List Nat)) : List D := ws.map fun a => .str (SX.S a)
theorem labels_loop : ∀ (n : Nat) (ws : List (List Nat)) (r s : Int) (x3 : Option L), free (some x3) = true → 0 ≤ r → 0 ≤ s → s < 2147483648 → ws.length + n ≤ 900 → (∀ a ∈ ws, okS a ∧ a.length ≤ 16) → ∀ k : Nat,
    ∃ (ws' : List (List Nat)) (r' s' : Int) (x3' : Option L), 0 ≤ r' ∧ 0 ≤ s' ∧ s' < 2147483648 ∧ ws'.length = ws.length + n ∧ (∀ a ∈ ws', okS a ∧ a.length ≤ 16) ∧
      dForL (putIm 3) b_law_labels_l2 ((List.range' k n).map fun (i : Nat) => PyData.int (0 + (i : Int))) [some (.bo (srcD r s)), cS sgL, some (.ow (wD ws)), x3, none] = .ok .nx [some (.bo (srcD r' s')), cS sgL, some (.ow (wD ws')), x3', none]
  | 0, ws, r, s, x3, hx, h1, h2, h3, h4, h5, k => ⟨ws, r, s, x3, h1, h2, h3, rfl, h5, rfl⟩
  | n + 1, ws, r, s, x3, hx, h1, h2, h3, h4, h5, k => by
    obtain ⟨cs, o1, o2, ρ', e, r2, s2, q1, q2, q3, rfl⟩ := label_turn (wD ws) (by simp [wD]; omega) (cI (0 + (k : Int))) [some (.bo (srcD r s)), cS sgL, some (.ow (wD ws)), cI (0 + (k : Int)), none] ⟨r, s, h1, h2, h3, rfl⟩
    have ew : wD ws ++ [.str (SX.S cs)] = wD (ws ++ [cs]) := by simp [wD]
    rw [ew] at e
    obtain ⟨ws', r', s', x3', a1, a2, a3, a4, a5, a6⟩ := labels_loop n (ws ++ [cs]) r2 s2 (cI (0 + (k : Int))) rfl q1 q2 q3 (by simp; omega) (fun a ha => by rcases List.mem_append.mp ha with z | z; exact h5 a z; simp at z; subst z; exact ⟨o1, o2⟩) (k + 1)
    refine ⟨ws', r', s', x3', a1, a2, a3, by rw [a4]; simp; omega, a5, ?_⟩
    rw [List.range'_succ, List.map_cons]
    show (putIm 3 (.int (0 + (k : Int))) [some (.bo (srcD r s)), cS sgL, some (.ow (wD ws)), x3, none]).bind _ = _
    rw [putIm_eq]
    show (if free (some x3) = true then _ else _ : R Unit).bind _ = _
    rw [if_pos hx]
    show (b_law_labels_l2 [some (.bo (srcD r s)), cS sgL, some (.ow (wD ws)), cI (0 + (k : Int)), none]).bind _ = _
    rw [e]
    exact a6
theorem law_labels_eq (r s : Int) (h1 : 0 ≤ r) (h2 : 0 ≤ s) (h3 : s < 2147483648) : ∃ (ws : List (List Nat)) (r' s' : Int), 0 ≤ r' ∧ 0 ≤ s' ∧ s' < 2147483648 ∧ ws.length ≤ 10 ∧ (∀ a ∈ ws, okS a ∧ a.length ≤ 16) ∧
    m_law_labels [some (.bo (srcD r s))] = .ok (.ow (wD ws)) [some (.bo (srcD r' s'))] := by
  obtain ⟨r1, s1, v, k1, k2, k3, k4, k5, e⟩ := drawn none [some (.bo (srcD r s)), cS sgL, some (.ow []), none, none] r s rfl (dC (.int 11)) 11 rfl h1 h2 h3 (by decide) (by decide)
  obtain ⟨n, rfl⟩ : ∃ n : Nat, v = n := ⟨v.toNat, by omega⟩
  obtain ⟨ws, r', s', x3, a1, a2, a3, a4, a5, a6⟩ := labels_loop n [] r1 s1 none rfl k1 k2 k3 (by simp; omega) (fun a h => by simp at h) 0
  rw [← List.range_eq_range'] at a6
  have q : Dn.inR (n : Int) := inR_of (by omega) (by omega)
  have a6' : dForL (putIm 3) b_law_labels_l2 (rngD 0 n) [some (.bo (srcD r1 s1)), cS sgL, some (.ow []), none, none] = .ok .nx [some (.bo (srcD r' s')), cS sgL, some (.ow (wD ws)), x3, none] := a6
  refine ⟨ws, r', s', a1, a2, a3, by rw [a4]; simp; omega, a5, ?_⟩
  have I : iRg1 (aIm (dFn 2 m_law_draw (aSl 0 (aIm (dC (.int 11)) aNil))) aNil) [some (.bo (srcD r s)), cS sgL, some (.ow []), none, none] = .ok (rngD 0 n) [some (.bo (srcD r1 s1)), cS sgL, some (.ow []), none, none] := by
    rw [iRg1_eq]
    simp [-dFn_eq, e, q]
  simp only [m_law_labels, b_law_labels, dDef_eq, dSeq_eq]
  rw [strSgL]
  simp [-iRg1_eq, I, a6']
theorem low_loop (x y : Option L) : ∀ (n a b : Nat), b ≤ n → dWhile (dCmp gGt (dVar 3) (dC (.int 0))) b_law_low_l1 [x, y, cI (a : Int), cI (b : Int)] = .ok .nx [x, y, cI ((Nat.gcd a b : Nat) : Int), cI 0]
  | n, a, b, h => by
    rw [dWhile_turn]
    by_cases hb : b = 0
    · subst hb
      simp
    · cases n with
      | zero => omega
      | succ n =>
        have hlt : a % b < b := Nat.mod_lt _ (by omega)
        have ih := low_loop x y n b (a % b) (by omega)
        have e : Nat.gcd b (a % b) = Nat.gcd a b := by rw [Nat.gcd_comm a b, Nat.gcd_rec b a, Nat.gcd_comm]
        rw [e] at ih
        have q : gMod (.int (a : Int)) (.int (b : Int)) = some (.int ((a % b : Nat) : Int)) := by rw [gMod_pos (by omega)]; rfl
        have hp : (0 : Int) < (b : Int) := by omega
        have b1 : b_law_low_l1 [x, y, cI (a : Int), cI (b : Int)] = .ok .nx [x, y, cI (b : Int), cI ((a % b : Nat) : Int)] := by
          generalize ((a % b : Nat) : Int) = z at q
          simp [b_law_low_l1, q]
        generalize ((a % b : Nat) : Int) = z at b1 ih
        simp [hb, b1, ih]
theorem law_low_eq (top bottom : Int) (hb : 0 < bottom) (h1 : top.natAbs < 2 ^ 100) (h2 : bottom.natAbs < 2 ^ 100) : ∃ t d : Int, 0 < d ∧ Int.gcd t d = 1 ∧ t * bottom = top * d ∧ t.natAbs < 2 ^ 100 ∧ d.natAbs < 2 ^ 100 ∧ m_law_low [cI top, cI bottom] = .ok (.im (nD t d)) [cI top, cI bottom] := by
  obtain ⟨t, d, c1, c2, c3, c4, c5, c6, c7⟩ := lowest_of top bottom hb (2 ^ 100) h1 h2 (n := 100) (Nat.le_refl _) (by decide) (by decide)
  refine ⟨t, d, c1, c4, c5, c2, c3, ?_⟩
  have L := low_loop (cI top) (cI bottom) bottom.natAbs top.natAbs bottom.natAbs (Nat.le_refl _)
  have eb : ((bottom.natAbs : Nat) : Int) = bottom := by omega
  have ea : (if top < 0 then -top else top) = ((top.natAbs : Nat) : Int) := by split <;> omega
  have eg : Nat.gcd top.natAbs bottom.natAbs = Int.gcd top bottom := rfl
  rw [eb, eg] at L
  simp only [m_law_low, b_law_low, dDef_eq, dSeq_eq]
  simp [ea, L, c6, c7]
/-- the longest label -/
def lg (ws : List (List Nat)) : Nat := (ws.map (·.length)).foldr max 0
theorem lg_le (ws : List (List Nat)) : ∀ a ∈ ws, a.length ≤ lg ws := by
  induction ws with
  | nil => intro a h; simp at h
  | cons b ws ih =>
    intro a h
    show a.length ≤ max b.length (lg ws)
    rcases List.mem_cons.mp h with q | q
    · subst q; omega
    · have := ih a q; omega
theorem lg_mem (ws : List (List Nat)) : lg ws = 0 ∨ ∃ a ∈ ws, a.length = lg ws := by
  induction ws with
  | nil => exact .inl rfl
  | cons b ws ih =>
    have e : lg (b :: ws) = max b.length (lg ws) := rfl
    by_cases h : lg ws ≤ b.length
    · exact .inr ⟨b, List.mem_cons_self, by rw [e]; omega⟩
    · rcases ih with z | ⟨a, ha, z⟩
      · omega
      · exact .inr ⟨a, List.mem_cons_of_mem _ ha, by rw [e]; omega⟩
theorem lg_bound {ws : List (List Nat)} {n : Nat} (h : ∀ a ∈ ws, a.length ≤ n) : lg ws ≤ n := by
  rcases lg_mem ws with z | ⟨a, ha, z⟩
  · omega
  · have := h a ha; omega
theorem max_lens (ws : List (List Nat)) (hne : ws ≠ []) : (ws.map fun a => (a.length : Int)).max? = some (lg ws : Int) := by
  rw [List.max?_eq_some_iff]
  refine ⟨?_, fun b hb => ?_⟩
  · rcases lg_mem ws with z | ⟨a, ha, z⟩
    · cases ws with
      | nil => exact absurd rfl hne
      | cons b ws =>
        have := lg_le (b :: ws) b List.mem_cons_self
        exact List.mem_map.mpr ⟨b, List.mem_cons_self, by omega⟩
    · exact List.mem_map.mpr ⟨a, ha, by rw [z]⟩
  · obtain ⟨a, ha, rfl⟩ := List.mem_map.mp hb
    have := lg_le ws a ha
    omega
theorem max_lens0 (ws : List (List Nat)) : ((0 : Int) :: ws.map fun a => (a.length : Int)).max? = some (lg ws : Int) := by
  rw [List.max?_eq_some_iff]
  refine ⟨?_, fun b hb => ?_⟩
  · rcases lg_mem ws with z | ⟨a, ha, z⟩
    · rw [z]; exact List.mem_cons_self
    · exact List.mem_cons_of_mem _ (List.mem_map.mpr ⟨a, ha, by rw [z]⟩)
  · rcases List.mem_cons.mp hb with q | q
    · subst q; omega
    · obtain ⟨a, ha, rfl⟩ := List.mem_map.mp q
      have := lg_le ws a ha
      omega
theorem strUp : ("upright" : Str) = SX.S [117, 112, 114, 105, 103, 104, 116] := by rfl
theorem strLv : ("level" : Str) = SX.S [108, 101, 118, 101, 108] := by rfl
theorem upUp : gEq (.str "upright") (.str "upright") = some true := by rw [strUp, gEq_S (by unfold okS; decide) (by unfold okS; decide)]; rfl
theorem lvUp : gEq (.str "level") (.str "upright") = some false := by rw [strUp, strLv, gEq_S (by unfold okS; decide) (by unfold okS; decide)]; rfl
theorem gmul {a b : Int} (ha : a.natAbs < 2 ^ 200) (hb : b.natAbs < 2 ^ 200) : gMul (.int a) (.int b) = some (.int (a * b)) := gMul_of ha hb (by decide) (by decide) (by decide)
theorem under_eq {a b c d : Int} (ha : a.natAbs < 2 ^ 200) (hb : b.natAbs < 2 ^ 200) (hc : c.natAbs < 2 ^ 200) (hd : d.natAbs < 2 ^ 200) : m_under [cD (nD a b), cD (nD c d)] = .ok (.im (.bool (decide (a * d < c * b)))) [cD (nD a b), cD (nD c d)] := by
  have g1 := gmul ha hd
  have g2 := gmul hc hb
  simp only [m_under, b_under, dDef_eq, dSeq_eq]
  simp [g1, g2]
theorem widest_eq {ws : List (List Nat)} (h : ∀ a ∈ ws, a.length ≤ 1000) (hl : ws.length ≤ 1000) : m_widest_of [cD (.list (wD ws))] = .ok (.im (.int (6 * lg ws))) [cD (.list (wD ws))] := by
  have hb : lg ws ≤ 1000 := lg_bound h
  have L := lcL_map (t := b_widest_of_l1) (vs := [1]) (f := fun d => match d with | .str s => .int s.length | _ => .none) (ρ := [cD (.list (wD ws)), none]) (ds := wD ws)
    (fun d hd => by
      simp only [wD, List.mem_map] at hd
      obtain ⟨a, ha, rfl⟩ := hd
      have gl := gLen_S (a := a) (by have := h a ha; omega)
      refine ⟨[cD (.list (wD ws)), cS a], ?_, by simp [restE]⟩
      simp [b_widest_of_l1, wipeE, gl, SX.S_len]) (by have := PySem.sizeLine_eq; simp [wD]; omega)
  have em : (wD ws).map (fun d => match d with | .str s => PyData.int s.length | _ => .none) = (ws.map fun a => (a.length : Int)).map PyData.int := by
    simp [wD, SX.S_len]
  rw [em] at L
  have g : gMul (.int 6) (.int (lg ws : Int)) = some (.int (6 * lg ws)) := gmul (by decide) (by omega)
  have gm : gMaxDf (.list ((ws.map fun a => (a.length : Int)).map PyData.int)) (.int 0) = some (.int (lg ws)) := by
    rw [gMaxDf_list, Dn.ints_map]
    show some _ = _
    cases ws with
    | nil => rfl
    | cons a r => rw [max_lens (a :: r) (by simp)]
  generalize (ws.map fun a => (a.length : Int)).map PyData.int = M at L gm
  simp only [m_widest_of, b_widest_of, dDef_eq, dSeq_eq]
  simp [immE, L, gm, g]
theorem mul_lt {a b : Int} {m n : Nat} (ha : a.natAbs < 2 ^ m) (hb : b.natAbs < 2 ^ n) : (a * b).natAbs < 2 ^ (m + n) := by
  rw [Int.natAbs_mul, Nat.pow_add]
  exact Nat.mul_lt_mul'' ha hb
structure SrcT where
  r : Int
  s : Int
  h1 : 0 ≤ r
  h2 : 0 ≤ s
  h3 : s < 2147483648
abbrev sD (x : SrcT) : Option Dn.L := some (.bo (srcD x.r x.s))
theorem draw_ex (x : SrcT) (m : Int) (h : 0 < m) (h2 : m < 2 ^ 200) : ∃ (v : Int) (y : SrcT), 0 ≤ v ∧ v < m ∧ m_law_draw [sD x, cI m] = .ok (.im (.int v)) [sD y, cI m] := by
  obtain ⟨r', s', v, a1, a2, a3, a4, a5, e⟩ := draw_eq x.r x.s m x.h1 x.h2 x.h3 h (by omega)
  exact ⟨v, ⟨r', s', a1, a2, a3⟩, a4, a5, e⟩
open Classical in
noncomputable def drawV (x : SrcT) (m : Int) : Int := if h : 0 < m ∧ m < 2 ^ 200 then (draw_ex x m h.1 h.2).choose else 0
open Classical in
noncomputable def drawN (x : SrcT) (m : Int) : SrcT := if h : 0 < m ∧ m < 2 ^ 200 then (draw_ex x m h.1 h.2).choose_spec.choose else x
theorem draw_all (x : SrcT) (m : Int) (h : 0 < m) (h2 : m < 2 ^ 200) : 0 ≤ drawV x m ∧ drawV x m < m ∧ m_law_draw [sD x, cI m] = .ok (.im (.int (drawV x m))) [sD (drawN x m), cI m] := by
  unfold drawV drawN
  rw [dif_pos ⟨h, h2⟩, dif_pos ⟨h, h2⟩]
  exact (draw_ex x m h h2).choose_spec.choose_spec
theorem drawV0 (x : SrcT) (m : Int) (h : 0 < m := by decide) (h2 : m < 2 ^ 200 := by decide) : 0 ≤ drawV x m := (draw_all x m h h2).1
theorem drawV1 (x : SrcT) (m : Int) (h : 0 < m := by decide) (h2 : m < 2 ^ 200 := by decide) : drawV x m < m := (draw_all x m h h2).2.1
theorem draw_q (x : SrcT) (m : Int) (h : 0 < m) (h2 : m < 2 ^ 200) : m_law_draw [sD x, cI m] = .ok (.im (.int (drawV x m))) [sD (drawN x m), cI m] := (draw_all x m h h2).2.2
theorem law_gap_ex (x : SrcT) (l : Nat) (hl : l ≤ 16) : ∃ (t d : Int) (y : SrcT), 0 < d ∧ t.natAbs < 2 ^ 100 ∧ d.natAbs < 2 ^ 100 ∧ m_law_gap [sD x, cI l] = .ok (.im (nD t d)) [sD y, cI l] := by
  have w0 := drawV0 x 4
  have w1 := drawV1 x 4
  have q1 := draw_q x 4 (by decide) (by decide)
  generalize drawV x 4 = w at w0 w1 q1
  generalize drawN x 4 = x1 at q1
  have b0 := drawV0 x1 60
  have b1 := drawV1 x1 60
  have q2 := draw_q x1 60 (by decide) (by decide)
  generalize drawV x1 60 = b at b0 b1 q2
  generalize drawN x1 60 = x2 at q2
  have m1 : gMul (.int 100) (.int (1 + b)) = some (.int (100 * (1 + b))) := gmul (by decide) (by omega)
  have m2 : gMul (.int 6) (.int (l : Int)) = some (.int (6 * l)) := gmul (by decide) (by omega)
  by_cases h : w = 0
  · subst h
    have v0 := drawV0 x2 (100 * (1 + b) + 1) (by omega) (by omega)
    have v1 := drawV1 x2 (100 * (1 + b) + 1) (by omega) (by omega)
    have q3 := draw_q x2 (100 * (1 + b) + 1) (by omega) (by omega)
    generalize drawV x2 (100 * (1 + b) + 1) = v at v0 v1 q3
    generalize drawN x2 (100 * (1 + b) + 1) = x3 at q3
    obtain ⟨t, d, c1, c2, c3, c4, c5, c6⟩ := law_low_eq v (1 + b) (by omega) (by omega) (by omega)
    refine ⟨t, d, x3, c1, c4, c5, ?_⟩
    simp only [m_law_gap, b_law_gap, dDef_eq, dSeq_eq]
    simp [lend, slotsOf, lendL, giveB, L.mine, q1, q2, q3, m1, c6]
  · obtain ⟨z, hz0, hz1, hz⟩ : ∃ z : Int, 0 ≤ z ∧ z ≤ 200 ∧ gIx (.list [.int 12, .int (6 + 6 * (l : Int)), .int 72]) (.int (w - 1)) = some (.int z) := by
      have : w = 1 ∨ w = 2 ∨ w = 3 := by omega
      rcases this with rfl | rfl | rfl
      · exact ⟨12, by decide, by decide, by simp⟩
      · exact ⟨6 + 6 * l, by omega, by omega, by simp⟩
      · exact ⟨72, by decide, by decide, by simp⟩
    have m3 : gMul (.int z) (.int (1 + b)) = some (.int (z * (1 + b))) := gmul (by omega) (by omega)
    have v0 := drawV0 x2 3
    have v1 := drawV1 x2 3
    have q3 := draw_q x2 3 (by decide) (by decide)
    generalize drawV x2 3 = v at v0 v1 q3
    generalize drawN x2 3 = x3 at q3
    have hzb : (z * (1 + b)).natAbs < 2 ^ (10 + 10) := mul_lt (by omega) (by omega)
    obtain ⟨t, d, c1, c2, c3, c4, c5, c6⟩ := law_low_eq (z * (1 + b) + v - 1) (1 + b) (by omega) (by omega) (by omega)
    refine ⟨t, d, x3, c1, c4, c5, ?_⟩
    simp only [m_law_gap, b_law_gap, dDef_eq, dSeq_eq]
    simp [lend, slotsOf, lendL, giveB, L.mine, q1, q2, q3, h, m2, hz, m3, c6, -gIx_lst]
theorem fit_up {ws : List (List Nat)} {t d : Int} (ht : t.natAbs < 2 ^ 100) (hd : d.natAbs < 2 ^ 100) (lv : D) (hlv : lv = .list (wD ws)) :
    m_labels_fit [cD lv, cD (nD t d), cD (.str "upright")] = .ok (.im (.bool (decide (12 * d ≤ t)))) [cD lv, cD (nD t d), cD (.str "upright")] := by
  have u := under_eq (a := t) (b := d) (c := 12) (d := 1) (by omega) (by omega) (by decide) (by decide)
  have e : (!decide (t * 1 < 12 * d)) = decide (12 * d ≤ t) := by
    rw [← decide_not]; congr 1; simp
  simp only [m_labels_fit, b_labels_fit, dDef_eq, dSeq_eq]
  simp [upUp, u]
  rw [← e]; simp
theorem fit_lv {ws : List (List Nat)} {t d : Int} (h : ∀ a ∈ ws, a.length ≤ 1000) (hl : ws.length ≤ 1000) (ht : t.natAbs < 2 ^ 100) (hd : d.natAbs < 2 ^ 100) :
    m_labels_fit [cD (.list (wD ws)), cD (nD t d), cD (.str "level")] = .ok (.im (.bool (decide ((lg ws : Int) ≤ 10) && decide ((6 + 6 * (lg ws : Int)) * d ≤ t)))) [cD (.list (wD ws)), cD (nD t d), cD (.str "level")] := by
  have hb : lg ws ≤ 1000 := lg_bound h
  have u := under_eq (a := t) (b := d) (c := 6 + 6 * (lg ws : Int)) (d := 1) (by omega) (by omega) (by omega) (by decide)
  have W := widest_eq h hl
  generalize wD ws = z at W
  generalize (lg ws : Int) = n at W u
  simp only [m_labels_fit, b_labels_fit, dDef_eq, dSeq_eq]
  simp [lvUp, W]
  by_cases hn : n ≤ 10
  · have : 6 * n ≤ 60 := by omega
    simp [u, hn, this, Int.not_lt]
    rw [← decide_not]; simp [Int.not_le]
  · have : ¬ 6 * n ≤ 60 := by omega
    simp [u, hn, this]
set_option exponentiation.threshold 2000000
theorem source_ex (ns : List Int) (k : Nat) (hk : k < 1000) (hb : (ns.getD k 0).natAbs < 2 ^ 1048576) : ∃ x : SrcT, m_law_source [cD (scriptD ns), cI k] = .ok (.ow (srcD x.r x.s)) [cD (scriptD ns), cI k] := by
  have ce := law_cell_at_eq ns k
  generalize ns.getD k 0 = c at ce hb
  have a0 := Int.emod_nonneg c (show (2147483647 : Int) ≠ 0 by decide)
  have a1 := Int.emod_lt_of_pos c (show (0 : Int) < 2147483647 by decide)
  have q1 : gMod (.int c) (.int 2147483647) = some (.int (c % 2147483647)) := gMod_pos (by decide)
  generalize c % 2147483647 = a at a0 a1 q1
  have g1 : gMul (.int 104729) (.int (k : Int)) = some (.int (104729 * k)) := gmul (by decide) (by omega)
  have g2 : gMul (.int (a + 104729 * k + 7)) (.int 48271) = some (.int ((a + 104729 * k + 7) * 48271)) := gmul (by omega) (by decide)
  have q2 : gMod (.int ((a + 104729 * k + 7) * 48271)) (.int 2147483629) = some (.int ((a + 104729 * k + 7) * 48271 % 2147483629)) := gMod_pos (by decide)
  have b0 := Int.emod_nonneg ((a + 104729 * k + 7) * 48271) (show (2147483629 : Int) ≠ 0 by decide)
  have b1 := Int.emod_lt_of_pos ((a + 104729 * k + 7) * 48271) (show (0 : Int) < 2147483629 by decide)
  generalize (a + 104729 * k + 7) * 48271 % 2147483629 = b at q2 b0 b1
  have g3 : gMul (.int b) (.int b) = some (.int (b * b)) := gmul (by omega) (by omega)
  have q3 : gMod (.int (b * b)) (.int 2147483587) = some (.int (b * b % 2147483587)) := gMod_pos (by decide)
  have c0 := Int.emod_nonneg (b * b) (show (2147483587 : Int) ≠ 0 by decide)
  have c1 := Int.emod_lt_of_pos (b * b) (show (0 : Int) < 2147483587 by decide)
  generalize b * b % 2147483587 = e at q3 c0 c1
  have p : gPow (.int 10) (.int 18) = some (.int (10 ^ 18)) := gPow_of (by decide) (by decide) (by decide)
  by_cases h : (10 : Int) ^ 18 ≤ c
  · have m : gMul (.int c) (.int 1) = some (.int c) := by
      have := gMul_big (i := c) (j := 1) (m := 1048576) (n := 2) hb (by decide) (by decide) (by decide) (by decide)
      rw [this, Int.mul_one]
    refine ⟨⟨c, e, by have : (0 : Int) ≤ 10 ^ 18 := by decide
                      omega, c0, by omega⟩, ?_⟩
    simp only [m_law_source, b_law_source, dDef_eq, dSeq_eq]
    simp [-Int.reducePow, ce, q1, g1, g2, q2, g3, q3, p, h, m]
  · have m : gMul (.int c) (.int 0) = some (.int 0) := by
      have := gMul_big (i := c) (j := 0) (m := 1048576) (n := 2) hb (by decide) (by decide) (by decide) (by decide)
      rw [this, Int.mul_zero]
    refine ⟨⟨0, e, by decide, c0, by omega⟩, ?_⟩
    simp only [m_law_source, b_law_source, dDef_eq, dSeq_eq]
    simp [-Int.reducePow, ce, q1, g1, g2, q2, g3, q3, p, h, m]
theorem law_right_eq (a b : Bool) : m_law_right [cD (.bool a), cD (.bool b)] = .ok (.im (.bool (a == b))) [cD (.bool a), cD (.bool b)] := by
  simp only [m_law_right, b_law_right, dDef_eq, dSeq_eq]
  simp [isTy]
theorem seq_nx {f g : En → R Fl} {ρ ρ1 : En} {r : R Fl} (h : f ρ = .ok .nx ρ1) (k : g ρ1 = r) : dSeq f g ρ = r := by
  rw [dSeq_eq, h]; exact k
theorem turn2 {ws : List (List Nat)} {t d : Int} (h : ∀ a ∈ ws, a.length ≤ 16) (hl : ws.length ≤ 10) (ht : t.natAbs < 2 ^ 100) (hd : d.natAbs < 2 ^ 100) (s k src x8 x9 : Option Dn.L) (h9 : free (some x9) = true) :
    b_law_l2 [s, k, src, cD (.list (wD ws)), cI (lg ws), cI t, cI d, cD (.list (wD ws)), x8, x9, none] = .ok .nx [s, k, src, cD (.list (wD ws)), cI (lg ws), cI t, cI d, cD (.list (wD ws)), x8, cD (.bool (decide ((lg ws : Int) ≤ 10) && decide ((6 + 6 * (lg ws : Int)) * d ≤ t))), none] := by
  have hb : lg ws ≤ 16 := lg_bound h
  have U := fit_up (ws := ws) ht hd _ rfl
  have V := fit_lv (ws := ws) (fun a ha => Nat.le_trans (h a ha) (by decide)) (by omega) ht hd
  have hn : (lg ws : Int) ≤ 16 := by omega
  have hn0 : 0 ≤ (lg ws : Int) := by omega
  generalize wD ws = z at U V
  generalize (lg ws : Int) = n at V hn hn0
  have g1 : gMul (.int 12) (.int d) = some (.int (12 * d)) := gmul (by decide) (by omega)
  have g2 : gMul (.int 6) (.int n) = some (.int (6 * n)) := gmul (by decide) (by omega)
  have g3 : gMul (.int (6 + 6 * n)) (.int d) = some (.int ((6 + 6 * n) * d)) := gmul (by omega) (by omega)
  unfold b_law_l2
  refine seq_nx (ρ1 := [s, k, src, cD (.list z), cI n, cI t, cI d, cD (.list z), x8, x9, none]) ?_ (seq_nx (ρ1 := [s, k, src, cD (.list z), cI n, cI t, cI d, cD (.list z), x8, cD (.bool (decide (n ≤ 10) && decide ((6 + 6 * n) * d ≤ t))), none]) ?_ ?_)
  · simp [U, g1, law_right_eq]
  · by_cases h10 : n ≤ 10
    · simp [g2, g3, h10, h9]
    · simp [h10, h9]
  · simp [V, law_right_eq]
theorem lcL_len {ws : List (List Nat)} (h : ∀ a ∈ ws, a.length ≤ 16) (hl : ws.length ≤ 10) (ρ0 : En) (e0 : ρ0.length = 10) :
    lcL b_law_l1 [10] (wD ws) [] (ρ0 ++ [none]) = .ok ((ws.map fun a => (a.length : Int)).map PyData.int) (ρ0 ++ [none]) := by
  obtain ⟨a0, a1, a2, a3, a4, a5, a6, a7, a8, a9, rfl⟩ : ∃ a0 a1 a2 a3 a4 a5 a6 a7 a8 a9, ρ0 = [a0, a1, a2, a3, a4, a5, a6, a7, a8, a9] := by
    match ρ0, e0 with
    | [a0, a1, a2, a3, a4, a5, a6, a7, a8, a9], _ => exact ⟨_, _, _, _, _, _, _, _, _, _, rfl⟩
  have L := lcL_map (t := b_law_l1) (vs := [10]) (f := fun d => match d with | .str s => .int s.length | _ => .none) (ρ := [a0, a1, a2, a3, a4, a5, a6, a7, a8, a9, none]) (ds := wD ws)
    (fun d hd => by
      simp only [wD, List.mem_map] at hd
      obtain ⟨a, ha, rfl⟩ := hd
      have gl := gLen_S (a := a) (by have := h a ha; omega)
      refine ⟨[a0, a1, a2, a3, a4, a5, a6, a7, a8, a9, cS a], ?_, by simp [restE]⟩
      simp [b_law_l1, wipeE, gl, SX.S_len]) (by have := PySem.sizeLine_eq; simp [wD]; omega)
  have em : (wD ws).map (fun d => match d with | .str s => PyData.int s.length | _ => .none) = (ws.map fun a => (a.length : Int)).map PyData.int := by
    simp [wD, SX.S_len]
  rw [em] at L
  exact L
theorem shp_words (ws : List (List Nat)) (ok : ∀ a ∈ ws, okS a) : shp (.list (wD ws)) = true := by
  have h : PyData.canLayAll0 (wD ws) = true ∧ PyData.depthAll (wD ws) ≤ 1 := by
    induction ws with
    | nil => exact ⟨rfl, Nat.zero_le _⟩
    | cons a ws ih =>
      obtain ⟨h1, h2⟩ := ih fun b hb => ok b (List.mem_cons_of_mem _ hb)
      have := shpS (ok a List.mem_cons_self)
      have c := SeqAt.canLay_of_shaped this
      show (PyData.canLay0 (.str (SX.S a)) && PyData.canLayAll0 (wD ws)) = true ∧ _
      refine ⟨by rw [c, h1]; rfl, ?_⟩
      show max (PyData.depth (.str (SX.S a))) (PyData.depthAll (wD ws)) ≤ 1
      have : PyData.depth (.str (SX.S a)) ≤ 1 := by simp [PyData.depth]
      omega
  unfold shp SeqAt.shaped
  simp only [PyData.canLay0, PyData.depth, h.1]
  simp
  omega
theorem row_k26 (ns : List Int) (k : Nat) (hk : k < 1000) (hb : (ns.getD k 0).natAbs < 2 ^ 1048576) (x2 x3 x4 x5 x6 x7 x8 x9 : Option Dn.L) (h2 : free (some x2) = true) (h3 : free (some x3) = true) (h4 : free (some x4) = true) (h5 : free (some x5) = true) (h6 : free (some x6) = true) (h7 : free (some x7) = true) (h8 : free (some x8) = true) (h9 : free (some x9) = true) :
    ∃ (y2 y3 y4 y5 y6 y7 y8 y9 : Option Dn.L), free (some y2) = true ∧ free (some y3) = true ∧ free (some y4) = true ∧ free (some y5) = true ∧ free (some y6) = true ∧ free (some y7) = true ∧ free (some y8) = true ∧ free (some y9) = true ∧
    b_law_l3 [cD (scriptD ns), cI k, x2, x3, x4, x5, x6, x7, x8, x9, none] = .ok .nx [cD (scriptD ns), cI k, y2, y3, y4, y5, y6, y7, y8, y9, none] := by
  obtain ⟨x, S⟩ := source_ex ns k hk hb
  obtain ⟨ws, r', s', a1, a2, a3, hl, hw, E⟩ := law_labels_eq x.r x.s x.h1 x.h2 x.h3
  have hw1 : ∀ a ∈ ws, a.length ≤ 16 := fun a ha => (hw a ha).2
  have hb16 : lg ws ≤ 16 := lg_bound hw1
  obtain ⟨t, d, y, d0, ht, hd, Gp⟩ := law_gap_ex ⟨r', s', a1, a2, a3⟩ (lg ws) hb16
  have LL := fun ρ0 e0 => lcL_len (ws := ws) hw1 hl ρ0 e0
  have gm : gMaxL [.list (.int 0 :: (ws.map fun a => (a.length : Int)).map PyData.int)] = some (.int (lg ws)) := by
    have e : (PyData.int 0 :: (ws.map fun a => (a.length : Int)).map PyData.int) = ((0 : Int) :: ws.map fun a => (a.length : Int)).map PyData.int := rfl
    rw [e, gMaxL_list, Dn.ints_map]
    show ((((0 : Int) :: ws.map fun a => (a.length : Int)).max?).map PyData.int) = _
    rw [max_lens0]; rfl
  have ga : gAdd (.list [.int 0]) (.list ((ws.map fun a => (a.length : Int)).map PyData.int)) = some (.list (.int 0 :: (ws.map fun a => (a.length : Int)).map PyData.int)) := by
    show (if _ then _ else _) = _
    rw [if_pos (sLine (by simp; omega))]; rfl
  have T := fun x8 x9 h9 => turn2 (ws := ws) hw1 hl ht hd (cD (scriptD ns)) (cI (k : Int)) (some (.ow (srcD y.r y.s))) x8 x9 h9
  have ne := gNe_self (shp_words ws fun a ha => (hw a ha).1)
  generalize (ws.map fun a => (a.length : Int)).map PyData.int = M at LL gm ga
  generalize (lg ws : Int) = n at gm Gp T
  generalize wD ws = z at E LL T ne
  have I2 : Dn.inR 2 := inR_of (by decide) (by decide)
  refine ⟨_, _, _, _, _, _, _, _, ?_, ?_, ?_, ?_, ?_, ?_, ?_, ?_, seq_nx (ρ1 := [cD (scriptD ns), cI k, some (.ow (srcD x.r x.s)), x3, x4, x5, x6, x7, x8, x9, none]) ?_
    (seq_nx (ρ1 := [cD (scriptD ns), cI k, some (.ow (srcD r' s')), cD (.list z), x4, x5, x6, x7, x8, x9, none]) ?_
    (seq_nx (ρ1 := [cD (scriptD ns), cI k, some (.ow (srcD r' s')), cD (.list z), cI n, x5, x6, x7, x8, x9, none]) ?_
    (seq_nx (ρ1 := [cD (scriptD ns), cI k, some (.ow (srcD y.r y.s)), cD (.list z), cI n, cI t, cI d, x7, x8, x9, none]) ?_
    (seq_nx (ρ1 := [cD (scriptD ns), cI k, some (.ow (srcD y.r y.s)), cD (.list z), cI n, cI t, cI d, cD (.list z), x8, x9, none]) ?_
    (seq_nx (ρ1 := [cD (scriptD ns), cI k, some (.ow (srcD y.r y.s)), cD (.list z), cI n, cI t, cI d, cD (.list z), cI 1, cD (.bool (decide (n ≤ 10) && decide ((6 + 6 * n) * d ≤ t))), none]) ?_
    (r := .ok .nx [cD (scriptD ns), cI k, some (.ow (srcD y.r y.s)), cD (.list z), cI n, cI t, cI d, cD (.list z), cI 1, cD (.bool (decide (n ≤ 10) && decide ((6 + 6 * n) * d ≤ t))), none]) ?_)))))⟩
  all_goals first | rfl | skip
  · simp [h2, S]
  · simp [h3, E, lend, slotsOf, lendL, giveB, L.mine, L.put]
  · have L1 := LL [cD (scriptD ns), cI k, some (.ow (srcD r' s')), cD (.list z), x4, x5, x6, x7, x8, x9] rfl
    simp only [List.cons_append, List.nil_append] at L1
    simp [h4, immE, L1, ga, gm]
  · simp [h5, h6, Gp, lend, slotsOf, lendL, giveB, L.mine, L.put, gTupD, gsCons, gsNil]
  · simp [h7]
  · rw [dFor_eq]
    simp [I2]
    show dForL (putIm 8) b_law_l2 [.int 0, .int 1] _ = _
    simp [dForL, h8, T _ _ h9, T _ _ (show free (some (cD (.bool (decide (n ≤ 10) && decide ((6 + 6 * n) * d ≤ t))))) = true from rfl)]
  · simp [ne]
theorem fit_ends : m_labels_fit [cD (.list [.str "a"]), cD (nD 12 1), cD (.str "level")] = .ok (.im (.bool true)) [cD (.list [.str "a"]), cD (nD 12 1), cD (.str "level")] ∧ m_labels_fit [cD (.list []), cD (nD 6 1), cD (.str "level")] = .ok (.im (.bool true)) [cD (.list []), cD (nD 6 1), cD (.str "level")] := by
  have a := fit_lv (ws := [[97]]) (t := 12) (d := 1) (by simp) (by simp) (by decide) (by decide)
  have b := fit_lv (ws := []) (t := 6) (d := 1) (by simp) (by simp) (by decide) (by decide)
  exact ⟨a, b⟩
theorem law_true (ns : List Int) (hl : ns.length ≤ 63) (hb : ∀ z ∈ ns, z.natAbs < 2 ^ 1048576) : ∃ ls', m_law [cD (scriptD ns)] = .ok (.im (.bool true)) ls' := by
  have hbk : ∀ k : Nat, (ns.getD k 0).natAbs < 2 ^ 1048576 := fun k => by
    by_cases h : k < ns.length
    · rw [show ns.getD k 0 = ns[k] by simp [h]]
      exact hb _ (List.getElem_mem h)
    · rw [show ns.getD k 0 = 0 by simp [h]]
      exact Nat.pow_pos (by decide)
  obtain ⟨m, hm, em⟩ : ∃ m : Nat, m ≤ 20 ∧ (if (if (20 : Int) < ns.length then (20 : Int) else ns.length) > 1 then (if (20 : Int) < ns.length then (20 : Int) else ns.length) else 1) = (m : Int) := by
    refine ⟨(if (if (20 : Int) < ns.length then (20 : Int) else ns.length) > 1 then (if (20 : Int) < ns.length then (20 : Int) else ns.length) else 1).toNat, ?_, ?_⟩ <;> split <;> split <;> omega
  obtain ⟨ρ', L, x1, x2, x3, x4, x5, x6, x7, x8, x9, h1, h2, h3, h4, h5, h6, h7, h8, h9, rfl⟩ := forL_rng (g := putIm 1) (b := b_law_l3) (lo := 0) (n := m)
    (P := fun _ ρ => ∃ (x1 x2 x3 x4 x5 x6 x7 x8 x9 : Option Dn.L), free (some x1) = true ∧ free (some x2) = true ∧ free (some x3) = true ∧ free (some x4) = true ∧ free (some x5) = true ∧ free (some x6) = true ∧ free (some x7) = true ∧ free (some x8) = true ∧ free (some x9) = true ∧ ρ = [cD (scriptD ns), x1, x2, x3, x4, x5, x6, x7, x8, x9, none])
    (fun i hi ρ ⟨x1, x2, x3, x4, x5, x6, x7, x8, x9, h1, h2, h3, h4, h5, h6, h7, h8, h9, e⟩ => by
      subst e
      obtain ⟨y2, y3, y4, y5, y6, y7, y8, y9, k2, k3, k4, k5, k6, k7, k8, k9, e⟩ := row_k26 ns i (by omega) (hbk i) x2 x3 x4 x5 x6 x7 x8 x9 h2 h3 h4 h5 h6 h7 h8 h9
      refine ⟨[cD (scriptD ns), cI (0 + (i : Int)), x2, x3, x4, x5, x6, x7, x8, x9, none], _, by simp [h1], by rw [Int.zero_add]; exact e, cI (i : Int), y2, y3, y4, y5, y6, y7, y8, y9, rfl, k2, k3, k4, k5, k6, k7, k8, k9, ?_⟩
      rfl)
    [cD (scriptD ns), none, none, none, none, none, none, none, none, none, none] ⟨none, none, none, none, none, none, none, none, none, rfl, rfl, rfl, rfl, rfl, rfl, rfl, rfl, rfl, rfl⟩
  have gl : gLen1 (scriptD ns) = some (.int ns.length) := by simp [scriptD, gLen1]
  have I : Dn.inR (m : Int) := inR_of (by omega) (by omega)
  obtain ⟨f1, f2⟩ := fit_ends
  generalize scriptD ns = s at L gl
  refine ⟨[cD s], ?_⟩
  simp only [m_law, b_law, dDef_eq]
  rw [show ([cD s] ++ List.replicate (11 - [cD s].length) none : En) = [cD s, none, none, none, none, none, none, none, none, none, none] from rfl]
  rw [seq_nx (ρ1 := [cD s, x1, x2, x3, x4, x5, x6, x7, x8, x9, none]) ?_ rfl]
  · simp [f1, f2]
  · rw [dFor_eq]
    simp [gl, em, I, L]
end Lw
namespace Lw
open PySem PySem.Spec PyProof.Rows L2 Dn
/-! the head -/
abbrev Rw : PySem.W.OpenRow := PySem.W.OpenLaw.row PySem.Challenge.rw_twobytwo_k26_labels_that_fit
abbrev hkL : PySem.W.Hook := He.hookD 4 faL fnL
def obL (s : PySem.W.SharedT) : He.AlD := He.obsDG 4 faL fnL (HandSHeadRun.getT s)
theorem obL_eq (s : PySem.W.SharedT) : obL s = hkL.obs s.abs := He.obsDG_eq (HandSHeadRun.getT_eq s)
theorem runL (w : World) : HandSHeadRun.RunEq Rw (PySem.W.view Rw.prog [17]) hkL obL 1480 [("under" : PySem.Str), ("SIGN" : PySem.Str), ("WIDEST" : PySem.Str), ("LEAST" : PySem.Str), ("widest_of" : PySem.Str), ("labels_fit" : PySem.Str), ("_law_cell_at" : PySem.Str), ("_law_source" : PySem.Str), ("_law_draw" : PySem.Str), ("_law_great" : PySem.Str), ("_law_low" : PySem.Str), ("_law_labels" : PySem.Str), ("_law_gap" : PySem.Str), ("_law_right" : PySem.Str)] w := by
  intro os
  kernel_rfl
theorem tx_of {K : PySem.W.Frag} {h : Heap} {mg : Str → Option Value} (X : K.In h) (G : h.Ns mainGlobals mg) (c : He.SaysD faL fnL K) : Tx K mg :=
  ⟨c, fun x q => He.glo_ok X G q, fun x q => He.free_ok X G q, fun x z q => He.str_ok X G q, fun x z q => He.int_ok X G q⟩
end Lw
open PySem PySem.W PySem.Calls PyProof.Rows
set_option maxHeartbeats 0 in
theorem PySem.Challenge.cw_twobytwo_k26_labels_that_fit_holds : PySem.Challenge.rw_twobytwo_k26_labels_that_fit.Holds := by
  w_on; o_law
  refine HandSHeadRun.head_any (r := OpenLaw.row PySem.Challenge.rw_twobytwo_k26_labels_that_fit) (q := view (OpenLaw.row PySem.Challenge.rw_twobytwo_k26_labels_that_fit).prog [17]) (H := Lw.hkL) (ob := Lw.obL) (M := 1480) (loose := [("under" : PySem.Str), ("SIGN" : PySem.Str), ("WIDEST" : PySem.Str), ("LEAST" : PySem.Str), ("widest_of" : PySem.Str), ("labels_fit" : PySem.Str), ("_law_cell_at" : PySem.Str), ("_law_source" : PySem.Str), ("_law_draw" : PySem.Str), ("_law_great" : PySem.Str), ("_law_low" : PySem.Str), ("_law_labels" : PySem.Str), ("_law_gap" : PySem.Str), ("_law_right" : PySem.Str)]) (d := HandSHeadRun.topDef (OpenLaw.row PySem.Challenge.rw_twobytwo_k26_labels_that_fit).prog 17) (kwd := []) Lw.obL_eq
    (by kernel_rfl) (fun s => by kernel_rfl) Lw.runL (by kernel_rfl) (by kernel_rfl) (by kernel_rfl) (by rfl) (by first | assumption | decide +kernel) (by decide +kernel) ⟨rfl, rfl, rfl, rfl, rfl, by decide +kernel⟩ ?hw ?hc
  case hw => w_witness2
  case hc =>
    refine Dn.walk_ofEB (l := PySem.Challenge.rw_twobytwo_k26_labels_that_fit) (n := 63) (k := 3) (x := "script") (CX := fun w => L2.CX (PySem.Challenge.rw_twobytwo_k26_labels_that_fit).prog w) rfl (by decide) (by kernel_rfl) ⟨rfl, by decide, by decide⟩ ?F (fun _ _ _ _ _ z => by obtain ⟨_, _, _, _, _, _, _, _, _, _, _, _, q⟩ := z; exact q)
    intro w mg fa h Y G hmg0
    obtain ⟨K, KX, c⟩ := Y
    have hmg : mg ("law" : PySem.Str) = some (.ref fa) := by
      have e : (HandSHeadRun.topDef (OpenLaw.row PySem.Challenge.rw_twobytwo_k26_labels_that_fit).prog 17).name = ("law" : PySem.Str) := by kernel_rfl
      rw [← e]
      exact hmg0
    have T := Lw.tx_of KX G c
    have ef := hmg.symm.trans (Lw.g_law T)
    cases ef
    refine ⟨K, Lw.fd_law T, Dn.spD K (Dn.caK [] K) 1 Lw.m_law, KX, fun s v => (L2.FunD.bindsA (ps := ["script"]) (Lw.F_law T) fun _ _ _ _ _ _ us hl => match us, hl with | [_], _ => rfl) s [v] rfl, fun H a ns hl hb hS => ?_, fun base _ _ => Lw.ok_law T⟩
    obtain ⟨ls', e⟩ := Lw.law_true ns hl fun z hz => Dn.bits_lt (hb z hz)
    exact Dn.law_sp hS e
